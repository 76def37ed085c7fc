import PyProof.Rows.All
import Wide.All
import OpenK.AllK
import Wide.FinOn
import HandS.ForMost
import HandS.ForExc
import HandS.Deep
import HandS.ExcInit
import HandS.ExcCtx
import HandS.CallSlots
import HandS.Wide
import HandS.TupAny
import HandS.Star
import HandS.Walk
import HandS.Small
import HandS.ExcField
import KE.KExcIs
import HandS.Defaults
import HandS.ExcValue
import HandS.MakeKwOnly
import HandS.ExcBuiltin
import HandS.IsInst
import KE.DataMinMax
import PyProof.StrOps2
import HandS.Head0
import HandS.Head1
import HandS.Head2
import HandS.HeadEnd
import HandS.HeadHook1
import HandS.HeadHook2
import HandS.Property
import HandS.Text
import HandS.DictComp
import KE.GoesMore
import HandS.ClsMeth
import HandS.OwnEq
import HandS.MakeKw
import HandS.ExcIs
import HandS.Comp
import HandS.HeadNt
import HandS.Style
import HandS.RevTup
import HandS.TupMul
import HandS.RaiseMore
import HandS.Iter
import KE.DataCmp
import HandS.NoneIn
import KE.SortData
import KE.SortKeyHeap
import PyProof.Rows.StrLen
import PyProof.ListRange
import HandS.Conv
import HandS.ListEq
import HandS.DeepEq
import HandS.Zip
import PyProof.NeKinds
import HandS.More
import HandS.GenOver
import PyProof.GenRules
import PyProof.GenQ
import HandS.GenList
import HandS.DictEq
import PyProof.ReprRoads
import HandS.Sort
import PySem.Challenge.RW_stephulls_k21_tables_refused
set_option Elab.async false
set_option linter.all false
set_option autoImplicit false
set_option maxRecDepth 100000
set_option maxHeartbeats 4000000
namespace AE
end AE
namespace AH
end AH
namespace T
end T
namespace AH
open PySem L2 AE
abbrev C (K : PySem.W.Frag) (x : Str) : Addr := He.ga K x
def gloB (K : PySem.W.Frag) (x : Str) : Bool := decide (PySem.W.nsIn K mainGlobals x = some (some (.ref (C K x))))
def freeB (K : PySem.W.Frag) (x : Str) : Bool := decide (PySem.W.nsIn K mainGlobals x = some none)
def xobjB (K : PySem.W.Frag) (C : Addr) : Bool := match K.lookup C with
  | some o => (match o.cls, o.data, o.slots.toList with
    | .type t, .cls cd, [_, _, _, _, some (.builtin n), _] => (match cd.mro with
      | .ref C' :: bm => t == "type" && (C' == C && (n == "ValueError.__new__" && (!cd.hasDel && (cd.hasDict && PySem.HandSPX.refsVE bm))))
      | _ => false)
    | _, _, _ => false)
  | none => false
def excB (K : PySem.W.Frag) (C : Addr) : Bool := xobjB K C && (decide (PySem.W.findIn K (.ref C) "__setattr__" = some (some (.builtin "object.__setattr__"))) && (decide (PySem.W.subIn K (.ref C) (.type "BaseException") = some true) && (decide (PySem.W.typeIn K (.ref C) = some (.type "type")) && (PySem.W.keepIn K (.ref C) &&
  (decide (PySem.W.findIn K (.ref C) "__getattribute__" = some (some (.builtin "BaseException.__getattribute__"))) && (decide (PySem.W.findIn K (.ref C) "__getattr__" = some none) && (PySem.W.hasDictIn K C && ((PySem.W.clsIn K C).isSome &&
  (decide (PySem.W.findIn K (.ref C) "__class__" = some (some (.builtin "object.__class__"))) && (decide (PySem.W.specialIn K (.builtin "object.__class__") "__get__" = some (some (.builtin "getset_descriptor.__get__"))) && (decide (PySem.W.takesIn K (.builtin "object.__class__") = some true) && decide (PySem.W.mroIn K C (.type "object") = some true))))))))))))
def plainB (K : PySem.W.Frag) (C : Addr) : Bool := PySem.W.excIn K C PySem.HandSPX.veTail "ValueError.__new__"
def oneB (K : PySem.W.Frag) (C : Addr) (f : Str) : Bool := decide (PySem.W.findIn K (.ref C) "__init__" = some (some (.ref (He.ma K C "__init__")))) && (decide (PySem.W.typeIn K (.ref (He.ma K C "__init__")) = some (.type "function")) && decide (PySem.W.findIn K (.ref C) f = some none))
def SaysC (chk : PySem.W.Frag → Bool) (fn : List He5.DefA) (K : PySem.W.Frag) : Prop := chk K = true ∧ He5.SaysA [] fn K
abbrev ma (K : PySem.W.Frag) (C : Addr) (m : Str) : Addr := He.ma K C m
def clsB (K : PySem.W.Frag) (C : Addr) : Bool := PySem.W.plainGet K C Str.empty && (PySem.W.hasDictIn K C && (PySem.W.plainOver K C && decide (PySem.W.findIn K (.ref C) "__setattr__" = some (some (.builtin "object.__setattr__")))))
def fldB (K : PySem.W.Frag) (C : Addr) (f : Str) : Bool := decide (PySem.W.findIn K (.ref C) f = some none)
def insB (K : PySem.W.Frag) (C : Addr) : Bool := decide (PySem.W.findIn K (.ref C) "__class__" = some (some (.builtin "object.__class__"))) && (decide (PySem.W.specialIn K (.builtin "object.__class__") "__get__" = some (some (.builtin "getset_descriptor.__get__"))) && (decide (PySem.W.takesIn K (.builtin "object.__class__") = some true) && decide (PySem.W.mroIn K C (.type "object") = some true)))
def mkB (K : PySem.W.Frag) (C : Addr) : Bool := PySem.W.makesIn K C && (decide (PySem.W.findIn K (.ref C) "__init__" = some (some (.ref (ma K C "__init__")))) && (PySem.W.isFn K (.ref (ma K C "__init__")) && PySem.W.keepIn K (.ref C)))
def methB (K : PySem.W.Frag) (C : Addr) (m : Str) : Bool := decide (PySem.W.findIn K (.ref C) m = some (some (.ref (ma K C m)))) && (PySem.W.isFn K (.ref (ma K C m)) && PySem.W.keepIn K (.ref (ma K C m)))
abbrev wf (T : String) (x m : Str) (K : PySem.W.Frag) : Addr := He5.wf K (C K x) T m
def propB (K : PySem.W.Frag) (C : Addr) (m : Str) : Bool := decide (PySem.W.findIn K (.ref C) m = some (some (.ref (ma K C m)))) && (decide (PySem.W.specialIn K (.ref (ma K C m)) "__get__" = some (some (.builtin "property.__get__"))) && (decide (PySem.W.takesIn K (.ref (ma K C m)) = some true) && (match PySem.W.recIn K (ma K C m) "property" with
  | some (.ref _ :: _) => true
  | _ => false)))
def creadB (K : PySem.W.Frag) (C : Addr) : Bool := PySem.W.readsIn K C (.type "type") && decide (PySem.W.specialIn K (.ref C) "__getattribute__" = some (some (.builtin "type.__getattribute__")))
def cmetB (K : PySem.W.Frag) (C : Addr) (m : Str) : Bool := He5.wrapB K C "classmethod" "classmethod.__get__" m && PySem.W.fnIn K (He5.wf K C "classmethod" m)
def conB (K : PySem.W.Frag) (x : Str) (v : V) : Bool := match PySem.W.nsIn K mainGlobals x with
  | some (some u) => He.relB v u
  | _ => false
end AH
namespace AE
open PySem L2
def tyNames : List String := ["NoneType", "bool", "int", "str", "list", "tuple", "dict"]
def subX (n c : Str) : Bool := n == c || c == "StepError" || c == "ValueError"
end AE
namespace AH
open PySem L2 AE
def isTyB (K : PySem.W.Frag) (T : String) : Bool := tyNames.all fun n => decide (PySem.W.kitOne K (.type n) (.type T) = some (n == T || (n == "bool" && T == "int")))
def exMB (K : PySem.W.Frag) (exs : List Str) (c : Str) (u : Value) : Bool := exs.all fun n => decide (PySem.W.exmOne K (.ref (C K n)) u = some (subX n c))
def isXB (K : PySem.W.Frag) (exs : List Str) (c : Str) (u : Value) : Bool := exs.all fun n => decide (PySem.W.kitOne K (.ref (C K n)) u = some (subX n c))
def forceK {β : Type} : PySem.W.Frag → (PySem.W.Frag → β) → β
  | [], f => f []
  | (a, o) :: r, f => forceK r fun ys => f ((a, o) :: ys)
def asR (n : Nat) : List Addr := cStatics :: mainGlobals :: (List.range n).reverse
def seeR (chk : PySem.W.Frag → Bool) (fn : List He5.DefA) (s : PySem.W.SharedT) : Bool × He.AlD := forceK (He.frG (HandSHeadRun.getT s) (asR s.n)) fun K => (chk K, He5.obsA [] fn K)
def hookR (chk : PySem.W.Frag → Bool) (fn : List He5.DefA) : PySem.W.Hook where
  α := Bool × He.AlD
  obs := fun s => (fun K => (chk K, He5.obsA [] fn K)) (He.frG s.heap.get? (asR s.heap.objs.size))
  val := fun _ => (true, He5.valA fn)
  says := fun _ h => ∃ K : PySem.W.Frag, K.In h ∧ SaysC chk fn K
  of := fun w s e => ⟨_, He.frG_in, congrArg Prod.fst e, congrArg Prod.snd e⟩
  keeps := fun _ _ _ ⟨K, hK, c⟩ k => ⟨K, PySem.W.Frag.In.keeps hK k, c⟩
end AH
namespace T
open PySem L2 AE AH
def owns : List Str := ["System"]
def exs : List Str := ["BadName", "BadStates", "BadTable"]
def top (i : Nat) : Stmt := PySem.Challenge.pw_stephulls_k21_tables_refused.main.body.getD i (.Pass ⟨0, 0, 0, 0⟩)
abbrev s__law_tape : Stmt := top 22
abbrev s__law_pick : Stmt := top 23
abbrev s__law_row : Stmt := top 24
abbrev s_check_states : Stmt := top 16
abbrev s_is_step_name : Stmt := top 11
abbrev s_is_state : Stmt := top 15
abbrev s_is_table : Stmt := top 17
abbrev s_turned : Stmt := top 18
abbrev s_System___init__ : Stmt := inClass (top 19) 0
abbrev s_System___len__ : Stmt := inClass (top 19) 3
abbrev s__law_told : Stmt := top 27
abbrev s__law_spoilt : Stmt := top 26
abbrev s__law_fine : Stmt := top 25
abbrev s__law_due : Stmt := top 28
abbrev s_law : Stmt := top 29
def df__law_tape : He5.DefA := ⟨fun K => C K "_law_tape", "_law_tape", "_law_tape", defArgs s__law_tape, defBody s__law_tape, defScope s__law_tape, [], []⟩
def df__law_pick : He5.DefA := ⟨fun K => C K "_law_pick", "_law_pick", "_law_pick", defArgs s__law_pick, defBody s__law_pick, defScope s__law_pick, [], []⟩
def df__law_row : He5.DefA := ⟨fun K => C K "_law_row", "_law_row", "_law_row", defArgs s__law_row, defBody s__law_row, defScope s__law_row, [], []⟩
def df_check_states : He5.DefA := ⟨fun K => C K "check_states", "check_states", "check_states", defArgs s_check_states, defBody s_check_states, defScope s_check_states, [], []⟩
def df_is_step_name : He5.DefA := ⟨fun K => C K "is_step_name", "is_step_name", "is_step_name", defArgs s_is_step_name, defBody s_is_step_name, defScope s_is_step_name, [], []⟩
def df_is_state : He5.DefA := ⟨fun K => C K "is_state", "is_state", "is_state", defArgs s_is_state, defBody s_is_state, defScope s_is_state, [], []⟩
def df_is_table : He5.DefA := ⟨fun K => C K "is_table", "is_table", "is_table", defArgs s_is_table, defBody s_is_table, defScope s_is_table, [], []⟩
def df_turned : He5.DefA := ⟨fun K => C K "turned", "turned", "turned", defArgs s_turned, defBody s_turned, defScope s_turned, [], []⟩
def df_System___init__ : He5.DefA := ⟨fun K => ma K (C K "System") "__init__", "__init__", "System.__init__", defArgs s_System___init__, defBody s_System___init__, defScope s_System___init__, [], []⟩
def df_System___len__ : He5.DefA := ⟨fun K => ma K (C K "System") "__len__", "__len__", "System.__len__", defArgs s_System___len__, defBody s_System___len__, defScope s_System___len__, [], []⟩
def df__law_told : He5.DefA := ⟨fun K => C K "_law_told", "_law_told", "_law_told", defArgs s__law_told, defBody s__law_told, defScope s__law_told, [], []⟩
def df__law_spoilt : He5.DefA := ⟨fun K => C K "_law_spoilt", "_law_spoilt", "_law_spoilt", defArgs s__law_spoilt, defBody s__law_spoilt, defScope s__law_spoilt, [], []⟩
def df__law_fine : He5.DefA := ⟨fun K => C K "_law_fine", "_law_fine", "_law_fine", defArgs s__law_fine, defBody s__law_fine, defScope s__law_fine, [], []⟩
def df__law_due : He5.DefA := ⟨fun K => C K "_law_due", "_law_due", "_law_due", defArgs s__law_due, defBody s__law_due, defScope s__law_due, [], []⟩
def df_law : He5.DefA := ⟨fun K => C K "law", "law", "law", defArgs s_law, defBody s_law, defScope s_law, [], []⟩
abbrev s_BadName : Stmt := inClass (top 3) 0
def df_BadName : He5.DefA := ⟨fun K => ma K (C K "BadName") "__init__", "__init__", "BadName.__init__", defArgs s_BadName, defBody s_BadName, defScope s_BadName, [], []⟩
abbrev s_BadStates : Stmt := inClass (top 4) 0
def df_BadStates : He5.DefA := ⟨fun K => ma K (C K "BadStates") "__init__", "__init__", "BadStates.__init__", defArgs s_BadStates, defBody s_BadStates, defScope s_BadStates, [], []⟩
abbrev s_BadTable : Stmt := inClass (top 5) 0
def df_BadTable : He5.DefA := ⟨fun K => ma K (C K "BadTable") "__init__", "__init__", "BadTable.__init__", defArgs s_BadTable, defBody s_BadTable, defScope s_BadTable, [], []⟩
def fn : List He5.DefA := [df__law_tape, df__law_pick, df__law_row, df_check_states, df_is_step_name, df_is_state, df_is_table, df_turned, df_System___init__, df_System___len__, df__law_told, df__law_spoilt, df__law_fine, df__law_due, df_law, df_BadName, df_BadStates, df_BadTable]
def frees : List Str := ["ValueError", "abs", "all", "any", "bool", "enumerate", "int", "isinstance", "len", "list", "range", "repr", "sorted", "str", "tuple"]
def glos0 : List Str := ["_law_tape", "_law_pick", "_law_row", "check_states", "is_step_name", "is_state", "is_table", "turned", "_law_told", "_law_spoilt", "_law_fine", "_law_due", "law", "System"]
def glos : List Str := glos0
def plains : List Str := ["StepError"]
def onesL : List (Str × Str) := [("BadName", "name"), ("BadStates", "states"), ("BadTable", "step")]
def flds : List (Str × Str) := [("System", "numbers"), ("System", "led")]
def mets : List (Str × Str) := [("System", "__len__")]
def props : List (Str × Str) := []
def cms : List (Str × Str) := []
def mks : List Str := ["System"]
def consB (K : PySem.W.Frag) : Bool := conB K "LETTERS" (.str "abcdefghijklmnopqrstuvwxyz") && (conB K "MOST_LETTERS" (.int 6) && ((gloB K "RESERVED" && He.tupB K "RESERVED" [.str "else", .str "can", .str "cannot", .str "skip"]) && (true)))
def kit (K : PySem.W.Frag) : Bool := isTyB K "int" && (isTyB K "bool" && (isTyB K "list" && (isTyB K "tuple" && (exMB K exs "BadTable" (.ref (C K "BadTable")) && (exMB K exs "BadName" (.ref (C K "BadName")) && (exMB K exs "BadStates" (.ref (C K "BadStates")) && (isXB K exs "StepError" (.ref (C K "StepError")) && (isXB K exs "ValueError" (.type "ValueError") && (true)))))))))
def chk (K : PySem.W.Frag) : Bool := frees.all (freeB K) && (glos.all (gloB K) && (plains.all (fun x => gloB K x && (excB K (C K x) && plainB K (C K x))) && (onesL.all (fun p => gloB K p.1 && (excB K (C K p.1) && oneB K (C K p.1) p.2)) && (owns.all (fun x => clsB K (C K x) && insB K (C K x)) &&
  (flds.all (fun p => fldB K (C K p.1) p.2) && (mets.all (fun p => methB K (C K p.1) p.2) && (props.all (fun p => propB K (C K p.1) p.2) && (cms.all (fun p => creadB K (C K p.1) && cmetB K (C K p.1) p.2) && (mks.all (fun x => mkB K (C K x)) && (consB K && kit K))))))))))
abbrev hk : PySem.W.Hook := AH.hookR chk fn
def lo0 : List Str := ["_wall", "StepError", "BadName", "BadStates", "BadTable", "BadLine", "LETTERS", "RESERVED", "MOST_LETTERS", "is_step_name", "FIGURES", "MOST_FIGURES", "is_state", "check_states", "is_table", "turned", "System", "is_numeral", "_law_tape", "_law_pick", "_law_row", "_law_fine", "_law_spoilt", "_law_told", "_law_due"]
def lo : List Str := lo0
abbrev R : PySem.W.OpenRow := PySem.W.OpenLaw.row PySem.Challenge.rw_stephulls_k21_tables_refused
theorem run (w : World) : HandSHeadRun.RunEq R (PySem.W.view R.prog [29]) hk (AH.seeR chk fn) 12000 lo w := by
  intro os
  kernel_rfl
end T
namespace AE
open PySem L2
def exv (a : Addr) (cls : Value) (d : Option Addr) : HO := .ext fun hp => ∃ tup : Addr, hp.get? a = some ({ cls := cls, dict := d, data := .fields #[.ref tup, .none, .none, .none, .bool false, .none] } : Obj)
inductive D where
  | non | bl (b : Bool) | int (i : Int) | str (x : Str)
  | lst (xs : List D) | tup (xs : List D) | kt (xs : List D)
  | dic (kvs : List (Key × D)) | dit (kvs : List (List Key × D))
  | ins (C : Addr) (fs : List (Str × D)) | cl (a : Addr) | ty (n : String) | scr (ns : List Int)
  | exc (a : Addr) (cls : Value) (d : Option Addr) (fs : List (Str × D))
  | xo (cls : Value) (fs : List (Str × D))
  | raw (v : V)
  | hb (φ : Addr → Heap → Prop)
inductive O where
  | fz (d : D)
  | ls (xs : List D) | dc (kvs : List (Key × D)) | dt (kvs : List (List Key × D))
  | nl (xs : List O) | nd (kvs : List (Key × O))
  | ob (C : Addr) (fs : List (Str × O))
abbrev Env := List (Option O)
inductive Stp where
  | ix (n : Nat) | ky (k : Key) | fld (f : Str)
inductive EV where
  | ow (o : O) | pt (i : Nat) | tk (i : Nat) (π : List Stp) (v : V) (o : O)
section
variable (K : PySem.W.Frag) (H : Hp)
mutual
def Rep : D → V → Prop
  | .non, v => v = .non
  | .bl b, v => v = .bl b
  | .int i, v => v = .int i
  | .str x, v => v = .str x
  | .lst ds, v => ∃ a vs, v = .ref a ∧ H a = some (.lst vs) ∧ Reps ds vs
  | .tup ds, v => ∃ a vs, v = .ref a ∧ H a = some (.tup vs) ∧ Reps ds vs
  | .kt ds, v => ∃ a vs, v = .ref a ∧ SqT K H a vs ∧ Reps ds vs
  | .dic kds, v => ∃ a kvs, v = .ref a ∧ Rd H a (.dK kvs) ∧ RepKs kds kvs
  | .dit kds, v => ∃ a kvs, v = .ref a ∧ Rd H a (.dT kvs) ∧ RepTs kds kvs
  | .ins C fds, v => ∃ a dx fvs, v = .ref a ∧ H a = some (.ins C dx fvs) ∧ RepFs fds fvs
  | .cl a, v => v = .ref a
  | .ty n, v => v = .ty n
  | .raw w, v => v = w
  | .hb φ, v => ∃ a, v = .ref a ∧ H a = some (.ext (φ a))
  | .scr ns, v => ∃ a, v = .ref a ∧ SqL K H a (ns.map V.int)
  | .exc a _ d fds, v => v = .ref a ∧ ((d = none ∧ fds = []) ∨ ∃ p fvs, d = some p ∧ H p = some (.xd fvs) ∧ RepFs fds fvs)
  | .xo cls fds, v => ∃ a, v = .ref a ∧ ((fds = [] ∧ H a = some (exv a cls none)) ∨ ∃ p fvs, H a = some (exv a cls (some p)) ∧ H p = some (exd p fvs) ∧ RepFs fds fvs)
def Reps : List D → List V → Prop
  | [], vs => vs = []
  | d :: ds, vs => ∃ v ws, vs = v :: ws ∧ Rep d v ∧ Reps ds ws
def RepKs : List (Key × D) → List (Key × V) → Prop
  | [], vs => vs = []
  | kd :: ds, vs => ∃ v ws, vs = v :: ws ∧ RepK kd v ∧ RepKs ds ws
def RepK : (Key × D) → (Key × V) → Prop
  | (k, d), kv => kv.1 = k ∧ Rep d kv.2
def RepTs : List (List Key × D) → List (List Key × V) → Prop
  | [], vs => vs = []
  | kd :: ds, vs => ∃ v ws, vs = v :: ws ∧ RepT kd v ∧ RepTs ds ws
def RepT : (List Key × D) → (List Key × V) → Prop
  | (k, d), kv => kv.1 = k ∧ Rep d kv.2
def RepFs : List (Str × D) → List (Str × V) → Prop
  | [], vs => vs = []
  | kd :: ds, vs => ∃ v ws, vs = v :: ws ∧ RepF kd v ∧ RepFs ds ws
def RepF : (Str × D) → (Str × V) → Prop
  | (k, d), kv => kv.1 = k ∧ Rep d kv.2
end
end
theorem Rd.mono {H H' : Hp} {a : Addr} {u : HO} (h : Rd H a u) (s : Same H H') : Rd H' a u :=
  h.elim (fun e => .inl (s _ _ e)) fun ⟨o, e⟩ => .inr ⟨o, s _ _ e⟩
theorem SqL.mono {K : PySem.W.Frag} {H H' : Hp} {a : Addr} {xs : List V} (h : SqL K H a xs) (e : Same H H') : SqL K H' a xs := e.seq h
theorem SqT.mono {K : PySem.W.Frag} {H H' : Hp} {a : Addr} {xs : List V} (h : SqT K H a xs) (e : Same H H') : SqT K H' a xs := by
  rcases h with h | h
  · exact .inl (Rd.mono h e)
  · exact .inr h
section
variable {K : PySem.W.Frag} {H H' : Hp}
mutual
theorem Rep.mono (s : Same H H') : ∀ (d : D) {v : V}, Rep K H d v → Rep K H' d v
  | .non, v, h => h
  | .bl b, v, h => h
  | .int i, v, h => h
  | .str x, v, h => h
  | .lst ds, v, h => let ⟨a, vs, e, q, r⟩ := h; ⟨a, vs, e, s _ _ q, Reps.mono s ds r⟩
  | .tup ds, v, h => let ⟨a, vs, e, q, r⟩ := h; ⟨a, vs, e, s _ _ q, Reps.mono s ds r⟩
  | .kt ds, v, h => let ⟨a, vs, e, q, r⟩ := h; ⟨a, vs, e, SqT.mono q s, Reps.mono s ds r⟩
  | .dic ds, v, h => let ⟨a, vs, e, q, r⟩ := h; ⟨a, vs, e, Rd.mono q s, RepKs.mono s ds r⟩
  | .dit ds, v, h => let ⟨a, vs, e, q, r⟩ := h; ⟨a, vs, e, Rd.mono q s, RepTs.mono s ds r⟩
  | .ins C ds, v, h => let ⟨a, dx, vs, e, q, r⟩ := h; ⟨a, dx, vs, e, s _ _ q, RepFs.mono s ds r⟩
  | .cl a, v, h => h
  | .ty n, v, h => h
  | .raw w, v, h => h
  | .hb φ, v, h => let ⟨a, e, q⟩ := h; ⟨a, e, s _ _ q⟩
  | .scr ns, v, h => let ⟨a, e, q⟩ := h; ⟨a, e, SqL.mono q s⟩
  | .exc a _ d fds, v, h => ⟨h.1, h.2.elim .inl fun ⟨p, fvs, e, q, r⟩ => .inr ⟨p, fvs, e, s _ _ q, RepFs.mono s fds r⟩⟩
  | .xo cls fds, v, h => let ⟨a, e, z⟩ := h; ⟨a, e, z.elim (fun y => .inl ⟨y.1, s _ _ y.2⟩) fun ⟨p, fvs, q, q2, r⟩ => .inr ⟨p, fvs, s _ _ q, s _ _ q2, RepFs.mono s fds r⟩⟩
theorem Reps.mono (s : Same H H') : ∀ (ds : List D) {vs : List V}, Reps K H ds vs → Reps K H' ds vs
  | [], vs, h => h
  | d :: ds, vs, h => let ⟨v, ws, e, q, r⟩ := h; ⟨v, ws, e, Rep.mono s d q, Reps.mono s ds r⟩
theorem RepKs.mono (s : Same H H') : ∀ (ds : List (Key × D)) {vs : List (Key × V)}, RepKs K H ds vs → RepKs K H' ds vs
  | [], vs, h => h
  | d :: ds, vs, h => let ⟨v, ws, e, q, r⟩ := h; ⟨v, ws, e, RepK.mono s d q, RepKs.mono s ds r⟩
theorem RepK.mono (s : Same H H') : ∀ (d : Key × D) {v : Key × V}, RepK K H d v → RepK K H' d v
  | (k, d), v, h => ⟨h.1, Rep.mono s d h.2⟩
theorem RepTs.mono (s : Same H H') : ∀ (ds : List (List Key × D)) {vs : List (List Key × V)}, RepTs K H ds vs → RepTs K H' ds vs
  | [], vs, h => h
  | d :: ds, vs, h => let ⟨v, ws, e, q, r⟩ := h; ⟨v, ws, e, RepT.mono s d q, RepTs.mono s ds r⟩
theorem RepT.mono (s : Same H H') : ∀ (d : List Key × D) {v : List Key × V}, RepT K H d v → RepT K H' d v
  | (k, d), v, h => ⟨h.1, Rep.mono s d h.2⟩
theorem RepFs.mono (s : Same H H') : ∀ (ds : List (Str × D)) {vs : List (Str × V)}, RepFs K H ds vs → RepFs K H' ds vs
  | [], vs, h => h
  | d :: ds, vs, h => let ⟨v, ws, e, q, r⟩ := h; ⟨v, ws, e, RepF.mono s d q, RepFs.mono s ds r⟩
theorem RepF.mono (s : Same H H') : ∀ (d : Str × D) {v : Str × V}, RepF K H d v → RepF K H' d v
  | (k, d), v, h => ⟨h.1, Rep.mono s d h.2⟩
end
end
section
variable (K : PySem.W.Frag) (HF H : Hp)
mutual
def RepO : O → V → List Addr → Prop
  | .fz d, v, A => A = [] ∧ Rep K HF d v
  | .ls ds, v, A => ∃ a vs, v = .ref a ∧ A = [a] ∧ H a = some (.lst vs) ∧ Reps K HF ds vs
  | .dc ds, v, A => ∃ a vs, v = .ref a ∧ A = [a] ∧ H a = some (.dK vs) ∧ RepKs K HF ds vs
  | .dt ds, v, A => ∃ a vs, v = .ref a ∧ A = [a] ∧ H a = some (.dT vs) ∧ RepTs K HF ds vs
  | .nl os, v, A => ∃ a vs B, v = .ref a ∧ A = a :: B ∧ H a = some (.lst vs) ∧ RepOs os vs B
  | .nd os, v, A => ∃ a vs B, v = .ref a ∧ A = a :: B ∧ H a = some (.dK vs) ∧ RepOKs os vs B
  | .ob C os, v, A => ∃ a dx vs B, v = .ref a ∧ A = a :: B ∧ H a = some (.ins C dx vs) ∧ RepOFs os vs B
def RepOs : List O → List V → List Addr → Prop
  | [], vs, A => vs = [] ∧ A = []
  | o :: os, vs, A => ∃ v ws A1 A2, vs = v :: ws ∧ A = A1 ++ A2 ∧ RepO o v A1 ∧ RepOs os ws A2
def RepOKs : List (Key × O) → List (Key × V) → List Addr → Prop
  | [], vs, A => vs = [] ∧ A = []
  | o :: os, vs, A => ∃ v ws A1 A2, vs = v :: ws ∧ A = A1 ++ A2 ∧ RepOK o v A1 ∧ RepOKs os ws A2
def RepOK : (Key × O) → (Key × V) → List Addr → Prop
  | (k, o), kv, A => kv.1 = k ∧ RepO o kv.2 A
def RepOFs : List (Str × O) → List (Str × V) → List Addr → Prop
  | [], vs, A => vs = [] ∧ A = []
  | o :: os, vs, A => ∃ v ws A1 A2, vs = v :: ws ∧ A = A1 ++ A2 ∧ RepOF o v A1 ∧ RepOFs os ws A2
def RepOF : (Str × O) → (Str × V) → List Addr → Prop
  | (k, o), kv, A => kv.1 = k ∧ RepO o kv.2 A
end
end
section
variable {K : PySem.W.Frag} {HF HF' H H' : Hp}
mutual
theorem RepO.keep (s : Same HF HF') : ∀ (o : O) {v : V} {A : List Addr}, RepO K HF H o v A → (∀ p ∈ A, H' p = H p) → RepO K HF' H' o v A
  | .fz d, v, A, h, k => ⟨h.1, Rep.mono s d h.2⟩
  | .ls os, v, A, h, k => let ⟨a, vs, e, ea, q, r⟩ := h; ⟨a, vs, e, ea, (k a (by rw [ea]; exact List.mem_cons_self)).trans q, Reps.mono s os r⟩
  | .dc os, v, A, h, k => let ⟨a, vs, e, ea, q, r⟩ := h; ⟨a, vs, e, ea, (k a (by rw [ea]; exact List.mem_cons_self)).trans q, RepKs.mono s os r⟩
  | .dt os, v, A, h, k => let ⟨a, vs, e, ea, q, r⟩ := h; ⟨a, vs, e, ea, (k a (by rw [ea]; exact List.mem_cons_self)).trans q, RepTs.mono s os r⟩
  | .nl os, v, A, h, k => let ⟨a, vs, B, e, ea, q, r⟩ := h; ⟨a, vs, B, e, ea, (k a (by rw [ea]; exact List.mem_cons_self)).trans q, RepOs.keep s os r fun p hp => k p (by rw [ea]; exact List.mem_cons_of_mem _ hp)⟩
  | .nd os, v, A, h, k => let ⟨a, vs, B, e, ea, q, r⟩ := h; ⟨a, vs, B, e, ea, (k a (by rw [ea]; exact List.mem_cons_self)).trans q, RepOKs.keep s os r fun p hp => k p (by rw [ea]; exact List.mem_cons_of_mem _ hp)⟩
  | .ob C os, v, A, h, k => let ⟨a, dx, vs, B, e, ea, q, r⟩ := h; ⟨a, dx, vs, B, e, ea, (k a (by rw [ea]; exact List.mem_cons_self)).trans q, RepOFs.keep s os r fun p hp => k p (by rw [ea]; exact List.mem_cons_of_mem _ hp)⟩
theorem RepOs.keep (s : Same HF HF') : ∀ (os : List O) {vs : List V} {A : List Addr}, RepOs K HF H os vs A → (∀ p ∈ A, H' p = H p) → RepOs K HF' H' os vs A
  | [], vs, A, h, k => h
  | o :: os, vs, A, h, k => let ⟨v, ws, A1, A2, e, ea, q, r⟩ := h; ⟨v, ws, A1, A2, e, ea, RepO.keep s o q fun p hp => k p (by rw [ea]; exact List.mem_append_left _ hp), RepOs.keep s os r fun p hp => k p (by rw [ea]; exact List.mem_append_right _ hp)⟩
theorem RepOKs.keep (s : Same HF HF') : ∀ (os : List (Key × O)) {vs : List (Key × V)} {A : List Addr}, RepOKs K HF H os vs A → (∀ p ∈ A, H' p = H p) → RepOKs K HF' H' os vs A
  | [], vs, A, h, k => h
  | o :: os, vs, A, h, k => let ⟨v, ws, A1, A2, e, ea, q, r⟩ := h; ⟨v, ws, A1, A2, e, ea, RepOK.keep s o q fun p hp => k p (by rw [ea]; exact List.mem_append_left _ hp), RepOKs.keep s os r fun p hp => k p (by rw [ea]; exact List.mem_append_right _ hp)⟩
theorem RepOK.keep (s : Same HF HF') : ∀ (o : Key × O) {v : Key × V} {A : List Addr}, RepOK K HF H o v A → (∀ p ∈ A, H' p = H p) → RepOK K HF' H' o v A
  | (k, o), v, A, h, kp => ⟨h.1, RepO.keep s o h.2 kp⟩
theorem RepOFs.keep (s : Same HF HF') : ∀ (os : List (Str × O)) {vs : List (Str × V)} {A : List Addr}, RepOFs K HF H os vs A → (∀ p ∈ A, H' p = H p) → RepOFs K HF' H' os vs A
  | [], vs, A, h, k => h
  | o :: os, vs, A, h, k => let ⟨v, ws, A1, A2, e, ea, q, r⟩ := h; ⟨v, ws, A1, A2, e, ea, RepOF.keep s o q fun p hp => k p (by rw [ea]; exact List.mem_append_left _ hp), RepOFs.keep s os r fun p hp => k p (by rw [ea]; exact List.mem_append_right _ hp)⟩
theorem RepOF.keep (s : Same HF HF') : ∀ (o : Str × O) {v : Str × V} {A : List Addr}, RepOF K HF H o v A → (∀ p ∈ A, H' p = H p) → RepOF K HF' H' o v A
  | (k, o), v, A, h, kp => ⟨h.1, RepO.keep s o h.2 kp⟩
end
mutual
theorem RepO.there : ∀ (o : O) {v : V} {A : List Addr}, RepO K HF H o v A → ∀ p ∈ A, ∃ u, H p = some u
  | .fz d, v, A, h, p, hp => by rw [h.1] at hp; cases hp
  | .ls os, v, A, h, p, hp => by
    obtain ⟨a, vs, e, rfl, q, r⟩ := h
    rcases List.mem_cons.mp hp with rfl | hp
    · exact ⟨_, q⟩
    · cases hp
  | .dc os, v, A, h, p, hp => by
    obtain ⟨a, vs, e, rfl, q, r⟩ := h
    rcases List.mem_cons.mp hp with rfl | hp
    · exact ⟨_, q⟩
    · cases hp
  | .dt os, v, A, h, p, hp => by
    obtain ⟨a, vs, e, rfl, q, r⟩ := h
    rcases List.mem_cons.mp hp with rfl | hp
    · exact ⟨_, q⟩
    · cases hp
  | .nl os, v, A, h, p, hp => by
    obtain ⟨a, vs, B, e, rfl, q, r⟩ := h
    rcases List.mem_cons.mp hp with rfl | hp
    · exact ⟨_, q⟩
    · exact RepOs.there os r p hp
  | .nd os, v, A, h, p, hp => by
    obtain ⟨a, vs, B, e, rfl, q, r⟩ := h
    rcases List.mem_cons.mp hp with rfl | hp
    · exact ⟨_, q⟩
    · exact RepOKs.there os r p hp
  | .ob C os, v, A, h, p, hp => by
    obtain ⟨a, dx, vs, B, e, rfl, q, r⟩ := h
    rcases List.mem_cons.mp hp with rfl | hp
    · exact ⟨_, q⟩
    · exact RepOFs.there os r p hp
theorem RepOs.there : ∀ (os : List O) {vs : List V} {A : List Addr}, RepOs K HF H os vs A → ∀ p ∈ A, ∃ u, H p = some u
  | [], vs, A, h, p, hp => by rw [h.2] at hp; cases hp
  | o :: os, vs, A, h, p, hp => by
    obtain ⟨v, ws, A1, A2, e, rfl, q, r⟩ := h
    exact (List.mem_append.mp hp).elim (RepO.there o q p) (RepOs.there os r p)
theorem RepOKs.there : ∀ (os : List (Key × O)) {vs : List (Key × V)} {A : List Addr}, RepOKs K HF H os vs A → ∀ p ∈ A, ∃ u, H p = some u
  | [], vs, A, h, p, hp => by rw [h.2] at hp; cases hp
  | o :: os, vs, A, h, p, hp => by
    obtain ⟨v, ws, A1, A2, e, rfl, q, r⟩ := h
    exact (List.mem_append.mp hp).elim (RepOK.there o q p) (RepOKs.there os r p)
theorem RepOK.there : ∀ (o : Key × O) {v : Key × V} {A : List Addr}, RepOK K HF H o v A → ∀ p ∈ A, ∃ u, H p = some u
  | (k, o), v, A, h, p, hp => RepO.there o h.2 p hp
theorem RepOFs.there : ∀ (os : List (Str × O)) {vs : List (Str × V)} {A : List Addr}, RepOFs K HF H os vs A → ∀ p ∈ A, ∃ u, H p = some u
  | [], vs, A, h, p, hp => by rw [h.2] at hp; cases hp
  | o :: os, vs, A, h, p, hp => by
    obtain ⟨v, ws, A1, A2, e, rfl, q, r⟩ := h
    exact (List.mem_append.mp hp).elim (RepOF.there o q p) (RepOFs.there os r p)
theorem RepOF.there : ∀ (o : Str × O) {v : Str × V} {A : List Addr}, RepOF K HF H o v A → ∀ p ∈ A, ∃ u, H p = some u
  | (k, o), v, A, h, p, hp => RepO.there o h.2 p hp
end
end
mutual
def frz : O → D
  | .fz d => d
  | .ls ds => .lst ds
  | .dc ds => .dic ds
  | .dt ds => .dit ds
  | .nl os => .lst (frzs os)
  | .nd os => .dic (frzKs os)
  | .ob C os => .ins C (frzFs os)
def frzs : List O → List D
  | [] => []
  | o :: os => frz o :: frzs os
def frzKs : List (Key × O) → List (Key × D)
  | [] => []
  | o :: os => frzK o :: frzKs os
def frzK : Key × O → Key × D
  | (k, o) => (k, frz o)
def frzFs : List (Str × O) → List (Str × D)
  | [] => []
  | o :: os => frzF o :: frzFs os
def frzF : Str × O → Str × D
  | (k, o) => (k, frz o)
end
section
variable {K : PySem.W.Frag} {HF HG H : Hp}
mutual
theorem RepO.frz (s : Same HF HG) : ∀ (o : O) {v : V} {A : List Addr}, RepO K HF H o v A → (∀ p ∈ A, HG p = H p) → Rep K HG (frz o) v
  | .fz d, v, A, h, k => Rep.mono s d h.2
  | .ls os, v, A, h, k => let ⟨a, vs, e, ea, q, r⟩ := h; ⟨a, vs, e, ((k a (by rw [ea]; exact List.mem_cons_self)).trans q), Reps.mono s os r⟩
  | .dc os, v, A, h, k => let ⟨a, vs, e, ea, q, r⟩ := h; ⟨a, vs, e, .inl ((k a (by rw [ea]; exact List.mem_cons_self)).trans q), RepKs.mono s os r⟩
  | .dt os, v, A, h, k => let ⟨a, vs, e, ea, q, r⟩ := h; ⟨a, vs, e, .inl ((k a (by rw [ea]; exact List.mem_cons_self)).trans q), RepTs.mono s os r⟩
  | .nl os, v, A, h, k => let ⟨a, vs, B, e, ea, q, r⟩ := h; ⟨a, vs, e, ((k a (by rw [ea]; exact List.mem_cons_self)).trans q), RepOs.frz s os r fun p hp => k p (by rw [ea]; exact List.mem_cons_of_mem _ hp)⟩
  | .nd os, v, A, h, k => let ⟨a, vs, B, e, ea, q, r⟩ := h; ⟨a, vs, e, .inl ((k a (by rw [ea]; exact List.mem_cons_self)).trans q), RepOKs.frz s os r fun p hp => k p (by rw [ea]; exact List.mem_cons_of_mem _ hp)⟩
  | .ob C os, v, A, h, k => let ⟨a, dx, vs, B, e, ea, q, r⟩ := h; ⟨a, dx, vs, e, (k a (by rw [ea]; exact List.mem_cons_self)).trans q, RepOFs.frz s os r fun p hp => k p (by rw [ea]; exact List.mem_cons_of_mem _ hp)⟩
theorem RepOs.frz (s : Same HF HG) : ∀ (os : List O) {vs : List V} {A : List Addr}, RepOs K HF H os vs A → (∀ p ∈ A, HG p = H p) → Reps K HG (frzs os) vs
  | [], vs, A, h, k => h.1
  | o :: os, vs, A, h, k => let ⟨v, ws, A1, A2, e, ea, q, r⟩ := h; ⟨v, ws, e, RepO.frz s o q fun p hp => k p (by rw [ea]; exact List.mem_append_left _ hp), RepOs.frz s os r fun p hp => k p (by rw [ea]; exact List.mem_append_right _ hp)⟩
theorem RepOKs.frz (s : Same HF HG) : ∀ (os : List (Key × O)) {vs : List (Key × V)} {A : List Addr}, RepOKs K HF H os vs A → (∀ p ∈ A, HG p = H p) → RepKs K HG (frzKs os) vs
  | [], vs, A, h, k => h.1
  | o :: os, vs, A, h, k => let ⟨v, ws, A1, A2, e, ea, q, r⟩ := h; ⟨v, ws, e, RepOK.frz s o q fun p hp => k p (by rw [ea]; exact List.mem_append_left _ hp), RepOKs.frz s os r fun p hp => k p (by rw [ea]; exact List.mem_append_right _ hp)⟩
theorem RepOK.frz (s : Same HF HG) : ∀ (o : Key × O) {v : Key × V} {A : List Addr}, RepOK K HF H o v A → (∀ p ∈ A, HG p = H p) → RepK K HG (frzK o) v
  | (k, o), v, A, h, kp => ⟨h.1, RepO.frz s o h.2 kp⟩
theorem RepOFs.frz (s : Same HF HG) : ∀ (os : List (Str × O)) {vs : List (Str × V)} {A : List Addr}, RepOFs K HF H os vs A → (∀ p ∈ A, HG p = H p) → RepFs K HG (frzFs os) vs
  | [], vs, A, h, k => h.1
  | o :: os, vs, A, h, k => let ⟨v, ws, A1, A2, e, ea, q, r⟩ := h; ⟨v, ws, e, RepOF.frz s o q fun p hp => k p (by rw [ea]; exact List.mem_append_left _ hp), RepOFs.frz s os r fun p hp => k p (by rw [ea]; exact List.mem_append_right _ hp)⟩
theorem RepOF.frz (s : Same HF HG) : ∀ (o : Str × O) {v : Str × V} {A : List Addr}, RepOF K HF H o v A → (∀ p ∈ A, HG p = H p) → RepF K HG (frzF o) v
  | (k, o), v, A, h, kp => ⟨h.1, RepO.frz s o h.2 kp⟩
end
end
section
variable (K : PySem.W.Frag) (HF H : Hp)
def EnvR : Env → St → List Addr → Prop
  | [], σ, A => σ = [] ∧ A = []
  | none :: ρ, σ, A => ∃ s r, σ = s :: r ∧ EnvR ρ r A
  | some o :: ρ, σ, A => ∃ v r A1 A2, σ = some v :: r ∧ A = A1 ++ A2 ∧ RepO K HF H o v A1 ∧ EnvR ρ r A2
def EVR (σ : St) : EV → V → List Addr → Prop
  | .ow o, v, A => RepO K HF H o v A
  | .pt i, v, A => A = [] ∧ σ[i]? = some (some v)
  | .tk _ _ w o, v, A => v = w ∧ RepO K HF H o v A
def EVRs (σ : St) : List EV → List V → List Addr → Prop
  | [], vs, A => vs = [] ∧ A = []
  | e :: es, vs, A => ∃ v ws A1 A2, vs = v :: ws ∧ A = A1 ++ A2 ∧ EVR K HF H σ e v A1 ∧ EVRs σ es ws A2
end
structure WR (HF H : Hp) (A : List Addr) : Prop where
  same : Same HF H
  nodup : A.Nodup
  out : ∀ a ∈ A, HF a = none
structure Fr (H H' HF HF' : Hp) (A A' : List Addr) : Prop where
  same : Same HF HF'
  keep : ∀ p o, H p = some o → p ∉ A → H' p = some o
  free : ∀ p o, H p = some o → p ∉ A → HF p = none → HF' p = none
  new : ∀ p ∈ A', p ∈ A ∨ H p = none
theorem Fr.refl {H HF : Hp} {A : List Addr} : Fr H H HF HF A A := ⟨.refl _, fun _ _ h _ => h, fun _ _ _ _ h => h, fun _ h => .inl h⟩
theorem Fr.trans {H H1 H2 HF HF1 HF2 : Hp} {A A1 A2 : List Addr} (a : Fr H H1 HF HF1 A A1) (b : Fr H1 H2 HF1 HF2 A1 A2) : Fr H H2 HF HF2 A A2 where
  same := a.same.trans b.same
  keep := fun p o h n => b.keep p o (a.keep p o h n) fun z => (a.new p z).elim n fun q => by rw [h] at q; cases q
  free := fun p o h n f => b.free p o (a.keep p o h n) (fun z => (a.new p z).elim n fun q => by rw [h] at q; cases q) (a.free p o h n f)
  new := fun p hp => (b.new p hp).elim (fun z => a.new p z) fun z => by
    by_cases hA : p ∈ A
    · exact .inl hA
    · cases q : H p with
      | none => exact .inr rfl
      | some o => rw [a.keep p o q hA] at z; cases z
theorem Fr.frame {H H' HF HF' : Hp} {A A' R : List Addr} (a : Fr H H' HF HF' A A') (hR : ∀ p ∈ R, ∃ o, H p = some o) (hd : ∀ p ∈ R, p ∉ A) : (∀ p ∈ R, H' p = H p) ∧ (∀ p ∈ R, HF p = none → HF' p = none) ∧ (∀ p ∈ R, p ∉ A') :=
  ⟨fun p hp => let ⟨o, e⟩ := hR p hp; by rw [e]; exact a.keep p o e (hd p hp), fun p hp f => let ⟨o, e⟩ := hR p hp; a.free p o e (hd p hp) f, fun p hp z => (a.new p z).elim (hd p hp) fun q => by obtain ⟨o, e⟩ := hR p hp; rw [e] at q; cases q⟩
theorem Fr.mono {H H' HF HF' : Hp} {A A' B B' : List Addr} (a : Fr H H' HF HF' A A') (h : ∀ p ∈ A, p ∈ B) (h' : ∀ p ∈ B', p ∈ A' ∨ p ∈ B) : Fr H H' HF HF' B B' :=
  ⟨a.same, fun p o e n => a.keep p o e fun z => n (h p z), fun p o e n f => a.free p o e (fun z => n (h p z)) f, fun p hp => (h' p hp).elim (fun z => (a.new p z).elim (fun q => .inl (h p q)) .inr) .inl⟩
theorem WR.sub {HF H : Hp} {A B : List Addr} (w : WR HF H A) (hs : B.Sublist A) : WR HF H B := ⟨w.same, w.nodup.sublist hs, fun a ha => w.out a (hs.subset ha)⟩
theorem WR.left {HF H : Hp} {A B : List Addr} (w : WR HF H (A ++ B)) : WR HF H A := w.sub (List.sublist_append_left _ _)
theorem WR.right {HF H : Hp} {A B : List Addr} (w : WR HF H (A ++ B)) : WR HF H B := w.sub (List.sublist_append_right _ _)
theorem WR.perm {HF H : Hp} {A B : List Addr} (w : WR HF H A) (p : A.Perm B) : WR HF H B := ⟨w.same, p.nodup_iff.mp w.nodup, fun a ha => w.out a (p.mem_iff.mpr ha)⟩
theorem WR.disj {HF H : Hp} {A B : List Addr} (w : WR HF H (A ++ B)) : ∀ p ∈ A, p ∉ B := fun p hp hq => (List.nodup_append.mp w.nodup).2.2 p hp p hq rfl
section
variable {K : PySem.W.Frag} {HF HF' H H' : Hp}
theorem EnvR.keep (s : Same HF HF') : ∀ (ρ : Env) {σ : St} {A : List Addr}, EnvR K HF H ρ σ A → (∀ p ∈ A, H' p = H p) → EnvR K HF' H' ρ σ A
  | [], σ, A, h, k => h
  | none :: ρ, σ, A, h, k => let ⟨s', r, e, q⟩ := h; ⟨s', r, e, EnvR.keep s ρ q k⟩
  | some o :: ρ, σ, A, h, k => let ⟨v, r, A1, A2, e, ea, q, t⟩ := h; ⟨v, r, A1, A2, e, ea, RepO.keep s o q fun p hp => k p (by rw [ea]; exact List.mem_append_left _ hp), EnvR.keep s ρ t fun p hp => k p (by rw [ea]; exact List.mem_append_right _ hp)⟩
theorem EnvR.there : ∀ (ρ : Env) {σ : St} {A : List Addr}, EnvR K HF H ρ σ A → ∀ p ∈ A, ∃ u, H p = some u
  | [], σ, A, h, p, hp => by rw [h.2] at hp; cases hp
  | none :: ρ, σ, A, h, p, hp => let ⟨s', r, e, q⟩ := h; EnvR.there ρ q p hp
  | some o :: ρ, σ, A, h, p, hp => by
    obtain ⟨v, r, A1, A2, e, rfl, q, t⟩ := h
    exact (List.mem_append.mp hp).elim (RepO.there o q p) (EnvR.there ρ t p)
theorem EnvR.length : ∀ (ρ : Env) {σ : St} {A : List Addr}, EnvR K HF H ρ σ A → σ.length = ρ.length
  | [], σ, A, h => by rw [h.1]; rfl
  | none :: ρ, σ, A, h => by obtain ⟨s', r, rfl, q⟩ := h; simp [EnvR.length ρ q]
  | some o :: ρ, σ, A, h => by obtain ⟨v, r, A1, A2, rfl, rfl, q, t⟩ := h; simp [EnvR.length ρ t]
theorem EVR.keep (s : Same HF HF') {σ : St} {e : EV} {v : V} {A : List Addr} (h : EVR K HF H σ e v A) (k : ∀ p ∈ A, H' p = H p) : EVR K HF' H' σ e v A := by
  cases e with
  | ow o => exact RepO.keep s o h k
  | pt i => exact h
  | tk i π w o => exact ⟨h.1, RepO.keep s o h.2 k⟩
theorem EVR.there {σ : St} {e : EV} {v : V} {A : List Addr} (h : EVR K HF H σ e v A) : ∀ p ∈ A, ∃ u, H p = some u := by
  cases e with
  | ow o => exact RepO.there o h
  | pt i => intro p hp; rw [h.1] at hp; cases hp
  | tk i π w o => exact RepO.there o h.2
theorem EVRs.keep (s : Same HF HF') {σ : St} : ∀ {es : List EV} {vs : List V} {A : List Addr}, EVRs K HF H σ es vs A → (∀ p ∈ A, H' p = H p) → EVRs K HF' H' σ es vs A
  | [], vs, A, h, k => h
  | e :: es, vs, A, h, k => let ⟨v, ws, A1, A2, ev, ea, q, r⟩ := h; ⟨v, ws, A1, A2, ev, ea, EVR.keep s q fun p hp => k p (by rw [ea]; exact List.mem_append_left _ hp), EVRs.keep s r fun p hp => k p (by rw [ea]; exact List.mem_append_right _ hp)⟩
theorem EVRs.there {σ : St} : ∀ {es : List EV} {vs : List V} {A : List Addr}, EVRs K HF H σ es vs A → ∀ p ∈ A, ∃ u, H p = some u
  | [], vs, A, h, p, hp => by rw [h.2] at hp; cases hp
  | e :: es, vs, A, h, p, hp => by
    obtain ⟨v, ws, A1, A2, ev, rfl, q, r⟩ := h
    exact (List.mem_append.mp hp).elim (EVR.there q p) (EVRs.there r p)
def get1 : O → Stp → Option O
  | .nl os, .ix n => os[n]?
  | .nd kvs, .ky k => (kvs.find? fun kv => decide (kv.1 = k)).map (·.2)
  | .ob _ fs, .fld f => fs.lookup f
  | _, _ => none
def setK (k : Key) (o : O) : List (Key × O) → List (Key × O)
  | [] => []
  | (k', o') :: r => if k' = k then (k', o) :: r else (k', o') :: setK k o r
def setF (f : Str) (o : O) : List (Str × O) → List (Str × O)
  | [] => []
  | (f', o') :: r => if (f == f') = true then (f', o) :: r else (f', o') :: setF f o r
def set1 (o : O) : O → Stp → O
  | .nl os, .ix n => .nl (os.set n o)
  | .nd kvs, .ky k => .nd (setK k o kvs)
  | .ob C fs, .fld f => .ob C (setF f o fs)
  | t, _ => t
def getAt : O → List Stp → Option O
  | t, [] => some t
  | t, s :: π => match get1 t s with
    | some u => getAt u π
    | none => none
def putAt : O → List Stp → O → O
  | _, [], o => o
  | t, s :: π, o => match get1 t s with
    | some u => set1 (putAt u π o) t s
    | none => t
theorem RepOs.part : ∀ {os : List O} {n : Nat} {o : O} {vs : List V} {A : List Addr}, RepOs K HF H os vs A → os[n]? = some o → ∃ v B C, vs[n]? = some v ∧ A.Perm (B ++ C) ∧ RepO K HF H o v B ∧ ∀ o' B', RepO K HF H o' v B' → ∃ A', A'.Perm (B' ++ C) ∧ RepOs K HF H (os.set n o') vs A'
  | [], n, o, vs, A, h, e => by simp at e
  | p :: os, 0, o, vs, A, h, e => by
    obtain ⟨v, ws, A1, A2, rfl, rfl, r, t⟩ := h
    simp at e; subst e
    exact ⟨v, A1, A2, by simp, .refl _, r, fun o' B' r' => ⟨B' ++ A2, .refl _, ⟨v, ws, B', A2, rfl, rfl, r', t⟩⟩⟩
  | p :: os, n + 1, o, vs, A, h, e => by
    obtain ⟨v, ws, A1, A2, rfl, rfl, r, t⟩ := h
    obtain ⟨v', B, C, e1, pm, q, back⟩ := RepOs.part (n := n) t (by simpa using e)
    refine ⟨v', B, A1 ++ C, by simpa using e1, (List.Perm.append_left A1 pm).trans (List.perm_append_comm_assoc A1 B C), q, fun o' B' r' => ?_⟩
    obtain ⟨A', pm', q'⟩ := back o' B' r'
    exact ⟨A1 ++ A', (List.Perm.append_left A1 pm').trans (List.perm_append_comm_assoc A1 B' C), ⟨v, ws, A1, A', rfl, rfl, r, q'⟩⟩
theorem RepOKs.part {k : Key} : ∀ {os : List (Key × O)} {o : O} {vs : List (Key × V)} {A : List Addr}, RepOKs K HF H os vs A → (os.find? fun kv => decide (kv.1 = k)).map (·.2) = some o → ∃ v B C, (vs.find? fun kv => decide (kv.1 = k)).map (·.2) = some v ∧ A.Perm (B ++ C) ∧ RepO K HF H o v B ∧ ∀ o' B', RepO K HF H o' v B' → ∃ A', A'.Perm (B' ++ C) ∧ RepOKs K HF H (setK k o' os) vs A'
  | [], o, vs, A, h, e => by simp at e
  | (k', p) :: os, o, vs, A, h, e => by
    obtain ⟨⟨k2, v⟩, ws, A1, A2, rfl, rfl, ⟨hk, r⟩, t⟩ := h
    have hk : k2 = k' := hk
    subst hk
    by_cases hkk : k2 = k
    · simp [hkk] at e; subst e
      exact ⟨v, A1, A2, by simp [hkk], .refl _, r, fun o' B' r' => ⟨B' ++ A2, .refl _, by simp only [setK, hkk, if_true]; exact ⟨(k, v), ws, B', A2, rfl, rfl, ⟨rfl, r'⟩, t⟩⟩⟩
    · obtain ⟨v', B, C, e1, pm, q, back⟩ := RepOKs.part (k := k) t (by simpa [hkk] using e)
      refine ⟨v', B, A1 ++ C, by simpa [hkk] using e1, (List.Perm.append_left A1 pm).trans (List.perm_append_comm_assoc A1 B C), q, fun o' B' r' => ?_⟩
      obtain ⟨A', pm', q'⟩ := back o' B' r'
      exact ⟨A1 ++ A', (List.Perm.append_left A1 pm').trans (List.perm_append_comm_assoc A1 B' C), by simp only [setK, hkk, if_false]; exact ⟨(k2, v), ws, A1, A', rfl, rfl, ⟨rfl, r⟩, q'⟩⟩
theorem RepOFs.part {f : Str} : ∀ {os : List (Str × O)} {o : O} {vs : List (Str × V)} {A : List Addr}, RepOFs K HF H os vs A → os.lookup f = some o → ∃ v B C, vs.lookup f = some v ∧ A.Perm (B ++ C) ∧ RepO K HF H o v B ∧ ∀ o' B', RepO K HF H o' v B' → ∃ A', A'.Perm (B' ++ C) ∧ RepOFs K HF H (setF f o' os) vs A'
  | [], o, vs, A, h, e => by simp at e
  | (f', p) :: os, o, vs, A, h, e => by
    obtain ⟨⟨f2, v⟩, ws, A1, A2, rfl, rfl, ⟨hk, r⟩, t⟩ := h
    have hk : f2 = f' := hk
    subst hk
    cases hff : f == f2 with
    | true =>
      rw [List.lookup_cons, hff] at e
      cases e
      exact ⟨v, A1, A2, by rw [List.lookup_cons, hff], .refl _, r, fun o' B' r' => ⟨B' ++ A2, .refl _, by simp only [setF, hff, if_true]; exact ⟨(f2, v), ws, B', A2, rfl, rfl, ⟨rfl, r'⟩, t⟩⟩⟩
    | false =>
      rw [List.lookup_cons, hff] at e
      obtain ⟨v', B, C, e1, pm, q, back⟩ := RepOFs.part (f := f) t e
      refine ⟨v', B, A1 ++ C, by rw [List.lookup_cons, hff]; exact e1, (List.Perm.append_left A1 pm).trans (List.perm_append_comm_assoc A1 B C), q, fun o' B' r' => ?_⟩
      obtain ⟨A', pm', q'⟩ := back o' B' r'
      refine ⟨A1 ++ A', (List.Perm.append_left A1 pm').trans (List.perm_append_comm_assoc A1 B' C), ?_⟩
      simp only [setF, hff, Bool.false_eq_true, if_false]
      exact ⟨(f2, v), ws, A1, A', rfl, rfl, ⟨rfl, r⟩, q'⟩
theorem RepO.part1 {t u : O} {s : Stp} {w : V} {A : List Addr} (h : RepO K HF H t w A) (e : get1 t s = some u) : ∃ v B C, A.Perm (B ++ C) ∧ RepO K HF H u v B ∧ ∀ o' B', RepO K HF H o' v B' → ∃ A', A'.Perm (B' ++ C) ∧ RepO K HF H (set1 o' t s) w A' := by
  unfold get1 at e
  split at e
  · obtain ⟨a, vs, Bx, rfl, rfl, q, r⟩ := h
    obtain ⟨v, B, C, _, pm, q1, back⟩ := r.part e
    refine ⟨v, B, a :: C, (List.Perm.cons a pm).trans List.perm_middle.symm, q1, fun o' B' r' => ?_⟩
    obtain ⟨A', pm', q'⟩ := back o' B' r'
    exact ⟨a :: A', (List.Perm.cons a pm').trans List.perm_middle.symm, ⟨a, vs, A', rfl, rfl, q, q'⟩⟩
  · obtain ⟨a, vs, Bx, rfl, rfl, q, r⟩ := h
    obtain ⟨v, B, C, _, pm, q1, back⟩ := r.part e
    refine ⟨v, B, a :: C, (List.Perm.cons a pm).trans List.perm_middle.symm, q1, fun o' B' r' => ?_⟩
    obtain ⟨A', pm', q'⟩ := back o' B' r'
    exact ⟨a :: A', (List.Perm.cons a pm').trans List.perm_middle.symm, ⟨a, vs, A', rfl, rfl, q, q'⟩⟩
  · obtain ⟨a, dx, vs, Bx, rfl, rfl, q, r⟩ := h
    obtain ⟨v, B, C, _, pm, q1, back⟩ := r.part e
    refine ⟨v, B, a :: C, (List.Perm.cons a pm).trans List.perm_middle.symm, q1, fun o' B' r' => ?_⟩
    obtain ⟨A', pm', q'⟩ := back o' B' r'
    exact ⟨a :: A', (List.Perm.cons a pm').trans List.perm_middle.symm, ⟨a, dx, vs, A', rfl, rfl, q, q'⟩⟩
  · cases e
theorem RepO.partAt : ∀ (π : List Stp) {t u : O} {w : V} {A : List Addr}, RepO K HF H t w A → getAt t π = some u → ∃ v B C, A.Perm (B ++ C) ∧ RepO K HF H u v B ∧ ∀ o' B', RepO K HF H o' v B' → ∃ A', A'.Perm (B' ++ C) ∧ RepO K HF H (putAt t π o') w A'
  | [], t, u, w, A, h, e => by
    cases e
    exact ⟨w, A, [], by simp, h, fun o' B' r' => ⟨B', by simp, r'⟩⟩
  | s :: π, t, u, w, A, h, e => by
    have e : (match get1 t s with | some u => getAt u π | none => none) = some u := e
    cases e1 : get1 t s with
    | none => rw [e1] at e; cases e
    | some x =>
      rw [e1] at e
      obtain ⟨v, B, C, pm, q, back⟩ := RepO.part1 h e1
      obtain ⟨v2, B2, C2, pm2, q2, back2⟩ := RepO.partAt π q e
      refine ⟨v2, B2, C2 ++ C, ?_, q2, fun o' B' r' => ?_⟩
      · rw [← List.append_assoc]; exact pm.trans (List.Perm.append_right C pm2)
      · obtain ⟨A1, pm3, r3⟩ := back2 o' B' r'
        obtain ⟨A2, pm4, r4⟩ := back _ A1 r3
        refine ⟨A2, ?_, ?_⟩
        · rw [← List.append_assoc]; exact pm4.trans (List.Perm.append_right C pm3)
        · show RepO K HF H (match get1 t s with | some u => set1 (putAt u π o') t s | none => t) w A2
          rw [e1]; exact r4
theorem RepO.putBack {π : List Stp} {t o : O} {v w : V} {A B : List Addr} (h : RepO K HF H t w A) (e : getAt t π = some (.fz (.raw v))) (r : RepO K HF H o v B) : ∃ C, C.Perm (A ++ B) ∧ RepO K HF H (putAt t π o) w C := by
  obtain ⟨v', B', C, pm, ⟨rfl, q⟩, back⟩ := RepO.partAt π h e
  obtain rfl : v' = v := q
  obtain ⟨A', pm', r'⟩ := back o B r
  exact ⟨A', pm'.trans (List.perm_append_comm.trans (List.Perm.append_right B (by simpa using pm.symm))), r'⟩
theorem EnvR.get : ∀ {ρ : Env} {i : Nat} {o : O} {σ : St} {A : List Addr}, EnvR K HF H ρ σ A → ρ[i]? = some (some o) → ∃ v B C, σ[i]? = some (some v) ∧ RepO K HF H o v B ∧ A.Perm (B ++ C) ∧
      EnvR K HF H (ρ.set i none) σ C
  | [], i, o, σ, A, h, e => by simp at e
  | none :: ρ, 0, o, σ, A, h, e => by simp at e
  | none :: ρ, i + 1, o, σ, A, h, e => by
    obtain ⟨s', r, rfl, q⟩ := h
    obtain ⟨v, B, C, h1, h2, h3, h4⟩ := EnvR.get (i := i) q (by simpa using e)
    exact ⟨v, B, C, by simpa using h1, h2, h3, ⟨s', r, rfl, h4⟩⟩
  | some o' :: ρ, 0, o, σ, A, h, e => by
    obtain ⟨v, r, A1, A2, rfl, rfl, q, t⟩ := h
    simp at e; subst e
    exact ⟨v, A1, A2, by simp, q, .refl _, ⟨some v, r, rfl, t⟩⟩
  | some o' :: ρ, i + 1, o, σ, A, h, e => by
    obtain ⟨v, r, A1, A2, rfl, rfl, q, t⟩ := h
    obtain ⟨w, B, C, h1, h2, h3, h4⟩ := EnvR.get (i := i) t (by simpa using e)
    refine ⟨w, B, A1 ++ C, by simpa using h1, h2, ?_, ⟨v, r, A1, C, rfl, rfl, q, h4⟩⟩
    exact (List.Perm.append_left A1 h3).trans (by simpa [List.append_assoc] using List.perm_append_comm_assoc A1 B C)
theorem EnvR.put : ∀ {ρ : Env} {i : Nat} {o : O} {σ : St} {v : V} {C B : List Addr}, EnvR K HF H (ρ.set i none) σ C → i < ρ.length → RepO K HF H o v B → ∃ A, A.Perm (B ++ C) ∧ EnvR K HF H (ρ.set i (some o)) (σ.set i (some v)) A
  | [], i, o, σ, v, C, B, h, hi, r => by simp at hi
  | x :: ρ, 0, o, σ, v, C, B, h, hi, r => by
    obtain ⟨s', r', rfl, q⟩ := h
    exact ⟨B ++ C, .refl _, ⟨v, r', B, C, rfl, rfl, r, q⟩⟩
  | none :: ρ, i + 1, o, σ, v, C, B, h, hi, r => by
    obtain ⟨s', r', rfl, q⟩ := h
    obtain ⟨A, p, t⟩ := EnvR.put (i := i) q (by simpa using hi) r
    exact ⟨A, p, ⟨s', _, rfl, t⟩⟩
  | some o' :: ρ, i + 1, o, σ, v, C, B, h, hi, r => by
    obtain ⟨w, r', A1, A2, rfl, rfl, q, t⟩ := h
    obtain ⟨A, p, z⟩ := EnvR.put (i := i) t (by simpa using hi) r
    refine ⟨A1 ++ A, (List.Perm.append_left A1 p).trans ?_, ⟨w, _, A1, A, rfl, rfl, q, z⟩⟩
    exact List.perm_append_comm_assoc A1 B A2
theorem EnvR.forget : ∀ {ρ : Env} {i : Nat} {σ : St} {A : List Addr}, EnvR K HF H ρ σ A → ∃ C, C.Sublist A ∧ EnvR K HF H (ρ.set i none) σ C
  | [], i, σ, A, h => ⟨A, .refl _, by simpa using h⟩
  | none :: ρ, 0, σ, A, h => ⟨A, .refl _, h⟩
  | some o :: ρ, 0, σ, A, h => by
    obtain ⟨v, r, A1, A2, rfl, rfl, q, t⟩ := h
    exact ⟨A2, List.sublist_append_right _ _, ⟨some v, r, rfl, t⟩⟩
  | none :: ρ, i + 1, σ, A, h => by
    obtain ⟨s', r, rfl, q⟩ := h
    obtain ⟨C, hs, t⟩ := EnvR.forget (i := i) q
    exact ⟨C, hs, ⟨s', r, rfl, t⟩⟩
  | some o :: ρ, i + 1, σ, A, h => by
    obtain ⟨v, r, A1, A2, rfl, rfl, q, t⟩ := h
    obtain ⟨C, hs, z⟩ := EnvR.forget (i := i) t
    exact ⟨A1 ++ C, List.Sublist.append_left hs A1, ⟨v, r, A1, C, rfl, rfl, q, z⟩⟩
end
end AE
namespace AE
open PySem L2
structure XD where
  cls : Value
  fs : List (Str × D)
abbrev KD := EV → Env → Prop
abbrev XC := XD → Env → Prop
abbrev TD := Env → KD → XC → Prop
abbrev TDs := Env → (List EV → Env → Prop) → XC → Prop
abbrev TDt := Env → (Bool → Env → Prop) → XC → Prop
def EXR (K : PySem.W.Frag) (HF : Hp) (x : XD) (cls : Value) (d : Option Addr) : Prop :=
  x.cls = cls ∧ match d with
    | none => x.fs = []
    | some p => ∃ fvs, HF p = some (.xd fvs) ∧ RepFs K HF x.fs fvs
section
variable (K : PySem.W.Frag) (σ : St) (H HF : Hp) (A : List Addr)
def KOk (Kd : KD) (Q : VK) : Prop := ∀ ev ρ, Kd ev ρ → ∀ HF' H' A' v Av, Fr H H' HF HF' A (A' ++ Av) → WR HF' H' (A' ++ Av) → EnvR K HF' H' ρ σ A' → EVR K HF' H' σ ev v Av → Q v H'
def KOks (Kd : List EV → Env → Prop) (Q : List V → Hp → Prop) : Prop := ∀ evs ρ, Kd evs ρ → ∀ HF' H' A' vs Av, Fr H H' HF HF' A (A' ++ Av) → WR HF' H' (A' ++ Av) → EnvR K HF' H' ρ σ A' → EVRs K HF' H' σ evs vs Av → Q vs H'
def KOkt (Kd : Bool → Env → Prop) (Q : Bool → Hp → Prop) : Prop := ∀ b ρ, Kd b ρ → ∀ HF' H' A', Fr H H' HF HF' A A' → WR HF' H' A' → EnvR K HF' H' ρ σ A' → Q b H'
def XOk (Ed : XC) (W : WX) : Prop := ∀ x ρ, Ed x ρ → ∀ HF' H' A' cls d, Fr H H' HF HF' A A' → WR HF' H' A' → EnvR K HF' H' ρ σ A' → EXR K HF' x cls d → W cls d σ H'
end
def tA (K : PySem.W.Frag) (W : WX) (t : TD) : TE := fun σ H Q => ∃ HF ρ A Kd Ed, WR HF H A ∧ EnvR K HF H ρ σ A ∧ t ρ Kd Ed ∧ KOk K σ H HF A Kd Q ∧ XOk K σ H HF A Ed W
def tAs (K : PySem.W.Frag) (W : WX) (t : TDs) : TA := fun σ H Q => ∃ HF ρ A Kd Ed, WR HF H A ∧ EnvR K HF H ρ σ A ∧ t ρ Kd Ed ∧ KOks K σ H HF A Kd Q ∧ XOk K σ H HF A Ed W
def tAt (K : PySem.W.Frag) (W : WX) (t : TDt) : TT := fun σ H Q => ∃ HF ρ A Kd Ed, WR HF H A ∧ EnvR K HF H ρ σ A ∧ t ρ Kd Ed ∧ KOkt K σ H HF A Kd Q ∧ XOk K σ H HF A Ed W
def AE (X : Cx) (W : WX) (e : Expr) (t : TD) : Prop := PE X e (tA X.K W t)
def AA (X : Cx) (W : WX) (es : List Expr) (t : TDs) : Prop := PA X es (tAs X.K W t)
def AT (X : Cx) (W : WX) (e : Expr) (t : TDt) : Prop := PT X e (tAt X.K W t)
def AW (X : Cx) (W : WX) (e : Expr) (t : TDt) : Prop := PW X e (tAt X.K W t)
theorem PE.imp {X : Cx} {e : Expr} {t u : TE} (h : PE X e t) (i : ∀ σ H Q, u σ H Q → t σ H Q) : PE X e u := ⟨fun pins s σ H Q I q => h.run pins s σ H Q I (i σ H Q q)⟩
theorem PT.imp {X : Cx} {e : Expr} {t u : TT} (h : PT X e t) (i : ∀ σ H Q, u σ H Q → t σ H Q) : PT X e u := ⟨fun pins s σ H Q I q => h.run pins s σ H Q I (i σ H Q q)⟩
theorem PW.imp {X : Cx} {e : Expr} {t u : TT} (h : PW X e t) (i : ∀ σ H Q, u σ H Q → t σ H Q) : PW X e u := ⟨fun wh pins s σ H Q I q => h.run wh pins s σ H Q I (i σ H Q q)⟩
theorem PA.imp {X : Cx} {es : List Expr} {t u : TA} (h : PA X es t) (i : ∀ σ H Q, u σ H Q → t σ H Q) : PA X es u := ⟨fun pos pins s σ H Q I q => h.run pos pins s σ H Q I (i σ H Q q)⟩
theorem PS.imp {X : Cx} {st : Stmt} {t u : TS} (h : PS X st t) (i : ∀ D σ H, u D σ H → t D σ H) : PS X st u := ⟨fun pins s σ H D I q => h.run pins s σ H D I (i D σ H q)⟩
theorem PSs.imp {X : Cx} {st : List Stmt} {t u : TS} (h : PSs X st t) (i : ∀ D σ H, u D σ H → t D σ H) : PSs X st u := ⟨fun pins s σ H D I q => h.run pins s σ H D I (i D σ H q)⟩
section
variable {K : PySem.W.Frag} {σ : St} {H H1 HF HF1 : Hp} {A A1 : List Addr} {W : WX}
theorem KOk.step {Kd : KD} {Q : VK} (k : KOk K σ H HF A Kd Q) (f : Fr H H1 HF HF1 A A1) : KOk K σ H1 HF1 A1 Kd Q := fun ev ρ q HF' H' A' v Av f' w e r => k ev ρ q HF' H' A' v Av (f.trans f') w e r
theorem KOks.step {Kd : List EV → Env → Prop} {Q : List V → Hp → Prop} (k : KOks K σ H HF A Kd Q) (f : Fr H H1 HF HF1 A A1) : KOks K σ H1 HF1 A1 Kd Q := fun ev ρ q HF' H' A' v Av f' w e r => k ev ρ q HF' H' A' v Av (f.trans f') w e r
theorem KOkt.step {Kd : Bool → Env → Prop} {Q : Bool → Hp → Prop} (k : KOkt K σ H HF A Kd Q) (f : Fr H H1 HF HF1 A A1) : KOkt K σ H1 HF1 A1 Kd Q := fun ev ρ q HF' H' A' f' w e => k ev ρ q HF' H' A' (f.trans f') w e
theorem XOk.step {Ed : XC} (k : XOk K σ H HF A Ed W) (f : Fr H H1 HF HF1 A A1) : XOk K σ H1 HF1 A1 Ed W := fun x ρ q HF' H' A' c d f' w e r => k x ρ q HF' H' A' c d (f.trans f') w e r
theorem Fr.drop {A B : List Addr} (h : ∀ p ∈ B, p ∈ A) : Fr H H HF HF A B := ⟨.refl _, fun _ _ e _ => e, fun _ _ _ _ e => e, fun p hp => .inl (h p hp)⟩
theorem join {H2 HF2 : Hp} {A2 Ax Ay : List Addr} (w1 : WR HF1 H1 (A1 ++ Ax)) (tx : ∀ p ∈ Ax, ∃ u, H1 p = some u) (f : Fr H1 H2 HF1 HF2 A1 (A2 ++ Ay)) (w2 : WR HF2 H2 (A2 ++ Ay)) :
    WR HF2 H2 (A2 ++ (Ax ++ Ay)) ∧ Fr H1 H2 HF1 HF2 (A1 ++ Ax) (A2 ++ (Ax ++ Ay)) ∧ ∀ p ∈ Ax, H2 p = H1 p := by
  have dx : ∀ p ∈ Ax, p ∉ A1 := fun p hp hq => w1.disj p hq hp
  obtain ⟨k1, k2, k3⟩ := f.frame tx dx
  have pm : (A2 ++ (Ax ++ Ay)).Perm (Ax ++ (A2 ++ Ay)) := List.perm_append_comm_assoc A2 Ax Ay
  refine ⟨WR.perm ⟨w2.same, List.nodup_append.mpr ⟨w1.right.nodup, w2.nodup, fun a ha b hb e => k3 a ha (e ▸ hb)⟩, fun a ha => ?_⟩ pm.symm, ?_, k1⟩
  · rcases List.mem_append.mp ha with ha | ha
    · exact k2 a ha (w1.out a (List.mem_append_right _ ha))
    · exact w2.out a ha
  · refine f.mono (fun p hp => List.mem_append_left _ hp) fun p hp => ?_
    rcases List.mem_append.mp (pm.mem_iff.mp hp) with z | z
    · exact .inr (List.mem_append_right _ z)
    · exact .inl z
end
def tName (i : Nat) : TD := fun ρ Kd _ => match ρ[i]? with
  | some (some (.fz d)) => Kd (.ow (.fz d)) ρ
  | some (some _) => Kd (.pt i) ρ
  | _ => False
def tK (d : D) : TD := fun ρ Kd _ => Kd (.ow (.fz d)) ρ
section
variable {X : Cx} {W : WX}
theorem ae_name {e : Expr} {i : Nat} (h : PE X e (tVar i)) : AE X W e (tName i) := PE.imp h fun σ H Q q => by
  obtain ⟨HF, ρ, A, Kd, Ed, w, en, t, k, x⟩ := q
  unfold tName at t
  split at t
  · rename_i d e1
    obtain ⟨v, B, C, h1, h2, h3, _⟩ := en.get e1
    exact ⟨v, h1, k _ _ t HF H A v [] (by rw [List.append_nil]; exact Fr.refl) (by rw [List.append_nil]; exact w) en ⟨rfl, h2.2⟩⟩
  · rename_i o _ e1
    obtain ⟨v, B, C, h1, h2, h3, _⟩ := en.get e1
    exact ⟨v, h1, k _ _ t HF H A v [] (by rw [List.append_nil]; exact Fr.refl) (by rw [List.append_nil]; exact w) en ⟨rfl, h1⟩⟩
  · exact t.elim
def grow (HF H : Hp) (B : List Addr) : Hp := fun p => if p ∈ B then H p else HF p
theorem grow_in {HF H : Hp} {B : List Addr} {p : Addr} (h : p ∈ B) : grow HF H B p = H p := if_pos h
theorem grow_out {HF H : Hp} {B : List Addr} {p : Addr} (h : p ∉ B) : grow HF H B p = HF p := if_neg h
theorem grow_ok {HF H : Hp} {B C : List Addr} (w : WR HF H (B ++ C)) : Same HF (grow HF H B) ∧ WR (grow HF H B) H C ∧ Fr H H HF (grow HF H B) (B ++ C) C := by
  have s1 : Same HF (grow HF H B) := fun b o e => by
    rw [grow_out fun hb => by have := w.out b (List.mem_append_left _ hb); rw [e] at this; cases this]
    exact e
  refine ⟨s1, ⟨fun b o e => ?_, w.right.nodup, fun a ha => ?_⟩, ⟨s1, fun _ _ e _ => e, fun p o e n f => ?_, fun p hp => .inl (List.mem_append_right _ hp)⟩⟩
  · by_cases hb : b ∈ B
    · rw [grow_in hb] at e; exact e
    · rw [grow_out hb] at e; exact w.same b o e
  · rw [grow_out fun hb => w.disj a hb ha]; exact w.out a (List.mem_append_right _ ha)
  · rw [grow_out fun hb => n (List.mem_append_left _ hb)]; exact f
theorem freeze {K : PySem.W.Frag} {HF H : Hp} {ρ : Env} {σ : St} {A Av : List Addr} {i : Nat} {o : O} (w : WR HF H (A ++ Av)) (en : EnvR K HF H ρ σ A) (e1 : ρ[i]? = some (some o)) :
    ∃ v HF' A', σ[i]? = some (some v) ∧ Same HF HF' ∧ WR HF' H (A' ++ Av) ∧ Fr H H HF HF' (A ++ Av) (A' ++ Av) ∧ EnvR K HF' H (ρ.set i (some (.fz (frz o)))) σ A' ∧ Rep K HF' (frz o) v := by
  obtain ⟨v, B, C, h1, h2, h3, h4⟩ := en.get e1
  have pm : (A ++ Av).Perm (B ++ (C ++ Av)) := by
    have := List.Perm.append_right Av h3
    rwa [List.append_assoc] at this
  obtain ⟨s1, w1, f1⟩ := grow_ok (w.perm pm)
  have r1 : Rep K (grow HF H B) (frz o) v := RepO.frz s1 o h2 fun p hp => grow_in hp
  have hi : i < ρ.length := (List.getElem?_eq_some_iff.mp e1).1
  have hσ : σ.set i (some v) = σ := by
    obtain ⟨q1, q2⟩ := List.getElem?_eq_some_iff.mp h1
    rw [← q2]; exact List.set_getElem_self q1
  obtain ⟨A', p', en'⟩ := EnvR.put (o := .fz (frz o)) (v := v) (EnvR.keep s1 _ h4 fun p _ => rfl) hi (B := []) ⟨rfl, r1⟩
  rw [List.nil_append] at p'
  rw [hσ] at en'
  have p2 : (C ++ Av).Perm (A' ++ Av) := List.Perm.append_right Av p'.symm
  refine ⟨v, grow HF H B, A', h1, s1, w1.perm p2, ?_, en', r1⟩
  exact f1.mono (fun p hp => pm.mem_iff.mpr hp) fun p hp => .inl (p2.mem_iff.mpr hp)
theorem ae_const {e : Expr} {v : V} {d : D} (h : PE X e (tC v)) (r : ∀ K H, Rep K H d v) : AE X W e (tK d) := PE.imp h fun σ H Q q => by
  obtain ⟨HF, ρ, A, Kd, Ed, w, en, t, k, x⟩ := q
  exact k _ _ t HF H A v [] (by rw [List.append_nil]; exact Fr.refl) (by rw [List.append_nil]; exact w) en ⟨rfl, r _ _⟩
theorem ae_int {i j pos} : AE X W (.Constant (.int i) j pos) (tK (.int i)) := ae_const pe_int fun _ _ => rfl
theorem ae_bl {b j pos} : AE X W (.Constant (.bool b) j pos) (tK (.bl b)) := ae_const pe_bl fun _ _ => rfl
theorem ae_non {j pos} : AE X W (.Constant .none j pos) (tK .non) := ae_const pe_non fun _ _ => rfl
theorem ae_str {x j pos} : AE X W (.Constant (.str x) j pos) (tK (.str x)) := ae_const pe_str fun _ _ => rfl
end
section
variable (K : PySem.W.Frag) (HF H : Hp)
def Vw : D → V → Prop
  | .lst ds, v => ∃ a vs, v = .ref a ∧ H a = some (.lst vs) ∧ Reps K HF ds vs
  | .dic ds, v => ∃ a vs, v = .ref a ∧ Rd H a (.dK vs) ∧ RepKs K HF ds vs
  | .dit ds, v => ∃ a vs, v = .ref a ∧ Rd H a (.dT vs) ∧ RepTs K HF ds vs
  | .ins C ds, v => ∃ a dx vs, v = .ref a ∧ H a = some (.ins C dx vs) ∧ RepFs K HF ds vs
  | d, v => Rep K HF d v
def Vws : List D → List V → Prop
  | [], vs => vs = []
  | d :: ds, vs => ∃ v ws, vs = v :: ws ∧ Vw K HF H d v ∧ Vws ds ws
end
def flatFs : List (Str × O) → Option (List (Str × D))
  | [] => some []
  | (f, .fz d) :: r => match flatFs r with
    | some l => some ((f, d) :: l)
    | none => none
  | _ => none
def flat : O → Option D
  | .fz d => some d
  | .ls ds => some (.lst ds)
  | .dc ds => some (.dic ds)
  | .dt ds => some (.dit ds)
  | .ob C fs => match flatFs fs with
    | some l => some (.ins C l)
    | none => none
  | _ => none
def deref (ρ : Env) : EV → Option O
  | .ow o => some o
  | .pt i => match ρ[i]? with
    | some (some o) => some o
    | _ => none
  | .tk _ _ _ o => some o
def relP (ρ : Env) (N : Env → Prop) : List EV → Prop
  | [] => N ρ
  | .tk i π v o :: es => (match ρ[i]? with
    | some (some t) => getAt t π = some (.fz (.raw v)) ∧ relP (ρ.set i (some (putAt t π o))) N es
    | _ => False)
  | .ow _ :: es => relP ρ N es
  | .pt _ :: es => relP ρ N es
def dOf (ρ : Env) (e : EV) : Option D := match deref ρ e with
  | some o => flat o
  | none => none
section
variable {K : PySem.W.Frag} {HF H : Hp}
theorem Vw.of {d : D} {v : V} (s : Same HF H) (r : Rep K HF d v) : Vw K HF H d v := by
  cases d with
  | lst ds => obtain ⟨a, vs, e, q, t⟩ := r; exact ⟨a, vs, e, s _ _ q, t⟩
  | dic ds => obtain ⟨a, vs, e, q, t⟩ := r; exact ⟨a, vs, e, Rd.mono q s, t⟩
  | dit ds => obtain ⟨a, vs, e, q, t⟩ := r; exact ⟨a, vs, e, Rd.mono q s, t⟩
  | ins C ds => obtain ⟨a, dx, vs, e, q, t⟩ := r; exact ⟨a, dx, vs, e, s _ _ q, t⟩
  | _ => exact r
theorem flatFs_ok : ∀ {fs : List (Str × O)} {l : List (Str × D)} {vs : List (Str × V)} {A : List Addr}, flatFs fs = some l → RepOFs K HF H fs vs A → RepFs K HF l vs
  | [], l, vs, A, h, r => by cases h; exact r.1
  | (f, o) :: r, l, vs, A, h, q => by
    cases o with
    | fz d =>
      unfold flatFs at h
      split at h
      · rename_i l' e
        cases h
        obtain ⟨v, ws, A1, A2, rfl, rfl, q1, q2⟩ := q
        exact ⟨v, ws, rfl, ⟨q1.1, q1.2.2⟩, flatFs_ok e q2⟩
      · cases h
    | ls _ => simp [flatFs] at h
    | dc _ => simp [flatFs] at h
    | dt _ => simp [flatFs] at h
    | nl _ => simp [flatFs] at h
    | nd _ => simp [flatFs] at h
    | ob _ _ => simp [flatFs] at h
theorem Vw.flat {o : O} {d : D} {v : V} {A : List Addr} (s : Same HF H) (h : flat o = some d) (r : RepO K HF H o v A) : Vw K HF H d v := by
  cases o with
  | fz d' => cases h; exact Vw.of s r.2
  | ls ds => cases h; obtain ⟨a, vs, e, ea, q, t⟩ := r; exact ⟨a, vs, e, q, t⟩
  | dc ds => cases h; obtain ⟨a, vs, e, ea, q, t⟩ := r; exact ⟨a, vs, e, .inl q, t⟩
  | dt ds => cases h; obtain ⟨a, vs, e, ea, q, t⟩ := r; exact ⟨a, vs, e, .inl q, t⟩
  | nl os => cases h
  | nd os => cases h
  | ob C fs =>
    have h : (match flatFs fs with | some l => some (D.ins C l) | none => none) = some d := h
    split at h
    · rename_i l e
      cases h
      obtain ⟨a, dx, vs, B, e1, ea, q, t⟩ := r
      exact ⟨a, dx, vs, e1, q, flatFs_ok e t⟩
    · cases h
theorem Vw.ev {ρ : Env} {σ : St} {A Av : List Addr} {ev : EV} {v : V} {d : D} (s : Same HF H) (en : EnvR K HF H ρ σ A) (r : EVR K HF H σ ev v Av) (h : dOf ρ ev = some d) : Vw K HF H d v := by
  cases ev with
  | ow o => exact Vw.flat s (by simpa [dOf, deref] using h) r
  | tk i π w o => exact Vw.flat s (by simpa [dOf, deref] using h) r.2
  | pt i =>
    have h : (match (match ρ[i]? with | some (some o) => some o | _ => none : Option O) with | some o => AE.flat o | none => none) = some d := h
    cases e' : ρ[i]? with
    | none => rw [e'] at h; cases h
    | some oo =>
      cases oo with
      | none => rw [e'] at h; cases h
      | some o =>
        rw [e'] at h
        obtain ⟨v', B, C, h1, h2, _⟩ := en.get e'
        have : v = v' := by
          have q := r.2
          rw [h1] at q
          exact (Option.some.inj (Option.some.inj q)).symm
        subst this
        exact Vw.flat s h h2
theorem EnvR.swap {ρ : Env} {σ : St} {i : Nat} {t t' : O} {A : List Addr} (en : EnvR K HF H ρ σ A) (e : ρ[i]? = some (some t)) : ∃ w B C, A.Perm (B ++ C) ∧ σ[i]? = some (some w) ∧ RepO K HF H t w B ∧ ∀ B', RepO K HF H t' w B' → ∃ A', A'.Perm (B' ++ C) ∧ EnvR K HF H (ρ.set i (some t')) σ A' := by
  obtain ⟨w, B, C, h1, h2, h3, h4⟩ := en.get e
  refine ⟨w, B, C, h3, h1, h2, fun B' r' => ?_⟩
  obtain ⟨A', pm, en'⟩ := EnvR.put h4 (List.getElem?_eq_some_iff.mp e).1 r'
  refine ⟨A', pm, ?_⟩
  have : σ.set i (some w) = σ := by
    obtain ⟨q1, q2⟩ := List.getElem?_eq_some_iff.mp h1
    rw [← q2]; exact List.set_getElem_self q1
  rwa [this] at en'
theorem relP_ok {σ : St} {N : Env → Prop} : ∀ {es : List EV} {ρ : Env} {vs : List V} {A Av : List Addr}, EnvR K HF H ρ σ A → EVRs K HF H σ es vs Av → relP ρ N es → ∃ ρ' A' R, N ρ' ∧ (A ++ Av).Perm (A' ++ R) ∧ EnvR K HF H ρ' σ A'
  | [], ρ, vs, A, Av, en, r, q => ⟨ρ, A, Av, q, .refl _, en⟩
  | .ow o :: es, ρ, vs, A, Av, en, r, q => by
    obtain ⟨v, ws, A1, A2, rfl, rfl, r1, r2⟩ := r
    obtain ⟨ρ', A', R, n, pm, en'⟩ := relP_ok (es := es) en r2 q
    exact ⟨ρ', A', A1 ++ R, n, (List.perm_append_comm_assoc A A1 A2).trans ((List.Perm.append_left A1 pm).trans (List.perm_append_comm_assoc A1 A' R)), en'⟩
  | .pt i :: es, ρ, vs, A, Av, en, r, q => by
    obtain ⟨v, ws, A1, A2, rfl, rfl, r1, r2⟩ := r
    obtain ⟨ρ', A', R, n, pm, en'⟩ := relP_ok (es := es) en r2 q
    exact ⟨ρ', A', A1 ++ R, n, (List.perm_append_comm_assoc A A1 A2).trans ((List.Perm.append_left A1 pm).trans (List.perm_append_comm_assoc A1 A' R)), en'⟩
  | .tk i π v0 o :: es, ρ, vs, A, Av, en, r, q => by
    obtain ⟨v, ws, A1, A2, rfl, rfl, ⟨rfl, r1⟩, r2⟩ := r
    have q : (match ρ[i]? with | some (some t) => getAt t π = some (.fz (.raw v)) ∧ relP (ρ.set i (some (putAt t π o))) N es | _ => False) := q
    split at q
    · rename_i t e
      obtain ⟨w, B, C, pm, _, rt, put⟩ := en.swap (t' := putAt t π o) e
      obtain ⟨B', pm2, r'⟩ := RepO.putBack rt q.1 r1
      obtain ⟨A3, pm3, en3⟩ := put B' r'
      obtain ⟨ρ', A', R, n, pm4, en'⟩ := relP_ok (es := es) en3 r2 q.2
      refine ⟨ρ', A', R, n, List.Perm.trans ?_ pm4, en'⟩
      rw [List.perm_iff_count] at pm pm2 pm3 ⊢
      intro y
      have := pm y
      have := pm2 y
      have := pm3 y
      simp only [List.count_append] at *
      omega
    · exact q.elim
theorem Reps.length : ∀ {ds : List D} {vs : List V}, Reps K HF ds vs → vs.length = ds.length
  | [], vs, h => by rw [show vs = [] from h]; rfl
  | d :: ds, vs, h => by obtain ⟨v, ws, rfl, _, r⟩ := h; simp [Reps.length r]
theorem Reps.get : ∀ {ds : List D} {vs : List V} {i : Nat} {d : D}, Reps K HF ds vs → ds[i]? = some d → ∃ v, vs[i]? = some v ∧ Rep K HF d v
  | [], vs, i, d, h, e => by simp at e
  | d' :: ds, vs, 0, d, h, e => by obtain ⟨v, ws, rfl, q, r⟩ := h; simp at e; subst e; exact ⟨v, by simp, q⟩
  | d' :: ds, vs, i + 1, d, h, e => by
    obtain ⟨v, ws, rfl, q, r⟩ := h
    obtain ⟨w, h1, h2⟩ := Reps.get (i := i) r (by simpa using e)
    exact ⟨w, by simpa using h1, h2⟩
theorem Reps.getV : ∀ {ds : List D} {vs : List V} {i : Nat} {v : V}, Reps K HF ds vs → vs[i]? = some v → ∃ d, ds[i]? = some d ∧ Rep K HF d v
  | [], vs, i, v, h, e => by rw [show vs = [] from h] at e; simp at e
  | d' :: ds, vs, 0, v, h, e => by obtain ⟨v', ws, rfl, q, r⟩ := h; simp at e; subst e; exact ⟨d', by simp, q⟩
  | d' :: ds, vs, i + 1, v, h, e => by
    obtain ⟨v', ws, rfl, q, r⟩ := h
    obtain ⟨w, h1, h2⟩ := Reps.getV (i := i) r (by simpa using e)
    exact ⟨w, by simpa using h1, h2⟩
theorem Reps.append : ∀ {ds es : List D} {vs ws : List V}, Reps K HF ds vs → Reps K HF es ws → Reps K HF (ds ++ es) (vs ++ ws)
  | [], es, vs, ws, h, q => by rw [show vs = [] from h]; exact q
  | d :: ds, es, vs, ws, h, q => by obtain ⟨v, us, rfl, r, t⟩ := h; exact ⟨v, us ++ ws, rfl, r, Reps.append t q⟩
theorem Reps.one {d : D} {v : V} (h : Rep K HF d v) : Reps K HF [d] [v] := ⟨v, [], rfl, h, rfl⟩
end
def Prim (K : PySem.W.Frag) (r : List V → Hp → VK → Prop) (f : Env → List EV → KD → Prop) : Prop :=
  ∀ (σ : St) (HF H : Hp) (ρ : Env) (A Av : List Addr) (evs : List EV) (vs : List V) (Kd : KD) (Q : VK), WR HF H (A ++ Av) → EnvR K HF H ρ σ A → EVRs K HF H σ evs vs Av → f ρ evs Kd → KOk K σ H HF (A ++ Av) Kd Q → r vs H Q
def r1L (r : V → Hp → VK → Prop) : List V → Hp → VK → Prop
  | [x] => r x
  | _ => fun _ _ => False
def r2L (r : R2) : List V → Hp → VK → Prop
  | [x, y] => r x y
  | _ => fun _ _ => False
def t1 (f : Env → List EV → KD → Prop) (ta : TD) : TD := fun ρ Kd Ed => ta ρ (fun e1 ρ1 => f ρ1 [e1] Kd) Ed
def t2 (f : Env → List EV → KD → Prop) (ta tb : TD) : TD := fun ρ Kd Ed => ta ρ (fun e1 ρ1 => tb ρ1 (fun e2 ρ2 => f ρ2 [e1, e2] Kd) Ed) Ed
def tN (f : Env → List EV → KD → Prop) (ts : TDs) : TD := fun ρ Kd Ed => ts ρ (fun es ρ1 => f ρ1 es Kd) Ed
section
variable {X : Cx} {W : WX} {a b : Expr} {ta tb : TD} {pos : Pos} {f : Env → List EV → KD → Prop}
theorem two {r : R2} (hp : Prim X.K (r2L r) f) : ∀ σ H Q, tA X.K W (t2 f ta tb) σ H Q → tOp r (tA X.K W ta) (tA X.K W tb) σ H Q := fun σ H Q q => by
  obtain ⟨HF, ρ, A, Kd, Ed, w, en, t, k, x⟩ := q
  refine ⟨HF, ρ, A, _, Ed, w, en, t, fun e1 ρ1 q1 HF1 H1 A1 v1 Av1 f1 w1 en1 r1 => ?_, x⟩
  have x1 : XOk X.K σ H1 HF1 A1 Ed W := (x.step f1).step (Fr.drop fun p hp => List.mem_append_left _ hp)
  refine ⟨HF1, ρ1, A1, _, Ed, w1.left, en1, q1, fun e2 ρ2 q2 HF2 H2 A2 v2 Av2 f2 w2 en2 r2 => ?_, x1⟩
  obtain ⟨w3, f3, k3⟩ := join w1 (EVR.there r1) f2 w2
  refine hp σ HF2 H2 ρ2 A2 (Av1 ++ Av2) [e1, e2] [v1, v2] Kd Q w3 en2 ⟨v1, [v2], Av1, Av2, rfl, rfl, EVR.keep f2.same r1 k3, v2, [], Av2, [], rfl, by simp, r2, rfl, rfl⟩ q2 ?_
  exact (k.step f1).step f3
theorem one {r : V → Hp → VK → Prop} (hp : Prim X.K (r1L r) f) : ∀ σ H Q, tA X.K W (t1 f ta) σ H Q → tUn r (tA X.K W ta) σ H Q := fun σ H Q q => by
  obtain ⟨HF, ρ, A, Kd, Ed, w, en, t, k, x⟩ := q
  refine ⟨HF, ρ, A, _, Ed, w, en, t, fun e1 ρ1 q1 HF1 H1 A1 v1 Av1 f1 w1 en1 r1 => ?_, x⟩
  exact hp σ HF1 H1 ρ1 A1 Av1 [e1] [v1] Kd Q w1 en1 ⟨v1, [], Av1, [], rfl, by simp, r1, rfl, rfl⟩ q1 (k.step f1)
theorem ae_op {op : Operator} {r : R2} (ho : OpR X (binaryOp op) r) (hp : Prim X.K (r2L r) f) (ha : AE X W a ta) (hb : AE X W b tb) : AE X W (.BinOp a op b pos) (t2 f ta tb) := PE.imp (pe_op ho ha hb) (two hp)
theorem ae_un {op : UnaryOp} {r : V → Hp → VK → Prop} (ho : UnR X (unaryOp op) r) (hp : Prim X.K (r1L r) f) (ha : AE X W a ta) : AE X W (.UnaryOp op a pos) (t1 f ta) := PE.imp (pe_un ho ha) (one hp)
theorem ae_cmp {op : CmpOp} {r : R2} (ho : OpR X (compareOp op) r) (hp : Prim X.K (r2L r) f) (ha : AE X W a ta) (hb : AE X W b tb) (hm : behindInMarks op b = false) : AE X W (.Compare a [op] [b] pos) (t2 f ta tb) := PE.imp (pe_cmpR ho ha hb hm) (two hp)
theorem ae_ix {r : R2} (ho : IxR X r) (hp : Prim X.K (r2L r) f) (ha : AE X W a ta) (hb : AE X W b tb) (hs : PlainIx b) : AE X W (.Subscript a b pos) (t2 f ta tb) := PE.imp (pe_ix ho ha hb hs) (two hp)
def tVal (t : TD) : TDt := fun ρ Kd Ed => t ρ (fun e ρ1 => match dOf ρ1 e with
  | some (.bl b) => Kd b ρ1
  | _ => False) Ed
theorem at_val {e : Expr} {t : TD} (h : AE X W e t) (he : ∀ whole, isTrue e X.env whole = (do let v ← whole; standAt e.pos; holding [v] (truthy v)) := by intro _; rfl) : AT X W e (tVal t) := PT.imp (pt_val h he) fun σ H Q q => by
  obtain ⟨HF, ρ, A, Kd, Ed, w, en, t, k, x⟩ := q
  refine ⟨HF, ρ, A, _, Ed, w, en, t, fun e1 ρ1 q1 HF1 H1 A1 v1 Av1 f1 w1 en1 r1 => ?_, x⟩
  dsimp only at q1
  split at q1
  · rename_i b e2
    have r2 : Vw X.K HF1 H1 (.bl b) v1 := Vw.ev w1.same en1 r1 e2
    exact ⟨b, r2, k b ρ1 q1 HF1 H1 A1 (f1.mono (fun _ hp => hp) fun p hp => .inl (List.mem_append_left _ hp)) w1.left en1⟩
  · exact q1.elim
def tAndT (t u : TDt) : TDt := fun ρ Kd Ed => t ρ (fun b ρ1 => if b = true then u ρ1 Kd Ed else Kd false ρ1) Ed
def tOrT (t u : TDt) : TDt := fun ρ Kd Ed => t ρ (fun b ρ1 => if b = true then Kd true ρ1 else u ρ1 Kd Ed) Ed
def tNotT (t : TDt) : TDt := fun ρ Kd Ed => t ρ (fun b ρ1 => Kd (!b) ρ1) Ed
variable {tc td : TDt} {rest : List Expr}
theorem AW.at {e : Expr} {t : TDt} (h : AW X W e t) : AT X W e t := PW.pt h
theorem aw_and1 (ha : AT X W a tc) : AW X W (.BoolOp .And [a] pos) tc := pw_and1 ha
theorem aw_or1 (ha : AT X W a tc) : AW X W (.BoolOp .Or [a] pos) tc := pw_or1 ha
theorem aw_and (ha : AT X W a tc) (hb : AW X W (.BoolOp .And (b :: rest) pos) td) : AW X W (.BoolOp .And (a :: b :: rest) pos) (tAndT tc td) := PW.imp (pw_and ha hb) fun σ H Q q => by
  obtain ⟨HF, ρ, A, Kd, Ed, w, en, t, k, x⟩ := q
  refine ⟨HF, ρ, A, _, Ed, w, en, t, fun b1 ρ1 q1 HF1 H1 A1 f1 w1 en1 => ?_, x⟩
  cases b1 with
  | true => exact (if_pos rfl).mpr ⟨HF1, ρ1, A1, Kd, Ed, w1, en1, (by simpa using q1), k.step f1, x.step f1⟩
  | false => exact (if_neg (by simp)).mpr (k false ρ1 (by simpa using q1) HF1 H1 A1 f1 w1 en1)
theorem aw_or (ha : AT X W a tc) (hb : AW X W (.BoolOp .Or (b :: rest) pos) td) : AW X W (.BoolOp .Or (a :: b :: rest) pos) (tOrT tc td) := PW.imp (pw_or ha hb) fun σ H Q q => by
  obtain ⟨HF, ρ, A, Kd, Ed, w, en, t, k, x⟩ := q
  refine ⟨HF, ρ, A, _, Ed, w, en, t, fun b1 ρ1 q1 HF1 H1 A1 f1 w1 en1 => ?_, x⟩
  cases b1 with
  | true => exact (if_pos rfl).mpr (k true ρ1 (by simpa using q1) HF1 H1 A1 f1 w1 en1)
  | false => exact (if_neg (by simp)).mpr ⟨HF1, ρ1, A1, Kd, Ed, w1, en1, (by simpa using q1), k.step f1, x.step f1⟩
theorem at_not (ha : AT X W a tc) : AT X W (.UnaryOp .Not a pos) (tNotT tc) := PT.imp (pt_not ha) fun σ H Q q => by
  obtain ⟨HF, ρ, A, Kd, Ed, w, en, t, k, x⟩ := q
  exact ⟨HF, ρ, A, _, Ed, w, en, t, fun b1 ρ1 q1 HF1 H1 A1 f1 w1 en1 => k _ ρ1 q1 HF1 H1 A1 f1 w1 en1, x⟩
def tAndE (t u : TD) : TD := fun ρ Kd Ed => t ρ (fun e ρ1 => match dOf ρ1 e with
  | some (.bl b) => if b = true then u ρ1 Kd Ed else Kd (.ow (.fz (.bl false))) ρ1
  | _ => False) Ed
def tNotE (t : TD) : TD := fun ρ Kd Ed => t ρ (fun e ρ1 => match dOf ρ1 e with
  | some (.bl b) => Kd (.ow (.fz (.bl (!b)))) ρ1
  | _ => False) Ed
theorem ae_one {op} {t : TD} (h : AE X W a t) : AE X W (.BoolOp op [a] pos) t := pe_one h
theorem ae_and (ha : AE X W a ta) (hb : AE X W (.BoolOp .And (b :: rest) pos) tb) : AE X W (.BoolOp .And (a :: b :: rest) pos) (tAndE ta tb) := PE.imp (pe_and ha hb) fun σ H Q q => by
  obtain ⟨HF, ρ, A, Kd, Ed, w, en, t, k, x⟩ := q
  refine ⟨HF, ρ, A, _, Ed, w, en, t, fun e1 ρ1 q1 HF1 H1 A1 v1 Av1 f1 w1 en1 r1 => ?_, x⟩
  dsimp only at q1
  split at q1
  · rename_i b e2
    have r2 : Vw X.K HF1 H1 (.bl b) v1 := Vw.ev w1.same en1 r1 e2
    have f1' : Fr H H1 HF HF1 A A1 := f1.mono (fun _ hp => hp) fun p hp => .inl (List.mem_append_left _ hp)
    refine ⟨b, r2, ?_⟩
    cases b with
    | true => exact (if_pos rfl).mpr ⟨HF1, ρ1, A1, Kd, Ed, w1.left, en1, (by simpa using q1), k.step f1', x.step f1'⟩
    | false => exact (if_neg (by simp)).mpr (k (.ow (.fz (.bl false))) ρ1 (by simpa using q1) HF1 H1 A1 (.bl false) [] (by rw [List.append_nil]; exact f1') (by rw [List.append_nil]; exact w1.left) en1 ⟨rfl, rfl⟩)
  · exact q1.elim
theorem ae_not (ha : AE X W a ta) : AE X W (.UnaryOp .Not a pos) (tNotE ta) := PE.imp (pe_not ha) fun σ H Q q => by
  obtain ⟨HF, ρ, A, Kd, Ed, w, en, t, k, x⟩ := q
  refine ⟨HF, ρ, A, _, Ed, w, en, t, fun e1 ρ1 q1 HF1 H1 A1 v1 Av1 f1 w1 en1 r1 => ?_, x⟩
  dsimp only at q1
  split at q1
  · rename_i b e2
    have r2 : Vw X.K HF1 H1 (.bl b) v1 := Vw.ev w1.same en1 r1 e2
    have f1' : Fr H H1 HF HF1 A A1 := f1.mono (fun _ hp => hp) fun p hp => .inl (List.mem_append_left _ hp)
    exact ⟨b, r2, k _ ρ1 q1 HF1 H1 A1 (.bl (!b)) [] (by rw [List.append_nil]; exact f1') (by rw [List.append_nil]; exact w1.left) en1 ⟨rfl, rfl⟩⟩
  · exact q1.elim
def tIfD (t : TDt) (u v : TD) : TD := fun ρ Kd Ed => t ρ (fun b ρ1 => if b = true then u ρ1 Kd Ed else v ρ1 Kd Ed) Ed
theorem ae_if {c : Expr} (hc : AT X W c tc) (ha : AE X W a ta) (hb : AE X W b tb) : AE X W (.IfExp c a b pos) (tIfD tc ta tb) := PE.imp (pe_ifExp hc ha hb) fun σ H Q q => by
  obtain ⟨HF, ρ, A, Kd, Ed, w, en, t, k, x⟩ := q
  refine ⟨HF, ρ, A, _, Ed, w, en, t, fun b1 ρ1 q1 HF1 H1 A1 f1 w1 en1 => ?_, x⟩
  cases b1 with
  | true => exact (if_pos rfl).mpr ⟨HF1, ρ1, A1, Kd, Ed, w1, en1, (by simpa using q1), k.step f1, x.step f1⟩
  | false => exact (if_neg (by simp)).mpr ⟨HF1, ρ1, A1, Kd, Ed, w1, en1, (by simpa using q1), k.step f1, x.step f1⟩
def tNilD : TDs := fun ρ Kd _ => Kd [] ρ
def tConsD (t : TD) (ts : TDs) : TDs := fun ρ Kd Ed => t ρ (fun e ρ1 => ts ρ1 (fun es ρ2 => Kd (e :: es) ρ2) Ed) Ed
theorem aa_nil : AA X W [] tNilD := PA.imp pa_nil fun σ H Q q => by
  obtain ⟨HF, ρ, A, Kd, Ed, w, en, t, k, x⟩ := q
  exact k [] ρ t HF H A [] [] (by rw [List.append_nil]; exact Fr.refl) (by rw [List.append_nil]; exact w) en ⟨rfl, rfl⟩
theorem aa_cons {e : Expr} {es : List Expr} {t : TD} {ts : TDs} (ha : AE X W e t) (hr : AA X W es ts) (hs : starEach (e :: es) X.env = (false, eval e X.env) :: starEach es X.env := by rfl) : AA X W (e :: es) (tConsD t ts) := PA.imp (pa_cons ha hr hs) fun σ H Q q => by
  obtain ⟨HF, ρ, A, Kd, Ed, w, en, t, k, x⟩ := q
  refine ⟨HF, ρ, A, _, Ed, w, en, t, fun e1 ρ1 q1 HF1 H1 A1 v1 Av1 f1 w1 en1 r1 => ?_, x⟩
  have x1 : XOk X.K σ H1 HF1 A1 Ed W := (x.step f1).step (Fr.drop fun p hp => List.mem_append_left _ hp)
  refine ⟨HF1, ρ1, A1, _, Ed, w1.left, en1, q1, fun es2 ρ2 q2 HF2 H2 A2 vs2 Av2 f2 w2 en2 r2 => ?_, x1⟩
  obtain ⟨w3, f3, k3⟩ := join w1 (EVR.there r1) f2 w2
  exact (k.step f1).step f3 (e1 :: es2) ρ2 q2 HF2 H2 A2 (v1 :: vs2) (Av1 ++ Av2) Fr.refl w3 en2 ⟨v1, vs2, Av1, Av2, rfl, rfl, EVR.keep f2.same r1 k3, r2⟩
end
end AE
namespace AE
open PySem L2
open PyProof.Rows (envOfC)
structure EndsD where
  nx : Env → Prop
  rt : O → Env → Prop
  bk : Env → Prop := fun _ => False
  ct : Env → Prop := fun _ => False
abbrev TSD := EndsD → XC → Env → Prop
abbrev Prot := Nat → Bool
def Pr (P : Prot) (σ σ' : St) : Prop := σ'.length = σ.length ∧ ∀ i, P i = true → σ'[i]? = σ[i]?
theorem Pr.refl {P : Prot} {σ : St} : Pr P σ σ := ⟨rfl, fun _ _ => rfl⟩
theorem Pr.trans {P : Prot} {σ σ1 σ2 : St} (a : Pr P σ σ1) (b : Pr P σ1 σ2) : Pr P σ σ2 := ⟨b.1.trans a.1, fun i h => (b.2 i h).trans (a.2 i h)⟩
section
variable (K : PySem.W.Frag) (P : Prot) (σ : St) (H HF : Hp) (A : List Addr)
def NOk (N : Env → Prop) (Q : St → Hp → Prop) : Prop := ∀ ρ, N ρ → ∀ HF' H' σ' A', Pr P σ σ' → Fr H H' HF HF' A A' → WR HF' H' A' → EnvR K HF' H' ρ σ' A' → Q σ' H'
def ROk (R : O → Env → Prop) (Q : VK) : Prop := ∀ o ρ, R o ρ → ∀ HF' H' σ' A' v Av, Pr P σ σ' → Fr H H' HF HF' A (A' ++ Av) → WR HF' H' (A' ++ Av) → EnvR K HF' H' ρ σ' A' → RepO K HF' H' o v Av → Q v H'
structure SOk (E : EndsD) (D : Ends) : Prop where
  nx : NOk K P σ H HF A E.nx D.nx
  rt : ROk K P σ H HF A E.rt D.rt
  bk : NOk K P σ H HF A E.bk D.bk
  ct : NOk K P σ H HF A E.ct D.ct
def XSOk (Ed : XC) (W : WX) : Prop := ∀ x ρ, Ed x ρ → ∀ HF' H' σ' A' cls d, Pr P σ σ' → Fr H H' HF HF' A A' → WR HF' H' A' → EnvR K HF' H' ρ σ' A' → EXR K HF' x cls d → W cls d σ' H'
end
section
variable {K : PySem.W.Frag} {P : Prot} {σ σ1 : St} {H H1 HF HF1 : Hp} {A A1 : List Addr}
theorem NOk.step {N : Env → Prop} {Q : St → Hp → Prop} (k : NOk K P σ H HF A N Q) (p : Pr P σ σ1) (f : Fr H H1 HF HF1 A A1) : NOk K P σ1 H1 HF1 A1 N Q := fun ρ n HF' H' σ' A' p' f' w e => k ρ n HF' H' σ' A' (p.trans p') (f.trans f') w e
theorem ROk.step {R : O → Env → Prop} {Q : VK} (k : ROk K P σ H HF A R Q) (p : Pr P σ σ1) (f : Fr H H1 HF HF1 A A1) : ROk K P σ1 H1 HF1 A1 R Q := fun o ρ n HF' H' σ' A' v Av p' f' w e r => k o ρ n HF' H' σ' A' v Av (p.trans p') (f.trans f') w e r
theorem SOk.step {E : EndsD} {D : Ends} (k : SOk K P σ H HF A E D) (p : Pr P σ σ1) (f : Fr H H1 HF HF1 A A1) : SOk K P σ1 H1 HF1 A1 E D := ⟨k.nx.step p f, k.rt.step p f, k.bk.step p f, k.ct.step p f⟩
theorem XSOk.step {Ed : XC} {W : WX} (k : XSOk K P σ H HF A Ed W) (p : Pr P σ σ1) (f : Fr H H1 HF HF1 A A1) : XSOk K P σ1 H1 HF1 A1 Ed W := fun x ρ n HF' H' σ' A' c d p' f' w e r => k x ρ n HF' H' σ' A' c d (p.trans p') (f.trans f') w e r
theorem XSOk.x {Ed : XC} {W : WX} (k : XSOk K P σ H HF A Ed W) : XOk K σ H HF A Ed W := fun x ρ n HF' H' A' c d f' w e r => k x ρ n HF' H' σ A' c d .refl f' w e r
end
def tS (K : PySem.W.Frag) (W : WX) (P : Prot) (t : TSD) : TS := fun D σ H => ∃ HF ρ A E Ed, WR HF H A ∧ EnvR K HF H ρ σ A ∧ t E Ed ρ ∧ SOk K P σ H HF A E D ∧ XSOk K P σ H HF A Ed W
def AS (X : Cx) (W : WX) (P : Prot) (st : Stmt) (t : TSD) : Prop := PS X st (tS X.K W P t)
def ASs (X : Cx) (W : WX) (P : Prot) (st : List Stmt) (t : TSD) : Prop := PSs X st (tS X.K W P t)
def tNextD : TSD := fun E _ ρ => E.nx ρ
def tSeqD (t u : TSD) : TSD := fun E Ed ρ => t { E with nx := fun ρ1 => u E Ed ρ1 } Ed ρ
def moved (ρ : Env) : EV → Option (O × Env)
  | .ow o => some (o, ρ)
  | .pt i => match ρ[i]? with
    | some (some o) => some (o, ρ.set i none)
    | _ => none
  | .tk _ _ _ _ => none
theorem moved_ok {K : PySem.W.Frag} {HF H : Hp} {ρ ρ' : Env} {σ : St} {A Av : List Addr} {ev : EV} {v : V} {o : O} (w : WR HF H (A ++ Av)) (en : EnvR K HF H ρ σ A) (r : EVR K HF H σ ev v Av) (h : moved ρ ev = some (o, ρ')) :
    ∃ A' B, (A ++ Av).Perm (A' ++ B) ∧ EnvR K HF H ρ' σ A' ∧ RepO K HF H o v B := by
  cases ev with
  | ow o' => cases h; exact ⟨A, Av, .refl _, en, r⟩
  | tk i π w o' => cases h
  | pt i =>
    have h : (match ρ[i]? with | some (some o) => some (o, ρ.set i none) | _ => none) = some (o, ρ') := h
    cases e : ρ[i]? with
    | none => rw [e] at h; cases h
    | some oo =>
      cases oo with
      | none => rw [e] at h; cases h
      | some o' =>
        rw [e] at h
        cases h
        obtain ⟨v', B, C, h1, h2, h3, h4⟩ := en.get e
        have : v = v' := by
          have q := r.2
          rw [h1] at q
          exact (Option.some.inj (Option.some.inj q)).symm
        subst this
        obtain ⟨rfl, _⟩ := r
        exact ⟨C, B, by rw [List.append_nil]; exact h3.trans List.perm_append_comm, h4, h2⟩
section
variable {X : Cx} {W : WX} {P : Prot} {st : Stmt} {rest : List Stmt} {t u : TSD} {pos : Pos} {e : Expr} {te : TD}
theorem ass_nil : ASs X W P [] tNextD := PSs.imp pss_nil fun D σ H q => by
  obtain ⟨HF, ρ, A, E, Ed, w, en, t, k, x⟩ := q
  exact k.nx ρ t HF H σ A .refl .refl w en
theorem ass_cons (h1 : AS X W P st t) (h2 : ASs X W P rest u) : ASs X W P (st :: rest) (tSeqD t u) := PSs.imp (pss_cons h1 h2) fun D σ H q => by
  obtain ⟨HF, ρ, A, E, Ed, w, en, t, k, x⟩ := q
  exact ⟨HF, ρ, A, _, Ed, w, en, t, ⟨fun ρ1 n HF1 H1 σ1 A1 p1 f1 w1 en1 => ⟨HF1, ρ1, A1, E, Ed, w1, en1, n, k.step p1 f1, x.step p1 f1⟩, k.rt, k.bk, k.ct⟩, x⟩
def tExprD (te : TD) : TSD := fun E Ed ρ => te ρ (fun _ ρ1 => E.nx ρ1) Ed
theorem as_expr (he : AE X W e te) (hs : swapsWith e none pos.line X.env = pure false := by rfl) : AS X W P (.Expr e pos) (tExprD te) := PS.imp (ps_expr he hs) fun D σ H q => by
  obtain ⟨HF, ρ, A, E, Ed, w, en, t, k, x⟩ := q
  refine ⟨HF, ρ, A, _, Ed, w, en, t, fun ev ρ1 q1 HF1 H1 A1 v Av f1 w1 en1 r1 => ?_, x.x⟩
  exact k.nx ρ1 q1 HF1 H1 σ A1 .refl (f1.mono (fun _ hp => hp) fun p hp => .inl (List.mem_append_left _ hp)) w1.left en1
def tRetD (te : TD) : TSD := fun E Ed ρ => te ρ (fun ev ρ1 => match moved ρ1 ev with
  | some (o, ρ2) => E.rt o ρ2
  | none => False) Ed
theorem as_ret (he : AE X W e te) : AS X W P (.Return (some e) pos) (tRetD te) := PS.imp (ps_ret he) fun D σ H q => by
  obtain ⟨HF, ρ, A, E, Ed, w, en, t, k, x⟩ := q
  refine ⟨HF, ρ, A, _, Ed, w, en, t, fun ev ρ1 q1 HF1 H1 A1 v Av f1 w1 en1 r1 => ?_, x.x⟩
  dsimp only at q1
  split at q1
  · rename_i o ρ2 e2
    obtain ⟨A', B, pm, en2, r2⟩ := moved_ok w1 en1 r1 e2
    exact k.rt o ρ2 q1 HF1 H1 σ A' v B .refl (f1.mono (fun _ hp => hp) fun p hp => .inl (pm.mem_iff.mpr hp)) (w1.perm pm) en2 r2
  · exact q1.elim
def tIfSD (c : TDt) (t u : TSD) : TSD := fun E Ed ρ => c ρ (fun b ρ1 => if b = true then t E Ed ρ1 else u E Ed ρ1) Ed
theorem as_if {c : Expr} {a b : List Stmt} {tc : TDt} (hc : AT X W c tc) (ha : ASs X W P a t) (hb : ASs X W P b u) : AS X W P (.If c a b pos) (tIfSD tc t u) := PS.imp (ps_if hc ha hb) fun D σ H q => by
  obtain ⟨HF, ρ, A, E, Ed, w, en, t, k, x⟩ := q
  refine ⟨HF, ρ, A, _, Ed, w, en, t, fun b1 ρ1 q1 HF1 H1 A1 f1 w1 en1 => ?_, x.x⟩
  cases b1 with
  | true => exact (if_pos rfl).mpr ⟨HF1, ρ1, A1, E, Ed, w1, en1, (by simpa using q1), k.step .refl f1, x.step .refl f1⟩
  | false => exact (if_neg (by simp)).mpr ⟨HF1, ρ1, A1, E, Ed, w1, en1, (by simpa using q1), k.step .refl f1, x.step .refl f1⟩
abbrev TGD := O → Env → (Env → Prop) → Prop
def tG (K : PySem.W.Frag) (P : Prot) (g : TGD) : TG := fun v σ H Q => ∃ HF ρ A o B N, WR HF H (A ++ B) ∧ EnvR K HF H ρ σ A ∧ RepO K HF H o v B ∧ g o ρ N ∧ NOk K P σ H HF (A ++ B) N Q
def AG (X : Cx) (P : Prot) (tg : Expr) (g : TGD) : Prop := PG X tg (tG X.K P g)
theorem PG.imp {X : Cx} {tg : Expr} {g g' : TG} (h : PG X tg g) (i : ∀ v σ H Q, g' v σ H Q → g v σ H Q) : PG X tg g' := ⟨fun pins s σ H v u Q I r q => h.run pins s σ H v u Q I r (i v σ H Q q)⟩
def gNameD (i : Nat) : TGD := fun o ρ N => match ρ[i]? with
  | some _ => N (ρ.set i (some o))
  | none => False
theorem EnvR.store {K : PySem.W.Frag} {HF H : Hp} {ρ : Env} {σ : St} {A B : List Addr} {o : O} {v : V} {i : Nat} (w : WR HF H (A ++ B)) (en : EnvR K HF H ρ σ A) (r : RepO K HF H o v B) (hi : i < ρ.length) :
    ∃ A', WR HF H A' ∧ (∀ p ∈ A', p ∈ A ++ B) ∧ EnvR K HF H (ρ.set i (some o)) (σ.set i (some v)) A' := by
  obtain ⟨C, hs, en1⟩ := en.forget (i := i)
  obtain ⟨A', pm, en2⟩ := EnvR.put en1 hi r
  have w1 : WR HF H (B ++ C) := (w.sub (List.Sublist.append_right hs B)).perm List.perm_append_comm
  exact ⟨A', w1.perm pm.symm, fun p hp => (List.mem_append.mp (pm.mem_iff.mp hp)).elim (fun z => List.mem_append_right _ z) (fun z => List.mem_append_left _ (hs.subset z)), en2⟩
theorem ag_name {x : Str} {i : Nat} {pos : Pos} (hN : X.N.Nodup) (hi : X.N[i]? = some x) (hx : Loc X.env.scope x) (hp : P i = false) (hf : X.fn x = true ∨ X.env.scope.names.lookup x = some .local := by first | exact .inl rfl | exact .inr rfl | assumption) : AG X P (.Name x pos) (gNameD i) :=
  PG.imp (pg_name hN hi hx hf) fun v σ H Q q => by
    obtain ⟨HF, ρ, A, o, B, N, w, en, r, g, k⟩ := q
    have g : (match ρ[i]? with | some _ => N (ρ.set i (some o)) | none => False) := g
    obtain ⟨hl, n⟩ : i < ρ.length ∧ N (ρ.set i (some o)) := by
      cases e : ρ[i]? with
      | none => rw [e] at g; exact g.elim
      | some y => rw [e] at g; exact ⟨(List.getElem?_eq_some_iff.mp e).1, g⟩
    obtain ⟨A', w1, f1, en1⟩ := EnvR.store w en r hl
    refine k _ n HF H _ A' ⟨by simp, fun j hj => ?_⟩ (Fr.drop f1) w1 en1
    have : i ≠ j := fun e => by rw [e, hj] at hp; cases hp
    rw [List.getElem?_set_ne this]
def tAsgD (te : TD) (g : TGD) : TSD := fun E Ed ρ => te ρ (fun ev ρ1 => match moved ρ1 ev with
  | some (o, ρ2) => g o ρ2 E.nx
  | none => False) Ed
theorem as_asg {tg : Expr} {g : TGD} (he : AE X W e te) (hg : AG X P tg g) (hs : swapsWithSole [tg] e pos.line X.env = pure false := by rfl) (hw : swappedStores [tg] e X.env = pure none := by rfl) (h1 : (assignEach [tg] X.env).map (·.2) = [assign tg X.env] := by rfl) : AS X W P (.Assign [tg] e pos) (tAsgD te g) := PS.imp (ps_asg he hg hs hw h1) fun D σ H q => by
  obtain ⟨HF, ρ, A, E, Ed, w, en, t, k, x⟩ := q
  refine ⟨HF, ρ, A, _, Ed, w, en, t, fun ev ρ1 q1 HF1 H1 A1 v Av f1 w1 en1 r1 => ?_, x.x⟩
  dsimp only at q1
  split at q1
  · rename_i o ρ2 e2
    obtain ⟨A', B, pm, en2, r2⟩ := moved_ok w1 en1 r1 e2
    exact ⟨HF1, ρ2, A', o, B, E.nx, w1.perm pm, en2, r2, q1, k.nx.step .refl (f1.mono (fun _ hp => hp) fun p hp => .inl (pm.mem_iff.mpr hp))⟩
  · exact q1.elim
abbrev TGDs := List D → Env → (Env → Prop) → Prop
def tGs (K : PySem.W.Frag) (P : Prot) (g : TGDs) : TGs := fun vs σ H Q => ∃ HF ρ A ds N, WR HF H A ∧ EnvR K HF H ρ σ A ∧ Reps K HF ds vs ∧ g ds ρ N ∧ NOk K P σ H HF A N Q
def AGs (X : Cx) (P : Prot) (ts : List Expr) (g : TGDs) : Prop := PGs X ts (tGs X.K P g)
theorem PGs.imp {X : Cx} {ts : List Expr} {g g' : TGs} (h : PGs X ts g) (i : ∀ v σ H Q, g' v σ H Q → g v σ H Q) : PGs X ts g' := ⟨fun pins s σ H v u Q I r q => h.run pins s σ H v u Q I r (i v σ H Q q)⟩
def gNilD : TGDs := fun ds ρ N => match ds with
  | [] => N ρ
  | _ => False
def gConsD (g : TGD) (gs : TGDs) : TGDs := fun ds ρ N => match ds with
  | d :: ds => g (.fz d) ρ (fun ρ1 => gs ds ρ1 N)
  | _ => False
theorem ags_nil : AGs X P [] gNilD := PGs.imp pgs_nil fun vs σ H Q q => by
  obtain ⟨HF, ρ, A, ds, N, w, en, r, n, k⟩ := q
  cases ds with
  | nil => exact ⟨r, k ρ n HF H σ A .refl .refl w en⟩
  | cons _ _ => exact n.elim
theorem ags_cons {tg : Expr} {ts : List Expr} {g : TGD} {gs : TGDs} (h1 : AG X P tg g) (h2 : AGs X P ts gs) (hs : (assignEach (tg :: ts) X.env).map (·.2) = assign tg X.env :: (assignEach ts X.env).map (·.2) := by rfl) : AGs X P (tg :: ts) (gConsD g gs) := PGs.imp (pgs_cons h1 h2 hs) fun vs σ H Q q => by
  obtain ⟨HF, ρ, A, ds, N, w, en, r, n, k⟩ := q
  cases ds with
  | nil => exact n.elim
  | cons d ds =>
    obtain ⟨v, ws, rfl, r1, r2⟩ := r
    refine ⟨v, ws, rfl, HF, ρ, A, .fz d, [], _, (by rw [List.append_nil]; exact w), en, ⟨rfl, r1⟩, n, fun ρ1 n1 HF1 H1 σ1 A1 p1 f1 w1 en1 => ?_⟩
    rw [List.append_nil] at f1
    exact ⟨HF1, ρ1, A1, ds, N, w1, en1, Reps.mono f1.same ds r2, n1, k.step p1 f1⟩
def gTupD (n : Nat) (gs : TGDs) : TGD := fun o ρ N => match o with
  | .fz (.tup ds) => ds.length = n ∧ gs ds ρ N
  | _ => False
theorem ag_tup {es : List Expr} {k : Nat} {gs : TGDs} {n : Nat} (hc : X.calm = true) (h : AGs X P es gs) (hn : (assignEach es X.env).length = n := by rfl) (hst : (assignEach es X.env).findIdx? (·.1) = none := by rfl) : AG X P (.Tuple es k pos) (gTupD n gs) :=
  PG.imp (pg_tup hc h hn hst) fun v σ H Q q => by
    obtain ⟨HF, ρ, A, o, B, N, w, en, r, g, k⟩ := q
    cases o with
    | fz d =>
      cases d with
      | tup ds =>
        obtain ⟨rfl, a, vs, rfl, sq, rs⟩ := r
        rw [List.append_nil] at w k
        exact ⟨a, vs, rfl, SqT.of (w.same _ _ sq), rs.length.trans g.1, HF, ρ, A, ds, N, w, en, rs, g.2, k⟩
      | _ => exact g.elim
    | _ => exact g.elim
end
abbrev AFn := List O → (O → Env → Prop) → (XD → Env → Prop) → Prop
def ros (os : List O) : Env := os.map some
def svs (vs : List V) : St := vs.map some
def spA (K : PySem.W.Frag) (n : Nat) (F : AFn) : Sp := fun vs H Q E => ∃ HF os A Kd Ed, vs.length = n ∧ WR HF H A ∧ EnvR K HF H (ros os) (svs vs) A ∧ F os Kd Ed ∧
  (∀ o ρ, Kd o ρ → ∀ HF' H' A' v Av, Fr H H' HF HF' A (A' ++ Av) → WR HF' H' (A' ++ Av) → EnvR K HF' H' ρ (svs vs) A' → RepO K HF' H' o v Av → Q v H') ∧
  (∀ x ρ, Ed x ρ → ∀ HF' H' A' cls d, Fr H H' HF HF' A A' → WR HF' H' A' → EnvR K HF' H' ρ (svs vs) A' → EXR K HF' x cls d → E cls d H')
def startD (n : Nat) (os : List O) : Env := ros os ++ List.replicate (n - os.length) none
def leftD (P : Prot) : Nat → List O → Env → Env
  | _, [], _ => []
  | i, o :: os, ρ => (if P i = true then (match ρ with | x :: _ => x | [] => none) else (match o with | .fz d => some (.fz d) | _ => none)) :: leftD P (i + 1) os ρ.tail
theorem leftD_ok {K : PySem.W.Frag} {HF HF' H H' : Hp} {P : Prot} (s : Same HF HF') : ∀ {os : List O} {i : Nat} {ρ : Env} {vs : List V} {σ' : St} {A A' : List Addr}, EnvR K HF H (ros os) (svs vs) A → EnvR K HF' H' ρ σ' A' → os.length ≤ ρ.length →
    (∀ j, j < os.length → P (i + j) = true → σ'[j]? = (svs vs)[j]?) → ∃ B, B.Sublist A' ∧ EnvR K HF' H' (leftD P i os ρ) (svs vs) B
  | [], i, ρ, vs, σ', A, A', h, h', hl, hp => ⟨[], List.nil_sublist _, ⟨h.1, rfl⟩⟩
  | o :: os, i, [], vs, σ', A, A', h, h', hl, hp => by simp at hl
  | o :: os, i, x :: ρ, [], σ', A, A', h, h', hl, hp => by
    obtain ⟨_, _, _, _, e, _⟩ := h
    cases e
  | o :: os, i, x :: ρ, v :: vs, σ', A, A', h, h', hl, hp => by
    obtain ⟨v1, r1, A1, A2, e1, ea, q1, q2⟩ := h
    obtain ⟨rfl, rfl⟩ : v1 = v ∧ r1 = svs vs := by
      have e1 : some v :: svs vs = some v1 :: r1 := e1
      injection e1 with a b
      injection a with a
      exact ⟨a.symm, b.symm⟩
    have tailN : ∀ {σr : St}, (∀ j, j < os.length → P (i + 1 + j) = true → (some v1 :: σr : St)[j + 1]? = (svs (v1 :: vs))[j + 1]?) → ∀ j, j < os.length → P (i + 1 + j) = true → σr[j]? = (svs vs)[j]? := fun z j hj hq => by simpa [svs] using z j hj hq
    cases x with
    | none =>
      obtain ⟨s', r', rfl, q'⟩ := h'
      have hp' : ∀ j, j < os.length → P (i + 1 + j) = true → r'[j]? = (svs vs)[j]? := fun j hj hq => by
        have := hp (j + 1) (by simp; omega) (by rw [show i + (j + 1) = i + 1 + j by omega]; exact hq)
        simpa [svs] using this
      obtain ⟨B, hs, en⟩ := leftD_ok s (i := i + 1) q2 q' (by simpa using hl) hp'
      show ∃ B, B.Sublist A' ∧ EnvR K HF' H' ((if P i = true then none else (match o with | .fz d => some (.fz d) | _ => none)) :: leftD P (i + 1) os ρ) (svs (v1 :: vs)) B
      by_cases hPi : P i = true
      · rw [if_pos hPi]; exact ⟨B, hs, ⟨some v1, svs vs, rfl, en⟩⟩
      · rw [if_neg hPi]
        cases o with
        | fz d => exact ⟨B, hs, ⟨v1, svs vs, [], B, rfl, rfl, ⟨rfl, Rep.mono s d q1.2⟩, en⟩⟩
        | _ => exact ⟨B, hs, ⟨some v1, svs vs, rfl, en⟩⟩
    | some o' =>
      obtain ⟨v', r', B1, B2, rfl, rfl, t1, t2⟩ := h'
      have hp' : ∀ j, j < os.length → P (i + 1 + j) = true → r'[j]? = (svs vs)[j]? := fun j hj hq => by
        have := hp (j + 1) (by simp; omega) (by rw [show i + (j + 1) = i + 1 + j by omega]; exact hq)
        simpa [svs] using this
      obtain ⟨B, hs, en⟩ := leftD_ok s (i := i + 1) q2 t2 (by simpa using hl) hp'
      show ∃ B, B.Sublist (B1 ++ B2) ∧ EnvR K HF' H' ((if P i = true then some o' else (match o with | .fz d => some (.fz d) | _ => none)) :: leftD P (i + 1) os ρ) (svs (v1 :: vs)) B
      by_cases hPi : P i = true
      · rw [if_pos hPi]
        have e0 := hp 0 (by simp) hPi
        have e0 : v' = v1 := by simpa [svs] using e0
        subst e0
        exact ⟨B1 ++ B, List.Sublist.append_left hs B1, ⟨v', svs vs, B1, B, rfl, rfl, t1, en⟩⟩
      · rw [if_neg hPi]
        cases o with
        | fz d => exact ⟨B, hs.trans (List.sublist_append_right _ _), ⟨v1, svs vs, [], B, rfl, rfl, ⟨rfl, Rep.mono s d q1.2⟩, en⟩⟩
        | _ => exact ⟨B, hs.trans (List.sublist_append_right _ _), ⟨some v1, svs vs, rfl, en⟩⟩
theorem EnvR.pad {K : PySem.W.Frag} {HF H : Hp} (n : Nat) : ∀ {ρ : Env} {σ : St} {A : List Addr}, EnvR K HF H ρ σ A → EnvR K HF H (ρ ++ List.replicate n none) (σ ++ List.replicate n none) A
  | [], σ, A, h => by
    obtain ⟨rfl, rfl⟩ := h
    show EnvR K HF H (List.replicate n none) (List.replicate n none) []
    induction n with
    | zero => exact ⟨rfl, rfl⟩
    | succ n ih => exact ⟨none, _, rfl, ih⟩
  | none :: ρ, σ, A, h => by obtain ⟨s', r, rfl, q⟩ := h; exact ⟨s', _, rfl, EnvR.pad n q⟩
  | some o :: ρ, σ, A, h => by obtain ⟨v, r, A1, A2, rfl, rfl, q, t⟩ := h; exact ⟨v, _, A1, A2, rfl, rfl, q, EnvR.pad n t⟩
section
variable {P : Program} {w : World} {K : PySem.W.Frag} {mg : Str → Option Value} {base : Heap}
theorem Fun.okA {x qual : Str} {st : Stmt} {f : Addr} {fd : FuncData} {N ps : List Str} {k : Nat} {F : AFn} (Fn : L2.Fun K x qual st f fd) (S : FnScope N ps (defScope st)) (pr : Prot)
    (hbody : ∀ (cdv : Value) (A : Around) (outer : List PySem.Env) (s : Shared) (H : Hp) (E : XK), Room k (A.deeper (envOfC qual (defScope st) s.heap.objs.size f cdv)) →
      ∃ t, ASs (cxOf (L2N.CX P w) P w K mg base N qual (defScope st) f cdv A outer s H E) (fun cls d _ H => E cls d H) pr (defBody st) t ∧
        ∀ os Kd Ed, os.length = ps.length → F os Kd Ed → t { nx := fun ρ => Kd (.fz .non) (leftD pr 0 os ρ), rt := fun o ρ => Kd o (leftD pr 0 os ρ) } (fun x ρ => Ed x (leftD pr 0 os ρ)) (startD N.length os)) :
    FnOk P w K mg base (L2N.CX P w) (k + 1) f fd ps (spA K ps.length F) := by
  obtain ⟨oc, od, kV, doc, pm, an, cdv, ct, osl, rfl, lk, hcd⟩ := Fn.ex
  refine fn_of lk hcd S (fun vs H Q E h => ?_) (fun A outer s H vs Q E hr h => ?_)
  · obtain ⟨HF, os, A, Kd, Ed, hl, _⟩ := h
    exact hl
  · obtain ⟨HF, os, Af, Kd, Ed, hl, wr, en, hF, hK, hE⟩ := h
    have hol : os.length = ps.length := by
      have := en.length
      simp [ros, svs] at this
      omega
    have hpl : ps.length ≤ N.length := by
      have := congrArg List.length S.pre
      rw [List.length_take] at this
      omega
    have hst : (L2.start N vs).length = N.length := by
      unfold L2.start
      rw [List.length_append, List.length_map, List.length_replicate]
      omega
    have slot : ∀ j, j < os.length → (L2.start N vs)[j]? = (svs vs)[j]? := fun j hj => by
      unfold L2.start svs
      rw [List.getElem?_append_left (by rw [List.length_map]; omega)]
    obtain ⟨t, h1, h2⟩ := hbody cdv A outer s H E hr
    have fin : ∀ {ρ : Env} {HF' H' : Hp} {σ' : St} {A' : List Addr}, Pr pr (L2.start N vs) σ' → Same HF HF' → EnvR K HF' H' ρ σ' A' → ∃ B, B.Sublist A' ∧ EnvR K HF' H' (leftD pr 0 os ρ) (svs vs) B := fun {ρ HF' H' σ' A'} p s' en' => by
      refine leftD_ok s' en en' ?_ fun j hj hP => ?_
      · rw [← en'.length, p.1, hst]; omega
      · rw [Nat.zero_add] at hP
        rw [p.2 j hP, slot j hj]
    refine ⟨_, h1, HF, startD N.length os, Af, _, _, wr, ?_, h2 os Kd Ed hol hF, ⟨fun ρ n HF' H' σ' A' p f w' en' => ?_, fun o ρ n HF' H' σ' A' v Av p f w' en' r => ?_, fun ρ n => n.elim, fun ρ n => n.elim⟩, fun x ρ n HF' H' σ' A' cls d p f w' en' r => ?_⟩
    · show EnvR K HF H (ros os ++ List.replicate (N.length - os.length) none) (L2.start N vs) Af
      unfold L2.start
      rw [show N.length - vs.length = N.length - os.length by omega]
      exact EnvR.pad _ en
    · obtain ⟨B, hs, en2⟩ := fin p f.same en'
      exact hK _ _ n HF' H' B .non [] (by rw [List.append_nil]; exact f.mono (fun _ h => h) fun p hp => .inl (hs.subset hp)) (by rw [List.append_nil]; exact w'.sub hs) en2 ⟨rfl, rfl⟩
    · obtain ⟨B, hs, en2⟩ := fin p f.same en'
      have hs2 : (B ++ Av).Sublist (A' ++ Av) := List.Sublist.append_right hs Av
      exact hK _ _ n HF' H' B v Av (f.mono (fun _ h => h) fun p hp => .inl (hs2.subset hp)) (w'.sub hs2) en2 r
    · obtain ⟨B, hs, en2⟩ := fin p f.same en'
      exact hE _ _ n HF' H' B cls d (f.mono (fun _ h => h) fun p hp => .inl (hs.subset hp)) (w'.sub hs) en2 r
end
def takeD (ρ : Env) : List EV → Option (List O × Env)
  | [] => some ([], ρ)
  | .ow o :: es => match takeD ρ es with
    | some (os, ρ') => some (o :: os, ρ')
    | none => none
  | .tk _ _ _ o :: es => match takeD ρ es with
    | some (os, ρ') => some (o :: os, ρ')
    | none => none
  | .pt i :: es => match ρ[i]? with
    | some (some o) => (match takeD (ρ.set i none) es with
      | some (os, ρ') => some (o :: os, ρ')
      | none => none)
    | _ => none
def backP (N : Env → Prop) (ρ : Env) : List EV → Env → Prop
  | .pt i :: es, x :: xs => (match ρ[i]? with
    | some none => backP N (ρ.set i x) es xs
    | _ => backP N ρ es xs)
  | .tk i π v _ :: es, some o :: xs => (match ρ[i]? with
    | some (some t) => getAt t π = some (.fz (.raw v)) ∧ backP N (ρ.set i (some (putAt t π o))) es xs
    | _ => backP N ρ es xs)
  | .tk _ _ _ _ :: es, none :: xs => backP N ρ es xs
  | .ow _ :: es, _ :: xs => backP N ρ es xs
  | _, _ => N ρ
theorem takeD_ok {K : PySem.W.Frag} {HF H : Hp} {σ : St} : ∀ {es : List EV} {ρ ρ' : Env} {os : List O} {vs : List V} {A Av : List Addr}, EnvR K HF H ρ σ A → EVRs K HF H σ es vs Av → takeD ρ es = some (os, ρ') →
    ∃ A1 B, (A ++ Av).Perm (A1 ++ B) ∧ EnvR K HF H ρ' σ A1 ∧ EnvR K HF H (ros os) (svs vs) B
  | [], ρ, ρ', os, vs, A, Av, en, r, h => by
    cases h
    obtain ⟨rfl, rfl⟩ := r
    exact ⟨A, [], .refl _, en, ⟨rfl, rfl⟩⟩
  | .ow o :: es, ρ, ρ', os, vs, A, Av, en, r, h => by
    obtain ⟨v, ws, A1, A2, rfl, rfl, r1, r2⟩ := r
    have h : (match takeD ρ es with | some (os, ρ') => some (o :: os, ρ') | none => none) = some (os, ρ') := h
    split at h
    · rename_i os2 ρ2 e
      cases h
      obtain ⟨C, B, pm, en1, q⟩ := takeD_ok en r2 e
      refine ⟨C, A1 ++ B, ?_, en1, ⟨v, svs ws, A1, B, rfl, rfl, r1, q⟩⟩
      exact (List.perm_append_comm_assoc A A1 A2).trans ((List.Perm.append_left A1 pm).trans (List.perm_append_comm_assoc A1 C B))
    · cases h
  | .tk i π w o :: es, ρ, ρ', os, vs, A, Av, en, r, h => by
    obtain ⟨v, ws, A1, A2, rfl, rfl, r1, r2⟩ := r
    have h : (match takeD ρ es with | some (os, ρ') => some (o :: os, ρ') | none => none) = some (os, ρ') := h
    split at h
    · rename_i os2 ρ2 e
      cases h
      obtain ⟨C, B, pm, en1, q⟩ := takeD_ok en r2 e
      refine ⟨C, A1 ++ B, ?_, en1, ⟨v, svs ws, A1, B, rfl, rfl, r1.2, q⟩⟩
      exact (List.perm_append_comm_assoc A A1 A2).trans ((List.Perm.append_left A1 pm).trans (List.perm_append_comm_assoc A1 C B))
    · cases h
  | .pt i :: es, ρ, ρ', os, vs, A, Av, en, r, h => by
    obtain ⟨v, ws, A1, A2, rfl, rfl, r1, r2⟩ := r
    obtain ⟨rfl, hv⟩ := r1
    have same : ∀ {v' : V}, σ[i]? = some (some v') → v = v' := fun {v'} z => by
      rw [hv] at z
      exact Option.some.inj (Option.some.inj z)
    have h : (match ρ[i]? with | some (some o) => (match takeD (ρ.set i none) es with | some (os, ρ') => some (o :: os, ρ') | none => none) | _ => none) = some (os, ρ') := h
    split at h
    · rename_i o e
      split at h
      · rename_i os2 ρ2 e2
        cases h
        obtain ⟨v', B', C', h1, h2, h3, h4⟩ := en.get e
        obtain rfl := same h1
        obtain ⟨C, B, pm, en1, q⟩ := takeD_ok h4 r2 e2
        refine ⟨C, B' ++ B, ?_, en1, ⟨v, svs ws, B', B, rfl, rfl, h2, q⟩⟩
        have p1 : (A ++ ([] ++ A2)).Perm (B' ++ (C' ++ A2)) := by
          have := List.Perm.append_right A2 h3
          simpa [List.append_assoc] using this
        exact p1.trans ((List.Perm.append_left B' pm).trans (List.perm_append_comm_assoc B' C B))
      · cases h
    · cases h
theorem set_get {α : Type} {l : List α} {i : Nat} {x : α} (h : l[i]? = some x) : l.set i x = l := by
  obtain ⟨q1, q2⟩ := List.getElem?_eq_some_iff.mp h
  rw [← q2]; exact List.set_getElem_self q1
theorem backP_ok {K : PySem.W.Frag} {HF H : Hp} {σ : St} {N : Env → Prop} : ∀ {es : List EV} {ρ ρx : Env} {vs : List V} {A B : List Addr}, EnvR K HF H ρ σ A → EnvR K HF H ρx (svs vs) B → (∀ (j i : Nat), es[j]? = some (.pt i) → ∀ v, vs[j]? = some v → σ[i]? = some (some v)) → (∀ (j i : Nat) (π : List Stp) (w : V) (o : O), es[j]? = some (.tk i π w o) → ∀ v, vs[j]? = some v → v = w) → backP N ρ es ρx →
    ∃ ρ' C R, N ρ' ∧ (A ++ B).Perm (C ++ R) ∧ EnvR K HF H ρ' σ C
  | [], ρ, ρx, vs, A, B, en, ex, hp, ht, q => ⟨ρ, A, B, by simpa [backP] using q, .refl _, en⟩
  | e :: es, ρ, [], vs, A, B, en, ex, hp, ht, q => ⟨ρ, A, B, by cases e <;> simpa [backP] using q, .refl _, en⟩
  | e :: es, ρ, x :: xs, [], A, B, en, ex, hp, ht, q => by
    cases x with
    | none => obtain ⟨_, _, e, _⟩ := ex; cases e
    | some o => obtain ⟨_, _, _, _, e, _⟩ := ex; cases e
  | e :: es, ρ, x :: xs, v :: vs, A, B, en, ex, hp, ht, q => by
    have hp' : ∀ (j i : Nat), es[j]? = some (.pt i) → ∀ v, vs[j]? = some v → σ[i]? = some (some v) := fun j i h1 v' h2 => hp (j + 1) i (by simpa using h1) v' (by simpa using h2)
    have ht' : ∀ (j i : Nat) (π : List Stp) (w : V) (o : O), es[j]? = some (.tk i π w o) → ∀ v, vs[j]? = some v → v = w := fun j i π w o h1 v' h2 => ht (j + 1) i π w o (by simpa using h1) v' (by simpa using h2)
    obtain ⟨Bx, Br, ebr, hx, ex'⟩ : ∃ Bx Br, B = Bx ++ Br ∧ (match x with | some o => RepO K HF H o v Bx | none => Bx = []) ∧ EnvR K HF H xs (svs vs) Br := by
      cases x with
      | none =>
        obtain ⟨s', r, e, q⟩ := ex
        have e : some v :: svs vs = s' :: r := e
        injection e with e1 e2
        subst e2
        exact ⟨[], B, rfl, rfl, q⟩
      | some o' =>
        obtain ⟨v', r, A1, A2, e, rfl, q1, q2⟩ := ex
        have e : some v :: svs vs = some v' :: r := e
        injection e with e1 e2
        injection e1 with e1
        subst e2 e1
        exact ⟨A1, A2, rfl, q1, q2⟩
    subst ebr
    have go : backP N ρ es xs → ∃ ρ' C R, N ρ' ∧ (A ++ (Bx ++ Br)).Perm (C ++ R) ∧ EnvR K HF H ρ' σ C := fun q => by
      obtain ⟨ρ', C, R, n, pm, en1⟩ := backP_ok (es := es) en ex' hp' ht' q
      refine ⟨ρ', C, Bx ++ R, n, ?_, en1⟩
      exact (List.perm_append_comm_assoc A Bx Br).trans ((List.Perm.append_left Bx pm).trans (List.perm_append_comm_assoc Bx C R))
    have fill : ∀ {ρ1 : Env} {A1 : List Addr}, EnvR K HF H ρ1 σ A1 → A1.Perm (Bx ++ A) → backP N ρ1 es xs → ∃ ρ' C R, N ρ' ∧ (A ++ (Bx ++ Br)).Perm (C ++ R) ∧ EnvR K HF H ρ' σ C := fun {ρ1 A1} en1 pm1 q => by
      obtain ⟨ρ', C, R, n, pm, en2⟩ := backP_ok (es := es) en1 ex' hp' ht' q
      refine ⟨ρ', C, R, n, List.Perm.trans ?_ pm, en2⟩
      rw [List.perm_iff_count] at pm1 ⊢
      intro y
      have := pm1 y
      simp only [List.count_append] at *
      omega
    cases e with
    | ow o => exact go (by cases x <;> exact q)
    | pt i =>
      have hv : σ[i]? = some (some v) := hp 0 i (by simp) v (by simp)
      have q : (match ρ[i]? with | some none => backP N (ρ.set i x) es xs | _ => backP N ρ es xs) := by cases x <;> exact q
      split at q
      · rename_i e3
        cases x with
        | none => rw [set_get e3] at q; exact go q
        | some o' =>
          have hi : i < ρ.length := (List.getElem?_eq_some_iff.mp e3).1
          obtain ⟨A', pm', en'⟩ := EnvR.put (ρ := ρ) (i := i) (o := o') (v := v) (by rw [set_get e3]; exact en) hi hx
          rw [set_get hv] at en'
          exact fill en' pm' q
      · exact go q
    | tk i π w o =>
      obtain rfl : v = w := ht 0 i π w o (by simp) v (by simp)
      cases x with
      | none => exact go q
      | some o' =>
        have q : (match ρ[i]? with | some (some t) => getAt t π = some (.fz (.raw v)) ∧ backP N (ρ.set i (some (putAt t π o'))) es xs | _ => backP N ρ es xs) := q
        split at q
        · rename_i t e3
          obtain ⟨w, B1, C1, pm, _, rt, put⟩ := en.swap (t' := putAt t π o') e3
          obtain ⟨B2, pm2, r'⟩ := RepO.putBack rt q.1 hx
          obtain ⟨A3, pm3, en3⟩ := put B2 r'
          refine fill en3 ?_ q.2
          rw [List.perm_iff_count] at pm pm2 pm3 ⊢
          intro y
          have := pm y
          have := pm2 y
          have := pm3 y
          simp only [List.count_append] at *
          omega
        · exact go q
theorem EVRs.pts {K : PySem.W.Frag} {HF H : Hp} {σ : St} : ∀ {es : List EV} {vs : List V} {Av : List Addr}, EVRs K HF H σ es vs Av → ∀ (j i : Nat), es[j]? = some (.pt i) → ∀ v, vs[j]? = some v → σ[i]? = some (some v)
  | [], vs, Av, r, j, i, h, v, hv => by simp at h
  | e :: es, vs, Av, r, 0, i, h, v, hv => by
    obtain ⟨v', ws, A1, A2, rfl, rfl, r1, r2⟩ := r
    simp at h hv
    subst h hv
    exact r1.2
  | e :: es, vs, Av, r, j + 1, i, h, v, hv => by
    obtain ⟨v', ws, A1, A2, rfl, rfl, r1, r2⟩ := r
    exact EVRs.pts r2 j i (by simpa using h) v (by simpa using hv)
theorem EVRs.tks {K : PySem.W.Frag} {HF H : Hp} {σ : St} : ∀ {es : List EV} {vs : List V} {Av : List Addr}, EVRs K HF H σ es vs Av → ∀ (j i : Nat) (π : List Stp) (w : V) (o : O), es[j]? = some (.tk i π w o) → ∀ v, vs[j]? = some v → v = w
  | [], vs, Av, r, j, i, π, w, o, h, v, hv => by simp at h
  | e :: es, vs, Av, r, 0, i, π, w, o, h, v, hv => by
    obtain ⟨v', ws, A1, A2, rfl, rfl, r1, r2⟩ := r
    simp at h hv
    subst h hv
    exact r1.1
  | e :: es, vs, Av, r, j + 1, i, π, w, o, h, v, hv => by
    obtain ⟨v', ws, A1, A2, rfl, rfl, r1, r2⟩ := r
    exact EVRs.tks r2 j i π w o (by simpa using h) v (by simpa using hv)
def tCallA (F : AFn) (ts : TDs) : TD := fun ρ Kd Ed => ts ρ (fun es ρ1 => match takeD ρ1 es with
  | some (os, ρ2) => F os (fun o ρx => backP (Kd (.ow o)) ρ2 es ρx) (fun x ρx => backP (Ed x) ρ2 es ρx)
  | none => False) Ed
theorem call_sp {K : PySem.W.Frag} {σ : St} {HF H : Hp} {ρ : Env} {A Av : List Addr} {es : List EV} {vs : List V} {Kd : KD} {Ed : XC} {Q : VK} {E : XK} {F : AFn} {n : Nat} (hF : ∀ os Kd Ed, F os Kd Ed → os.length = n) (w : WR HF H (A ++ Av)) (en : EnvR K HF H ρ σ A) (r : EVRs K HF H σ es vs Av)
    (h : match takeD ρ es with | some (os, ρ2) => F os (fun o ρx => backP (Kd (.ow o)) ρ2 es ρx) (fun x ρx => backP (Ed x) ρ2 es ρx) | none => False)
    (k : KOk K σ H HF (A ++ Av) Kd Q) (x : XOk K σ H HF (A ++ Av) Ed (fun c d _ H => E c d H)) : spA K n F vs H Q E := by
  split at h
  · rename_i os ρ2 e
    obtain ⟨A1, B, pm, en1, ex⟩ := takeD_ok en r e
    have w1 := w.perm pm
    have wB := w1.right
    have hn : vs.length = n := by
      have := ex.length
      simp [ros, svs] at this
      rw [this]; exact hF _ _ _ h
    refine ⟨HF, os, B, _, _, hn, wB, ex, h, fun o ρx q HF' H' A' v Av' f w' en' ro => ?_, fun xd ρx q HF' H' A' cls d f w' en' rx => ?_⟩
    · -- the caller's other things are kept
      have tA1 := EnvR.there _ en1
      obtain ⟨k1, k2, k3⟩ := f.frame tA1 (w1.disj)
      have en2 := EnvR.keep f.same _ en1 k1
      obtain ⟨ρ3, C, R, q, pm2, en3⟩ := backP_ok (es := es) en2 en' r.pts r.tks q
      have hnd : (A1 ++ (A' ++ Av')).Nodup := List.nodup_append.mpr ⟨w1.left.nodup, w'.nodup, fun a ha b hb e => k3 a ha (e ▸ hb)⟩
      have pm3 : (A1 ++ (A' ++ Av')).Perm ((C ++ Av') ++ R) := by
        rw [← List.append_assoc]
        refine (List.Perm.append_right Av' pm2).trans ?_
        rw [List.append_assoc, List.append_assoc]
        exact List.Perm.append_left C List.perm_append_comm
      have w3 : WR HF' H' (A1 ++ (A' ++ Av')) := ⟨w'.same, hnd, fun a ha => (List.mem_append.mp ha).elim (fun z => k2 a z (w1.out a (List.mem_append_left _ z))) (w'.out a)⟩
      refine k _ _ q HF' H' C v Av' ?_ ((w3.perm pm3).left) en3 ro
      refine f.mono (fun p hp => pm.mem_iff.mpr (List.mem_append_right _ hp)) fun p hp => ?_
      rcases List.mem_append.mp (pm3.mem_iff.mpr (List.mem_append_left _ hp)) with z | z
      · exact .inr (pm.mem_iff.mpr (List.mem_append_left _ z))
      · exact .inl z
    · have tA1 := EnvR.there _ en1
      obtain ⟨k1, k2, k3⟩ := f.frame tA1 (w1.disj)
      have en2 := EnvR.keep f.same _ en1 k1
      obtain ⟨ρ3, C, R, q, pm2, en3⟩ := backP_ok (es := es) en2 en' r.pts r.tks q
      have hnd : (A1 ++ A').Nodup := List.nodup_append.mpr ⟨w1.left.nodup, w'.nodup, fun a ha b hb e => k3 a ha (e ▸ hb)⟩
      have w3 : WR HF' H' (A1 ++ A') := ⟨w'.same, hnd, fun a ha => (List.mem_append.mp ha).elim (fun z => k2 a z (w1.out a (List.mem_append_left _ z))) (w'.out a)⟩
      refine x _ _ q HF' H' C cls d ?_ ((w3.perm pm2).left) en3 rx
      refine f.mono (fun p hp => pm.mem_iff.mpr (List.mem_append_right _ hp)) fun p hp => ?_
      rcases List.mem_append.mp (pm2.mem_iff.mpr (List.mem_append_left _ hp)) with z | z
      · exact .inr (pm.mem_iff.mpr (List.mem_append_left _ z))
      · exact .inl z
  · exact h.elim
end AE
namespace AE
open PySem L2
structure Cal (P : Program) (w : World) (K : PySem.W.Frag) (mg : Str → Option Value) (base : Heap) (lv : Nat) (x : Str) (ps : List Str) (F : AFn) : Prop where
  ex : ∃ f fd, mg x = some (.ref f) ∧ PySem.W.keepIn K (.ref f) = true ∧ Binds K fd ps [] ∧ FnOk P w K mg base (L2N.CX P w) lv f fd ps (spA K ps.length F)
  len : ∀ os Kd Ed, F os Kd Ed → os.length = ps.length
section
variable {X : Cx} {W : WX} {lv : Nat} {x : Str} {ps : List Str} {F : AFn} {p pos : Pos} {e : Expr} {es : List Expr} {ts : TDs}
theorem ae_call (C : Cal X.prog X.w X.K X.mg X.base lv x ps F) (hr : Room lv X.A) (tk : L2N.Takes X W) (hg : Gl X x) (ha : AA X W (e :: es) ts) (hdb : (x == ("__debug__" : Str)) = false := by decide)
    (he : starEach (e :: es) X.env = (false, eval e X.env) :: starEach es X.env := by rfl) (hpl : (backTo pos (starEach es X.env)).any (·.1) = false := by rfl) : AE X W (.Call (.Name x p) (e :: es) [] pos) (tCallA F ts) := by
  obtain ⟨f, fd, hm, hk, hb, G⟩ := C.ex
  refine PE.imp (pe_callSD (E := WE W) G hr hg hm hk hb .nil (fun σ => L2N.passAt tk σ) ha hdb he hpl) fun σ H Q q => ?_
  obtain ⟨HF, ρ, A, Kd, Ed, w, en, t, k, x⟩ := q
  refine ⟨HF, ρ, A, _, Ed, w, en, t, fun es1 ρ1 q1 HF1 H1 A1 vs Av f1 w1 en1 r1 => ?_, x⟩
  show spA X.K ps.length F (vs ++ []) H1 Q (WE W σ)
  rw [List.append_nil]
  exact call_sp C.len w1 en1 r1 q1 (k.step f1) (fun xd ρ2 q2 HF2 H2 A2 cls d f2 w2 en2 r2 => x xd ρ2 q2 HF2 H2 A2 cls d (f1.trans f2) w2 en2 r2)
end
structure New (K : PySem.W.Frag) (HF H HF' H' : Hp) (o : O) (z : V) (Az : List Addr) : Prop where
  fr : Fr H H' HF HF' [] Az
  wr : WR HF' H' Az
  rep : RepO K HF' H' o z Az
section
variable {K : PySem.W.Frag} {HF H : Hp}
theorem New.imm {d : D} {z : V} (s : Same HF H) (r : Rep K HF d z) : New K HF H HF H (.fz d) z [] := ⟨.refl, ⟨s, List.nodup_nil, fun _ h => by cases h⟩, ⟨rfl, r⟩⟩
theorem upd_eq {H : Hp} {p b : Addr} {o u : HO} (hp : H p = none) (h : H b = some u) : upd H p o b = some u := by rw [upd_ne (ne_of_none h hp)]; exact h
theorem Same.up {HF H : Hp} {p : Addr} {o : HO} (s : Same HF H) (hp : H p = none) : Same (upd HF p o) (upd H p o) := fun b u e => by
  by_cases hb : b = p
  · subst hb; rw [upd_same] at e ⊢; exact e
  · rw [upd_ne hb] at e ⊢; exact s b u e
theorem Same.new {H : Hp} {p : Addr} {o : HO} (hp : H p = none) : Same H (upd H p o) := fun b u e => upd_eq hp e
theorem New.pure {d : D} {p : Addr} {u : HO} (s : Same HF H) (hp : H p = none) (r : Rep K (upd HF p u) d (.ref p)) : New K HF H (upd HF p u) (upd H p u) (.fz d) (.ref p) [] where
  fr := ⟨Same.new (s.free hp), fun q o e _ => upd_eq hp e, fun q o e _ f => by rw [upd_ne (ne_of_none e hp)]; exact f, fun _ h => by cases h⟩
  wr := ⟨Same.up s hp, List.nodup_nil, fun _ h => by cases h⟩
  rep := ⟨rfl, r⟩
theorem New.tup {ds : List D} {vs : List V} {p : Addr} (s : Same HF H) (hp : H p = none) (r : Reps K HF ds vs) : New K HF H (upd HF p (.tup vs)) (upd H p (.tup vs)) (.fz (.tup ds)) (.ref p) [] :=
  New.pure s hp ⟨p, vs, rfl, upd_same, Reps.mono (Same.new (s.free hp)) ds r⟩
theorem New.own {o : O} {p : Addr} {u : HO} (s : Same HF H) (hp : H p = none) (r : RepO K HF (upd H p u) o (.ref p) [p]) : New K HF H HF (upd H p u) o (.ref p) [p] where
  fr := ⟨.refl _, fun q o e _ => upd_eq hp e, fun q o e _ f => f, fun q hq => .inr (by rw [List.mem_singleton.mp hq]; exact hp)⟩
  wr := ⟨s.trans (Same.new hp), by simp, fun a ha => by rw [List.mem_singleton.mp ha]; exact s.free hp⟩
  rep := r
theorem New.lst {ds : List D} {vs : List V} {p : Addr} (s : Same HF H) (hp : H p = none) (r : Reps K HF ds vs) : New K HF H HF (upd H p (.lst vs)) (.ls ds) (.ref p) [p] := New.own s hp ⟨p, vs, rfl, rfl, upd_same, r⟩
theorem KOk.new {σ : St} {ρ : Env} {A Av : List Addr} {Kd : KD} {Q : VK} {HF' H' : Hp} {o : O} {z : V} {Az : List Addr} (k : KOk K σ H HF (A ++ Av) Kd Q) (w : WR HF H (A ++ Av)) (en : EnvR K HF H ρ σ A) (q : Kd (.ow o) ρ) (n : New K HF H HF' H' o z Az) : Q z H' := by
  have tA := EnvR.there _ en
  obtain ⟨k1, k2, k3⟩ := n.fr.frame tA (fun _ _ h => by cases h)
  refine k _ ρ q HF' H' A z Az ?_ ⟨n.wr.same, List.nodup_append.mpr ⟨w.left.nodup, n.wr.nodup, fun a ha b hb e => k3 a ha (e ▸ hb)⟩, fun a ha => (List.mem_append.mp ha).elim (fun z => k2 a z (w.out a (List.mem_append_left _ z))) (n.wr.out a)⟩ (EnvR.keep n.fr.same _ en k1) n.rep
  exact n.fr.mono (fun _ h => by cases h) fun p hp => (List.mem_append.mp hp).elim (fun z => .inr (List.mem_append_left _ z)) .inl
theorem KOk.newR {σ : St} {ρ : Env} {A Av : List Addr} {Kd : KD} {Q : VK} {HF' H' : Hp} {o : O} {z : V} {Az : List Addr} {es : List EV} {vs : List V} (k : KOk K σ H HF (A ++ Av) Kd Q) (w : WR HF H (A ++ Av)) (en : EnvR K HF H ρ σ A) (r : EVRs K HF H σ es vs Av) (q : relP ρ (Kd (.ow o)) es) (n : New K HF H HF' H' o z Az) : Q z H' := by
  obtain ⟨ρ', A', R, q', pm, en'⟩ := relP_ok en r q
  have w' : WR HF H (A' ++ R) := w.perm pm
  have k' : KOk K σ H HF (A' ++ R) Kd Q := fun ev ρ q HF' H' A2 v Av f => k ev ρ q HF' H' A2 v Av (f.mono (fun p hp => pm.mem_iff.mpr hp) fun p hp => .inl hp)
  exact k'.new w' en' q' n
end
abbrev G1 := D → (O → Prop) → Prop
abbrev G2 := D → D → (O → Prop) → Prop
abbrev GN := List D → (O → Prop) → Prop
def p1 (g : G1) : Env → List EV → KD → Prop := fun ρ es Kd => match es with
  | [e] => (match dOf ρ e with
    | some d => g d (fun o => relP ρ (Kd (.ow o)) [e])
    | none => False)
  | _ => False
def p2 (g : G2) : Env → List EV → KD → Prop := fun ρ es Kd => match es with
  | [e, e'] => (match dOf ρ e with
    | some d => (match dOf ρ e' with
      | some d' => g d d' (fun o => relP ρ (Kd (.ow o)) [e, e'])
      | none => False)
    | none => False)
  | _ => False
def dsOf (ρ : Env) : List EV → Option (List D)
  | [] => some []
  | e :: es => match dOf ρ e with
    | some d => (match dsOf ρ es with
      | some ds => some (d :: ds)
      | none => none)
    | none => none
def pN (g : GN) : Env → List EV → KD → Prop := fun ρ es Kd => match dsOf ρ es with
  | some ds => g ds (fun o => relP ρ (Kd (.ow o)) es)
  | none => False
def Do1 (K : PySem.W.Frag) (r : V → Hp → VK → Prop) (g : G1) : Prop := ∀ HF H v d P Q, Same HF H → Vw K HF H d v → g d P → (∀ o z HF' H' Az, P o → New K HF H HF' H' o z Az → Q z H') → r v H Q
def Do2 (K : PySem.W.Frag) (r : R2) (g : G2) : Prop := ∀ HF H v v' d d' P Q, Same HF H → Vw K HF H d v → Vw K HF H d' v' → g d d' P → (∀ o z HF' H' Az, P o → New K HF H HF' H' o z Az → Q z H') → r v v' H Q
def DoN (K : PySem.W.Frag) (r : List V → Hp → VK → Prop) (g : GN) : Prop := ∀ HF H vs ds P Q, Same HF H → Vws K HF H ds vs → g ds P → (∀ o z HF' H' Az, P o → New K HF H HF' H' o z Az → Q z H') → r vs H Q
section
variable {K : PySem.W.Frag}
theorem prim1 {r : V → Hp → VK → Prop} {g : G1} (h : Do1 K r g) : Prim K (r1L r) (p1 g) := fun σ HF H ρ A Av evs vs Kd Q w en r q k => by
  match evs, q with
  | [e], q =>
    have r0 := r
    obtain ⟨v, ws, A1, A2, rfl, rfl, r1, r2⟩ := r
    obtain ⟨rfl, rfl⟩ := r2
    have q : (match dOf ρ e with | some d => g d (fun o => relP ρ (Kd (.ow o)) [e]) | none => False) := q
    split at q
    · rename_i d ed
      exact h HF H v d _ Q w.same (Vw.ev w.same en r1 ed) q fun o z HF' H' Az po n => k.newR w en r0 po n
    · exact q.elim
theorem prim2 {r : R2} {g : G2} (h : Do2 K r g) : Prim K (r2L r) (p2 g) := fun σ HF H ρ A Av evs vs Kd Q w en r q k => by
  match evs, q with
  | [e, e'], q =>
    have r0 := r
    obtain ⟨v, ws, A1, A2, rfl, rfl, r1, r2⟩ := r
    obtain ⟨v', ws', A3, A4, rfl, rfl, r3, r4⟩ := r2
    obtain ⟨rfl, rfl⟩ := r4
    have q : (match dOf ρ e with | some d => (match dOf ρ e' with | some d' => g d d' (fun o => relP ρ (Kd (.ow o)) [e, e']) | none => False) | none => False) := q
    split at q
    · rename_i d ed
      split at q
      · rename_i d' ed'
        exact h HF H v v' d d' _ Q w.same (Vw.ev w.same en r1 ed) (Vw.ev w.same en r3 ed') q fun o z HF' H' Az po n => k.newR w en r0 po n
      · exact q.elim
    · exact q.elim
theorem dsOf_ok {HF H : Hp} {ρ : Env} {σ : St} {A : List Addr} (s : Same HF H) (en : EnvR K HF H ρ σ A) : ∀ {es : List EV} {ds : List D} {vs : List V} {Av : List Addr}, EVRs K HF H σ es vs Av → dsOf ρ es = some ds → Vws K HF H ds vs
  | [], ds, vs, Av, r, h => by cases h; exact r.1
  | e :: es, ds, vs, Av, r, h => by
    obtain ⟨v, ws, A1, A2, rfl, rfl, r1, r2⟩ := r
    have h : (match dOf ρ e with | some d => (match dsOf ρ es with | some ds => some (d :: ds) | none => none) | none => none) = some ds := h
    split at h
    · rename_i d ed
      split at h
      · rename_i ds' eds
        cases h
        exact ⟨v, ws, rfl, Vw.ev s en r1 ed, dsOf_ok s en r2 eds⟩
      · cases h
    · cases h
theorem primN {r : List V → Hp → VK → Prop} {g : GN} (h : DoN K r g) : Prim K r (pN g) := fun σ HF H ρ A Av evs vs Kd Q w en r q k => by
  have q : (match dsOf ρ evs with | some ds => g ds (fun o => relP ρ (Kd (.ow o)) evs) | none => False) := q
  split at q
  · rename_i ds ed
    exact h HF H vs ds _ Q w.same (dsOf_ok w.same en r ed) q fun o z HF' H' Az po n => k.newR w en r po n
  · exact q.elim
end
theorem OpR.or {X : Cx} {f : Value → Value → Sem Value} {r r' : R2} (h : OpR X f r) (h' : OpR X f r') : OpR X f (fun x y H Q => r x y H Q ∨ r' x y H Q) := fun pins s σ H x y v u Q I rx ry q => q.elim (h pins s σ H x y v u Q I rx ry) (h' pins s σ H x y v u Q I rx ry)
def gAdd : G2
  | .int i, .int j, P => P (.fz (.int (i + j)))
  | .str a, .str b, P => a.length + b.length ≤ sizeLine ∧ P (.fz (.str (a ++ b)))
  | .lst a, .lst b, P => a.length + b.length ≤ sizeLine ∧ P (.ls (a ++ b))
  | .tup a, .tup b, P => a.length + b.length ≤ sizeLine ∧ P (.fz (.tup (a ++ b)))
  | _, _, _ => False
section
variable {X : Cx} {W : WX} {a b : Expr} {ta tb : TD} {pos : Pos}
theorem ae_add (ha : AE X W a ta) (hb : AE X W b tb) : AE X W (.BinOp a .Add b pos) (t2 (p2 gAdd) ta tb) := by
  refine ae_op (OpR.or op_add (OpR.or op_add_str (OpR.or op_cat op_catA))) (prim2 fun HF H v v' d d' P Q s r r' g k => ?_) ha hb
  unfold gAdd at g
  split at g
  · cases r; cases r'
    exact .inl ⟨_, _, rfl, rfl, k _ _ _ _ _ g (New.imm s rfl)⟩
  · cases r; cases r'
    exact .inr (.inl ⟨_, _, rfl, rfl, g.1, k _ _ _ _ _ g.2 (New.imm s rfl)⟩)
  · obtain ⟨p, vs, rfl, h1, r1⟩ := r
    obtain ⟨p', vs', rfl, h1', r1'⟩ := r'
    exact .inr (.inr (.inl ⟨p, p', vs, vs', rfl, rfl, h1, h1', by rw [r1.length, r1'.length]; exact g.1, fun q hq => k _ _ _ _ _ g.2 (New.lst s hq (r1.append r1'))⟩))
  · obtain ⟨p, vs, rfl, h1, r1⟩ := r
    obtain ⟨p', vs', rfl, h1', r1'⟩ := r'
    refine .inr (.inr (.inr ⟨p, p', vs, vs', rfl, rfl, SqT.of (s _ _ h1), SqT.of (s _ _ h1'), by rw [r1.length, r1'.length]; exact g.1, fun z => ?_, fun _ z => ?_, fun _ _ q hq => k _ _ _ _ _ g.2 (New.tup s hq (r1.append r1'))⟩))
    · subst z
      have : vs'.length = vs'.length := rfl
      have e := r1.length
      rename_i d1 d2
      have hd : d1 = [] := List.eq_nil_of_length_eq_zero e.symm
      subst hd
      exact k _ _ _ _ _ g.2 (New.imm s ⟨p', vs', rfl, h1', r1'⟩)
    · subst z
      have e := r1'.length
      rename_i d1 d2 _
      have hd : d2 = [] := List.eq_nil_of_length_eq_zero e.symm
      subst hd
      exact k (.fz (.tup d1)) _ _ _ _ (by simpa using g.2) (New.imm (d := .tup d1) s ⟨p, vs, rfl, h1, r1⟩)
  · exact g.elim
theorem do2_int {K : PySem.W.Frag} {C : Int → Int → Prop} {f : Int → Int → V} {gd : Int → Int → D} (hr : ∀ i j K H, Rep K H (gd i j) (f i j)) : Do2 K (rI C f) (fun d d' P => match d, d' with
    | .int i, .int j => C i j ∧ P (.fz (gd i j))
    | _, _ => False) := fun HF H v v' d d' P Q s r r' g k => by
  dsimp only at g
  split at g
  · cases r; cases r'
    exact ⟨_, _, rfl, rfl, g.1, k _ _ _ _ _ g.2 (New.imm s (hr _ _ _ _))⟩
  · exact g.elim
theorem do2_int0 {K : PySem.W.Frag} {f : Int → Int → V} {gd : Int → Int → D} (hr : ∀ i j K H, Rep K H (gd i j) (f i j)) : Do2 K (rI0 f) (fun d d' P => match d, d' with
    | .int i, .int j => P (.fz (gd i j))
    | _, _ => False) := fun HF H v v' d d' P Q s r r' g k => by
  dsimp only at g
  split at g
  · cases r; cases r'
    exact ⟨_, _, rfl, rfl, k _ _ _ _ _ g (New.imm s (hr _ _ _ _))⟩
  · exact g.elim
def gI (C : Int → Int → Prop) (gd : Int → Int → D) : G2 := fun d d' P => match d, d' with
    | .int i, .int j => C i j ∧ P (.fz (gd i j))
    | _, _ => False
def gI0 (gd : Int → Int → D) : G2 := fun d d' P => match d, d' with
    | .int i, .int j => P (.fz (gd i j))
    | _, _ => False
theorem ae_sub (ha : AE X W a ta) (hb : AE X W b tb) : AE X W (.BinOp a .Sub b pos) (t2 (p2 (gI0 fun i j => .int (i - j))) ta tb) := ae_op op_sub (prim2 (do2_int0 fun _ _ _ _ => rfl)) ha hb
theorem ae_mod (ha : AE X W a ta) (hb : AE X W b tb) : AE X W (.BinOp a .Mod b pos) (t2 (p2 (gI (fun _ j => 0 < j) fun i j => .int (i % j))) ta tb) := ae_op op_mod (prim2 (do2_int fun _ _ _ _ => rfl)) ha hb
theorem ae_fdiv (ha : AE X W a ta) (hb : AE X W b tb) : AE X W (.BinOp a .FloorDiv b pos) (t2 (p2 (gI CDivW fun i j => .int (i / j))) ta tb) := ae_op op_fdivW (prim2 (do2_int fun _ _ _ _ => rfl)) ha hb
end
end AE
namespace AE
open PySem L2
section
variable {X : Cx} {W : WX} {a b : Expr} {ta tb : TD} {pos : Pos}
theorem ae_mul (ha : AE X W a ta) (hb : AE X W b tb) : AE X W (.BinOp a .Mult b pos) (t2 (p2 (gI CMulW fun i j => .int (i * j))) ta tb) := ae_op op_mulW (prim2 (do2_int fun _ _ _ _ => rfl)) ha hb
def CPowW (i j : Int) : Prop := 0 ≤ j ∧ (Builtin.Int.intBits i : Int) * j ≤ 2 ^ 27
theorem op_powW : OpR X (binaryOp .Pow) (rI CPowW fun i j => .int (i ^ j.toNat)) := opI fun _ _ _ _ _ _ _ hc q => PyProof.Rows.pow_int hc.1 hc.2 q
theorem ae_pow (ha : AE X W a ta) (hb : AE X W b tb) : AE X W (.BinOp a .Pow b pos) (t2 (p2 (gI CPowW fun i j => .int (i ^ j.toNat))) ta tb) := ae_op op_powW (prim2 (do2_int fun _ _ _ _ => rfl)) ha hb
def gNeg : G1 := fun d P => match d with
  | .int i => P (.fz (.int (-i)))
  | _ => False
theorem ae_neg (ha : AE X W a ta) : AE X W (.UnaryOp .USub a pos) (t1 (p1 gNeg) ta) := ae_un un_neg (prim1 fun HF H v d P Q s r g k => by
  unfold gNeg at g
  split at g
  · cases r; exact ⟨_, rfl, k _ _ _ _ _ g (New.imm s rfl)⟩
  · exact g.elim) ha
def gIx : G2 := fun d d' P => match d, d' with
  | .lst ds, .int i => ∃ d, atI ds i = some d ∧ P (.fz d)
  | .tup ds, .int i => ∃ d, atI ds i = some d ∧ P (.fz d)
  | .str z, .int i => z.length ≤ sizeLine ∧ ∃ c, atI z.cps.toList i = some c ∧ P (.fz (.str ⟨#[c]⟩))
  | .scr ns, .int i => ∃ n, atI ns i = some n ∧ P (.fz (.int n))
  | _, _ => False
theorem Reps.atI {K : PySem.W.Frag} {HF : Hp} {ds : List D} {vs : List V} {i : Int} {d : D} (r : Reps K HF ds vs) (h : L2.atI ds i = some d) : ∃ v, L2.atI vs i = some v ∧ Rep K HF d v := by
  unfold L2.atI at h ⊢
  rw [r.length]
  cases e : ixN ds.length i with
  | none => rw [e] at h; cases h
  | some j =>
    rw [e] at h
    exact r.get h
theorem do_ix {K : PySem.W.Frag} : Do2 K (rIx K) gIx := fun HF H v v' d d' P Q s r r' g k => by
  unfold gIx at g
  split at g
  · obtain ⟨p, vs, rfl, h1, r1⟩ := r
    cases r'
    obtain ⟨d1, e1, q⟩ := g
    obtain ⟨w, e2, r2⟩ := r1.atI e1
    exact .inl ⟨p, vs, _, w, rfl, rfl, SqL.of h1, e2, k _ _ _ _ _ q (New.imm s r2)⟩
  · obtain ⟨p, vs, rfl, h1, r1⟩ := r
    cases r'
    obtain ⟨d1, e1, q⟩ := g
    obtain ⟨w, e2, r2⟩ := r1.atI e1
    exact .inr (.inl ⟨p, vs, _, w, rfl, rfl, SqT.of (s _ _ h1), e2, k _ _ _ _ _ q (New.imm s r2)⟩)
  · cases r; cases r'
    obtain ⟨hz, c, e1, q⟩ := g
    exact .inr (.inr ⟨_, _, c, rfl, rfl, hz, e1, k _ _ _ _ _ q (New.imm s rfl)⟩)
  · obtain ⟨p, rfl, h1⟩ := r
    cases r'
    obtain ⟨n, e1, q⟩ := g
    refine .inl ⟨p, _, _, .int n, rfl, rfl, SqL.mono h1 s, ?_, k _ _ _ _ _ q (New.imm s rfl)⟩
    unfold L2.atI at e1 ⊢
    rw [List.length_map]
    rename_i ns i
    cases e : ixN ns.length i with
    | none => rw [e] at e1; cases e1
    | some j =>
      rw [e] at e1
      have e1 : ns[j]? = some n := e1
      show (ns.map V.int)[j]? = some (.int n)
      rw [List.getElem?_map, e1]; rfl
  · exact g.elim
theorem cut_reps {K : PySem.W.Frag} {HF : Hp} : ∀ {ds : List D} {vs : List V}, Reps K HF ds vs → ∀ n, Reps K HF (ds.drop n) (vs.drop n) ∧ Reps K HF (ds.take n) (vs.take n)
  | [], vs, h, n => by obtain rfl : vs = [] := h; simp only [List.drop_nil, List.take_nil]; exact ⟨rfl, rfl⟩
  | d :: ds, vs, h, 0 => ⟨h, rfl⟩
  | d :: ds, vs, h, n + 1 => by
    obtain ⟨v, ws, rfl, r, t⟩ := h
    obtain ⟨h1, h2⟩ := cut_reps t n
    exact ⟨h1, v, ws.take n, rfl, r, h2⟩
def cutD {α : Type} (xs : List α) (lo hi : Option Int) : List α := (xs.drop (HT.sIx xs.length 0 lo)).take (HT.sIx xs.length xs.length hi - HT.sIx xs.length 0 lo)
theorem cutD_reps {K : PySem.W.Frag} {HF : Hp} {ds : List D} {vs : List V} (r : Reps K HF ds vs) (lo hi : Option Int) : Reps K HF (cutD ds lo hi) (cutV vs lo hi) := by
  unfold cutD cutV
  rw [r.length]
  exact (cut_reps (cut_reps r _).1 _).2
theorem cutD_whole {α : Type} {xs : List α} {lo hi : Option Int} (h : HT.sIx xs.length 0 lo = 0 ∧ HT.sIx xs.length xs.length hi = xs.length) : cutD xs lo hi = xs := by
  unfold cutD
  rw [h.1, h.2]; simp
def gSl (lo hi : Option Int) : G1 := fun d P => match d with
  | .lst ds => P (.ls (cutD ds lo hi))
  | .tup ds => P (.fz (.tup (cutD ds lo hi)))
  | .str z => z.length ≤ sizeLine ∧ P (.fz (.str (cutS z lo hi)))
  | _ => False
def rSlU (K : PySem.W.Frag) : V → Option Int → Option Int → Hp → VK → Prop := fun x lo hi H Q => rSlL K x lo hi H Q ∨ rSlA K x lo hi H Q ∨ rSlS x lo hi H Q
theorem SlR.or {r r' : V → Option Int → Option Int → Hp → VK → Prop} (h : SlR X r) (h' : SlR X r') : SlR X (fun x lo hi H Q => r x lo hi H Q ∨ r' x lo hi H Q) := fun pins s σ H x v vl vu lo hi sl Q I rx hs pl pu q => q.elim (h pins s σ H x v vl vu lo hi sl Q I rx hs pl pu) (h' pins s σ H x v vl vu lo hi sl Q I rx hs pl pu)
theorem sl_any : SlR X (rSlU X.K) := SlR.or sl_list (SlR.or sl_tupA sl_str)
theorem do_sl {K : PySem.W.Frag} (lo hi : Option Int) : Do1 K (fun x => rSlU K x lo hi) (gSl lo hi) := fun HF H v d P Q s r g k => by
  unfold gSl at g
  split at g
  · obtain ⟨p, vs, rfl, h1, r1⟩ := r
    exact .inl ⟨p, vs, rfl, SqL.of h1, fun q hq => k _ _ _ _ _ g (New.lst s hq (cutD_reps r1 lo hi))⟩
  · obtain ⟨p, vs, rfl, h1, r1⟩ := r
    refine .inr (.inl ⟨p, vs, rfl, SqT.of (s _ _ h1), fun z => ?_, fun _ q hq => k _ _ _ _ _ g (New.tup s hq (cutD_reps r1 lo hi))⟩)
    rename_i ds
    have z' : cutD ds lo hi = ds := cutD_whole (by rw [← r1.length]; exact z)
    rw [z'] at g
    exact k _ _ _ _ _ g (New.imm s ⟨p, vs, rfl, h1, r1⟩)
  · cases r
    exact .inr (.inr ⟨_, rfl, g.1, k _ _ _ _ _ g.2 (New.imm s rfl)⟩)
  · exact g.elim
abbrev TDo := Env → (Option Int → Env → Prop) → XC → Prop
def KOko (K : PySem.W.Frag) (σ : St) (H HF : Hp) (A : List Addr) (Kd : Option Int → Env → Prop) (Q : Option Int → Hp → Prop) : Prop := ∀ b ρ, Kd b ρ → ∀ HF' H' A', Fr H H' HF HF' A A' → WR HF' H' A' → EnvR K HF' H' ρ σ A' → Q b H'
def tAo (K : PySem.W.Frag) (W : WX) (t : TDo) : TO := fun σ H Q => ∃ HF ρ A Kd Ed, WR HF H A ∧ EnvR K HF H ρ σ A ∧ t ρ Kd Ed ∧ KOko K σ H HF A Kd Q ∧ XOk K σ H HF A Ed W
def AO (X : Cx) (W : WX) (e : Option Expr) (t : TDo) : Prop := PO X e (tAo X.K W t)
theorem PO.imp {e : Option Expr} {t u : TO} (h : PO X e t) (i : ∀ σ H Q, u σ H Q → t σ H Q) : PO X e u := ⟨fun pins s σ H Q I q => h.run pins s σ H Q I (i σ H Q q)⟩
def tNoD : TDo := fun ρ Kd _ => Kd none ρ
def tPartD (t : TD) : TDo := fun ρ Kd Ed => t ρ (fun e ρ1 => match dOf ρ1 e with
  | some (.int i) => Kd (some i) ρ1
  | _ => False) Ed
theorem ao_none : AO X W none tNoD := PO.imp po_none fun σ H Q q => by
  obtain ⟨HF, ρ, A, Kd, Ed, w, en, t, k, x⟩ := q
  exact k none ρ t HF H A .refl w en
theorem ao_some (ha : AE X W a ta) : AO X W (some a) (tPartD ta) := PO.imp (po_some ha) fun σ H Q q => by
  obtain ⟨HF, ρ, A, Kd, Ed, w, en, t, k, x⟩ := q
  refine ⟨HF, ρ, A, _, Ed, w, en, t, fun e1 ρ1 q1 HF1 H1 A1 v1 Av1 f1 w1 en1 r1 => ?_, x⟩
  dsimp only at q1
  split at q1
  · rename_i i e2
    have r2 : Vw X.K HF1 H1 (.int i) v1 := Vw.ev w1.same en1 r1 e2
    exact ⟨i, r2, k (some i) ρ1 q1 HF1 H1 A1 (f1.mono (fun _ hp => hp) fun p hp => .inl (List.mem_append_left _ hp)) w1.left en1⟩
  · exact q1.elim
def tSlD (te : TD) (tl th : TDo) : TD := fun ρ Kd Ed => te ρ (fun e1 ρ1 => tl ρ1 (fun lo ρ2 => th ρ2 (fun hi ρ3 => p1 (gSl lo hi) ρ3 [e1] Kd) Ed) Ed) Ed
theorem ae_slice {lo hi : Option Expr} {tl th : TDo} {p2 : Pos} (ha : AE X W a ta) (hl : AO X W lo tl) (hh : AO X W hi th) : AE X W (.Subscript a (.Slice lo hi none p2) pos) (tSlD ta tl th) := PE.imp (pe_slice sl_any ha hl hh) fun σ H Q q => by
  obtain ⟨HF, ρ, A, Kd, Ed, w, en, t, k, x⟩ := q
  refine ⟨HF, ρ, A, _, Ed, w, en, t, fun e1 ρ1 q1 HF1 H1 A1 v1 Av1 f1 w1 en1 r1 => ?_, x⟩
  have x1 : XOk X.K σ H1 HF1 A1 Ed W := (x.step f1).step (Fr.drop fun p hp => List.mem_append_left _ hp)
  refine ⟨HF1, ρ1, A1, _, Ed, w1.left, en1, q1, fun l ρ2 q2 HF2 H2 A2 f2 w2 en2 => ?_, x1⟩
  refine ⟨HF2, ρ2, A2, _, Ed, w2, en2, q2, fun h ρ3 q3 HF3 H3 A3 f3 w3 en3 => ?_, x1.step f2⟩
  have f23 : Fr H1 H3 HF1 HF3 A1 (A3 ++ []) := by rw [List.append_nil]; exact f2.trans f3
  obtain ⟨w4, f4, k4⟩ := join (Ay := []) w1 (EVR.there r1) f23 (by rw [List.append_nil]; exact w3)
  rw [List.append_nil] at w4 f4
  refine prim1 (do_sl l h) σ HF3 H3 ρ3 A3 Av1 [e1] [v1] Kd Q w4 en3 ⟨v1, [], Av1, [], rfl, by simp, EVR.keep f23.same r1 k4, rfl, rfl⟩ q3 ?_
  exact (k.step f1).step f4
end
def storedD : List EV → Option (List D)
  | [] => some []
  | .ow o :: es => match storedD es with
    | some ds => some (frz o :: ds)
    | none => none
  | .pt _ :: _ => none
  | .tk _ _ _ _ :: _ => none
theorem stored_ok {K : PySem.W.Frag} {HF HG H : Hp} {σ : St} (s : Same HF HG) : ∀ {es : List EV} {vs : List V} {Av : List Addr} {ds : List D}, EVRs K HF H σ es vs Av → storedD es = some ds → (∀ p ∈ Av, HG p = H p) → Reps K HG ds vs
  | [], vs, Av, ds, r, h, k => by cases h; exact r.1
  | .pt _ :: es, vs, Av, ds, r, h, k => by cases h
  | .tk _ _ _ _ :: es, vs, Av, ds, r, h, k => by cases h
  | .ow o :: es, vs, Av, ds, r, h, k => by
    have h : (match storedD es with | some ds => some (frz o :: ds) | none => none) = some ds := h
    split at h
    · rename_i ds' e
      cases h
      obtain ⟨v, ws, A1, A2, rfl, rfl, r1, r2⟩ := r
      exact ⟨v, ws, rfl, RepO.frz s o r1 fun p hp => k p (List.mem_append_left _ hp), stored_ok s r2 e fun p hp => k p (List.mem_append_right _ hp)⟩
    · cases h
section
variable {X : Cx} {W : WX} {es : List Expr} {ts : TDs} {pos : Pos}
def tDisp (mk : List D → O) (ts : TDs) : TD := fun ρ Kd Ed => ts ρ (fun evs ρ1 => match storedD evs with
  | some ds => ds.length ≤ sizeLine ∧ Kd (.ow (mk ds)) ρ1
  | none => False) Ed
theorem disp_ok {K : PySem.W.Frag} {σ : St} {HF1 H1 : Hp} {ρ1 : Env} {A1 Av : List Addr} {evs : List EV} {vs : List V} {ds : List D} {Kd : KD} {Q : VK} {o : O} {u : HO} (w1 : WR HF1 H1 (A1 ++ Av)) (en1 : EnvR K HF1 H1 ρ1 σ A1) (r1 : EVRs K HF1 H1 σ evs vs Av) (e : storedD evs = some ds)
    (q : Kd (.ow o) ρ1) (k : KOk K σ H1 HF1 (A1 ++ Av) Kd Q) (hn : ∀ HG, Same HG H1 → Reps K HG ds vs → ∀ p, H1 p = none → ∃ HF' H' Az, H' = upd H1 p u ∧ New K HG H1 HF' H' o (.ref p) Az) : ∀ p, H1 p = none → Q (.ref p) (upd H1 p u) := fun p hp => by
  obtain ⟨s1, w2, f2⟩ := grow_ok (w1.perm List.perm_append_comm)
  have rs : Reps K (grow HF1 H1 Av) ds vs := stored_ok s1 r1 e fun p hp => grow_in hp
  have f3 : Fr H1 H1 HF1 (grow HF1 H1 Av) (A1 ++ Av) (A1 ++ []) := f2.mono (fun p hp => (List.mem_append.mp hp).elim (fun z => List.mem_append_right _ z) (fun z => List.mem_append_left _ z)) fun p hp => .inl (by simpa using hp)
  obtain ⟨HF', H', Az, rfl, n⟩ := hn _ w2.same rs p hp
  exact (k.step f3).new (Av := []) (by rw [List.append_nil]; exact w2) (EnvR.keep s1 _ en1 fun _ _ => rfl) q n
theorem ae_tup {x1} (h : AA X W es ts) : AE X W (.Tuple es x1 pos) (tDisp (fun ds => .fz (.tup ds)) ts) := PE.imp (pe_tup h) fun σ H Q q => by
  obtain ⟨HF, ρ, A, Kd, Ed, w, en, t, k, x⟩ := q
  refine ⟨HF, ρ, A, _, Ed, w, en, t, fun evs ρ1 q1 HF1 H1 A1 vs Av f1 w1 en1 r1 => ?_, x⟩
  dsimp only at q1
  split at q1
  · rename_i ds e
    have hl : vs.length = ds.length := (stored_ok (HG := grow HF1 H1 Av) (grow_ok (w1.perm List.perm_append_comm)).1 r1 e fun p hp => grow_in hp).length
    exact ⟨by rw [hl]; exact q1.1, disp_ok w1 en1 r1 e q1.2 (k.step f1) fun HG s rs p hp => ⟨_, _, _, rfl, New.tup s hp rs⟩⟩
  · exact q1.elim
theorem ae_lst (h : AA X W es ts) : AE X W (.List es pos) (tDisp (fun ds => .ls ds) ts) := PE.imp (pe_lst h) fun σ H Q q => by
  obtain ⟨HF, ρ, A, Kd, Ed, w, en, t, k, x⟩ := q
  refine ⟨HF, ρ, A, _, Ed, w, en, t, fun evs ρ1 q1 HF1 H1 A1 vs Av f1 w1 en1 r1 => ?_, x⟩
  dsimp only at q1
  split at q1
  · rename_i ds e
    have hl : vs.length = ds.length := (stored_ok (HG := grow HF1 H1 Av) (grow_ok (w1.perm List.perm_append_comm)).1 r1 e fun p hp => grow_in hp).length
    exact ⟨by rw [hl]; exact q1.1, disp_ok w1 en1 r1 e q1.2 (k.step f1) fun HG s rs p hp => ⟨_, _, _, rfl, New.lst s hp rs⟩⟩
  · exact q1.elim
end
end AE
namespace AE
open PySem L2
def SrcR (K : PySem.W.Frag) (HF H : Hp) (items : List D) (Av : List Addr) (J : It) : Prop := ∃ G Y, Walk J items.length G Y ∧ (∀ HF2 H2, Same HF HF2 → Same HF2 H2 → (∀ p ∈ Av, H2 p = H p) → G H2) ∧
  ∀ i HF2 H2 x H3, Same HF HF2 → Same HF2 H2 → (∀ p ∈ Av, H2 p = H p) → i < items.length → Y i H2 x H3 → ∃ d HF3, items[i]? = some d ∧ Fr H2 H3 HF2 HF3 [] [] ∧ Same HF3 H3 ∧ Rep K HF3 d x
abbrev TId := Env → (List D → Env → Prop) → XC → Prop
def tAI (K : PySem.W.Frag) (W : WX) (t : TId) : TI := fun σ H R => ∃ HF ρ A Kd Ed, WR HF H A ∧ EnvR K HF H ρ σ A ∧ t ρ Kd Ed ∧
  (∀ items ρ', Kd items ρ' → ∀ HF' H' A' Av J, Fr H H' HF HF' A (A' ++ Av) → WR HF' H' (A' ++ Av) → (∀ p ∈ Av, ∃ o, H' p = some o) → EnvR K HF' H' ρ' σ A' → SrcR K HF' H' items Av J → R J H') ∧ XOk K σ H HF A Ed W
def AI (X : Cx) (W : WX) (tg iter : Expr) (t : TId) : Prop := PI X tg iter (tAI X.K W t)
theorem PI.imp {X : Cx} {tg iter : Expr} {t u : TI} (h : PI X tg iter t) (i : ∀ σ H R, u σ H R → t σ H R) : PI X tg iter u := ⟨fun pins s σ H R I q => h.run pins s σ H R I (i σ H R q)⟩
def tISeq (te : TD) : TId := fun ρ Kd Ed => te ρ (fun ev ρ1 => match ev with
  | .ow (.fz (.lst ds)) => Kd ds ρ1
  | .ow (.fz (.tup ds)) => Kd ds ρ1
  | .ow (.fz (.kt ds)) => Kd ds ρ1
  | .ow (.ls ds) => Kd ds ρ1
  | .ow (.fz (.str z)) => Kd (z.cps.toList.map fun c => .str ⟨#[c]⟩) ρ1
  | _ => False) Ed
section
variable {X : Cx} {W : WX} {tg l : Expr} {te : TD}
theorem src_at {K : PySem.W.Frag} {HF H : Hp} {ds : List D} {vs : List V} {Av : List Addr} {J : It} {G : Hp → Prop} (w : Walk J vs.length G (YAt vs)) (r : Reps K HF ds vs) (hG : ∀ HF2 H2, Same HF HF2 → Same HF2 H2 → (∀ p ∈ Av, H2 p = H p) → G H2) : SrcR K HF H ds Av J := by
  refine ⟨G, YAt vs, by rw [← r.length]; exact w, hG, fun i HF2 H2 x H3 s1 s2 k hi y => ?_⟩
  obtain ⟨rfl, hx⟩ := y
  obtain ⟨d, hd, rd⟩ := r.getV hx
  exact ⟨d, HF2, hd, Fr.refl, s2, Rep.mono s1 d rd⟩
def iAny (K : PySem.W.Frag) (tl : TE) : TI := fun σ H R => tl σ H fun x H1 => (∃ a, x = .ref a ∧ (∃ xs, SqL K H1 a xs) ∧ R (Itl K a) H1) ∨ (∃ a, x = .ref a ∧ (∃ xs, SqT K H1 a xs) ∧ R (Itt K a) H1) ∨ ∃ z, x = .str z ∧ R (Its z) H1
theorem pi_any {tl : TE} (hl : PE X l tl) : PI X tg l (iAny X.K tl) := by
  refine ⟨fun pins s σ H R I h => ?_⟩
  refine thn (hl.run pins s σ H _ I h) fun v s1 ⟨x, H1, I1, r1, q1⟩ => ?_
  rcases q1 with ⟨a, e, ⟨xs, hq⟩, q⟩ | ⟨a, e, ⟨xs, hq⟩, q⟩ | ⟨z, e, q⟩
  · subst e
    cases r1
    obtain ⟨its, rv, p, hz⟩ := I1.list hq
    refine wpAny_pyIter_list p.isList ?_
    refine ⟨s1.heap.objs.size, [s1.heap.objs.size], _, _, H1, rfl, I1.kept (t' := s1.toks) fun b o e => Heap.get?_push_of_some _ e, turn_list a _, ⟨_, Heap.get?_push_size _ rfl, rfl, rfl⟩, fun b hb => ?_, q⟩
    have e : b = s1.heap.objs.size := by simpa using hb
    subst e
    exact I1.fpOk (Nat.le_refl _) (I1.hok.fresh (Nat.le_refl _))
  · subst e
    cases r1
    obtain ⟨its, rv, p, hz⟩ := I1.tuple hq
    refine wpAny_pyIter_tuple (show s1.heap.IsTuple a its.toArray from p) ?_
    refine ⟨s1.heap.objs.size, [s1.heap.objs.size], _, _, H1, rfl, I1.kept (t' := s1.toks) fun b o e => Heap.get?_push_of_some _ e, turn_tuple a _, ⟨_, Heap.get?_push_size _ rfl, rfl, rfl⟩, fun b hb => ?_, q⟩
    have e : b = s1.heap.objs.size := by simpa using hb
    subst e
    exact I1.fpOk (Nat.le_refl _) (I1.hok.fresh (Nat.le_refl _))
  · subst e
    obtain ⟨t, rfl⟩ := r1
    cases ha : z.cps.all (· < 128)
    · exact wpAny_pyIter_wide ha (pi_one (tk := s1.toks) I1 _ (turn_str _ z t "str_iterator" (.inr rfl)) ⟨_, Heap.get?_push_size _ rfl, rfl, rfl⟩ q)
    · exact wpAny_pyIter_ascii ha (pi_one (tk := s1.toks) I1 _ (turn_str _ z t "str_ascii_iterator" (.inl rfl)) ⟨_, Heap.get?_push_size _ rfl, rfl, rfl⟩ q)
theorem ai_seq (hl : AE X W l te) : AI X W tg l (tISeq te) := PI.imp (pi_any hl) fun σ H R q => by
  obtain ⟨HF, ρ, A, Kd, Ed, w, en, t, k, x⟩ := q
  refine ⟨HF, ρ, A, _, Ed, w, en, t, fun ev ρ1 q1 HF1 H1 A1 v Av f1 w1 en1 r1 => ?_, x⟩
  dsimp only at q1
  split at q1
  · obtain ⟨rfl, a, vs, rfl, h1, rs⟩ := r1
    refine .inl ⟨a, rfl, ⟨vs, SqL.of (w1.same _ _ h1)⟩, k _ ρ1 q1 HF1 H1 A1 [] _ f1 w1 (fun _ h => by cases h) en1 (src_at (walk_list (xs := vs)) rs fun HF2 H2 s1 s2 _ => SqL.of (s2 _ _ (s1 _ _ h1)))⟩
  · obtain ⟨rfl, a, vs, rfl, h1, rs⟩ := r1
    refine .inr (.inl ⟨a, rfl, ⟨vs, SqT.of (w1.same _ _ h1)⟩, k _ ρ1 q1 HF1 H1 A1 [] _ f1 w1 (fun _ h => by cases h) en1 (src_at (walk_tup (xs := vs)) rs fun HF2 H2 s1 s2 _ => SqT.of (s2 _ _ (s1 _ _ h1)))⟩)
  · obtain ⟨rfl, a, vs, rfl, h1, rs⟩ := r1
    refine .inr (.inl ⟨a, rfl, ⟨vs, SqT.mono h1 w1.same⟩, k _ ρ1 q1 HF1 H1 A1 [] _ f1 w1 (fun _ h => by cases h) en1 (src_at (walk_tup (xs := vs)) rs fun HF2 H2 s1 s2 _ => SqT.mono (SqT.mono h1 s1) s2)⟩)
  · obtain ⟨a, vs, rfl, rfl, h1, rs⟩ := r1
    refine .inl ⟨a, rfl, ⟨vs, SqL.of h1⟩, k _ ρ1 q1 HF1 H1 A1 [a] _ f1 w1 (fun p hp => by rw [List.mem_singleton.mp hp]; exact ⟨_, h1⟩) en1 (src_at (walk_list (xs := vs)) rs fun HF2 H2 s1 s2 k2 => SqL.of ((k2 a (by simp)).trans h1))⟩
  · obtain ⟨rfl, rfl⟩ := r1
    rename_i z
    refine .inr (.inr ⟨z, rfl, k _ ρ1 q1 HF1 H1 A1 [] _ f1 w1 (fun _ h => by cases h) en1 ⟨_, _, (by rw [List.length_map, Array.length_toList]; exact walk_str), fun _ _ _ _ _ => trivial, fun i HF2 H2 y H3 s1 s2 _ hi yy => ?_⟩⟩)
    obtain ⟨rfl, c, hc, rfl⟩ := yy
    refine ⟨.str ⟨#[c]⟩, HF2, ?_, Fr.refl, s2, rfl⟩
    rw [List.getElem?_map, Array.getElem?_toList, hc]; rfl
  · exact q1.elim
def rngD (lo : Int) (n : Nat) : List D := (List.range n).map fun i => .int (lo + (i : Nat))
theorem rngD_len {lo : Int} {n : Nat} : (rngD lo n).length = n := by simp [rngD]
theorem src_range {K : PySem.W.Frag} {HF H : Hp} {Av : List Addr} {lo : Int} {n : Nat} : SrcR K HF H (rngD lo n) Av (Itr lo n) := by
  refine ⟨_, _, (by rw [rngD_len]; exact walk_range), fun _ _ _ _ _ => trivial, fun i HF2 H2 y H3 s1 s2 _ hi yy => ?_⟩
  obtain ⟨rfl, rfl⟩ := yy
  rw [rngD_len] at hi
  exact ⟨.int (lo + (i : Nat)), HF2, by simp [rngD, hi], Fr.refl, s2, rfl⟩
def tIRng1 (ts : TDs) : TId := fun ρ Kd Ed => ts ρ (fun evs ρ1 => match dsOf ρ1 evs with
  | some [.int j] => -(2 ^ 62) ≤ j ∧ j < 2 ^ 62 ∧ Kd (rngD 0 j.toNat) ρ1
  | _ => False) Ed
theorem Vws.one {K : PySem.W.Frag} {HF H : Hp} {d : D} {vs : List V} (h : Vws K HF H [d] vs) : ∃ v, vs = [v] ∧ Vw K HF H d v := by
  obtain ⟨v, ws, rfl, r, rfl⟩ := h
  exact ⟨v, rfl, r⟩
theorem Vws.two {K : PySem.W.Frag} {HF H : Hp} {d d' : D} {vs : List V} (h : Vws K HF H [d, d'] vs) : ∃ v v', vs = [v, v'] ∧ Vw K HF H d v ∧ Vw K HF H d' v' := by
  obtain ⟨v, ws, rfl, r, v', ws', rfl, r', rfl⟩ := h
  exact ⟨v, v', rfl, r, r'⟩
theorem ai_range1 {a : Expr} {ts : TDs} {p pos : Pos} (hg : Gl X "range") (hm : X.mg "range" = none) (ha : AA X W [a] ts) (hs : starEach [a] X.env = [(false, eval a X.env)] := by rfl) : AI X W tg (.Call (.Name "range" p) [a] [] pos) (tIRng1 ts) := PI.imp (pi_range1 hg hm ha hs) fun σ H R q => by
  obtain ⟨HF, ρ, A, Kd, Ed, w, en, t, k, x⟩ := q
  refine ⟨HF, ρ, A, _, Ed, w, en, t, fun evs ρ1 q1 HF1 H1 A1 vs Av f1 w1 en1 r1 => ?_, x⟩
  dsimp only at q1
  split at q1
  · rename_i j e
    obtain ⟨v, rfl, rv⟩ := (dsOf_ok w1.same en1 r1 e).one
    cases (show v = .int j from rv)
    exact ⟨j, rfl, q1.1, q1.2.1, k _ ρ1 q1.2.2 HF1 H1 A1 [] _ (f1.mono (fun _ h => h) fun p hp => .inl (List.mem_append_left _ (by simpa using hp))) (by rw [List.append_nil]; exact w1.left) (fun _ h => by cases h) en1 src_range⟩
  · exact q1.elim
def tForD (ti : TId) (g : TGD) (tb : TSD) : TSD := fun E Ed ρ => ti ρ (fun items ρ1 => ∃ I : Nat → Env → Prop, I 0 ρ1 ∧
  (∀ i d ρ, items[i]? = some d → I i ρ → g (.fz d) ρ (fun ρ2 => tb { E with nx := I (i + 1), ct := I (i + 1), bk := E.nx } Ed ρ2)) ∧ ∀ ρ, I items.length ρ → E.nx ρ) Ed
theorem as_for {P : Prot} {iter : Expr} {body : List Stmt} {ti : TId} {g : TGD} {tb : TSD} {pos : Pos} (hp : PassesOwn (model X.prog X.w) X.A X.env X.xe) (hc : X.calm = true) (hi : AI X W tg iter ti) (hg : AG X P tg g) (hb : ASs X W P body tb)
    (hs : ∀ x, foldedSetIterable iter X.env x = pure x := by intro _; rfl) : AS X W P (.For tg iter body [] pos) (tForD ti g tb) := PS.imp (ps_for hp hc hi hg hb hs) fun D σ H q => by
  obtain ⟨HF, ρ, A, E, Ed, w, en, t, k, x⟩ := q
  refine ⟨HF, ρ, A, _, Ed, w, en, t, fun items ρ1 q1 HF1 H1 A1 Av J f1 w1 tv en1 src => ?_, x.x⟩
  obtain ⟨I, i0, turn, fin⟩ := q1
  obtain ⟨G, Y, wk, hG, hY⟩ := src
  have st : ∀ {HF2 H2 : Hp} {A2 : List Addr}, Fr H1 H2 HF1 HF2 A1 A2 → WR HF2 H2 A2 → WR HF2 H2 (A2 ++ Av) ∧ Fr H1 H2 HF1 HF2 (A1 ++ Av) (A2 ++ Av) ∧ ∀ p ∈ Av, H2 p = H1 p := fun {HF2 H2 A2} f2 w2 => by
    have := join (Ay := []) w1 tv (A2 := A2) (by rw [List.append_nil]; exact f2) (by rw [List.append_nil]; exact w2)
    simpa using this
  refine for_it wk (fun i σ2 H2 => ∃ HF2 ρ2 A2, Pr P σ σ2 ∧ Fr H1 H2 HF1 HF2 A1 A2 ∧ WR HF2 H2 A2 ∧ EnvR X.K HF2 H2 ρ2 σ2 A2 ∧ I i ρ2) ⟨HF1, ρ1, A1, .refl, .refl, w1.left, en1, i0⟩ ?_ ?_ ?_
  · rintro i σ2 H2 hi ⟨HF2, ρ2, A2, p2, f2, w2, en2, i2⟩
    exact hG HF2 H2 f2.same w2.same (st f2 w2).2.2
  · rintro i y σ2 H2 H3 hi ⟨HF2, ρ2, A2, p2, f2, w2, en2, i2⟩ yy
    obtain ⟨d, HF3, hd, f3, s3, rd⟩ := hY i HF2 H2 y H3 f2.same w2.same (st f2 w2).2.2 hi yy
    obtain ⟨k1, k2, k3⟩ := f3.frame (EnvR.there _ en2) (fun _ _ h => by cases h)
    have w3 : WR HF3 H3 A2 := ⟨s3, w2.nodup, fun a ha => k2 a ha (w2.out a ha)⟩
    have f23 : Fr H2 H3 HF2 HF3 A2 A2 := f3.mono (fun _ h => by cases h) fun p hp => .inr hp
    have f13 := f2.trans f23
    have fH : ∀ {H4 HF4 : Hp} {A4 : List Addr}, Fr H1 H4 HF1 HF4 A1 A4 → Fr H H4 HF HF4 A A4 := fun f => f1.trans (f.mono (fun p hp => List.mem_append_left _ hp) fun p hp => .inl hp)
    refine ⟨HF3, ρ2, A2, .fz d, [], _, by rw [List.append_nil]; exact w3, EnvR.keep f3.same _ en2 k1, ⟨rfl, rd⟩, turn i d ρ2 hd i2, fun ρ4 q4 HF4 H4 σ4 A4 p4 f4 w4 en4 => ?_⟩
    rw [List.append_nil] at f4
    have f14 := f13.trans f4
    refine ⟨HF4, ρ4, A4, _, Ed, w4, en4, q4, ⟨fun ρ5 n5 HF5 H5 σ5 A5 p5 f5 w5 en5 => ⟨HF5, ρ5, A5, (p2.trans p4).trans p5, f14.trans f5, w5, en5, n5⟩, ?_, ?_, fun ρ5 n5 HF5 H5 σ5 A5 p5 f5 w5 en5 => ⟨HF5, ρ5, A5, (p2.trans p4).trans p5, f14.trans f5, w5, en5, n5⟩⟩, ?_⟩
    · exact k.rt.step (p2.trans p4) (fH f14)
    · exact k.nx.step (p2.trans p4) (fH f14)
    · exact x.step (p2.trans p4) (fH f14)
  · rintro σ2 H2 ⟨HF2, ρ2, A2, p2, f2, w2, en2, i2⟩
    exact k.nx ρ2 (fin ρ2 i2) HF2 H2 σ2 A2 p2 (f1.trans (f2.mono (fun p hp => List.mem_append_left _ hp) fun p hp => .inl hp)) w2 en2
end
def wipeD (ρ : Env) : List Nat → Env
  | [] => ρ
  | v :: vs => (wipeD ρ vs).set v none
def backL (ρ0 ρ : Env) : List Nat → Env
  | [] => ρ
  | v :: vs => (backL ρ0 ρ vs).set v (match ρ0[v]? with | some x => x | none => none)
def WF : WX := fun _ _ _ _ => False
def NoX : XC := fun _ _ => False
def butP (vs : List Nat) : Prot := fun j => !(vs.contains j)
def tLcD (ti : TId) (vs : List Nat) (g : TGD) (tt : TDt) (te : TD) : TD := fun ρ Kd Ed => ti ρ (fun items ρ1 => ∃ I : Nat → List D → Env → Prop, I 0 [] (wipeD ρ1 vs) ∧
  (∀ i d acc ρ, items[i]? = some d → I i acc ρ → g (.fz d) ρ (fun ρ2 => tt ρ2 (fun b ρ3 => if b = true then te ρ3 (fun ev ρ4 => match ev with
    | .ow o => acc.length < sizeLine ∧ I (i + 1) (acc ++ [frz o]) (wipeD ρ4 vs)
    | .pt _ => False
    | .tk _ _ _ _ => False) NoX else I (i + 1) acc (wipeD ρ3 vs)) NoX)) ∧
  ∀ acc ρ, I items.length acc ρ → Kd (.ow (.ls acc)) (backL ρ1 ρ vs)) Ed
theorem wipe_eq {σ σ2 : St} {vs : List Nat} (hl : σ2.length = σ.length) (h : ∀ j, vs.contains j = false → σ2[j]? = σ[j]?) : wipe σ2 vs = wipe σ vs := by
  have key : ∀ (l : List Nat) (j : Nat), (wipe σ2 l)[j]? = if l.contains j = true ∧ j < σ.length then some none else σ2[j]? := by
    intro l
    induction l with
    | nil => intro j; simp [wipe]
    | cons v l ih =>
      intro j
      show ((wipe σ2 l).set v none)[j]? = _
      by_cases hj : v = j
      · subst hj
        by_cases hv : v < σ.length
        · rw [List.getElem?_set_self (by rw [wipe_length, hl]; exact hv)]; simp [hv]
        · rw [List.getElem?_eq_none (by rw [List.length_set, wipe_length, hl]; omega)]; simp [hv]; omega
      · rw [List.getElem?_set_ne hj, ih j]
        have : (v :: l).contains j = l.contains j := by simp [List.contains_cons, Ne.symm hj]
        rw [this]
  have key' : ∀ (l : List Nat) (j : Nat), (wipe σ l)[j]? = if l.contains j = true ∧ j < σ.length then some none else σ[j]? := by
    intro l
    induction l with
    | nil => intro j; simp [wipe]
    | cons v l ih =>
      intro j
      show ((wipe σ l).set v none)[j]? = _
      by_cases hj : v = j
      · subst hj
        by_cases hv : v < σ.length
        · rw [List.getElem?_set_self (by rw [wipe_length]; exact hv)]; simp [hv]
        · rw [List.getElem?_eq_none (by rw [List.length_set, wipe_length]; omega)]; simp [hv]
      · rw [List.getElem?_set_ne hj, ih j]
        have : (v :: l).contains j = l.contains j := by simp [List.contains_cons, Ne.symm hj]
        rw [this]
  apply List.ext_getElem?
  intro j
  rw [key, key']
  by_cases hc : vs.contains j = true
  · by_cases hj : j < σ.length
    · rw [if_pos ⟨hc, hj⟩, if_pos ⟨hc, hj⟩]
    · have e1 : σ2[j]? = none := List.getElem?_eq_none (by omega)
      have e2 : σ[j]? = none := List.getElem?_eq_none (by omega)
      simp [hj, e1, e2]
  · have hc' : vs.contains j = false := by simpa using hc
    rw [h j hc']
end AE
namespace AE
open PySem L2
section
variable {K : PySem.W.Frag} {HF H : Hp}
theorem EnvR.anyS : ∀ {ρ : Env} {σ : St} {A : List Addr} {v : Nat} {x : Option V}, EnvR K HF H ρ σ A → ρ[v]? = some none → EnvR K HF H ρ (σ.set v x) A
  | [], σ, A, v, x, h, e => by simp at e
  | none :: ρ, σ, A, 0, x, h, e => by obtain ⟨s', r, rfl, q⟩ := h; exact ⟨x, r, rfl, q⟩
  | some o :: ρ, σ, A, 0, x, h, e => by simp at e
  | none :: ρ, σ, A, v + 1, x, h, e => by obtain ⟨s', r, rfl, q⟩ := h; exact ⟨s', _, rfl, EnvR.anyS q (by simpa using e)⟩
  | some o :: ρ, σ, A, v + 1, x, h, e => by obtain ⟨w, r, A1, A2, rfl, rfl, q, t⟩ := h; exact ⟨w, _, A1, A2, rfl, rfl, q, EnvR.anyS t (by simpa using e)⟩
def atE (ρ : Env) (v : Nat) : Option O := match ρ[v]? with
  | some x => x
  | none => none
theorem hole1 {ρ : Env} {σ : St} {A : List Addr} {v : Nat} (en : EnvR K HF H ρ σ A) (hv : v < ρ.length) : ∃ C B, A.Perm (C ++ B) ∧ (∀ p ∈ B, ∃ o, H p = some o) ∧ EnvR K HF H (ρ.set v none) (σ.set v none) C ∧
    ∀ HF2 H2 ρ2 A2, Same HF HF2 → (∀ p ∈ B, H2 p = H p) → EnvR K HF2 H2 ρ2 (σ.set v none) A2 → ρ2[v]? = some none → ∃ A3, A3.Perm (A2 ++ B) ∧ EnvR K HF2 H2 (ρ2.set v (atE ρ v)) σ A3 := by
  have hσ : ∃ x, σ[v]? = some x := by
    have := en.length
    exact ⟨σ[v]'(by omega), by simp⟩
  obtain ⟨x, hx⟩ := hσ
  have back : (σ.set v none).set v x = σ := by rw [List.set_set, set_get hx]
  cases e : ρ[v]? with
  | none => exact absurd (List.getElem?_eq_none_iff.mp e) (by omega)
  | some oo =>
    cases oo with
    | none =>
      refine ⟨A, [], by simp, fun _ h => (by cases h), ?_, fun HF2 H2 ρ2 A2 s k en2 e2 => ⟨A2, by simp, ?_⟩⟩
      · rw [set_get e]; exact EnvR.anyS en e
      · have : atE ρ v = none := by unfold atE; rw [e]
        rw [this, set_get e2]
        have := EnvR.anyS (x := x) en2 e2
        rwa [back] at this
    | some o =>
      obtain ⟨w, B, C, h1, h2, h3, h4⟩ := en.get e
      refine ⟨C, B, h3.trans List.perm_append_comm, RepO.there o h2, EnvR.anyS h4 (by rw [List.getElem?_set_self hv]), fun HF2 H2 ρ2 A2 s k en2 e2 => ?_⟩
      have : atE ρ v = some o := by unfold atE; rw [e]
      rw [this]
      have hv2 : v < ρ2.length := (List.getElem?_eq_some_iff.mp e2).1
      obtain ⟨A3, pm, en3⟩ := EnvR.put (ρ := ρ2) (i := v) (o := o) (v := w) (by rw [set_get e2]; exact en2) hv2 (RepO.keep s o h2 k)
      refine ⟨A3, pm.trans List.perm_append_comm, ?_⟩
      rw [List.set_set, set_get h1] at en3
      exact en3
theorem wipeD_length (ρ : Env) : ∀ vs : List Nat, (wipeD ρ vs).length = ρ.length
  | [] => rfl
  | v :: vs => by show ((wipeD ρ vs).set v none).length = _; rw [List.length_set, wipeD_length ρ vs]
theorem wipeD_none (ρ : Env) : ∀ {vs : List Nat} {v : Nat}, v ∈ vs → v < ρ.length → (wipeD ρ vs)[v]? = some none
  | u :: vs, v, h, hl => by
    show ((wipeD ρ vs).set u none)[v]? = _
    by_cases e : u = v
    · subst e; rw [List.getElem?_set_self (by rw [wipeD_length]; exact hl)]
    · rw [List.getElem?_set_ne e]
      exact wipeD_none ρ ((List.mem_cons.mp h).resolve_left (Ne.symm e)) hl
theorem wipeD_out (ρ : Env) : ∀ {vs : List Nat} {v : Nat}, v ∉ vs → (wipeD ρ vs)[v]? = ρ[v]?
  | [], v, h => rfl
  | u :: vs, v, h => by
    show ((wipeD ρ vs).set u none)[v]? = _
    rw [List.getElem?_set_ne (fun e => h (by simp [e]))]
    exact wipeD_out ρ fun z => h (List.mem_cons_of_mem _ z)
theorem holes {ρ : Env} {σ : St} {A : List Addr} (en : EnvR K HF H ρ σ A) : ∀ (vs : List Nat), vs.Nodup → (∀ v ∈ vs, v < ρ.length) → ∃ C B, A.Perm (C ++ B) ∧ (∀ p ∈ B, ∃ o, H p = some o) ∧ EnvR K HF H (wipeD ρ vs) (wipe σ vs) C ∧
    ∀ HF2 H2 ρ2 A2, Same HF HF2 → (∀ p ∈ B, H2 p = H p) → EnvR K HF2 H2 ρ2 (wipe σ vs) A2 → (∀ v ∈ vs, ρ2[v]? = some none) → ∃ A3, A3.Perm (A2 ++ B) ∧ EnvR K HF2 H2 (backL ρ ρ2 vs) σ A3
  | [], nd, hv => ⟨A, [], by simp, fun _ h => (by cases h), en, fun HF2 H2 ρ2 A2 s k en2 _ => ⟨A2, by simp, en2⟩⟩
  | v :: vs, nd, hv => by
    obtain ⟨C, B, pm, tB, en1, back1⟩ := holes en vs (List.nodup_cons.mp nd).2 fun u hu => hv u (List.mem_cons_of_mem _ hu)
    have hn : v ∉ vs := (List.nodup_cons.mp nd).1
    obtain ⟨C2, B2, pm2, tB2, en2, back2⟩ := hole1 (v := v) en1 (by rw [wipeD_length]; exact hv v (by simp))
    refine ⟨C2, B2 ++ B, ?_, fun p hp => (List.mem_append.mp hp).elim (tB2 p) (tB p), en2, fun HF2 H2 ρ2 A2 s k en3 e3 => ?_⟩
    · refine pm.trans ((List.Perm.append_right B pm2).trans ?_)
      rw [List.append_assoc]
    · obtain ⟨A3, pm3, en4⟩ := back2 HF2 H2 ρ2 A2 s (fun p hp => k p (List.mem_append_left _ hp)) en3 (e3 v (by simp))
      have at1 : atE (wipeD ρ vs) v = atE ρ v := by unfold atE; rw [wipeD_out ρ hn]
      rw [at1] at en4
      obtain ⟨A4, pm4, en5⟩ := back1 HF2 H2 (ρ2.set v (atE ρ v)) A3 s (fun p hp => k p (List.mem_append_right _ hp)) en4 fun u hu => by
        rw [List.getElem?_set_ne (show v ≠ u from fun e => hn (e ▸ hu))]
        exact e3 u (List.mem_cons_of_mem _ hu)
      have ee : ∀ (l : List Nat), v ∉ l → backL ρ (ρ2.set v (atE ρ v)) l = (backL ρ ρ2 l).set v (atE ρ v) := by
        intro l
        induction l with
        | nil => intro _; rfl
        | cons u l ih =>
          intro h
          show (backL ρ (ρ2.set v (atE ρ v)) l).set u _ = ((backL ρ ρ2 l).set u _).set v _
          rw [ih fun z => h (List.mem_cons_of_mem _ z)]
          exact List.set_comm _ _ (fun e => h (by simp [e]))
      rw [ee vs hn] at en5
      refine ⟨A4, pm4.trans ?_, en5⟩
      refine (List.Perm.append_right B pm3).trans ?_
      rw [List.append_assoc]
end
def ATs (X : Cx) (W : WX) (ifs : List Expr) (t : TDt) : Prop := PTs X ifs (tAt X.K W t)
theorem PTs.imp {X : Cx} {es : List Expr} {t u : TT} (h : PTs X es t) (i : ∀ σ H Q, u σ H Q → t σ H Q) : PTs X es u := ⟨fun pins s σ H Q I q => h.run pins s σ H Q I (i σ H Q q)⟩
def tYesD : TDt := fun ρ Kd _ => Kd true ρ
section
variable {X : Cx} {W : WX}
theorem ats_nil : ATs X W [] tYesD := PTs.imp pts_nil fun σ H Q q => by
  obtain ⟨HF, ρ, A, Kd, Ed, w, en, t, k, x⟩ := q
  exact k true ρ t HF H A .refl w en
theorem ats_one {c : Expr} {t : TDt} (h : AT X W c t) : ATs X W [c] t := pts_one h
theorem PE.impL {X : Cx} {e : Expr} {t u : TE} (h : PE X e t) (i : ∀ σ H Q, σ.length = X.N.length → u σ H Q → t σ H Q) : PE X e u := ⟨fun pins s σ H Q I q => h.run pins s σ H Q I (i σ H Q I.len q)⟩
theorem hold {H2 H6 HF2 HF6 : Hp} {A2 A6 : List Addr} {D : Addr} {u : HO} (w : WR HF2 H2 (A2 ++ [D])) (hD : H2 D = some u) (f : Fr H2 H6 HF2 HF6 A2 A6) (w6 : WR HF6 H6 A6) : H6 D = some u ∧ WR HF6 H6 (A6 ++ [D]) ∧ Fr H2 H6 HF2 HF6 (A2 ++ [D]) (A6 ++ [D]) := by
  have := join (Ay := []) (A2 := A6) w (fun p hp => by rw [List.mem_singleton.mp hp]; exact ⟨_, hD⟩) (by rw [List.append_nil]; exact f) (by rw [List.append_nil]; exact w6)
  simp only [List.append_nil] at this
  exact ⟨(this.2.2 D (by simp)).trans hD, this.1, this.2.1⟩
theorem putD {K : PySem.W.Frag} {H HF : Hp} {A : List Addr} {D : Addr} {u : HO} (w : WR HF H (A ++ [D])) : WR HF (upd H D u) (A ++ [D]) ∧ Fr H (upd H D u) HF HF (A ++ [D]) (A ++ [D]) ∧ ∀ ρ σ, EnvR K HF H ρ σ A → EnvR K HF (upd H D u) ρ σ A := by
  have hD : HF D = none := w.out D (by simp)
  have ne : ∀ p o, HF p = some o → p ≠ D := fun p o e z => by rw [z, hD] at e; cases e
  have nA : ∀ p ∈ A, p ≠ D := fun p hp z => w.disj p hp (by simp [z])
  refine ⟨⟨fun b o e => by rw [upd_ne (ne b o e)]; exact w.same b o e, w.nodup, w.out⟩, ⟨.refl _, fun p o e n => ?_, fun _ _ _ _ f => f, fun _ h => .inl h⟩, fun ρ σ en => EnvR.keep (.refl _) ρ en fun p hp => by rw [upd_ne (nA p hp)]⟩
  rw [upd_ne (fun z => n (by simp [z]))]; exact e
theorem lc_red {K : PySem.W.Frag} {W : WX} {vs : List Nat} {ti : TId} {g : TGD} {tt : TDt} {te : TD} {n : Nat} (nd : vs.Nodup) (hlt : ∀ v ∈ vs, v < n) (σ : St) (H : Hp) (Q : VK) (hσ : σ.length = n) (q : tA K W (tLcD ti vs g tt te) σ H Q) : tLc (tAI K W ti) (tG K (butP vs) g) (tAt K WF tt) (tA K WF te) vs σ H Q := by
  obtain ⟨HF, ρ, A, Kd, Ed, w, en, t, k, x⟩ := q
  refine ⟨HF, ρ, A, _, Ed, w, en, t, fun items ρ1 q1 HF1 H1 A1 Av J f1 w1 tv en1 src => fun D hD => ?_, x⟩
  obtain ⟨I, i0, turn, fin⟩ := q1
  obtain ⟨G, Y, wk, hG, hY⟩ := src
  have hl1 : σ.length = ρ1.length := en1.length
  obtain ⟨C, B, pm, tB, enw, back⟩ := holes en1 vs nd fun v hv => by rw [← hl1, hσ]; exact hlt v hv
  have memC : ∀ p ∈ C, p ∈ A1 := fun p hp => pm.mem_iff.mpr (List.mem_append_left _ hp)
  have memB : ∀ p ∈ B, p ∈ A1 := fun p hp => pm.mem_iff.mpr (List.mem_append_right _ hp)
  have wCB : WR HF1 H1 (C ++ B) := w1.left.perm pm
  have tA1 := EnvR.there _ en1
  have nD : ∀ p o, H1 p = some o → p ≠ D := fun p o e z => by rw [z, hD] at e; cases e
  have w0 : WR HF1 (upd H1 D (.lst [])) (C ++ [D]) := by
    refine ⟨fun b o e => by rw [upd_ne (nD b o (w1.same b o e))]; exact w1.same b o e, List.nodup_append.mpr ⟨wCB.left.nodup, by simp, fun a ha b hb e => ?_⟩, fun a ha => ?_⟩
    · rw [List.mem_singleton.mp hb] at e
      obtain ⟨o, ho⟩ := tA1 a (memC a ha)
      exact nD a o ho e
    · rcases List.mem_append.mp ha with z | z
      · exact wCB.left.out a z
      · rw [List.mem_singleton.mp z]; exact w1.same.free hD
  have en0 : EnvR K HF1 (upd H1 D (.lst [])) (wipeD ρ1 vs) (wipe σ vs) C := EnvR.keep (.refl _) _ enw fun p hp => by
    obtain ⟨o, ho⟩ := tA1 p (memC p hp)
    rw [upd_ne (nD p o ho)]
  have side : ∀ {H2 HF2 : Hp} {A2 : List Addr}, Fr (upd H1 D (.lst [])) H2 HF1 HF2 (C ++ [D]) (A2 ++ [D]) → ∀ p, (p ∈ B ∨ p ∈ Av) → H2 p = H1 p ∧ (HF1 p = none → HF2 p = none) ∧ p ∉ A2 ++ [D] := fun {H2 HF2 A2} f p hp => by
    obtain ⟨o, ho, hn⟩ : ∃ o, H1 p = some o ∧ p ∉ C := by
      rcases hp with hp | hp
      · obtain ⟨o, ho⟩ := tB p hp
        exact ⟨o, ho, fun z => wCB.disj p z hp⟩
      · obtain ⟨o, ho⟩ := tv p hp
        exact ⟨o, ho, fun z => w1.disj p (memC p z) hp⟩
    have e0 : upd H1 D (.lst []) p = some o := by rw [upd_ne (nD p o ho)]; exact ho
    have n0 : p ∉ C ++ [D] := fun z => (List.mem_append.mp z).elim hn fun z => nD p o ho (List.mem_singleton.mp z)
    exact ⟨by rw [ho]; exact f.keep p o e0 n0, f.free p o e0 n0, fun z => (f.new p z).elim n0 fun q => by rw [e0] at q; cases q⟩
  refine lc_it wk (fun i H2 => ∃ HF2 ρ' A2 acc accv, Fr (upd H1 D (.lst [])) H2 HF1 HF2 (C ++ [D]) (A2 ++ [D]) ∧ WR HF2 H2 (A2 ++ [D]) ∧ EnvR K HF2 H2 (wipeD ρ' vs) (wipe σ vs) A2 ∧ H2 D = some (.lst accv) ∧ Reps K HF2 acc accv ∧ I i acc (wipeD ρ' vs) ∧ ρ'.length = ρ1.length)
    ⟨HF1, ρ1, C, [], [], .refl, w0, en0, upd_same, rfl, i0, rfl⟩ ?_ ?_ ?_
  · rintro i H2 hi ⟨HF2, ρ', A2, acc, accv, f2, w2, en2, hD2, ra, i2, hl2⟩
    exact hG HF2 H2 f2.same w2.same fun p hp => (side f2 p (.inr hp)).1
  · rintro i y H2 H3 hi ⟨HF2, ρ', A2, acc, accv, f2, w2, en2, hD2, ra, i2, hl2⟩ yy
    obtain ⟨d, HF3, hd, f3, s3, rd⟩ := hY i HF2 H2 y H3 f2.same w2.same (fun p hp => (side f2 p (.inr hp)).1) hi yy
    obtain ⟨k1, k2, k3⟩ := f3.frame (EnvR.there _ en2) (fun _ _ h => by cases h)
    have w3 : WR HF3 H3 A2 := ⟨s3, w2.left.nodup, fun a ha => k2 a ha (w2.left.out a ha)⟩
    have f23 : Fr H2 H3 HF2 HF3 A2 A2 := f3.mono (fun _ h => by cases h) fun p hp => .inr hp
    have en3 := EnvR.keep f3.same _ en2 k1
    have fin1 : ∀ {H5 HF5 : Hp} {A5 : List Addr} {ρ5 : Env} {σ5 : St}, Fr H2 H5 HF2 HF5 A2 A5 → WR HF5 H5 A5 → EnvR K HF5 H5 ρ5 σ5 A5 → wipe σ5 vs = wipe σ vs → σ5.length = σ.length → ∃ A7, (∀ p ∈ A7, p ∈ A5) ∧ WR HF5 H5 (A7 ++ [D]) ∧ Fr (upd H1 D (.lst [])) H5 HF1 HF5 (C ++ [D]) (A7 ++ [D]) ∧ EnvR K HF5 H5 (wipeD ρ5 vs) (wipe σ vs) A7 ∧ H5 D = some (.lst accv) ∧ ρ5.length = ρ1.length := fun {H5 HF5 A5 ρ5 σ5} f5 w5 en5 e5 l5 => by
      obtain ⟨hD5, w5', f5'⟩ := hold w2 hD2 f5 w5
      have hl5 : σ5.length = ρ5.length := en5.length
      obtain ⟨C5, B5, pm5, _, enw5, _⟩ := holes en5 vs nd fun v hv => by rw [← hl5, l5, hσ]; exact hlt v hv
      rw [e5] at enw5
      have sub : ∀ p ∈ C5, p ∈ A5 := fun p hp => pm5.mem_iff.mpr (List.mem_append_left _ hp)
      have w7 : WR HF5 H5 (C5 ++ [D]) := by
        have : (A5 ++ [D]).Perm ((C5 ++ [D]) ++ B5) := (List.Perm.append_right [D] pm5).trans (by rw [List.append_assoc, List.append_assoc]; exact List.Perm.append_left C5 List.perm_append_comm)
        exact (w5'.perm this).left
      exact ⟨C5, sub, w7, (f2.trans f5').mono (fun _ h => h) fun p hp => .inl ((List.mem_append.mp hp).elim (fun z => List.mem_append_left _ (sub p z)) fun z => List.mem_append_right _ z), enw5, hD5, by rw [← hl5, l5, hl1]⟩
    refine ⟨HF3, wipeD ρ' vs, A2, .fz d, [], _, by rw [List.append_nil]; exact w3, en3, ⟨rfl, rd⟩, turn i d acc _ hd i2, fun ρ4 q4 HF4 H4 σ4 A4 p4 f4 w4 en4 => ?_⟩
    rw [List.append_nil] at f4
    have e4 : wipe σ4 vs = wipe σ vs := by
      have z : wipe σ4 vs = wipe (wipe σ vs) vs := wipe_eq p4.1 fun j hj => p4.2 j (by simp [butP]; simpa using hj)
      rw [z]
      exact wipe_eq (wipe_length _ _) fun j hj => wipe_out (by simpa using hj)
    have l4 : σ4.length = σ.length := by rw [p4.1, wipe_length]
    refine ⟨e4, HF4, ρ4, A4, _, NoX, w4, en4, q4, fun b ρ5 q5 HF5 H5 A5 f5 w5 en5 => ?_, fun _ _ z => z.elim⟩
    have f25 := (f23.trans f4).trans f5
    cases b with
    | false =>
      simp only [Bool.false_eq_true, ↓reduceIte] at q5 ⊢
      obtain ⟨A7, sub7, w7, f7, en7, hD7, l7⟩ := fin1 f25 w5 en5 e4 l4
      exact ⟨HF5, ρ5, A7, acc, accv, f7, w7, en7, hD7, Reps.mono f25.same _ ra, q5, l7⟩
    | true =>
      simp only [↓reduceIte] at q5 ⊢
      refine ⟨HF5, ρ5, A5, _, NoX, w5, en5, q5, fun ev ρ6 q6 HF6 H6 A6 y6 Ay f6 w6 en6 r6 => ?_, fun _ _ z => z.elim⟩
      cases ev with
      | pt j => exact q6.elim
      | tk _ _ _ _ => exact q6.elim
      | ow o =>
        obtain ⟨hlen, i6⟩ := q6
        obtain ⟨sg, wg, fg⟩ := grow_ok (w6.perm List.perm_append_comm)
        have rg : Rep K (grow HF6 H6 Ay) (frz o) y6 := RepO.frz sg o r6 fun p hp => grow_in hp
        have f6' : Fr H5 H6 HF5 (grow HF6 H6 Ay) A5 A6 := f6.trans (fg.mono (fun p hp => (List.mem_append.mp hp).elim (fun z => List.mem_append_right _ z) (fun z => List.mem_append_left _ z)) fun p hp => .inl hp)
        have f26 := f25.trans f6'
        obtain ⟨A7, sub7, w7, f7, en7, hD7, l7⟩ := fin1 f26 wg (EnvR.keep sg _ en6 fun _ _ => rfl) e4 l4
        obtain ⟨w8, f8, k8⟩ := putD (K := K) (u := .lst (accv ++ [y6])) w7
        have ra6 := Reps.mono f26.same acc ra
        refine ⟨accv, hD7, by rw [ra.length]; exact hlen, grow HF6 H6 Ay, ρ6, A7, acc ++ [frz o], accv ++ [y6], f7.trans f8, w8, k8 _ _ en7, upd_same, ra6.append (Reps.one rg), i6, l7⟩
  · rintro H2 ⟨HF2, ρ', A2, acc, accv, f2, w2, en2, hD2, ra, i2, hl2⟩
    obtain ⟨A3, pm3, en3⟩ := back HF2 H2 (wipeD ρ' vs) A2 f2.same (fun p hp => (side f2 p (.inl hp)).1) en2 fun v hv => wipeD_none ρ' hv (by rw [hl2, ← hl1, hσ]; exact hlt v hv)
    have pm4 : (A3 ++ [D]).Perm ((A2 ++ [D]) ++ B) := (List.Perm.append_right [D] pm3).trans (by rw [List.append_assoc, List.append_assoc]; exact List.Perm.append_left A2 List.perm_append_comm)
    have w4 : WR HF2 H2 (A3 ++ [D]) := WR.perm (A := (A2 ++ [D]) ++ B) ⟨w2.same, List.nodup_append.mpr ⟨w2.nodup, wCB.right.nodup, fun a ha b hb e => (side f2 b (.inl hb)).2.2 (e ▸ ha)⟩, fun a ha => (List.mem_append.mp ha).elim (w2.out a) fun z => (side f2 a (.inl z)).2.1 (wCB.right.out a z)⟩ pm4.symm
    refine k _ _ (fin acc _ i2) HF2 H2 A3 (.ref D) [D] ?_ w4 en3 ⟨D, accv, rfl, rfl, hD2, ra⟩
    refine f1.trans ⟨f2.same, fun p o e n => ?_, fun p o e n fr => ?_, fun p hp => ?_⟩
    · have nd' := nD p o e
      exact f2.keep p o (by rw [upd_ne nd']; exact e) fun z => (List.mem_append.mp z).elim (fun z => n (List.mem_append_left _ (memC p z))) fun z => nd' (List.mem_singleton.mp z)
    · have nd' := nD p o e
      exact f2.free p o (by rw [upd_ne nd']; exact e) (fun z => (List.mem_append.mp z).elim (fun z => n (List.mem_append_left _ (memC p z))) fun z => nd' (List.mem_singleton.mp z)) fr
    · rcases List.mem_append.mp (pm4.mem_iff.mp hp) with z | z
      · rcases f2.new p z with z | z
        · rcases List.mem_append.mp z with z | z
          · exact .inl (List.mem_append_left _ (memC p z))
          · rw [List.mem_singleton.mp z]; exact .inr hD
        · refine .inr ?_
          by_cases hp' : p = D
          · rw [hp']; exact hD
          · rw [upd_ne hp'] at z; exact z
      · exact .inl (List.mem_append_left _ (memB p z))
theorem ae_lc {elt tg iter : Expr} {ifs : List Expr} {scope : Scope} {own : List (Str × Nat)} {vs : List Nat} {pos : Pos} {ti : TId} {g : TGD} {tt : TDt} {te : TD} (hc : X.calm = true) (hN : X.N.Nodup) (hi : AI X W tg iter ti) (ok : BlkOk X.N X.env.scope scope own) (hvs : own.map (·.2) = vs) (nd : vs.Nodup) (hlt : ∀ v ∈ vs, v < X.N.length)
    (hg : ∀ (s : Shared) (H : Hp) (C : Addr) (cl : List (Str × Addr)) (fp : List Addr), AG (X.blk s H scope (compEnvC scope cl C X.env) fp) (butP vs) tg g) (ht : ∀ (s : Shared) (H : Hp) (C : Addr) (cl : List (Str × Addr)) (fp : List Addr), ATs (X.blk s H scope (compEnvC scope cl C X.env) fp) WF ifs tt)
    (he : ∀ (s : Shared) (H : Hp) (C : Addr) (cl : List (Str × Addr)) (fp : List Addr), AE (X.blk s H scope (compEnvC scope cl C X.env) fp) WF elt te) (hs : ∀ x, foldedSetIterable iter X.env x = pure x := by intro _; rfl) :
    AE X W (.ListComp elt [⟨tg, iter, ifs, 0⟩] scope pos) (tLcD ti vs g tt te) := by
  subst hvs
  generalize hvs : own.map (·.2) = vs at nd hlt hg ht he
  have base : PE X (.ListComp elt [⟨tg, iter, ifs, 0⟩] scope pos) (tLc (tAI X.K W ti) (tG X.K (butP vs) g) (tAt X.K WF tt) (tA X.K WF te) vs) := by
    have := pe_lc (own := own) (pos := pos) (g := tG X.K (butP vs) g) (tt := tAt X.K WF tt) (te := tA X.K WF te) hc hN hi ok hg ht he hs
    rw [hvs] at this
    exact this
  exact PE.impL base fun σ H Q hσ q => lc_red nd hlt σ H Q hσ q
end
end AE
namespace AE
open PySem L2
theorem CallR.or {X : Cx} {f : Value} {r r' : List V → Hp → VK → Prop} (h : CallR X f r) (h' : CallR X f r') : CallR X f (fun xs H Q => r xs H Q ∨ r' xs H Q) := fun pins s σ H xs us Q I rx q => q.elim (h pins s σ H xs us Q I rx) (h' pins s σ H xs us Q I rx)
section
variable {X : Cx} {W : WX} {x : Str} {p pos : Pos} {e : Expr} {es : List Expr} {ts : TDs} {id T : String} {r : List V → Hp → VK → Prop} {f : Env → List EV → KD → Prop}
theorem callN (hp : Prim X.K r f) : ∀ σ H Q, tA X.K W (tN f ts) σ H Q → tCB r (tAs X.K W ts) σ H Q := fun σ H Q q => by
  obtain ⟨HF, ρ, A, Kd, Ed, w, en, t, k, x⟩ := q
  refine ⟨HF, ρ, A, _, Ed, w, en, t, fun evs ρ1 q1 HF1 H1 A1 vs Av f1 w1 en1 r1 => ?_, x⟩
  exact hp σ HF1 H1 ρ1 A1 Av evs vs Kd Q w1 en1 r1 q1 (k.step f1)
theorem ae_callB (hc : CallR X (.builtin id) r) (hp : Prim X.K r f) (hg : Gl X x) (hm : X.mg x = none) (hv : bootBuiltins x = some (.builtin id)) (ha : AA X W (e :: es) ts) (hn : x ≠ "__name__" := by decide) (hdb : (x == ("__debug__" : Str)) = false := by decide)
    (he : starEach (e :: es) X.env = (false, eval e X.env) :: starEach es X.env := by rfl) (hpl : (backTo pos (starEach es X.env)).any (·.1) = false := by rfl) : AE X W (.Call (.Name x p) (e :: es) [] pos) (tN f ts) :=
  PE.imp (pe_callB hc hg hm hv ha hn hdb he hpl) (callN hp)
theorem ae_callTy (hc : CallR X (.type T) r) (hp : Prim X.K r f) (hg : Gl X x) (hm : X.mg x = none) (hv : bootBuiltins x = some (.type T)) (ha : AA X W (e :: es) ts) (hn : x ≠ "__name__" := by decide) (hdb : (x == ("__debug__" : Str)) = false := by decide)
    (he : starEach (e :: es) X.env = (false, eval e X.env) :: starEach es X.env := by rfl) (hpl : (backTo pos (starEach es X.env)).any (·.1) = false := by rfl) : AE X W (.Call (.Name x p) (e :: es) [] pos) (tN f ts) :=
  PE.imp (pe_callTy hc hg hm hv ha hn hdb he hpl) (callN hp)
end
def gLen : GN := fun ds P => match ds with
  | [.str z] => z.length ≤ sizeLine ∧ P (.fz (.int z.length))
  | [.lst xs] => P (.fz (.int xs.length))
  | [.tup xs] => P (.fz (.int xs.length))
  | [.scr xs] => P (.fz (.int xs.length))
  | [.dic xs] => P (.fz (.int xs.length))
  | [.kt xs] => P (.fz (.int xs.length))
  | _ => False
section
variable {X : Cx} {W : WX} {p pos : Pos} {e : Expr} {es : List Expr} {ts : TDs}
theorem RepKs.length {K : PySem.W.Frag} {HF : Hp} : ∀ {ds : List (Key × D)} {vs : List (Key × V)}, RepKs K HF ds vs → vs.length = ds.length
  | [], vs, h => by rw [show vs = [] from h]; rfl
  | d :: ds, vs, h => by obtain ⟨v, ws, rfl, _, r⟩ := h; simp [RepKs.length r]
theorem call_lenR : CallR X (.builtin "len") (fun xs H Q => ∃ a kvs, xs = [V.ref a] ∧ Rd H a (.dK kvs) ∧ Q (.int kvs.length) H) := by
  intro pins s σ H xs us Q I r h
  obtain ⟨a, kvs, rfl, ha, q⟩ := h
  obtain ⟨u, rfl, ru⟩ := vals1 r
  cases ru
  exact d_len I ha fun t s' I' => ⟨.int kvs.length, H, I', ⟨t, rfl⟩, q⟩
theorem do_len : DoN X.K (fun xs H Q => (∃ z, xs = [.str z] ∧ z.length ≤ sizeLine ∧ Q (.int z.length) H) ∨ (∃ p ys, xs = [.ref p] ∧ (SqL X.K H p ys ∨ SqT X.K H p ys) ∧ Q (.int ys.length) H) ∨ ∃ a kvs, xs = [V.ref a] ∧ Rd H a (.dK kvs) ∧ Q (.int kvs.length) H) gLen := fun HF H vs ds P Q s r g k => by
  unfold gLen at g
  split at g
  · obtain ⟨v, rfl, rv⟩ := r.one
    cases (show v = .str _ from rv)
    exact .inl ⟨_, rfl, g.1, k _ _ _ _ _ g.2 (New.imm s rfl)⟩
  · obtain ⟨v, rfl, rv⟩ := r.one
    obtain ⟨p, vs, rfl, h1, r1⟩ := rv
    exact .inr <| .inl ⟨p, vs, rfl, .inl (SqL.of h1), by rw [r1.length]; exact k _ _ _ _ _ g (New.imm s rfl)⟩
  · obtain ⟨v, rfl, rv⟩ := r.one
    obtain ⟨p, vs, rfl, h1, r1⟩ := rv
    exact .inr <| .inl ⟨p, vs, rfl, .inr (SqT.of (s _ _ h1)), by rw [r1.length]; exact k _ _ _ _ _ g (New.imm s rfl)⟩
  · obtain ⟨v, rfl, rv⟩ := r.one
    obtain ⟨p, rfl, h1⟩ := rv
    exact .inr <| .inl ⟨p, _, rfl, .inl (SqL.mono h1 s), by rw [List.length_map]; exact k _ _ _ _ _ g (New.imm s rfl)⟩
  · obtain ⟨v, rfl, rv⟩ := r.one
    obtain ⟨p, vs, rfl, h1, r1⟩ := rv
    exact .inr <| .inr ⟨p, vs, rfl, h1, by rw [r1.length]; exact k _ _ _ _ _ g (New.imm s rfl)⟩
  · obtain ⟨v, rfl, rv⟩ := r.one
    obtain ⟨p, vs, rfl, h1, r1⟩ := rv
    exact .inr <| .inl ⟨p, vs, rfl, .inr (SqT.mono h1 s), by rw [r1.length]; exact k _ _ _ _ _ g (New.imm s rfl)⟩
  · exact g.elim
theorem ae_len (hg : Gl X "len") (hm : X.mg "len" = none) (ha : AA X W (e :: es) ts) (he : starEach (e :: es) X.env = (false, eval e X.env) :: starEach es X.env := by rfl) (hpl : (backTo pos (starEach es X.env)).any (·.1) = false := by rfl) :
    AE X W (.Call (.Name "len" p) (e :: es) [] pos) (tN (pN gLen) ts) := ae_callB (CallR.or call_len_str (CallR.or call_len_seq call_lenR)) (primN do_len) hg hm boot_len ha (by decide) (by decide) he hpl
def gAbs : GN := fun ds P => match ds with
  | [.int i] => P (.fz (.int (if i < 0 then -i else i)))
  | _ => False
theorem ae_abs (hg : Gl X "abs") (hm : X.mg "abs" = none) (ha : AA X W (e :: es) ts) (he : starEach (e :: es) X.env = (false, eval e X.env) :: starEach es X.env := by rfl) (hpl : (backTo pos (starEach es X.env)).any (·.1) = false := by rfl) :
    AE X W (.Call (.Name "abs" p) (e :: es) [] pos) (tN (pN gAbs) ts) := ae_callB call_abs (primN fun HF H vs ds P Q s r g k => by
      unfold gAbs at g
      split at g
      · obtain ⟨v, rfl, rv⟩ := r.one
        cases (show v = .int _ from rv)
        exact ⟨_, rfl, k _ _ _ _ _ g (New.imm s rfl)⟩
      · exact g.elim) hg hm (by decide +kernel) ha (by decide) (by decide) he hpl
def gInt : GN := fun ds P => match ds with
  | [.int i] => P (.fz (.int i))
  | [.bl b] => P (.fz (.int (if b then 1 else 0)))
  | _ => False
def gList : GN := fun ds P => match ds with
  | [.lst xs] => P (.ls xs)
  | [.tup xs] => P (.ls xs)
  | _ => False
theorem ae_list1 (hg : Gl X "list") (hm : X.mg "list" = none) (ha : AA X W (e :: es) ts) (he : starEach (e :: es) X.env = (false, eval e X.env) :: starEach es X.env := by rfl) (hpl : (backTo pos (starEach es X.env)).any (·.1) = false := by rfl) :
    AE X W (.Call (.Name "list" p) (e :: es) [] pos) (tN (pN gList) ts) := ae_callTy call_list_of (primN fun HF H vs ds P Q s r g k => by
      unfold gList at g
      split at g
      · obtain ⟨v, rfl, rv⟩ := r.one
        obtain ⟨p, vs, rfl, h1, r1⟩ := rv
        exact ⟨p, vs, rfl, .inl (SqL.of h1), fun l hl => k _ _ _ _ _ g (New.lst s hl r1)⟩
      · obtain ⟨v, rfl, rv⟩ := r.one
        obtain ⟨p, vs, rfl, h1, r1⟩ := rv
        exact ⟨p, vs, rfl, .inr (SqT.of (s _ _ h1)), fun l hl => k _ _ _ _ _ g (New.lst s hl r1)⟩
      · exact g.elim) hg hm (by decide +kernel) ha (by decide) (by decide) he hpl
def gTuple : GN := fun ds P => match ds with
  | [.lst xs] => P (.fz (.tup xs))
  | [.tup xs] => P (.fz (.tup xs))
  | _ => False
theorem reps_bl {K : PySem.W.Frag} {HF : Hp} : ∀ {bs : List Bool} {vs : List V}, Reps K HF (bs.map D.bl) vs → vs = bs.map V.bl
  | [], vs, h => h
  | b :: bs, vs, h => by obtain ⟨v, ws, rfl, r, t⟩ := h; rw [show v = .bl b from r, reps_bl t]; rfl
def gAll : GN := fun ds P => match ds with
  | [.lst xs] => ∃ bs : List Bool, xs = bs.map D.bl ∧ P (.fz (.bl (bs.all id)))
  | _ => False
def gAny : GN := fun ds P => match ds with
  | [.lst xs] => ∃ bs : List Bool, xs = bs.map D.bl ∧ P (.fz (.bl (bs.any id)))
  | _ => False
theorem ae_all (hc : X.calm = true) (hg : Gl X "all") (hm : X.mg "all" = none) (ha : AA X W (e :: es) ts) (he : starEach (e :: es) X.env = (false, eval e X.env) :: starEach es X.env := by rfl) (hpl : (backTo pos (starEach es X.env)).any (·.1) = false := by rfl) :
    AE X W (.Call (.Name "all" p) (e :: es) [] pos) (tN (pN gAll) ts) := ae_callB (cr_all hc) (primN fun HF H vs ds P Q s r g k => by
      unfold gAll at g
      split at g
      · obtain ⟨v, rfl, rv⟩ := r.one
        obtain ⟨p, vs, rfl, h1, r1⟩ := rv
        obtain ⟨bs, rfl, q⟩ := g
        obtain rfl := reps_bl r1
        exact ⟨p, bs, rfl, SqL.of h1, k _ _ _ _ _ q (New.imm s rfl)⟩
      · exact g.elim) hg hm (by decide +kernel) ha (by decide) (by decide) he hpl
theorem ae_any (hc : X.calm = true) (hg : Gl X "any") (hm : X.mg "any" = none) (ha : AA X W (e :: es) ts) (he : starEach (e :: es) X.env = (false, eval e X.env) :: starEach es X.env := by rfl) (hpl : (backTo pos (starEach es X.env)).any (·.1) = false := by rfl) :
    AE X W (.Call (.Name "any" p) (e :: es) [] pos) (tN (pN gAny) ts) := ae_callB (cr_any hc) (primN fun HF H vs ds P Q s r g k => by
      unfold gAny at g
      split at g
      · obtain ⟨v, rfl, rv⟩ := r.one
        obtain ⟨p, vs, rfl, h1, r1⟩ := rv
        obtain ⟨bs, rfl, q⟩ := g
        obtain rfl := reps_bl r1
        exact ⟨p, bs, rfl, SqL.of h1, k _ _ _ _ _ q (New.imm s rfl)⟩
      · exact g.elim) hg hm (by decide +kernel) ha (by decide) (by decide) he hpl
end
end AE
namespace AE
open PySem L2
mutual
def dEq : D → D → Bool
  | .non, .non => true
  | .bl a, .bl b => a == b
  | .bl a, .int j => (if a then 1 else 0) == j
  | .int i, .bl b => i == (if b then 1 else 0)
  | .int i, .int j => i == j
  | .str x, .str y => x == y
  | .lst xs, .lst ys => dEqs xs ys
  | .tup xs, .tup ys => dEqs xs ys
  | .kt xs, .kt ys => dEqs xs ys
  | .tup xs, .kt ys => dEqs xs ys
  | .kt xs, .tup ys => dEqs xs ys
  | _, _ => false
def dEqs : List D → List D → Bool
  | [], [] => true
  | x :: xs, y :: ys => dEq x y && dEqs xs ys
  | _, _ => false
end
mutual
def toPy : D → PyData
  | .non => .none
  | .bl b => .bool b
  | .int i => .int i
  | .str x => .str x
  | .lst xs => .list (toPys xs)
  | .tup xs => .tuple (toPys xs)
  | .kt xs => .tuple (toPys xs)
  | _ => .none
def toPys : List D → List PyData
  | [] => []
  | x :: xs => toPy x :: toPys xs
end
mutual
def pyOk : D → Bool
  | .non => true
  | .bl _ => true
  | .int _ => true
  | .str x => PyData.strOk x
  | .lst xs => pyOks xs
  | .tup xs => pyOks xs
  | .kt xs => pyOks xs
  | _ => false
def pyOks : List D → Bool
  | [] => true
  | x :: xs => pyOk x && pyOks xs
end
mutual
def dDep : D → Nat
  | .lst xs => dDeps xs + 1
  | .tup xs => dDeps xs + 1
  | .kt xs => dDeps xs + 1
  | _ => 1
def dDeps : List D → Nat
  | [] => 0
  | x :: xs => max (dDep x) (dDeps xs)
end
def Shp (d : D) : Prop := pyOk d = true ∧ dDep d ≤ 60
mutual
theorem eqv_toPy : ∀ (d e : D), pyOk d = true → pyOk e = true → PyData.eqv (toPy d) (toPy e) = dEq d e
  | d, e, hd, he => by
    cases d <;> cases e <;> first
      | rfl
      | exact absurd (show false = true from hd) Bool.false_ne_true
      | exact absurd (show false = true from he) Bool.false_ne_true
      | exact eqvs_toPy _ _ hd he
theorem eqvs_toPy : ∀ (ds es : List D), pyOks ds = true → pyOks es = true → PyData.eqvAll (toPys ds) (toPys es) = dEqs ds es
  | [], [], _, _ => rfl
  | [], _ :: _, _, _ => rfl
  | _ :: _, [], _, _ => rfl
  | d :: ds, e :: es, hd, he => by
    have hd := Bool.and_eq_true_iff.mp hd
    have he := Bool.and_eq_true_iff.mp he
    show (PyData.eqv (toPy d) (toPy e) && PyData.eqvAll (toPys ds) (toPys es)) = (dEq d e && dEqs ds es)
    rw [eqv_toPy d e hd.1 he.1, eqvs_toPy ds es hd.2 he.2]
end
mutual
theorem canLay_toPy : ∀ d : D, pyOk d = true → (toPy d).canLay0 = true
  | d, h => by
    cases d <;> first
      | rfl
      | exact absurd (show false = true from h) Bool.false_ne_true
      | exact canLays_toPy _ h
      | exact h
theorem canLays_toPy : ∀ ds : List D, pyOks ds = true → PyData.canLayAll0 (toPys ds) = true
  | [], _ => rfl
  | d :: ds, h => by
    have h := Bool.and_eq_true_iff.mp h
    show ((toPy d).canLay0 && PyData.canLayAll0 (toPys ds)) = true
    rw [canLay_toPy d h.1, canLays_toPy ds h.2]; rfl
end
mutual
theorem depth_toPy : ∀ d : D, (toPy d).depth ≤ dDep d
  | .non => Nat.zero_le _
  | .bl _ => Nat.zero_le _
  | .int _ => Nat.zero_le _
  | .str _ => Nat.zero_le _
  | .dic _ => Nat.zero_le _
  | .dit _ => Nat.zero_le _
  | .ins _ _ => Nat.zero_le _
  | .cl _ => Nat.zero_le _
  | .ty _ => Nat.zero_le _
  | .scr _ => Nat.zero_le _
  | .exc _ _ _ _ => Nat.zero_le _
  | .xo _ _ => Nat.zero_le _
  | .raw _ => Nat.zero_le _
  | .hb _ => Nat.zero_le _
  | .lst ds => Nat.succ_le_succ (depths_toPy ds)
  | .tup ds => Nat.succ_le_succ (depths_toPy ds)
  | .kt ds => Nat.succ_le_succ (depths_toPy ds)
theorem depths_toPy : ∀ ds : List D, PyData.depthAll (toPys ds) ≤ dDeps ds
  | [] => Nat.le_refl _
  | d :: ds => by
    show max (toPy d).depth (PyData.depthAll (toPys ds)) ≤ max (dDep d) (dDeps ds)
    have := depth_toPy d
    have := depths_toPy ds
    omega
end
theorem Shp.shaped {d : D} (h : Shp d) : SeqAt.shaped (toPy d) = true := by
  unfold SeqAt.shaped
  rw [canLay_toPy d h.1, Bool.true_and, decide_eq_true_iff]
  have := depth_toPy d
  have := h.2
  omega
section
variable {K : PySem.W.Frag} {H : Hp}
mutual
theorem Rep.dp : ∀ (d : D) {v : V}, pyOk d = true → Rep K H d v → Dp K H v (toPy d)
  | .non, v, _, r => by rw [show v = .non from r]; exact .non
  | .bl b, v, _, r => by rw [show v = .bl b from r]; exact .bl b
  | .int i, v, _, r => by rw [show v = .int i from r]; exact .int i
  | .str x, v, _, r => by rw [show v = .str x from r]; exact .str x
  | .lst ds, v, h, r => by obtain ⟨a, vs, rfl, q, t⟩ := r; exact .lst (SqL.of q) (Reps.dp ds h t)
  | .tup ds, v, h, r => by obtain ⟨a, vs, rfl, q, t⟩ := r; exact .tup (SqT.of q) (Reps.dp ds h t)
  | .kt ds, v, h, r => by obtain ⟨a, vs, rfl, q, t⟩ := r; exact .tup q (Reps.dp ds h t)
  | .dic _, _, h, _ => absurd (show false = true from h) Bool.false_ne_true
  | .dit _, _, h, _ => absurd (show false = true from h) Bool.false_ne_true
  | .ins _ _, _, h, _ => absurd (show false = true from h) Bool.false_ne_true
  | .cl _, _, h, _ => absurd (show false = true from h) Bool.false_ne_true
  | .ty _, _, h, _ => absurd (show false = true from h) Bool.false_ne_true
  | .scr _, _, h, _ => absurd (show false = true from h) Bool.false_ne_true
  | .exc _ _ _ _, _, h, _ => absurd (show false = true from h) Bool.false_ne_true
  | .xo _ _, _, h, _ => absurd (show false = true from h) Bool.false_ne_true
theorem Reps.dp : ∀ (ds : List D) {vs : List V}, pyOks ds = true → Reps K H ds vs → DpAll K H vs (toPys ds)
  | [], vs, _, r => by rw [show vs = [] from r]; exact .nil
  | d :: ds, vs, h, r => by
    obtain ⟨v, ws, rfl, q, t⟩ := r
    have h := Bool.and_eq_true_iff.mp h
    exact .cons (Rep.dp d h.1 q) (Reps.dp ds h.2 t)
end
theorem Vw.rep {HF : Hp} {d : D} {v : V} (s : Same HF H) (r : Vw K HF H d v) : Rep K H d v := by
  cases d with
  | lst ds => obtain ⟨a, vs, e, q, t⟩ := r; exact ⟨a, vs, e, q, Reps.mono s ds t⟩
  | dic ds => obtain ⟨a, vs, e, q, t⟩ := r; exact ⟨a, vs, e, q, RepKs.mono s ds t⟩
  | dit ds => obtain ⟨a, vs, e, q, t⟩ := r; exact ⟨a, vs, e, q, RepTs.mono s ds t⟩
  | ins C ds => obtain ⟨a, dx, vs, e, q, t⟩ := r; exact ⟨a, dx, vs, e, q, RepFs.mono s ds t⟩
  | _ => exact Rep.mono s _ r
end
def scalD : D → D → Bool
  | .non, .non => true | .non, .int _ => true | .int _, .non => true | .non, .bl _ => true | .bl _, .non => true | .non, .str _ => true | .str _, .non => true
  | .int _, .int _ => true | .bl _, .bl _ => true | .str _, .str _ => true
  | .int _, .str _ => true | .str _, .int _ => true | .bl _, .str _ => true | .str _, .bl _ => true
  | _, _ => false
def gEq : G2 := fun d d' P => (scalD d d' = true ∨ (Shp d ∧ Shp d')) ∧ P (.fz (.bl (dEq d d')))
def gNe : G2 := fun d d' P => (scalD d d' = true ∨ (Shp d ∧ Shp d')) ∧ P (.fz (.bl (!dEq d d')))
theorem scal_dec {K : PySem.W.Frag} {HF H : Hp} {d d' : D} {v v' : V} (h : scalD d d' = true) (r : Vw K HF H d v) (r' : Vw K HF H d' v') : scal v v' = true ∧ decide (v = v') = dEq d d' := by
  cases d <;> cases d' <;> first
    | exact absurd (show false = true from h) Bool.false_ne_true
    | (cases r; cases r'; refine ⟨rfl, ?_⟩; first
        | rfl
        | exact decide_eq_false (fun z => by cases z)
        | (rename_i a b; show decide (V.int a = V.int b) = (a == b); by_cases e : a = b
           · subst e; simp
           · rw [decide_eq_false (fun z => e (by injection z))]; exact (beq_eq_false_iff_ne.mpr e).symm)
        | (rename_i a b; show decide (V.bl a = V.bl b) = (a == b); cases a <;> cases b <;> rfl)
        | (rename_i a b; show decide (V.str a = V.str b) = (a == b); by_cases e : a = b
           · subst e; simp
           · rw [decide_eq_false (fun z => e (by injection z))]; exact (beq_eq_false_iff_ne.mpr e).symm))
section
variable {X : Cx} {W : WX} {a b : Expr} {ta tb : TD} {pos : Pos}
end
end AE
namespace AE
open PySem L2
section
variable {X : Cx} {W : WX} {a b : Expr} {ta tb : TD} {pos : Pos}
def dNon : D → Bool
  | .non => true
  | .raw .non => true
  | _ => false
def gIsN (neg : Bool) : G2 := fun d d' P => match d' with
  | .non => P (.fz (.bl (if neg then !dNon d else dNon d)))
  | _ => False
theorem non_dec {K : PySem.W.Frag} {HF H : Hp} {d : D} {v : V} (r : Vw K HF H d v) : decide (v = .non) = dNon d := by
  cases d with
  | non => cases r; rfl
  | bl _ => cases r; rfl
  | int _ => cases r; rfl
  | str _ => cases r; rfl
  | cl _ => cases r; rfl
  | ty _ => cases r; rfl
  | lst _ => obtain ⟨a, vs, rfl, _⟩ := r; rfl
  | tup _ => obtain ⟨a, vs, rfl, _⟩ := r; rfl
  | kt _ => obtain ⟨a, vs, rfl, _⟩ := r; rfl
  | dic _ => obtain ⟨a, vs, rfl, _⟩ := r; rfl
  | dit _ => obtain ⟨a, vs, rfl, _⟩ := r; rfl
  | ins _ _ => obtain ⟨a, dx, vs, rfl, _⟩ := r; rfl
  | scr _ => obtain ⟨a, rfl, _⟩ := r; rfl
  | exc _ _ _ _ => obtain ⟨rfl, _⟩ := r; rfl
  | xo _ _ => obtain ⟨_, rfl, _⟩ := r; rfl
  | raw w => obtain rfl : v = w := r; cases v <;> rfl
  | hb _ => obtain ⟨_, rfl, _⟩ := r; rfl
def keyD : D → Option Key
  | .int i => some (.inl i)
  | .str x => some (.inr x)
  | _ => none
def valD {κ : Type} [DecidableEq κ] (kvs : List (κ × D)) (k : κ) : Option D := (kvs.find? fun kv => decide (kv.1 = k)).map (·.2)
theorem keyD_ok {K : PySem.W.Frag} {HF H : Hp} {d : D} {k : Key} {v : V} (h : keyD d = some k) (r : Vw K HF H d v) : v = kV k := by
  cases d <;> first | cases h; done | (cases h; exact r)
theorem RepKs.val {K : PySem.W.Frag} {HF : Hp} {k : Key} : ∀ {ds : List (Key × D)} {vs : List (Key × V)}, RepKs K HF ds vs → (valD ds k = none ∧ valV vs k = none) ∨ ∃ d v, valD ds k = some d ∧ valV vs k = some v ∧ Rep K HF d v
  | [], vs, h => by rw [show vs = [] from h]; exact .inl ⟨rfl, rfl⟩
  | (k', d) :: ds, vs, h => by
    obtain ⟨⟨k2, v⟩, ws, rfl, ⟨hk, r⟩, t⟩ := h
    have hk : k2 = k' := hk
    subst hk
    by_cases e : k2 = k
    · subst e
      exact .inr ⟨d, v, by simp [valD], by simp [valV], r⟩
    · have e1 : valD ((k2, d) :: ds) k = valD ds k := by simp [valD, e]
      have e2 : valV ((k2, v) :: ws) k = valV ws k := by simp [valV, e]
      rw [e1, e2]
      exact RepKs.val t
def flatD : D → Bool
  | .non => true
  | .bl _ => true
  | .int _ => true
  | .str _ => true
  | _ => false
def dIn (d : D) (ys : List D) : Bool := ys.any fun y => dEq y d
def xorB (neg b : Bool) : Bool := if neg then !b else b
def gIn (neg : Bool) : G2 := fun d d' P => match d' with
  | .lst ys => ((flatD d = true ∧ ys.all flatD = true) ∨ (Shp d ∧ Shp (.lst ys))) ∧ P (.fz (.bl (xorB neg (dIn d ys))))
  | .tup ys => (flatD d = true ∧ ys.all flatD = true) ∧ P (.fz (.bl (xorB neg (dIn d ys))))
  | .kt ys => (flatD d = true ∧ ys.all flatD = true) ∧ P (.fz (.bl (xorB neg (dIn d ys))))
  | .str z => (match d with
    | .str w => ∃ c, w = ⟨#[c]⟩ ∧ P (.fz (.bl (xorB neg (decide (c ∈ z.cps.toList)))))
    | _ => False)
  | .dic kvs => (match keyD d with
    | some k => P (.fz (.bl (xorB neg (valD kvs k).isSome)))
    | none => False)
  | _ => False
theorem eqV_dEq {K : PySem.W.Frag} {HF : Hp} {d e : D} {v u : V} (hd : flatD d = true) (he : flatD e = true) (r : Rep K HF d v) (q : Rep K HF e u) : flatV v = true ∧ eqV v u = dEq d e := by
  cases d <;> first
    | exact absurd (show false = true from hd) Bool.false_ne_true
    | (cases e <;> first
      | exact absurd (show false = true from he) Bool.false_ne_true
      | (cases r; cases q; exact ⟨rfl, rfl⟩))
theorem flat_vw {K : PySem.W.Frag} {HF H : Hp} {d : D} {v : V} (hd : flatD d = true) (r : Vw K HF H d v) : Rep K HF d v := by
  cases d <;> first
    | exact absurd (show false = true from hd) Bool.false_ne_true
    | exact r
theorem inV_dIn {K : PySem.W.Frag} {HF : Hp} {d : D} {v : V} (hd : flatD d = true) (r : Rep K HF d v) : ∀ {ys : List D} {us : List V}, ys.all flatD = true → Reps K HF ys us → us.all flatV = true ∧ inV v us = dIn d ys
  | [], us, _, q => by rw [show us = [] from q]; exact ⟨rfl, rfl⟩
  | y :: ys, us, h, q => by
    obtain ⟨u, ws, rfl, q1, q2⟩ := q
    have h := Bool.and_eq_true_iff.mp (by simpa using h : (flatD y && ys.all flatD) = true)
    obtain ⟨e1, e2⟩ := eqV_dEq h.1 hd q1 r
    obtain ⟨e3, e4⟩ := inV_dIn hd r (by simpa using h.2) q2
    refine ⟨by simp only [List.all_cons, e1, e3]; rfl, ?_⟩
    show (eqV u v || inV v ws) = (dEq y d || dIn d ys)
    rw [e2, e4]
theorem anyEqv {d : D} (hd : pyOk d = true) : ∀ {ys : List D}, pyOks ys = true → ((toPys ys).any fun z => PyData.eqv z (toPy d)) = dIn d ys
  | [], _ => rfl
  | y :: ys, h => by
    have h := Bool.and_eq_true_iff.mp h
    show (PyData.eqv (toPy y) (toPy d) || (toPys ys).any _) = (dEq y d || dIn d ys)
    rw [eqv_toPy y d h.1 hd, anyEqv hd h.2]
def rDin (neg : Bool) : R2 := fun x y H Q => ∃ a ov, y = .ref a ∧ DGet H a x ov ∧ Q (.bl (xorB neg ov.isSome)) H
theorem op_din (hu : X.A.units + 64 < cLine) : OpR X (compareOp .In) (rDin false) := fun pins s σ H x y v u Q I rx ry h => by
  obtain ⟨p, ov, rfl, g, q⟩ := h
  cases ry
  exact d_in (by omega) I g rx fun s' I' => ⟨.bl ov.isSome, H, I', rfl, q⟩
def rInU (K : PySem.W.Frag) (neg : Bool) : R2 := fun x y H Q => rIn K neg x y H Q ∨ (∃ d ds, Dp K H x d ∧ Dp K H y (.list ds) ∧ SeqAt.shaped d = true ∧ SeqAt.shaped (.list ds) = true ∧ Q (.bl (xorB neg (ds.any fun z => PyData.eqv z d))) H) ∨
  (∃ (c : Nat) (z : Str), x = .str ⟨#[c]⟩ ∧ y = .str z ∧ Q (.bl (xorB neg (decide (c ∈ z.cps.toList)))) H) ∨ rDin neg x y H Q
theorem op_inU (hu : X.A.units + 65 < cLine) : OpR X (compareOp .In) (rInU X.K false) := OpR.or op_in_seq (OpR.or (op_inD hu) (OpR.or op_in_sign (op_din (by omega))))
theorem do_in {K : PySem.W.Frag} (neg : Bool) : Do2 K (rInU K neg) (gIn neg) := fun HF H v v' d d' P Q s r r' g k => by
  unfold gIn at g
  split at g
  · rename_i ys
    obtain ⟨p, vs, rfl, h1, r1⟩ := id r'
    rcases g with ⟨⟨h2, h3⟩ | ⟨h2, h3⟩, q⟩
    · obtain ⟨e1, e2⟩ := inV_dIn h2 (flat_vw h2 r) h3 r1
      refine .inl ⟨p, vs, rfl, .inl (SqL.of h1), (eqV_dEq h2 h2 (flat_vw h2 r) (flat_vw h2 r)).1, e1, ?_⟩
      rw [e2]; exact k _ _ _ _ _ q (New.imm s rfl)
    · refine .inr (.inl ⟨toPy d, toPys ys, Rep.dp d h2.1 (r.rep s), Rep.dp (.lst ys) h3.1 (r'.rep s), h2.shaped, h3.shaped, ?_⟩)
      rw [anyEqv h2.1 h3.1]; exact k _ _ _ _ _ q (New.imm s rfl)
  · obtain ⟨p, vs, rfl, h1, r1⟩ := r'
    obtain ⟨⟨h2, h3⟩, q⟩ := g
    obtain ⟨e1, e2⟩ := inV_dIn h2 (flat_vw h2 r) h3 r1
    refine .inl ⟨p, vs, rfl, .inr (SqT.of (s _ _ h1)), (eqV_dEq h2 h2 (flat_vw h2 r) (flat_vw h2 r)).1, e1, ?_⟩
    rw [e2]; exact k _ _ _ _ _ q (New.imm s rfl)
  · obtain ⟨p, vs, rfl, h1, r1⟩ := r'
    obtain ⟨⟨h2, h3⟩, q⟩ := g
    obtain ⟨e1, e2⟩ := inV_dIn h2 (flat_vw h2 r) h3 r1
    refine .inl ⟨p, vs, rfl, .inr (SqT.mono h1 s), (eqV_dEq h2 h2 (flat_vw h2 r) (flat_vw h2 r)).1, e1, ?_⟩
    rw [e2]; exact k _ _ _ _ _ q (New.imm s rfl)
  · split at g
    · obtain ⟨c, rfl, q⟩ := g
      cases (show v' = .str _ from r')
      cases (show v = .str _ from r)
      exact .inr (.inr (.inl ⟨c, _, rfl, rfl, k _ _ _ _ _ q (New.imm s rfl)⟩))
    · exact g.elim
  · split at g
    · rename_i key ek
      obtain ⟨p, vs, rfl, h1, r1⟩ := r'
      obtain rfl := keyD_ok ek r
      refine .inr (.inr (.inr ⟨p, valV vs key, rfl, .inl ⟨vs, key, h1, rfl, rfl⟩, ?_⟩))
      rcases RepKs.val (k := key) r1 with ⟨e1, e2⟩ | ⟨d1, v1, e1, e2, _⟩
      · rw [e2]; rw [e1] at g; exact k _ _ _ _ _ g (New.imm s rfl)
      · rw [e2]; rw [e1] at g; exact k _ _ _ _ _ g (New.imm s rfl)
    · exact g.elim
  · exact g.elim
end
end AE
namespace AE
open PySem L2
section
variable {X : Cx} {W : WX} {a b : Expr} {ta tb : TD} {pos : Pos}
def rIxD : R2 := fun x y H Q => ∃ a v, x = .ref a ∧ DGet H a y (some v) ∧ Q v H
theorem ix_dict (hu : X.A.units + 64 < cLine) : IxR X rIxD := by
  intro value slice pins s σ H x y o i Q I rx ry h hs
  obtain ⟨p, v, rfl, g, q⟩ := h
  cases rx
  have hT := dict_typeIs I g
  have h₂ : wpAny (model X.prog X.w) X.A (getItem (.ref p) i) (EP X pins σ Q) X.xe s := d_getItem (by omega) I g ry fun w' s3 I3 rw' => ⟨v, H, I3, rw', q⟩
  unfold PyProof.Rows.subscriptTail
  refine wpAny_bind ?_
  rw [getitemInPython_of_ne hT.not_modules]
  refine wpAny_bind (wpAny_specialOf hT PySem.F.slot_dict_getitem.lookup ?_)
  have fin : wpAny (model X.prog X.w) X.A (subscripted slice false (.ref p) i) (fun r s₃ => wpAny (model X.prog X.w) X.A (letTemporaryGo value (.ref p) r >>= fun _ => pure r) (EP X pins σ Q) X.xe s₃) X.xe s := by
    rw [hs]
    exact wpAny_operating (wpAny_mono h₂ (fun r s₃ h₃ => wpAny_bind (wpAny_letTemporaryGo (wpAny_pure h₃))) fun _ _ x => x)
  first
    | exact wpAny_pure (wpAny_bind fin)
    | exact wpAny_bind (wpAny_pure (wpAny_bind fin))
    | exact wpAny_bind fin
def gIxD : G2 := fun d d' P => match d with
  | .dic kvs => (match keyD d' with
    | some k => ∃ v, valD kvs k = some v ∧ P (.fz v)
    | none => False)
  | _ => gIx d d' P
theorem do_ixD {K : PySem.W.Frag} : Do2 K (fun x y H Q => rIx K x y H Q ∨ rIxD x y H Q) gIxD := fun HF H v v' d d' P Q s r r' g k => by
  unfold gIxD at g
  split at g
  · split at g
    · rename_i key ek
      obtain ⟨p, vs, rfl, h1, r1⟩ := r
      obtain rfl := keyD_ok ek r'
      obtain ⟨dv, e1, q⟩ := g
      rcases RepKs.val (k := key) r1 with ⟨e2, _⟩ | ⟨d1, v1, e2, e3, rv⟩
      · rw [e1] at e2; cases e2
      · rw [e1] at e2; cases e2
        exact .inr ⟨p, v1, rfl, .inl ⟨vs, key, h1, rfl, e3.symm⟩, k _ _ _ _ _ q (New.imm s rv)⟩
    · exact g.elim
  · exact .inl (do_ix HF H v v' _ d' P Q s r r' g k)
theorem ae_at (hu : X.A.units + 64 < cLine) (ha : AE X W a ta) (hb : AE X W b tb) (hs : PlainIx b := by intro _ _; rfl) : AE X W (.Subscript a b pos) (t2 (p2 gIxD) ta tb) := ae_ix (IxR.or ix_seq (ix_dict hu)) (prim2 do_ixD) ha hb hs
end
def One (o : O) : Prop := match o with
  | .ls _ => True
  | .dc _ => True
  | .dt _ => True
  | _ => False
theorem One.at {K : PySem.W.Frag} {HF H : Hp} {o : O} {v : V} {B : List Addr} (h : One o) (r : RepO K HF H o v B) : ∃ a, v = .ref a ∧ B = [a] := by
  cases o with
  | ls _ => obtain ⟨a, vs, e, ea, _⟩ := r; exact ⟨a, e, ea⟩
  | dc _ => obtain ⟨a, vs, e, ea, _⟩ := r; exact ⟨a, e, ea⟩
  | dt _ => obtain ⟨a, vs, e, ea, _⟩ := r; exact ⟨a, e, ea⟩
  | _ => exact h.elim
theorem slot_one {K : PySem.W.Frag} {σ : St} {HF H : Hp} {ρ : Env} {A : List Addr} {i : Nat} {o : O} (en : EnvR K HF H ρ σ A) (e : ρ[i]? = some (some o)) (h1 : One o) :
    ∃ a, σ[i]? = some (some (.ref a)) ∧ RepO K HF H o (.ref a) [a] ∧ ∀ HG u o', Same HF HG → WR HG H A → RepO K HG (upd H a u) o' (.ref a) [a] → ∃ A', WR HG (upd H a u) A' ∧ Fr H (upd H a u) HG HG A A' ∧ EnvR K HG (upd H a u) (ρ.set i (some o')) σ A' := by
  obtain ⟨v, B, C, s1, r, pm, en1⟩ := en.get e
  obtain ⟨a, rfl, rfl⟩ := h1.at r
  refine ⟨a, s1, r, fun HG u o' s w r' => ?_⟩
  have w1 : WR HG H (C ++ [a]) := w.perm (pm.trans List.perm_append_comm)
  obtain ⟨w2, f2, k2⟩ := putD (K := K) (u := u) w1
  have en2 := k2 _ _ (EnvR.keep s _ en1 fun _ _ => rfl)
  have hi : i < ρ.length := (List.getElem?_eq_some_iff.mp e).1
  obtain ⟨A', pm', en3⟩ := EnvR.put en2 hi r'
  rw [set_get s1] at en3
  have p3 : (C ++ [a]).Perm A' := List.perm_append_comm.trans pm'.symm
  have p4 : A.Perm (C ++ [a]) := pm.trans List.perm_append_comm
  exact ⟨A', w2.perm p3, f2.mono (fun p hp => p4.mem_iff.mpr hp) fun p hp => .inl (p3.mem_iff.mpr hp), en3⟩
def isL (ρ : Env) (e : EV) : Prop := match deref ρ e with
  | some (.ls _) => True
  | some (.nl _) => True
  | some (.fz (.lst _)) => True
  | _ => False
theorem isL_ty {K : PySem.W.Frag} {HF H : Hp} {ρ : Env} {σ : St} {A Av : List Addr} {ev : EV} {v : V} (s : Same HF H) (en : EnvR K HF H ρ σ A) (r : EVR K HF H σ ev v Av) (h : isL ρ ev) : tyV K "list" v H := by
  have key : ∀ {o : O} {B : List Addr}, RepO K HF H o v B → (match some o with | some (.ls _) => True | some (.nl _) => True | some (.fz (.lst _)) => True | _ => False) → tyV K "list" v H := fun {o B} ro z => by
    cases o with
    | ls ds => obtain ⟨a, vs, rfl, _, q, _⟩ := ro; exact .inl ⟨rfl, vs, SqL.of q⟩
    | nl ds => obtain ⟨a, vs, _, rfl, _, q, _⟩ := ro; exact .inl ⟨rfl, vs, SqL.of q⟩
    | fz d =>
      cases d with
      | lst ds => obtain ⟨_, a, vs, rfl, q, _⟩ := ro; exact .inl ⟨rfl, vs, SqL.of (s _ _ q)⟩
      | _ => exact z.elim
    | _ => exact z.elim
  cases ev with
  | ow o => exact key r h
  | tk i π w o => exact key r.2 h
  | pt i =>
    have h : (match (match ρ[i]? with | some (some o) => some o | _ => none : Option O) with | some (.ls _) => True | some (.nl _) => True | some (.fz (.lst _)) => True | _ => False) := h
    cases e' : ρ[i]? with
    | none => rw [e'] at h; exact h.elim
    | some oo =>
      cases oo with
      | none => rw [e'] at h; exact h.elim
      | some o =>
        rw [e'] at h
        obtain ⟨v', B, C, h1, h2, _⟩ := en.get e'
        have : v = v' := by
          have q := r.2
          rw [h1] at q
          exact (Option.some.inj (Option.some.inj q)).symm
        subst this
        exact key h2 h
def tMtL (f : Env → List EV → KD → Prop) (ta : TD) (ts : TDs) : TD := fun ρ Kd Ed => ta ρ (fun e1 ρ1 => isL ρ1 e1 ∧ ts ρ1 (fun es ρ2 => f ρ2 (e1 :: es) Kd) Ed) Ed
def rML (r : V → List V → Hp → VK → Prop) : List V → Hp → VK → Prop
  | x :: xs => r x xs
  | _ => fun _ _ => False
section
variable {X : Cx} {W : WX} {o e : Expr} {es : List Expr} {to : TD} {ts : TDs} {name : Str} {apos cpos : Pos} {id : String} {r : V → List V → Hp → VK → Prop} {f : Env → List EV → KD → Prop}
theorem mt_red (hp : Prim X.K (rML r) f) : ∀ σ H Q, tA X.K W (tMtL f to ts) σ H Q → tBM X.K "list" r (tA X.K W to) (tAs X.K W ts) σ H Q := fun σ H Q q => by
  obtain ⟨HF, ρ, A, Kd, Ed, w, en, t, k, x⟩ := q
  refine ⟨HF, ρ, A, _, Ed, w, en, t, fun e1 ρ1 q1 HF1 H1 A1 v1 Av1 f1 w1 en1 r1 => ⟨isL_ty w1.same en1 r1 q1.1, ?_⟩, x⟩
  have x1 : XOk X.K σ H1 HF1 A1 Ed W := (x.step f1).step (Fr.drop fun p hp => List.mem_append_left _ hp)
  refine ⟨HF1, ρ1, A1, _, Ed, w1.left, en1, q1.2, fun es2 ρ2 q2 HF2 H2 A2 vs2 Av2 f2 w2 en2 r2 => ?_, x1⟩
  obtain ⟨w3, f3, k3⟩ := join w1 (EVR.there r1) f2 w2
  exact hp σ HF2 H2 ρ2 A2 (Av1 ++ Av2) (e1 :: es2) (v1 :: vs2) Kd Q w3 en2 ⟨v1, vs2, Av1, Av2, rfl, rfl, EVR.keep f2.same r1 k3, r2⟩ q2 ((k.step f1).step f3)
theorem ae_mtL (slot : Slot "list" name id) (hty : typeOf (.builtin id) = pure (.type "method_descriptor")) (hm : MtR X id r) (hp : Prim X.K (rML r) f) (ho : AE X W o to) (ha : AA X W (e :: es) ts)
    (hbase : attributeBase o name X.env (eval o X.env) = eval o X.env := by rfl)
    (hfew : ((backTo cpos (starEach (e :: es) X.env)).all (fun x => !x.1) && (backToKw cpos (keywordEach [] X.env)).all (fun x => x.1.isSome)
      && decide ((e :: es).length + ([] : List Keyword).length + (if ([] : List Keyword).isEmpty then 0 else 1) < 30)) = true := by rfl)
    (hline : (apos.endLine == cpos.line) = true := by rfl) (hs : starEach (e :: es) X.env = (false, eval e X.env) :: starEach es X.env := by rfl) (hplain : (backTo cpos (starEach es X.env)).any (·.1) = false := by rfl) :
    AE X W (.Call (.Attribute o name apos) (e :: es) [] cpos) (tMtL f to ts) := PE.imp (pe_bm PySem.F.plainAttrs_list slot hty hm ho ha hbase hfew hline hs hplain) (mt_red hp)
def fApp : Env → List EV → KD → Prop := fun ρ es Kd => match es with
  | [.pt i, .ow o] => (match ρ[i]? with
    | some (some (.ls xs)) => xs.length < sizeLine ∧ Kd (.ow (.fz .non)) (ρ.set i (some (.ls (xs ++ [frz o]))))
    | _ => False)
  | _ => False
theorem prim_app {K : PySem.W.Frag} : Prim K (rML rAppend) fApp := fun σ HF H ρ A Av evs vs Kd Q w en r q k => by
  unfold fApp at q
  split at q
  · rename_i i o
    split at q
    · rename_i xs e
      obtain ⟨v, ws, A1, A2, rfl, rfl, r1, v2, ws2, A3, A4, rfl, rfl, r2, rfl, rfl⟩ := r
      obtain ⟨rfl, hv⟩ := r1
      obtain ⟨a, s1, ro, upd1⟩ := slot_one en e trivial
      rw [hv] at s1
      obtain rfl := Option.some.inj (Option.some.inj s1)
      simp only [List.nil_append, List.append_nil] at w k
      obtain ⟨sg, wg, fg⟩ := grow_ok (w.perm List.perm_append_comm)
      have rg : Rep K (grow HF H A3) (frz o) v2 := RepO.frz sg o r2 fun p hp => grow_in hp
      obtain ⟨a', us, e1, e2, hH, rs⟩ := ro
      cases e1
      obtain ⟨A', w', f', en'⟩ := upd1 (grow HF H A3) (.lst (us ++ [v2])) (.ls (xs ++ [frz o])) sg wg ⟨a, _, rfl, rfl, upd_same, (Reps.mono sg xs rs).append (Reps.one rg)⟩
      refine ⟨a, us, v2, rfl, rfl, hH, by rw [rs.length]; exact q.1, ?_⟩
      have ff : Fr H (upd H a (.lst (us ++ [v2]))) HF (grow HF H A3) (A ++ A3) A' := (fg.mono (fun p hp => (List.mem_append.mp hp).elim (fun z => List.mem_append_right _ z) (fun z => List.mem_append_left _ z)) fun p hp => .inl hp).trans f'
      exact k _ _ q.2 _ _ A' .non [] (by rw [List.append_nil]; exact ff) (by rw [List.append_nil]; exact w') en' ⟨rfl, rfl⟩
    · exact q.elim
  · exact q.elim
theorem ae_append (ho : AE X W o to) (ha : AA X W [e] ts) (hbase : attributeBase o "append" X.env (eval o X.env) = eval o X.env := by rfl)
    (hfew : ((backTo cpos (starEach [e] X.env)).all (fun x => !x.1) && (backToKw cpos (keywordEach [] X.env)).all (fun x => x.1.isSome)
      && decide (([e] : List Expr).length + ([] : List Keyword).length + (if ([] : List Keyword).isEmpty then 0 else 1) < 30)) = true := by rfl)
    (hline : (apos.endLine == cpos.line) = true := by rfl) (hs : starEach [e] X.env = (false, eval e X.env) :: starEach [] X.env := by rfl) :
    AE X W (.Call (.Attribute o "append" apos) [e] [] cpos) (tMtL fApp to ts) := ae_mtL PySem.F.slot_list_append PySem.F.type_list_append mt_append prim_app ho ha hbase hfew hline hs rfl
end
end AE
namespace AE
open PySem L2
def putDk {κ : Type} [DecidableEq κ] (kvs : List (κ × D)) (k : κ) (v : D) : List (κ × D) :=
  if (kvs.any fun kv => decide (kv.1 = k)) = true then kvs.map (fun kv => if kv.1 = k then (kv.1, v) else kv) else kvs ++ [(k, v)]
section
variable {K : PySem.W.Frag} {HF : Hp}
theorem RepKs.any {k : Key} : ∀ {ds : List (Key × D)} {vs : List (Key × V)}, RepKs K HF ds vs → (vs.any fun kv => decide (kv.1 = k)) = (ds.any fun kv => decide (kv.1 = k))
  | [], vs, h => by rw [show vs = [] from h]; rfl
  | (k', d) :: ds, vs, h => by
    obtain ⟨⟨k2, v⟩, ws, rfl, ⟨hk, r⟩, t⟩ := h
    have hk : k2 = k' := hk
    subst hk
    simp only [List.any_cons, RepKs.any t]
theorem RepKs.mapPut {k : Key} {d : D} {v : V} (r : Rep K HF d v) : ∀ {ds : List (Key × D)} {vs : List (Key × V)}, RepKs K HF ds vs → RepKs K HF (ds.map fun kv => if kv.1 = k then (kv.1, d) else kv) (vs.map fun kv => if kv.1 = k then (kv.1, v) else kv)
  | [], vs, h => by rw [show vs = [] from h]; exact rfl
  | (k', d') :: ds, vs, h => by
    obtain ⟨⟨k2, v2⟩, ws, rfl, ⟨hk, r2⟩, t⟩ := h
    have hk : k2 = k' := hk
    subst hk
    refine ⟨_, _, rfl, ?_, RepKs.mapPut r t⟩
    by_cases e : k2 = k
    · simp only [e, if_true]; exact ⟨rfl, r⟩
    · simp only [e, if_false]; exact ⟨rfl, r2⟩
theorem RepKs.append : ∀ {ds es : List (Key × D)} {vs ws : List (Key × V)}, RepKs K HF ds vs → RepKs K HF es ws → RepKs K HF (ds ++ es) (vs ++ ws)
  | [], es, vs, ws, h, q => by rw [show vs = [] from h]; exact q
  | d :: ds, es, vs, ws, h, q => by obtain ⟨v, us, rfl, r, t⟩ := h; exact ⟨v, us ++ ws, rfl, r, RepKs.append t q⟩
theorem RepKs.put {k : Key} {d : D} {v : V} (r : Rep K HF d v) {ds : List (Key × D)} {vs : List (Key × V)} (h : RepKs K HF ds vs) : RepKs K HF (putDk ds k d) (putK vs k v) := by
  unfold putDk putK
  rw [h.any]
  split
  · exact RepKs.mapPut r h
  · exact h.append ⟨(k, v), [], rfl, ⟨rfl, r⟩, rfl⟩
theorem Reps.set {d : D} {v : V} (r : Rep K HF d v) : ∀ {ds : List D} {vs : List V} (n : Nat), Reps K HF ds vs → Reps K HF (ds.set n d) (vs.set n v)
  | [], vs, n, h => by rw [show vs = [] from h]; exact rfl
  | d' :: ds, vs, 0, h => by obtain ⟨v', ws, rfl, q, t⟩ := h; exact ⟨v, ws, rfl, r, t⟩
  | d' :: ds, vs, n + 1, h => by obtain ⟨v', ws, rfl, q, t⟩ := h; exact ⟨v', _, rfl, q, Reps.set r n t⟩
end
section
variable {X : Cx} {P : Prot} {o i : Expr} {to ti : TD} {pos : Pos}
theorem PSet.or {t t' : TSet} (h : PSet X t) (h' : PSet X t') : PSet X (fun o i v H Q => t o i v H Q ∨ t' o i v H Q) := fun pins s σ H o i v ov iv u Q I ro ri rv q => q.elim (h pins s σ H o i v ov iv u Q I ro ri rv) (h' pins s σ H o i v ov iv u Q I ro ri rv)
def rSetD : TSet := fun o i v H Q => ∃ a H', o = .ref a ∧ DPut H a i v H' ∧ Q H'
theorem set_dict (hu : X.A.units + 64 < cLine) : PSet X rSetD := fun pins s σ H o i v ov iv u Q I ro ri rv q => by
  obtain ⟨a, H', rfl, g, q⟩ := q
  cases ro
  exact d_setItem (by omega) I g ri rv fun s' I' => ⟨H', I', q⟩
def gSubD (to ti : TD) : TGD := fun o ρ N => to ρ (fun e1 ρ1 => ti ρ1 (fun e2 ρ2 => match e1 with
  | .pt j => (match ρ2[j]? with
    | some (some (.ls xs)) => (match dOf ρ2 e2 with
      | some (.int k) => ∃ n, ixN xs.length k = some n ∧ N (ρ2.set j (some (.ls (xs.set n (frz o)))))
      | _ => False)
    | some (some (.dc kvs)) => (match dOf ρ2 e2 with
      | some d => (match keyD d with
        | some k => kvs.length < sizeLine ∧ N (ρ2.set j (some (.dc (putDk kvs k (frz o)))))
        | none => False)
      | none => False)
    | _ => False)
  | _ => False) NoX) NoX
theorem ag_sub (hu : X.A.units + 64 < cLine) (ho : AE X WF o to) (hi : AE X WF i ti)
    (ha : ∀ v, assign (.Subscript o i pos) X.env v = (do
      let ov ← holding [v] (eval o X.env)
      let iv ← holding [v, ov] (eval i X.env)
      standAt pos
      holding [v, ov, iv] (setItem ov iv v)
      release [v, ov, iv] []) := by intro _; rfl) : AG X P (.Subscript o i pos) (gSubD to ti) :=
  PG.imp (pg_sub ho hi (PSet.or set_list (set_dict hu)) ha) fun v σ H Q q => by
    obtain ⟨HF, ρ, A, ov, B, N, w, en, r, g, k⟩ := q
    have tB := RepO.there ov r
    refine ⟨HF, ρ, A, _, NoX, w.left, en, g, fun e1 ρ1 q1 HF1 H1 A1 v1 Av1 f1 w1 en1 r1 => ?_, fun _ _ z => z.elim⟩
    obtain ⟨w1B, f1B, k1B⟩ := join w tB f1 w1
    have f1' : Fr H H1 HF HF1 A A1 := f1.mono (fun _ h => h) fun p hp => .inl (List.mem_append_left _ hp)
    have wA1 : WR HF1 H1 (A1 ++ B) := w1B.sub (by rw [← List.append_assoc]; exact List.sublist_append_left _ _)
    have fA1 : Fr H H1 HF HF1 (A ++ B) (A1 ++ B) := f1B.mono (fun _ h => h) fun p hp => .inl (by rw [← List.append_assoc]; exact List.mem_append_left _ hp)
    have rB1 : RepO X.K HF1 H1 ov v B := RepO.keep f1.same ov r k1B
    refine ⟨HF1, ρ1, A1, _, NoX, w1.left, en1, q1, fun e2 ρ2 q2 HF2 H2 A2 v2 Av2 f2 w2 en2 r2 => ?_, fun _ _ z => z.elim⟩
    obtain ⟨w2B, f2B, k2B⟩ := join wA1 (fun p hp => by rw [k1B p hp]; exact tB p hp) f2 w2
    have wA2 : WR HF2 H2 (A2 ++ B) := w2B.sub (by rw [← List.append_assoc]; exact List.sublist_append_left _ _)
    have fA2 : Fr H H2 HF HF2 (A ++ B) (A2 ++ B) := fA1.trans (f2B.mono (fun _ h => h) fun p hp => .inl (by rw [← List.append_assoc]; exact List.mem_append_left _ hp))
    have rB2 : RepO X.K HF2 H2 ov v B := RepO.keep f2.same ov rB1 k2B
    obtain ⟨sg, wg, fg⟩ := grow_ok (wA2.perm List.perm_append_comm)
    have rg : Rep X.K (grow HF2 H2 B) (frz ov) v := RepO.frz sg ov rB2 fun p hp => grow_in hp
    have fg' : Fr H H2 HF (grow HF2 H2 B) (A ++ B) A2 := fA2.trans (fg.mono (fun p hp => (List.mem_append.mp hp).elim (fun z => List.mem_append_right _ z) (fun z => List.mem_append_left _ z)) fun p hp => .inl hp)
    dsimp only at q2
    split at q2
    · rename_i j
      split at q2
      · rename_i xs e
        split at q2
        · rename_i kk e3
          obtain ⟨n, hn, q⟩ := q2
          cases (show v2 = .int kk from Vw.ev w2.same en2 r2 e3)
          obtain ⟨a, s1, ro, upd1⟩ := slot_one en2 e trivial
          have hv := r1.2
          rw [s1] at hv
          obtain rfl := Option.some.inj (Option.some.inj hv)
          obtain ⟨a', us, ee, _, hH, rs⟩ := ro
          cases ee
          obtain ⟨A', w', f', en'⟩ := upd1 (grow HF2 H2 B) (.lst (us.set n v)) (.ls (xs.set n (frz ov))) sg wg ⟨a, _, rfl, rfl, upd_same, Reps.set rg n (Reps.mono sg xs rs)⟩
          exact .inl ⟨a, us, kk, n, rfl, rfl, hH, by rw [rs.length]; exact hn, k _ q _ _ σ A' .refl (fg'.trans f') w' en'⟩
        · exact q2.elim
      · rename_i kvs e
        split at q2
        · rename_i d e3
          split at q2
          · rename_i key ek
            obtain ⟨hl, q⟩ := q2
            obtain rfl := keyD_ok ek (Vw.ev w2.same en2 r2 e3)
            obtain ⟨a, s1, ro, upd1⟩ := slot_one en2 e trivial
            have hv := r1.2
            rw [s1] at hv
            obtain rfl := Option.some.inj (Option.some.inj hv)
            obtain ⟨a', us, ee, _, hH, rs⟩ := ro
            cases ee
            obtain ⟨A', w', f', en'⟩ := upd1 (grow HF2 H2 B) (.dK (putK us key v)) (.dc (putDk kvs key (frz ov))) sg wg ⟨a, _, rfl, rfl, upd_same, RepKs.put rg (RepKs.mono sg kvs rs)⟩
            exact .inr ⟨a, _, rfl, DPut.k hH (by rw [rs.length]; exact hl), k _ q _ _ σ A' .refl (fg'.trans f') w' en'⟩
          · exact q2.elim
        · exact q2.elim
      · exact q2.elim
    · exact q2.elim
end
end AE
namespace AE
open PySem L2
theorem room65 {k : Nat} {A : Around} (r : Room k A) : A.units + 65 < cLine := by have := r.un; omega
structure CR (X : Cx) (op : CmpOp) (f : Env → List EV → KD → Prop) : Prop where
  ex : ∃ r, OpR X (compareOp op) r ∧ Prim X.K (r2L r) f
section
variable {X : Cx} {W : WX} {a b c : Expr} {ta tb tc : TD} {pos : Pos} {op op' : CmpOp} {f f' : Env → List EV → KD → Prop}
theorem ae_c (h : CR X op f) (ha : AE X W a ta) (hb : AE X W b tb) (hm : behindInMarks op b = false := by first | exact nobehind _ (by decide) (by decide) | rfl) : AE X W (.Compare a [op] [b] pos) (t2 f ta tb) := let ⟨_, ho, hp⟩ := h.ex; ae_cmp ho hp ha hb hm
theorem at_c (h : CR X op f) (ha : AE X W a ta) (hb : AE X W b tb) (hm : behindInMarks op b = false := by first | exact nobehind _ (by decide) (by decide) | rfl) : AT X W (.Compare a [op] [b] pos) (tVal (t2 f ta tb)) := by
  obtain ⟨r, ho, hp⟩ := h.ex
  refine PT.imp (pt_cmpR ho ha hb hm) fun σ H Q q => ?_
  obtain ⟨HF, ρ, A, Kd, Ed, w, en, t, k, x⟩ := q
  refine two hp σ H _ ⟨HF, ρ, A, _, Ed, w, en, t, fun e1 ρ1 q1 HF1 H1 A1 v1 Av1 f1 w1 en1 r1 => ?_, x⟩
  dsimp only at q1
  split at q1
  · rename_i b e2
    have r2 : Vw X.K HF1 H1 (.bl b) v1 := Vw.ev w1.same en1 r1 e2
    exact ⟨b, r2, k b ρ1 q1 HF1 H1 A1 (f1.mono (fun _ hp => hp) fun p hp => .inl (List.mem_append_left _ hp)) w1.left en1⟩
  · exact q1.elim
theorem c_lt : CR X .Lt (p2 (gI0 fun i j => .bl (decide (i < j)))) := ⟨_, op_lt, prim2 (do2_int0 fun _ _ _ _ => rfl)⟩
theorem c_le : CR X .LtE (p2 (gI0 fun i j => .bl (decide (i ≤ j)))) := ⟨_, op_le, prim2 (do2_int0 fun _ _ _ _ => rfl)⟩
theorem c_gt : CR X .Gt (p2 (gI0 fun i j => .bl (decide (j < i)))) := ⟨_, op_gt, prim2 (do2_int0 fun _ _ _ _ => rfl)⟩
theorem c_ge : CR X .GtE (p2 (gI0 fun i j => .bl (decide (j ≤ i)))) := ⟨_, op_ge, prim2 (do2_int0 fun _ _ _ _ => rfl)⟩
theorem do_eq {K : PySem.W.Frag} : Do2 K (fun x y H Q => rEq x y H Q ∨ rEqD K x y H Q) gEq := fun HF H v v' d d' P Q s r r' g k => by
  rcases g with ⟨h | ⟨h1, h2⟩, q⟩
  · obtain ⟨e1, e2⟩ := scal_dec h r r'
    exact .inl ⟨e1, by rw [e2]; exact k _ _ _ _ _ q (New.imm s rfl)⟩
  · exact .inr ⟨_, _, Rep.dp d h1.1 (r.rep s), Rep.dp d' h2.1 (r'.rep s), h1.shaped, h2.shaped, by rw [eqv_toPy d d' h1.1 h2.1]; exact k _ _ _ _ _ q (New.imm s rfl)⟩
theorem do_ne {K : PySem.W.Frag} : Do2 K (fun x y H Q => rNe x y H Q ∨ rNeD K x y H Q) gNe := fun HF H v v' d d' P Q s r r' g k => by
  rcases g with ⟨h | ⟨h1, h2⟩, q⟩
  · obtain ⟨e1, e2⟩ := scal_dec h r r'
    exact .inl ⟨e1, by rw [e2]; exact k _ _ _ _ _ q (New.imm s rfl)⟩
  · exact .inr ⟨_, _, Rep.dp d h1.1 (r.rep s), Rep.dp d' h2.1 (r'.rep s), h1.shaped, h2.shaped, by rw [eqv_toPy d d' h1.1 h2.1]; exact k _ _ _ _ _ q (New.imm s rfl)⟩
theorem c_eq (hu : X.A.units + 64 < cLine) : CR X .Eq (p2 gEq) := ⟨_, OpR.or op_eq (op_eqD hu), prim2 do_eq⟩
theorem c_ne (hu : X.A.units + 64 < cLine) : CR X .NotEq (p2 gNe) := ⟨_, OpR.or op_ne (op_neD hu), prim2 do_ne⟩
theorem c_in (hu : X.A.units + 65 < cLine) : CR X .In (p2 (gIn false)) := ⟨_, op_inU hu, prim2 (do_in false)⟩
theorem do_isnot {K : PySem.W.Frag} : Do2 K (fun x y H Q => y = V.non ∧ Q (.bl (!decide (x = .non))) H) (gIsN true) := fun HF H v v' d d' P Q s r r' g k => by
  unfold gIsN at g
  split at g
  · cases (show v' = .non from r')
    exact ⟨rfl, by rw [non_dec r]; exact k _ _ _ _ _ g (New.imm s rfl)⟩
  · exact g.elim
theorem c_isnot : CR X .IsNot (p2 (gIsN true)) := ⟨_, op_notN, prim2 do_isnot⟩
theorem EVRs.append {K : PySem.W.Frag} {HF H : Hp} {σ : St} : ∀ {es es' : List EV} {vs vs' : List V} {A A' : List Addr}, EVRs K HF H σ es vs A → EVRs K HF H σ es' vs' A' → EVRs K HF H σ (es ++ es') (vs ++ vs') (A ++ A')
  | [], es', vs, vs', A, A', h, q => by obtain ⟨rfl, rfl⟩ := h; exact q
  | e :: es, es', vs, vs', A, A', h, q => by
    obtain ⟨v, ws, A1, A2, rfl, rfl, r, t⟩ := h
    exact ⟨v, ws ++ vs', A1, A2 ++ A', rfl, by rw [List.append_assoc], r, EVRs.append t q⟩
def GlobD (K : PySem.W.Frag) (mg : Str → Option Value) (x : Str) (d : D) : Prop := ∃ u v, mg x = some u ∧ RelV v u ∧ ∀ H, Rep K H d v
theorem ae_glob {x : Str} {d : D} (h : GlobD X.K X.mg x d) (hg : Gl X x) (hd : (x == ("__debug__" : Str)) = false := by decide) : AE X W (.Name x pos) (tK d) := by
  obtain ⟨u, v, hm, rv, r⟩ := h
  refine PE.imp (pe_glob hg hm rv hd) fun σ H Q q => ?_
  obtain ⟨HF, ρ, A, Kd, Ed, w, en, t, k, x⟩ := q
  exact k _ _ t HF H A v [] (by rw [List.append_nil]; exact Fr.refl) (by rw [List.append_nil]; exact w) en ⟨rfl, r _⟩
structure FldOk (K : PySem.W.Frag) (C : Addr) (f : Str) : Prop where
  cl : Cls K C
  no : NoAttr K C f
def tFldD (K : PySem.W.Frag) (f : Str) (ta : TD) : TD := fun ρ Kd Ed => ta ρ (fun e ρ1 => match deref ρ1 e with
  | some (.fz (.ins C fs)) => FldOk K C f ∧ ∃ d, fs.lookup f = some d ∧ Kd (.ow (.fz d)) ρ1
  | some (.ob C fs) => FldOk K C f ∧ ∃ d, fs.lookup f = some (.fz d) ∧ Kd (.ow (.fz d)) ρ1
  | _ => False) Ed
theorem RepFs.look {K : PySem.W.Frag} {HF : Hp} {f : Str} {d : D} : ∀ {fs : List (Str × D)} {vs : List (Str × V)}, RepFs K HF fs vs → fs.lookup f = some d → ∃ v, vs.lookup f = some v ∧ Rep K HF d v
  | [], vs, h, e => by cases e
  | (g, d') :: fs, vs, h, e => by
    obtain ⟨⟨g2, v⟩, ws, rfl, ⟨hk, r⟩, t⟩ := h
    have hk : g2 = g := hk
    subst hk
    by_cases hg : f == g2
    · simp only [List.lookup_cons, hg] at e ⊢
      cases e
      exact ⟨v, rfl, r⟩
    · simp only [List.lookup_cons, hg] at e ⊢
      exact RepFs.look t e
theorem RepOFs.look {K : PySem.W.Frag} {HF H : Hp} {f : Str} {o : O} : ∀ {fs : List (Str × O)} {vs : List (Str × V)} {A : List Addr}, RepOFs K HF H fs vs A → fs.lookup f = some o → ∃ v B, vs.lookup f = some v ∧ RepO K HF H o v B
  | [], vs, A, h, e => by cases e
  | (g, d') :: fs, vs, A, h, e => by
    obtain ⟨⟨g2, v⟩, ws, A1, A2, rfl, rfl, ⟨hk, r⟩, t⟩ := h
    have hk : g2 = g := hk
    subst hk
    by_cases hg : f == g2
    · simp only [List.lookup_cons, hg] at e ⊢
      cases e
      exact ⟨v, A1, rfl, r⟩
    · simp only [List.lookup_cons, hg] at e ⊢
      exact RepOFs.look t e
theorem deref_ok {K : PySem.W.Frag} {HF H : Hp} {ρ : Env} {σ : St} {A Av : List Addr} {ev : EV} {v : V} {o : O} (en : EnvR K HF H ρ σ A) (r : EVR K HF H σ ev v Av) (h : deref ρ ev = some o) : ∃ B, RepO K HF H o v B := by
  cases ev with
  | ow o' => cases h; exact ⟨Av, r⟩
  | tk i π w o' => cases h; exact ⟨Av, r.2⟩
  | pt i =>
    have h : (match ρ[i]? with | some (some o) => some o | _ => none : Option O) = some o := h
    cases e' : ρ[i]? with
    | none => rw [e'] at h; cases h
    | some oo =>
      cases oo with
      | none => rw [e'] at h; cases h
      | some o' =>
        rw [e'] at h
        cases h
        obtain ⟨v', B, C, h1, h2, _⟩ := en.get e'
        have : v = v' := by
          have q := r.2
          rw [h1] at q
          exact (Option.some.inj (Option.some.inj q)).symm
        subst this
        exact ⟨B, h2⟩
theorem ae_fld {f : Str} (ha : AE X W a ta) (hb : attributeBase a f X.env (eval a X.env) = eval a X.env := by rfl) : AE X W (.Attribute a f pos) (tFldD X.K f ta) := PE.imp (pe_fld ha hb) fun σ H Q q => by
  obtain ⟨HF, ρ, A, Kd, Ed, w, en, t, k, x⟩ := q
  refine ⟨HF, ρ, A, _, Ed, w, en, t, fun e1 ρ1 q1 HF1 H1 A1 v1 Av1 f1 w1 en1 r1 => ?_, x⟩
  have fin : ∀ {d : D} {v : V}, Kd (.ow (.fz d)) ρ1 → Rep X.K HF1 d v → Q v H1 := fun {d v} q r => k _ ρ1 q HF1 H1 A1 v [] (by rw [List.append_nil]; exact f1.mono (fun _ h => h) fun p hp => .inl (List.mem_append_left _ hp)) (by rw [List.append_nil]; exact w1.left) en1 ⟨rfl, r⟩
  dsimp only at q1
  split at q1
  · rename_i C fs e
    obtain ⟨fo, d, hd, q⟩ := q1
    obtain ⟨B, _, a', dx, vs, rfl, hH, rs⟩ := deref_ok en1 r1 e
    obtain ⟨v, hv, rv⟩ := rs.look hd
    exact ⟨a', C, dx, vs, v, rfl, w1.same _ _ hH, fo.cl, fo.no, hv, fin q rv⟩
  · rename_i C fs e
    obtain ⟨fo, d, hd, q⟩ := q1
    obtain ⟨B, a', dx, vs, B', rfl, _, hH, rs⟩ := deref_ok en1 r1 e
    obtain ⟨v, B2, hv, rv⟩ := rs.look hd
    exact ⟨a', C, dx, vs, v, rfl, hH, fo.cl, fo.no, hv, fin q rv.2⟩
  · exact q1.elim
end
end AE
namespace AE
open PySem L2
structure XPlain (K : PySem.W.Frag) (mg : Str → Option Value) (x : Str) (C : Addr) : Prop where
  mgC : mg x = some (.ref C)
  exc : PySem.W.excIn K C PySem.HandSPX.veTail "ValueError.__new__" = true
  keep : PySem.W.keepIn K (.ref C) = true
  sub : PySem.W.subIn K (.ref C) (.type "BaseException") = some true
  typ : PySem.W.typeIn K (.ref C) = some (.type "type")
section
variable {X : Cx} {W : WX} {P : Prot} {x : Str} {C : Addr} {p pos pos2 : Pos}
end
def spXI (C : Addr) (f : Str) : Sp := fun vs H Q _ => ∃ a v, vs = [.ref a, v] ∧ H a = some (exo a C none) ∧ ∀ dx, H dx = none → dx ≠ a → Q .non (upd (upd H dx (exd dx [(f, v)])) a (exo a C (some dx)))
structure XOne (P : Program) (w : World) (K : PySem.W.Frag) (mg : Str → Option Value) (base : Heap) (x : Str) (C : Addr) (f pn : Str) : Prop where
  mgC : mg x = some (.ref C)
  oex : OexC K C
  ex : ∃ fI fd, PySem.W.findIn K (.ref C) "__init__" = some (some (.ref fI)) ∧ PySem.W.typeIn K (.ref fI) = some (.type "function") ∧ Binds K fd ["self", pn] [] ∧ FnOk P w K mg base (L2N.CX P w) 1 fI fd ["self", pn] (spXI C f)
section
variable {X : Cx} {x : Str} {C : Addr} {e : Expr} {es : List Expr} {ta : TA} {p pos : Pos}
theorem pmk_oexN {CX : CXT} {fI : Addr} {k : Nat} {fd : FuncData} {ps : List Str} {sp : Sp} {ds : List Value} {dvs : List V} (T : OexC X.K C) (iC : PySem.W.findIn X.K (.ref C) "__init__" = some (some (.ref fI))) (tI : PySem.W.typeIn X.K (.ref fI) = some (.type "function"))
    (F1 : FnOk X.prog X.w X.K X.mg X.base CX k fI fd ps sp) (hr : Room (k + 1) X.A) (hb : Binds X.K fd ps ds) (hd : Vals dvs ds) (hx : Passes CX X (fun _ _ _ => False)) (hg : Gl X x) (hm : X.mg x = some (.ref C)) (ha : PA X (e :: es) ta)
    (hdb : (x == ("__debug__" : Str)) = false := by decide) (he : starEach (e :: es) X.env = (false, eval e X.env) :: starEach es X.env := by rfl) (hpl : (backTo pos (starEach es X.env)).any (·.1) = false := by rfl) :
    L2N.PMk X (.Call (.Name x p) (e :: es) [] pos) (tMkO C sp dvs ta) := by
  intro pins s σ H Q I h
  obtain ⟨nm, q, N, bs, bm, sn, sub, ab, col, dd, k0, k1, k2, k3, k5, hC, hbm⟩ := T.cls
  refine wpAny_Call_Name_kw (ld_glob I hg hm ?_ hdb)
  refine PySem.W.callWith_K (h₀ := X.base) I.ok.mod.kin T.kC (thn (ha.run pos pins s σ H _ I h) fun us s1 ⟨vs, H1, I1, r1, hz, q1⟩ => ⟨I1.kIn, ?_⟩) he hpl
  show wpAny _ _ (call (.ref C) us) _ _ _
  obtain ⟨hp, g, dr, tk, os⟩ := s1
  have hsz : hp.objs.size ≤ hp.objs.size + 1 := Nat.le_succ _
  have hn : H1 (hp.objs.size + 1) = none := I1.hok.fresh hsz
  have hq := q1 (hp.objs.size + 1) hn
  have kk : ∀ b o, hp.get? b = some o → ((hp.push (PySem.W.kdv_tup us)).push (PySem.HandSPX.excO C hp.objs.size)).get? b = some o := fun b o e => Heap.get?_push_of_some _ (Heap.get?_push_of_some _ e)
  have hget : ((hp.push (PySem.W.kdv_tup us)).push (PySem.HandSPX.excO C hp.objs.size)).get? (hp.objs.size + 1) = some (PySem.HandSPX.excO C hp.objs.size) := by heap_get
  have I2 : Inv X pins σ (upd H1 (hp.objs.size + 1) (exo (hp.objs.size + 1) C none)) ⟨(hp.push (PySem.W.kdv_tup us)).push (PySem.HandSPX.excO C hp.objs.size), g, dr, tk, os⟩ :=
    I1.laid (t' := tk) (a := hp.objs.size + 1) (o := exo (hp.objs.size + 1) C none) (h' := (hp.push (PySem.W.kdv_tup us)).push (PySem.HandSPX.excO C hp.objs.size)) kk hsz (exo_ok hget)
  have r2 : Vals (V.ref (hp.objs.size + 1) :: (vs ++ dvs)) (Value.ref (hp.objs.size + 1) :: (us ++ ds)) := .cons rfl (r1.append hd)
  have hl : (Value.ref (hp.objs.size + 1) :: us ++ ds).length = ps.length := by
    have e := r2.length
    rw [F1.len _ _ _ _ hq] at e
    exact e.symm
  have hus : us.length ≤ sizeLine := by
    rw [← Paired.length r1, sizeLine_eq]
    omega
  refine wpAny_call (PySem.HandSPX.call_own PySem.F.excBase_ValueError (fun Y => PySem.HandSPX.refsVE_contains Y bm hbm) (I1.kIn _ _ hC) (PySem.W.looks_findIn I1.kIn iC) (fun self => PySem.W.bind_fn I1.kIn self tI) hus
    (codeAny_mono (F1.run _ X.stack _ _ ⟨Value.ref (hp.objs.size + 1) :: us, []⟩ (Value.ref (hp.objs.size + 1) :: (us ++ ds)) _ _ (fun _ _ _ => False) (hr.make C us []) (I2.env0.make C us []) (hb _ (Value.ref (hp.objs.size + 1) :: us) I2.kIn hl) r2 hq) fun r s' hq' => ?_))
  cases r with
  | error er => exact hx pins σ _ _ er s' I2 hq'
  | ok fl =>
    cases fl with
    | ret u =>
      obtain ⟨v, H2, os2, bare2, un2, hok2, rv, ev, d, fs, ea, ed, hd1, q2⟩ := hq'
      subst ev
      obtain ⟨h2, g2, d2, t2, os'⟩ := s'
      refine ⟨rv, ?_⟩
      obtain ⟨t0, G, J, kG, ge, hoe, na⟩ := mk_end0 (d2 := d2) (t2 := t2) I1 hsz kk un2 hok2 os2 bare2 ea ed hd1
      exact ⟨_, _, _, ⟨G, g2, d2, t2, os'⟩, _, .ref C, some d, rfl, J, kG, ge, hoe, ⟨rfl, rfl, fun vs e => by cases e; rfl⟩, rfl, rfl, na, rfl, bare2, raises_own T.exC T.tyC, q2⟩
    | next => exact False.elim hq'
    | brk => exact False.elim hq'
    | cont => exact False.elim hq'
end
section
variable {X : Cx} {W : WX} {P : Prot} {x : Str} {C : Addr} {f pn : Str} {e : Expr} {te : TD} {p pos pos2 : Pos} {k : Nat}
theorem passE0N {X : Cx} : Passes (L2N.CX X.prog X.w) X (fun _ _ _ => False) := fun _ _ _ _ _ _ _ h => by
  obtain ⟨_, _, _, _, _, _, _, _, _, _, _, _, z⟩ := h
  exact z.elim
def tRaise1 (C : Addr) (f : Str) (te : TD) : TSD := fun _ Ed ρ => te ρ (fun ev ρ1 => match ev with
  | .ow o => Ed ⟨.ref C, [(f, frz o)]⟩ ρ1
  | .pt _ => False
  | .tk _ _ _ _ => False) Ed
theorem as_raise1 (hc : X.calm = true) (tk : L2N.Takes X W) (h : XOne X.prog X.w X.K X.mg X.base x C f pn) (hr : Room (k + 2) X.A) (hg : Gl X x) (he : AE X W e te) (hs : starEach [e] X.env = (false, eval e X.env) :: starEach [] X.env := by rfl) (hdb : (x == ("__debug__" : Str)) = false := by decide) :
    AS X W P (.Raise (some (.Call (.Name x p) [e] [] pos)) none pos2) (tRaise1 C f te) := by
  obtain ⟨fI, fd, iC, tI, hb, F1⟩ := h.ex
  refine PS.imp (L2N.ps_raise hc tk (pmk_oexN h.oex iC tI F1 (hr.mono (by omega)) hb .nil passE0N hg h.mgC (pa_cons he pa_nil hs) hdb hs rfl)) fun D σ H q => ?_
  obtain ⟨HF, ρ, A, E, Ed, w, en, t, k, x⟩ := q
  refine ⟨HF, ρ, A, _, Ed, w, en, t, fun ev ρ1 q1 HF1 H1 A1 v Av f1 w1 en1 r1 => ?_, x.x⟩
  cases ev with
  | pt j => exact q1.elim
  | tk _ _ _ _ => exact q1.elim
  | ow o =>
    refine ⟨by show 1 ≤ 1000; omega, fun a ha => ⟨a, v, rfl, upd_same, fun dx hdx hne => ⟨rfl, dx, [(f, v)], upd_same, ?_, ?_, ?_⟩⟩⟩
    · rw [upd_ne hne, upd_same]
    · rw [upd_ne hne] at hdx; exact hdx
    · have hdx1 : H1 dx = none := by rw [upd_ne hne] at hdx; exact hdx
      obtain ⟨sg, wg, fg⟩ := grow_ok (w1.perm List.perm_append_comm)
      have rg : Rep X.K (grow HF1 H1 Av) (frz o) v := RepO.frz sg o r1 fun p hp => grow_in hp
      have eH : upd (del (upd (upd (upd H1 a (exo a C none)) dx (exd dx [(f, v)])) a (exo a C (some dx))) a) dx (.xd [(f, v)]) = upd H1 dx (.xd [(f, v)]) := by
        funext b
        by_cases hb1 : b = dx
        · subst hb1; rw [upd_same, upd_same]
        · rw [upd_ne hb1, upd_ne hb1]
          by_cases hb2 : b = a
          · subst hb2; rw [del_same, ha]
          · rw [del_ne hb2, upd_ne hb2, upd_ne hb1, upd_ne hb2]
      rw [eH]
      have n := New.pure (K := X.K) (HF := grow HF1 H1 Av) (H := H1) (d := .cl dx) (p := dx) (u := .xd [(f, v)]) wg.same hdx1 rfl
      obtain ⟨k1, k2, k3⟩ := n.fr.frame (EnvR.there _ en1) (fun _ _ h => by cases h)
      have s2 : Same (grow HF1 H1 Av) (upd (grow HF1 H1 Av) dx (.xd [(f, v)])) := n.fr.same
      have ff : Fr H (upd H1 dx (.xd [(f, v)])) HF (upd (grow HF1 H1 Av) dx (.xd [(f, v)])) A A1 := (f1.trans (fg.mono (fun p hp => (List.mem_append.mp hp).elim (fun z => List.mem_append_right _ z) (fun z => List.mem_append_left _ z)) fun p hp => .inl hp)).trans (n.fr.mono (fun _ h => by cases h) fun p hp => .inr hp)
      refine x _ ρ1 q1 (upd (grow HF1 H1 Av) dx (.xd [(f, v)])) _ σ A1 (.ref C) (some dx) .refl ff ⟨n.wr.same, wg.nodup, fun a ha => k2 a ha (wg.out a ha)⟩ (EnvR.keep (sg.trans s2) _ en1 k1) ⟨rfl, [(f, v)], upd_same, (f, v), [], rfl, ⟨rfl, Rep.mono s2 _ rg⟩, rfl⟩
theorem ok_xinit {P : Program} {w : World} {K : PySem.W.Frag} {mg : Str → Option Value} {base : Heap} {C fI : Addr} {fd : FuncData} {qual f pn : Str} {st : Stmt} {p1 p2 p3 p4 : Pos} (Fn : L2.Fun K "__init__" qual st fI fd) (S : FnScope ["self", pn] ["self", pn] (defScope st))
    (hb : defBody st = [.Assign [.Attribute (.Name "self" p1) f p2] (.Name pn p3) p4]) (hp : (pn == ("__debug__" : Str)) = false) (hp' : (pn == ("__classdict__" : Str)) = false) (T : OexC K C) (no : PySem.W.findIn K (.ref C) f = some none)
    (v0 : Vis (defScope st) "self") (v1 : Vis (defScope st) pn) : FnOk P w K mg base (L2N.CX P w) 1 fI fd ["self", pn] (spXI C f) := by
  obtain ⟨oc, od, kV, doc, pm, an, cdv, ct, osl, rfl, lk, hcd⟩ := Fn.ex
  refine fn_of (k := 0) lk hcd S (fun vs H Q E h => ?_) (fun A outer s H vs Q E hr h => ?_)
  · obtain ⟨a, v, rfl, _⟩ := h
    rfl
  · obtain ⟨a, v, rfl, hH, k⟩ := h
    rw [hb]
    refine ⟨_, pss_one (ps_ost (pe_var (i := 0) rfl v0 (by decide) (by decide)) (pe_var (i := 1) rfl v1 hp hp') rfl), ?_⟩
    exact ⟨v, rfl, .ref a, rfl, a, C, rfl, T, no, .inl ⟨hH, fun dx h1 h2 => k dx h1 h2⟩⟩
end
end AE
namespace AE
open PySem L2
structure Cl where
  c : Value
  nm : Bool
  i : Nat
  ts : Addr → Value → Option Addr → TS
def endsAt : Bool → Nat → Ends → Ends
  | false, _, D => D
  | true, i, D => { nx := fun σ H => D.nx (σ.set i none) H, rt := D.rt, bk := fun σ H => D.bk (σ.set i none) H, ct := fun σ H => D.ct (σ.set i none) H }
def setAt : Bool → Nat → V → St → St
  | false, _, _, σ => σ
  | true, i, v, σ => σ.set i (some v)
def wCls (K : PySem.W.Frag) (Wo : WX) (D : Ends) : List Cl → WX
  | [] => Wo
  | k :: r => fun cls d σ H => ∃ b, PySem.W.exmOne K cls k.c = some b ∧ (b = true → ∀ a, H a = none → k.ts a cls d (endsAt k.nm k.i D) (setAt k.nm k.i (.ref a) σ) H) ∧ (b = false → wCls K Wo D r cls d σ H)
inductive ClOk (X : Cx) : List ExceptHandler → List Cl → Prop
  | nil : ClOk X [] []
  | cons {x n : Str} {k : Cl} {b₀ : Stmt} {su : List Stmt} {np pos : Pos} {hs : List ExceptHandler} {l : List Cl} (hnm : k.nm = true) (hx : Names X x k.c) (hi : X.N[k.i]? = some n) (hl : X.env.kindOf n = some .local)
      (hsu : ∀ (a : Addr) (oe : Obj) (cls : Value) (d : Option Addr) (pn : List (Addr × Obj)), L2N.Zn cls d oe → (∃ vs, oe.data = .fields vs) → PSs (X.suite a ((a, oe) :: pn)) (b₀ :: su) (k.ts a cls d)) (r : ClOk X hs l) :
      ClOk X (.ExceptHandler (some (.Name x np)) (some n) (b₀ :: su) pos :: hs) (k :: l)
  | only {x : Str} {k : Cl} {b₀ : Stmt} {su : List Stmt} {np pos : Pos} {hs : List ExceptHandler} {l : List Cl} (hnm : k.nm = false) (hx : Names X x k.c)
      (hsu : ∀ (a : Addr) (oe : Obj) (cls : Value) (d : Option Addr) (pn : List (Addr × Obj)), L2N.Zn cls d oe → (∃ vs, oe.data = .fields vs) → PSs (X.suite a ((a, oe) :: pn)) (b₀ :: su) (k.ts a cls d)) (r : ClOk X hs l) :
      ClOk X (.ExceptHandler (some (.Name x np)) none (b₀ :: su) pos :: hs) (k :: l)
structure Fly (X : Cx) (pins : List (Addr × Obj)) (σ : St) (H : Hp) (a : Addr) (cls : Value) (d : Option Addr) (B : Heap) (s0 s : Shared) : Prop where
  inv : Inv X pins σ H s0
  nb : ∀ b o, s0.heap.get? b = some o → b ∉ frs X.stack → B.get? b = some o
  up : s0.heap.UpToSlots s.heap
  fly : HandSPX.FlyingZ B (X.env :: X.outer) a (L2N.Zn cls d) s.heap
  na : H a = none
  os : s.os = s0.os
  ag : PyProof.Rows.AllBare s.gens
section
variable {X : Cx} {pins : List (Addr × Obj)} {σ : St} {H : Hp} {a : Addr} {cls : Value} {d : Option Addr} {B : Heap} {s0 s : Shared}
theorem Fly.now (F : Fly X pins σ H a cls d B s0 s) : Inv X pins σ H s := F.inv.landed F.nb F.fly.1 F.up F.os F.ag
theorem Fly.out (F : Fly X pins σ H a cls d B s0 s) (hf : X.env.frame = some X.env.locals) : a ≠ X.env.locals ∧ a ∉ X.fs := by
  obtain ⟨oe, vs, he, _, hd⟩ := F.fly.there
  have no : a ∉ frs (X.env :: X.outer) := fun z => by
    obtain ⟨_, o2, e2, nn⟩ := F.fly.2.2.1.mem z
    rw [he] at e2
    cases e2
    exact nn _ hd
  constructor
  · intro z
    apply no
    unfold frs
    rw [List.filterMap_cons, hf, z]
    exact List.mem_cons_self
  · intro z
    apply no
    have z : a ∈ frs X.outer := z
    unfold frs at z ⊢
    rw [List.filterMap_cons, hf]
    exact List.mem_cons_of_mem _ z
theorem Fly.on (F : Fly X pins σ H a cls d B s0 s) (hs : X.stack = X.env :: X.outer) (hf : X.env.frame = some X.env.locals) {Wo : WX} (tk : L2N.Takes X Wo) (D : Ends) (w : Wo cls d σ H) : wpAny (model X.prog X.w) X.A (handleBy (.ref a) X.env []) (SP X pins D) X.xe s := by
  apply wpAny_handleBy_nil
  have fl := F.fly
  obtain ⟨_, _, _, oe, vs, T, _, _, he, _, hd, h1, _⟩ := fl
  unfold PySem.passOn
  apply wpAny_bind
  apply wpAny_field he hd h1
  rw [if_neg (by simp : ¬ ((Value.ref T == Value.none) = true))]
  have go : wpAny (model X.prog X.w) X.A (setFlight (.ref a) X.env.frame) (fun _ s' => wpAny (model X.prog X.w) X.A (throw (.ref a) : Sem Flow) (SP X pins D) X.xe s') X.xe s := by
    rw [hf]
    apply HandSPX.setFlight_upZ F.fly
    intro h' fl' up'
    apply wpAny_throw
    apply tk
    exact ⟨a, B, s0, pins, σ, H, cls, d, rfl, F.inv, F.nb, F.up.trans up', Or.inr (Or.inr (hs ▸ fl')), F.na, F.os, F.ag, w⟩
  first
    | exact wpAny_bind (wpAny_pure (wpAny_bind go))
    | exact wpAny_bind go
theorem Fly.caught (hs : X.stack = X.env :: X.outer) (hf : X.env.frame = some X.env.locals) (hN : X.N.Nodup) {Wo : WX} (tk : L2N.Takes X Wo) (D : Ends) : ∀ {hds : List ExceptHandler} {l : List Cl}, ClOk X hds l → ∀ {s : Shared}, Fly X pins σ H a cls d B s0 s → wCls X.K Wo D l cls d σ H →
    wpAny (model X.prog X.w) X.A (handleBy (.ref a) X.env hds) (SP X pins D) X.xe s := by
  intro hds l ok
  induction ok with
  | nil => intro s F w; exact F.on hs hf tk D w
  | @cons x n k b₀ su np pos hs' l' hnm hx hi hl hsu r ih =>
    intro s F w
    obtain ⟨b, hb, yes, no⟩ := w
    rw [hnm] at yes
    obtain ⟨nL, nF⟩ := F.out hf
    obtain ⟨oe, vs, he, hz, hd⟩ := F.fly.there
    have S := F.now.suite he hd F.na nL nF
    apply wpAny_handleBy_cons _ (by intro q; cases q)
    apply codeAny_handlers_test
    have ty : PySem.W.Looks (model X.prog X.w) s.heap (typeOf (.ref a)) cls := by
      intro A' Q' E' s' kp q'
      exact wpAny_typeOf_ref (kp _ _ he) (by rw [hz.1]; exact q')
    have look := PySem.W.exm_one (M := model X.prog X.w) F.now.kIn ty hb
    have name : ∀ {Q : Value → Shared → Prop} {E : Value → Shared → Prop}, Q k.c s → wpAny (model X.prog X.w) (X.A.mark (some (.ref a))) (eval (.Name x np) X.env) Q E s := by
      intro Q E q
      obtain ⟨g1, g2, g3⟩ := hx
      cases g3 with
      | inl m => exact ld_glob (X := X.suite a ((a, oe) :: (X.pn ++ pins))) S g1 m q g2
      | inr m => exact ld_blt (X := X.suite a ((a, oe) :: (X.pn ++ pins))) S g1 m.1 m.2.1 q m.2.2 g2
    apply name
    apply look.here
    cases b with
    | false => exact ih F (no rfl)
    | true =>
      apply codeAny_handlers_suite_as
      apply HandSPX.lands_againZ F.fly
      intro h4 fl4 up4
      have F4 : Fly X pins σ H a cls d B s0 { s with heap := h4 } := ⟨F.inv, F.nb, F.up.trans up4, fl4, F.na, F.os, F.ag⟩
      obtain ⟨oe4, vs4, he4, hz4, hd4⟩ := F4.fly.there
      have S4 := F4.now.suite he4 hd4 F.na nL nF
      apply store_ok (X := X.suite a ((a, oe4) :: (X.pn ++ pins))) (v := .ref a) S4 hN hi (.inl hl) rfl _ (.inr hl)
      intro s5 S5
      have body := (hsu a oe4 cls d (X.pn ++ pins) hz4 ⟨_, hd4⟩).run [] s5 _ H _ S5 (yes rfl a F.na)
      apply wpAny_mono body _ (fun _ _ z => z.elim)
      intro fl s6 sp
      have gone : ∀ {σ6 : St} {H6 : Hp} {Q : Shared → Prop}, Inv (X.suite a ((a, oe4) :: (X.pn ++ pins))) [] σ6 H6 s6 → (∀ s7, Inv X pins (σ6.set k.i none) H6 s7 → Q s7) → wpAny (model X.prog X.w) X.A (do bindName X.env n .none; unbindBehindTheSuite X.env n pos) (fun _ s7 => Q s7) X.xe s6 := by
        intro σ6 H6 Q S6 q
        exact gone_ok (S6.unsuite F.inv.ok) hN hi hl q
      cases fl with
      | next => obtain ⟨σ6, H6, S6, q6⟩ := sp; exact gone S6 fun s7 J => ⟨_, _, J, q6⟩
      | brk => obtain ⟨σ6, H6, S6, q6⟩ := sp; exact gone S6 fun s7 J => ⟨_, _, J, q6⟩
      | cont => obtain ⟨σ6, H6, S6, q6⟩ := sp; exact gone S6 fun s7 J => ⟨_, _, J, q6⟩
      | ret u => obtain ⟨v6, σ6, H6, S6, r6, q6⟩ := sp; exact gone S6 fun s7 J => ⟨_, _, _, J, r6, q6⟩
  | @only x k b₀ su np pos hs' l' hnm hx hsu r ih =>
    intro s F w
    obtain ⟨b, hb, yes, no⟩ := w
    rw [hnm] at yes
    obtain ⟨nL, nF⟩ := F.out hf
    obtain ⟨oe, vs, he, hz, hd⟩ := F.fly.there
    have S := F.now.suite he hd F.na nL nF
    apply wpAny_handleBy_cons _ (by intro q; cases q)
    apply codeAny_handlers_test
    have ty : PySem.W.Looks (model X.prog X.w) s.heap (typeOf (.ref a)) cls := by
      intro A' Q' E' s' kp q'
      exact wpAny_typeOf_ref (kp _ _ he) (by rw [hz.1]; exact q')
    have look := PySem.W.exm_one (M := model X.prog X.w) F.now.kIn ty hb
    have name : ∀ {Q : Value → Shared → Prop} {E : Value → Shared → Prop}, Q k.c s → wpAny (model X.prog X.w) (X.A.mark (some (.ref a))) (eval (.Name x np) X.env) Q E s := by
      intro Q E q
      obtain ⟨g1, g2, g3⟩ := hx
      cases g3 with
      | inl m => exact ld_glob (X := X.suite a ((a, oe) :: (X.pn ++ pins))) S g1 m q g2
      | inr m => exact ld_blt (X := X.suite a ((a, oe) :: (X.pn ++ pins))) S g1 m.1 m.2.1 q m.2.2 g2
    apply name
    apply look.here
    cases b with
    | false => exact ih F (no rfl)
    | true =>
      apply codeAny_handlers_suite
      apply HandSPX.lands_againZ F.fly
      intro h4 fl4 up4
      have F4 : Fly X pins σ H a cls d B s0 { s with heap := h4 } := ⟨F.inv, F.nb, F.up.trans up4, fl4, F.na, F.os, F.ag⟩
      obtain ⟨oe4, vs4, he4, hz4, hd4⟩ := F4.fly.there
      have S4 := F4.now.suite he4 hd4 F.na nL nF
      have body := (hsu a oe4 cls d (X.pn ++ pins) hz4 ⟨_, hd4⟩).run [] { s with heap := h4 } _ H _ S4 (yes rfl a F.na)
      apply wpAny_mono body _ (fun _ _ z => z.elim)
      intro fl s6 sp
      cases fl with
      | next => obtain ⟨σ6, H6, S6, q6⟩ := sp; exact ⟨_, _, S6.unsuite F.inv.ok, q6⟩
      | brk => obtain ⟨σ6, H6, S6, q6⟩ := sp; exact ⟨_, _, S6.unsuite F.inv.ok, q6⟩
      | cont => obtain ⟨σ6, H6, S6, q6⟩ := sp; exact ⟨_, _, S6.unsuite F.inv.ok, q6⟩
      | ret u => obtain ⟨v6, σ6, H6, S6, r6, q6⟩ := sp; exact ⟨_, _, _, S6.unsuite F.inv.ok, r6, q6⟩
end
theorem ps_tryCls {X : Cx} {body : List Stmt} {h₀ : ExceptHandler} {hds : List ExceptHandler} {l : List Cl} {pos : Pos} {tb : WX → TS} {Wo : WX} (hs : X.stack = X.env :: X.outer) (hf : X.env.frame = some X.env.locals) (hN : X.N.Nodup) (tk : L2N.Takes X Wo)
    (hb : ∀ (W : WX) (pn : List (Addr × Obj)) (xe : Value → Shared → Prop), L2N.Takes (X.tr pn xe) W → PassesOwn (model X.prog X.w) X.A X.env xe → PSs (X.tr pn xe) body (tb W))
    (ok : ClOk X (h₀ :: hds) l) : PS X (.Try body (h₀ :: hds) [] [] pos) (fun D σ H => tb (wCls X.K Wo D l) D σ H) := by
  constructor
  intro pins s σ H D I t
  have kk := I.ok
  have fr : X.A.frames = some (X.env :: X.outer) := kk.frames.trans (congrArg some hs)
  apply wpAny_Try_except
  apply wpAny_mono ((hb (wCls X.K Wo D l) (X.pn ++ pins) _ _ PassesOwn.looking).run [] s σ H D (I.toTry _) t)
  · intro f s1 sp
    cases f with
    | next => obtain ⟨σ', H', J, q⟩ := sp; exact wpAny_execs_nil ⟨σ', H', J.ofTry kk, q⟩
    | brk => obtain ⟨σ', H', J, q⟩ := sp; exact ⟨σ', H', J.ofTry kk, q⟩
    | cont => obtain ⟨σ', H', J, q⟩ := sp; exact ⟨σ', H', J.ofTry kk, q⟩
    | ret u => obtain ⟨v, σ', H', J, r, q⟩ := sp; exact ⟨v, σ', H', J.ofTry kk, r, q⟩
  · intro e s1 z
    exact z
  · intro u s' xx
    obtain ⟨a, B, sI, pins', σ', H', cls, d, rfl, J, nb, up, sky, na, os, ag, w⟩ := xx
    show wpAny (model X.prog X.w) X.A (noteFrame (.ref a) X.env) _ _ _
    apply L2N.Sky.land L2N.Zn.steady fr hf (hs ▸ sky)
    intro h3 fl3 up3
    exact Fly.caught hs hf hN tk D ok (s := { s' with heap := h3 }) ⟨J.ofTry kk, nb, up.trans up3, fl3, na, os, ag⟩ w
end AE
namespace AE
open PySem L2
structure ClD where
  c : Value
  nm : Bool
  i : Nat
  ts : Addr → Value → Option Addr → TSD
def dropAt (i : Nat) (N : Env → Prop) : Env → Prop := fun ρ => N (ρ.set i none)
def endsD : Bool → Nat → EndsD → EndsD
  | false, _, E => E
  | true, i, E => { nx := dropAt i E.nx, rt := E.rt, bk := dropAt i E.bk, ct := dropAt i E.ct }
def excD (nm : Bool) (i : Nat) (d : D) (ρ : Env) : Env := match nm with
  | false => ρ
  | true => ρ.set i (some (.fz d))
def wClD (K : PySem.W.Frag) (E : EndsD) (Ed : XC) : List ClD → XC
  | [] => Ed
  | k :: r => fun x ρ => ∃ b, PySem.W.exmOne K x.cls k.c = some b ∧ (b = true → (k.nm = true → k.i < ρ.length) ∧ ∀ a d, k.ts a x.cls d (endsD k.nm k.i E) NoX (excD k.nm k.i (.exc a x.cls d x.fs) ρ)) ∧ (b = false → wClD K E Ed r x ρ)
def tTryD (K : PySem.W.Frag) (tb : TSD) (l : List ClD) : TSD := fun E Ed ρ => tb E (wClD K E Ed l) ρ
def toCl (K : PySem.W.Frag) (P : Prot) (k : ClD) : Cl := ⟨k.c, k.nm, k.i, fun a cls d => tS K WF P (k.ts a cls d)⟩
inductive AcOk (X : Cx) (P : Prot) : List ExceptHandler → List ClD → Prop
  | nil : AcOk X P [] []
  | cons {x n : Str} {k : ClD} {b₀ : Stmt} {su : List Stmt} {np pos : Pos} {hs : List ExceptHandler} {l : List ClD} (hnm : k.nm = true) (hx : Names X x k.c) (hi : X.N[k.i]? = some n) (hl : X.env.kindOf n = some .local) (hp : P k.i = false)
      (hsu : ∀ (a : Addr) (oe : Obj) (cls : Value) (d : Option Addr) (pn : List (Addr × Obj)), L2N.Zn cls d oe → (∃ vs, oe.data = .fields vs) → ASs (X.suite a ((a, oe) :: pn)) WF P (b₀ :: su) (k.ts a cls d)) (r : AcOk X P hs l) :
      AcOk X P (.ExceptHandler (some (.Name x np)) (some n) (b₀ :: su) pos :: hs) (k :: l)
  | only {x : Str} {k : ClD} {b₀ : Stmt} {su : List Stmt} {np pos : Pos} {hs : List ExceptHandler} {l : List ClD} (hnm : k.nm = false) (hx : Names X x k.c)
      (hsu : ∀ (a : Addr) (oe : Obj) (cls : Value) (d : Option Addr) (pn : List (Addr × Obj)), L2N.Zn cls d oe → (∃ vs, oe.data = .fields vs) → ASs (X.suite a ((a, oe) :: pn)) WF P (b₀ :: su) (k.ts a cls d)) (r : AcOk X P hs l) :
      AcOk X P (.ExceptHandler (some (.Name x np)) none (b₀ :: su) pos :: hs) (k :: l)
section
variable {X : Cx} {W : WX} {P : Prot}
theorem AcOk.cl : ∀ {hs : List ExceptHandler} {l : List ClD}, AcOk X P hs l → ClOk X hs (l.map (toCl X.K P)) ∧ ∀ k ∈ l, k.nm = true → P k.i = false
  | _, _, .nil => ⟨.nil, fun _ h => by cases h⟩
  | _, _, .cons hnm hx hi hl hp hsu r => ⟨.cons hnm hx hi hl hsu (AcOk.cl r).1, fun k hk => (List.mem_cons.mp hk).elim (fun e _ => e ▸ hp) ((AcOk.cl r).2 k)⟩
  | _, _, .only hnm hx hsu r => ⟨.only hnm hx hsu (AcOk.cl r).1, fun k hk => (List.mem_cons.mp hk).elim (fun e z => by rw [e] at z; rw [hnm] at z; cases z) ((AcOk.cl r).2 k)⟩
theorem pr_set {P : Prot} {σ σ' : St} {i : Nat} {x : Option V} (h : Pr P σ σ') (hp : P i = false) : Pr P σ (σ'.set i x) := by
  refine ⟨by rw [List.length_set]; exact h.1, fun j hj => ?_⟩
  rw [List.getElem?_set_ne (fun e => by rw [e, hj] at hp; cases hp)]
  exact h.2 j hj
theorem EnvR.gone {K : PySem.W.Frag} {HF H : Hp} {ρ : Env} {σ : St} {A : List Addr} {i : Nat} (en : EnvR K HF H ρ σ A) : ∃ C, C.Sublist A ∧ EnvR K HF H (ρ.set i none) (σ.set i none) C := by
  obtain ⟨C, hs, e1⟩ := en.forget (i := i)
  by_cases hi : i < ρ.length
  · exact ⟨C, hs, EnvR.anyS e1 (by rw [List.getElem?_set_self hi])⟩
  · have h1 : ρ.set i none = ρ := List.set_eq_of_length_le (by omega)
    have h2 : σ.set i none = σ := List.set_eq_of_length_le (by rw [en.length]; omega)
    exact ⟨A, .refl _, by rw [h1, h2]; exact en⟩
theorem drop_ok {K : PySem.W.Frag} {σ : St} {H HF : Hp} {A : List Addr} {N : Env → Prop} {Q : St → Hp → Prop} {i : Nat} (k : NOk K P σ H HF A N Q) (hp : P i = false) : NOk K P σ H HF A (dropAt i N) (fun σ' H' => Q (σ'.set i none) H') := fun ρ n HF' H' σ' A' p f w en => by
  obtain ⟨C, hs, e1⟩ := en.gone (i := i)
  exact k _ n HF' H' _ C (pr_set p hp) (f.mono (fun _ h => h) fun p hp => .inl (hs.subset hp)) (w.sub hs) e1
theorem cls_ok {K : PySem.W.Frag} {D : Ends} {E : EndsD} {Ed : XC} {Wo : WX} {σ : St} {H HF : Hp} {A : List Addr} (k : SOk K P σ H HF A E D) (x : XSOk K P σ H HF A Ed Wo) : ∀ {l : List ClD}, (∀ c ∈ l, c.nm = true → P c.i = false) → XSOk K P σ H HF A (wClD K E Ed l) (wCls K Wo D (l.map (toCl K P)))
  | [], _ => x
  | c :: l, hP => fun xd ρ w HF' H' σ' A' cls d p f wr en r => by
    obtain ⟨b, hb, yes, no⟩ := w
    obtain ⟨e1, e2⟩ := id r
    refine ⟨b, by rw [← e1]; exact hb, fun hb1 a na => ?_, fun hb1 => cls_ok k x (fun c' hc => hP c' (List.mem_cons_of_mem _ hc)) xd ρ (no hb1) HF' H' σ' A' cls d p f wr en r⟩
    obtain ⟨hl, ys⟩ := yes hb1
    cases hn : c.nm with
    | false =>
      have y1 := ys a d
      rw [hn] at y1
      show tS K WF P (c.ts a cls d) (endsAt c.nm c.i D) (setAt c.nm c.i (.ref a) σ') H'
      rw [hn]
      exact ⟨HF', ρ, A', E, NoX, wr, en, by rw [← e1]; exact y1, k.step p f, fun _ _ z => z.elim⟩
    | true =>
    have hp : P c.i = false := hP c (by simp) hn
    have hl := hl hn
    have y1 := ys a d
    rw [hn] at y1
    have rx : Rep K HF' (.exc a xd.cls d xd.fs) (.ref a) := by
      refine ⟨rfl, ?_⟩
      cases d with
      | none => exact .inl ⟨rfl, e2⟩
      | some q => obtain ⟨fvs, h1, h2⟩ := e2; exact .inr ⟨q, fvs, rfl, h1, h2⟩
    obtain ⟨A2, w2, f2, en2⟩ := EnvR.store (B := []) (o := .fz (.exc a xd.cls d xd.fs)) (v := .ref a) (by rw [List.append_nil]; exact wr) en ⟨rfl, rx⟩ hl
    have p2 : Pr P σ (σ'.set c.i (some (.ref a))) := pr_set p hp
    have ff : Fr H H' HF HF' A A2 := f.mono (fun _ h => h) fun p hp => .inl (by simpa using f2 p hp)
    show tS K WF P (c.ts a cls d) (endsAt c.nm c.i D) (setAt c.nm c.i (.ref a) σ') H'
    rw [hn]
    refine ⟨HF', _, A2, endsD true c.i E, NoX, w2, en2, by rw [← e1]; exact y1, ⟨drop_ok (k.nx.step p2 ff) hp, k.rt.step p2 ff, drop_ok (k.bk.step p2 ff) hp, drop_ok (k.ct.step p2 ff) hp⟩, fun _ _ z => z.elim⟩
theorem as_try {body : List Stmt} {h₀ : ExceptHandler} {hds : List ExceptHandler} {l : List ClD} {pos : Pos} {tb : TSD} (hs : X.stack = X.env :: X.outer) (hf : X.env.frame = some X.env.locals) (hN : X.N.Nodup) (tk : L2N.Takes X W)
    (hb : ∀ (W' : WX) (pn : List (Addr × Obj)) (xe : Value → Shared → Prop), L2N.Takes (X.tr pn xe) W' → PassesOwn (model X.prog X.w) X.A X.env xe → ASs (X.tr pn xe) W' P body tb) (ok : AcOk X P (h₀ :: hds) l) : AS X W P (.Try body (h₀ :: hds) [] [] pos) (tTryD X.K tb l) := by
  obtain ⟨cl, hP⟩ := ok.cl
  refine PS.imp (ps_tryCls (tb := fun W' => tS X.K W' P tb) hs hf hN tk hb cl) fun D σ H q => ?_
  obtain ⟨HF, ρ, A, E, Ed, w, en, t, k, x⟩ := q
  exact ⟨HF, ρ, A, E, _, w, en, t, k, cls_ok k x hP⟩
structure XfD (K : PySem.W.Frag) (C : Addr) (f : Str) : Prop where
  xf : XfC K C
  no : PySem.W.findIn K (.ref C) f = some none
def tXfD (K : PySem.W.Frag) (a : Addr) (cls : Value) (d : Option Addr) (C : Addr) (f : Str) (te : TD) : TD := fun ρ Kd Ed => te ρ (fun e ρ1 => match dOf ρ1 e with
  | some (.exc a' _ d' fs) => a' = a ∧ cls = .ref C ∧ d' = d ∧ ∃ v, fs.lookup f = some v ∧ Kd (.ow (.fz v)) ρ1
  | _ => False) Ed
theorem ae_xf {a C : Addr} {oe : Obj} {cls : Value} {d : Option Addr} {pn : List (Addr × Obj)} {e : Expr} {te : TD} {pos : Pos} {f : Str} {W' : WX} (T : XfD X.K C f) (hz : L2N.Zn cls d oe) (hf : ∃ vs, oe.data = .fields vs) (he : AE (X.suite a ((a, oe) :: pn)) W' e te)
    (hb : attributeBase e f X.env (eval e X.env) = eval e X.env := by rfl) : AE (X.suite a ((a, oe) :: pn)) W' (.Attribute e f pos) (tXfD X.K a cls d C f te) := PE.imp (pe_xf T.xf T.no hz.zc hf he hb) fun σ H Q q => by
  obtain ⟨HF, ρ, A, Kd, Ed, w, en, t, k, x⟩ := q
  refine ⟨HF, ρ, A, _, Ed, w, en, t, fun e1 ρ1 q1 HF1 H1 A1 v1 Av1 f1 w1 en1 r1 => ?_, x⟩
  dsimp only at q1
  split at q1
  · rename_i a' cls' d' fs e2
    obtain ⟨rfl, ec, rfl, v, hv, q⟩ := q1
    obtain ⟨rfl, rx⟩ := Vw.ev w1.same en1 r1 e2
    rcases rx with ⟨rfl, rfl⟩ | ⟨p, fvs, rfl, hp, rs⟩
    · cases hv
    · obtain ⟨u, hu, ru⟩ := rs.look hv
      exact ⟨rfl, ec, p, fvs, u, rfl, w1.same _ _ hp, hu, k _ ρ1 q HF1 H1 A1 u [] (by rw [List.append_nil]; exact f1.mono (fun _ h => h) fun p hp => .inl (List.mem_append_left _ hp)) (by rw [List.append_nil]; exact w1.left) en1 ⟨rfl, ru⟩⟩
  · exact q1.elim
end
end AE
namespace AE
open PySem L2
structure Mak (P : Program) (w : World) (K : PySem.W.Frag) (mg : Str → Option Value) (base : Heap) (lv : Nat) (x : Str) (C : Addr) (ps : List Str) (F : AFn) : Prop where
  mgC : mg x = some (.ref C)
  ex : ∃ f fd, Mk K C f ∧ Binds K fd ps [] ∧ FnOk P w K mg base (L2N.CX P w) lv f fd ps (spA K ps.length F)
  len : ∀ os Kd Ed, F os Kd Ed → os.length = ps.length
section
variable {X : Cx} {W : WX} {lv : Nat} {x : Str} {C : Addr} {ps : List Str} {F : AFn} {p pos : Pos} {e : Expr} {es : List Expr} {ts : TDs}
end
end AE
namespace AE
open PySem PySem.Spec PySem.Calls PyProof.Rows PySem.W PySem.HandSPX
structure XCls (h : Heap) (C : Addr) : Prop where
  ex : ∃ (nm q : Str) (N : Addr) (bs bm : List Value) (hd : Bool) (sn : List Str) (sub : List Value) (ab : Bool) (col : Option Bool) (dd : Option Addr) (k0 k1 k2 k3 k5 : Option Value),
    h.get? C = some (excClassObj nm q C N bs bm hd sn sub ab col dd k0 k1 k2 k3 k5 "ValueError.__new__") ∧ refsVE bm = true
section
variable {prog : Program} {w : World} {A : Around} {E : Value → Shared → Prop} {h : Heap} {g : Array GenState} {d : Drawn} {t : Nat} {os : OsState} {C : Addr} {kw : List (Str × Value)}
end
end AE
namespace AE
open PySem L2
section
variable {X : Cx} {C fI : Addr} {fd : FuncData} {f pn : Str} {pins : List (Addr × Obj)} {σ : St} {H : Hp} {s : Shared} {Q : VK} {us : List Value} {kw : List (Str × Value)} {u : Value} {v : V}
theorem OexC.heap {K : PySem.W.Frag} {h : Heap} {C : Addr} (T : OexC K C) (I : K.In h) : XCls h C := by
  obtain ⟨nm, q, N, bs, bm, sn, sub, ab, col, dd, k0, k1, k2, k3, k5, e, r⟩ := T.cls
  exact ⟨nm, q, N, bs, bm, true, sn, sub, ab, col, dd, k0, k1, k2, k3, k5, I _ _ e, r⟩
end
section
variable {X : Cx} {W : WX} {x : Str} {C : Addr} {p pos kp : Pos} {f pn : Str} {e : Expr} {te : TD}
end
end AE
namespace AE
open PySem L2
def AK (X : Cx) (W : WX) (ks : List Keyword) (t : TDs) : Prop := PK X ks (tAs X.K W t)
theorem PK.imp {X : Cx} {ks : List Keyword} {t u : TA} (h : PK X ks t) (i : ∀ σ H Q, u σ H Q → t σ H Q) : PK X ks u := ⟨fun pos pins s σ H Q I q => h.run pos pins s σ H Q I (i σ H Q q)⟩
section
variable {X : Cx} {W : WX}
theorem ak_nil : AK X W [] tNilD := PK.imp pk_nil fun σ H Q q => by
  obtain ⟨HF, ρ, A, Kd, Ed, w, en, t, k, x⟩ := q
  exact k [] ρ t HF H A [] [] (by rw [List.append_nil]; exact Fr.refl) (by rw [List.append_nil]; exact w) en ⟨rfl, rfl⟩
theorem ak_cons {e : Expr} {ks : List Keyword} {nm : Option Str} {kp : Pos} {t : TD} {ts : TDs} (ha : AE X W e t) (hr : AK X W ks ts) : AK X W (⟨nm, e, kp⟩ :: ks) (tConsD t ts) := PK.imp (pk_cons ha hr) fun σ H Q q => by
  obtain ⟨HF, ρ, A, Kd, Ed, w, en, t, k, x⟩ := q
  refine ⟨HF, ρ, A, _, Ed, w, en, t, fun e1 ρ1 q1 HF1 H1 A1 v1 Av1 f1 w1 en1 r1 => ?_, x⟩
  refine ⟨HF1, ρ1, A1, _, Ed, w1.left, en1, q1, fun es2 ρ2 q2 HF2 H2 A2 vs2 Av2 f2 w2 en2 r2 => ?_, (x.step f1).step (Fr.drop fun p hp => List.mem_append_left _ hp)⟩
  obtain ⟨w3, f3, k3⟩ := join w1 (EVR.there r1) f2 w2
  exact (k.step f1).step f3 (e1 :: es2) ρ2 q2 HF2 H2 A2 (v1 :: vs2) (Av1 ++ Av2) Fr.refl w3 en2 ⟨v1, vs2, Av1, Av2, rfl, rfl, EVR.keep f2.same r1 k3, r2⟩
structure XOneK (P : Program) (w : World) (K : PySem.W.Frag) (mg : Str → Option Value) (base : Heap) (x : Str) (C : Addr) (f pn : Str) : Prop where
  mgC : mg x = some (.ref C)
  oex : OexC K C
  ex : ∃ fI fd, PySem.W.findIn K (.ref C) "__init__" = some (some (.ref fI)) ∧ PySem.W.typeIn K (.ref fI) = some (.type "function") ∧ Binds K fd ["self", pn] [] ∧ (∀ (s : Shared) (a u : Value), BindsTo s fd ⟨[a], [(pn, u)]⟩ [("self", a), (pn, u)]) ∧ FnOk P w K mg base (L2N.CX P w) 1 fI fd ["self", pn] (spXI C f)
theorem XOneK.one {P : Program} {w : World} {K : PySem.W.Frag} {mg : Str → Option Value} {base : Heap} {x : Str} {C : Addr} {f pn : Str} (h : XOneK P w K mg base x C f pn) : XOne P w K mg base x C f pn :=
  ⟨h.mgC, h.oex, let ⟨fI, fd, a, b, c, _, e⟩ := h.ex; ⟨fI, fd, a, b, c, e⟩⟩
variable {x : Str} {C : Addr} {p pos kp : Pos} {f pn : Str} {e : Expr} {te : TD}
structure XIs (K : PySem.W.Frag) (C : Addr) : Prop where
  cl : (PySem.W.clsIn K C).isSome = true
  ga : PySem.W.findIn K (.ref C) "__getattribute__" = some (some (.builtin "BaseException.__getattribute__"))
  gg : PySem.W.findIn K (.ref C) "__getattr__" = some none
  sb : PySem.W.subIn K (.ref C) (.type "BaseException") = some true
  ca : PySem.W.findIn K (.ref C) "__class__" = some (some (.builtin "object.__class__"))
  sg : PySem.W.specialIn K (.builtin "object.__class__") "__get__" = some (some (.builtin "getset_descriptor.__get__"))
  tk : PySem.W.takesIn K (.builtin "object.__class__") = some true
  mo : PySem.W.mroIn K C (.type "object") = some true
structure InsIs (K : PySem.W.Frag) (C : Addr) : Prop where
  cl : Cls K C
  ca : PySem.W.findIn K (.ref C) "__class__" = some (some (.builtin "object.__class__"))
  sg : PySem.W.specialIn K (.builtin "object.__class__") "__get__" = some (some (.builtin "getset_descriptor.__get__"))
  tk : PySem.W.takesIn K (.builtin "object.__class__") = some true
  mo : PySem.W.mroIn K C (.type "object") = some true
def tyD (K : PySem.W.Frag) : D → Value → Prop
  | .non, t => t = .type "NoneType"
  | .bl _, t => t = .type "bool"
  | .int _, t => t = .type "int"
  | .str _, t => t = .type "str"
  | .lst _, t => t = .type "list"
  | .tup _, t => t = .type "tuple"
  | .dic _, t => t = .type "dict"
  | .ins C _, t => t = .ref C ∧ InsIs K C
  | .xo cls _, t => t = cls ∧ (cls = .type "ValueError" ∨ ∃ C, cls = .ref C ∧ XIs K C)
  | _, _ => False
def clsD : D → Option Value
  | .cl a => some (.ref a)
  | .ty n => some (.type n)
  | _ => none
def clsDs : List D → Option (List Value)
  | [] => some []
  | d :: ds => match clsD d, clsDs ds with
    | some c, some cs => some (c :: cs)
    | _, _ => none
def KitV (X : Cx) (H : Hp) (v : V) (t : Value) : Prop := ∀ pins σ s u, Inv X pins σ H s → RelV v u → ∃ P : Heap → Prop, PySem.W.KitX X.K u t P ∧ P s.heap ∧ u ≠ .builtin "__main__.__loader__#opaque"
theorem KitV.of {H : Hp} {v : V} {t : Value} (h : TyX X.K H v t) : KitV X H v t := fun pins σ s u I r => kit_of I r h
theorem KitV.xo {H : Hp} {a : Addr} {C : Addr} {d : Option Addr} {fvs : List (Str × V)} (z : XIs X.K C) (ha : H a = some (exv a (.ref C) d)) (hd : ∀ p, d = some p → H p = some (exd p fvs)) : KitV X H (.ref a) (.ref C) := fun pins σ s u I r => by
  obtain rfl : u = Value.ref a := r
  obtain ⟨⟨tu, h1⟩, _, _⟩ := I.hok a _ ha
  cases d with
  | none => exact ⟨_, PySem.W.kitx_exc (od := none) z.cl z.ga z.gg z.sb z.ca z.sg z.tk z.mo, ⟨h1, rfl, rfl, trivial⟩, fun y => nomatch y⟩
  | some p =>
    obtain ⟨⟨mA, hns, _⟩, _, _⟩ := I.hok p _ (hd p rfl)
    obtain ⟨od, ho, _⟩ := lookIn_ns hns
    exact ⟨_, PySem.W.kitx_exc (od := some od) z.cl z.ga z.gg z.sb z.ca z.sg z.tk z.mo, ⟨h1, rfl, rfl, ho⟩, fun y => nomatch y⟩
theorem KitV.ve {H : Hp} {a : Addr} {d : Option Addr} (ha : H a = some (exv a (.type "ValueError") d)) : KitV X H (.ref a) (.type "ValueError") := fun pins σ s u I r => by
  obtain rfl : u = Value.ref a := r
  obtain ⟨⟨tu, h1⟩, _, _⟩ := I.hok a _ ha
  exact ⟨_, PySem.W.kitx_bexc PySem.F.excAttr_ValueError PySem.F.lkClass_ValueError PySem.F.soClass_ValueError (by decide +kernel), ⟨_, h1, rfl⟩, fun y => nomatch y⟩
def rIsiV (X : Cx) : List V → Hp → VK → Prop := fun xs H Q => ∃ (x c : V) (t u : Value) (b : Bool), xs = [x, c] ∧ ClsV c u ∧ KitV X H x t ∧ PySem.W.kitOne X.K t u = some b ∧ Q (.bl b) H
theorem call_isiV : CallR X (.builtin "isinstance") (rIsiV X) := fun pins s σ H xs us Q I r h => by
  obtain ⟨x, c, t, u, b, rfl, k, kv, e, q⟩ := h
  obtain ⟨u1, u2, rfl, r1, r2⟩ := vals2 r
  obtain rfl := k.eq r2
  obtain ⟨P, Z, p, hx⟩ := kv pins σ s u1 I r1
  exact PySem.W.kia_one Z I.kIn p e hx fun tk => ⟨.bl b, H, I.tok tk, rfl, q⟩
def rIsiVT (X : Cx) : List V → Hp → VK → Prop := fun xs H Q => ∃ (x : V) (tp : Addr) (cs : List V) (t : Value) (us : List Value) (b : Bool), xs = [x, .ref tp] ∧ H tp = some (.tup cs) ∧ Paired ClsV cs us ∧ KitV X H x t ∧ PySem.W.kitAny X.K t us = some b ∧ Q (.bl b) H
theorem call_isiVT : CallR X (.builtin "isinstance") (rIsiVT X) := fun pins s σ H xs us Q I r h => by
  obtain ⟨x, tp, cs, t, ws, b, rfl, hT, k, kv, e, q⟩ := h
  obtain ⟨u1, u2, rfl, r1, r2⟩ := vals2 r
  obtain rfl : u2 = Value.ref tp := r2
  obtain ⟨P, Z, p, hx⟩ := kv pins σ s u1 I r1
  obtain ⟨_, its, rv, ⟨oc, od, dt, sl⟩, h1, h2, n, h3⟩ := (show ObjOk X.prog X.w H s.heap tp (.tup cs) from I.hok tp _ hT)
  obtain rfl := ClsV.all k rv
  dsimp only at h2 h3
  subst h2 h3
  exact PySem.W.kia_tup Z I.kIn p h1 e hx fun tk => ⟨.bl b, H, I.tok tk, rfl, q⟩
def gIsi (K : PySem.W.Frag) : GN := fun ds P => match ds with
  | [d, .tup cs] => ∃ t us b, tyD K d t ∧ clsDs cs = some us ∧ PySem.W.kitAny K t us = some b ∧ P (.fz (.bl b))
  | [d, c] => ∃ t u b, tyD K d t ∧ clsD c = some u ∧ PySem.W.kitOne K t u = some b ∧ P (.fz (.bl b))
  | _ => False
theorem clsD_ok {K : PySem.W.Frag} {HF : Hp} {d : D} {v : V} {u : Value} (h : clsD d = some u) (r : Rep K HF d v) : ClsV v u := by
  unfold clsD at h
  split at h
  · cases h; obtain rfl := r; exact .own _
  · cases h; obtain rfl := r; exact .ty _
  · cases h
theorem clsDs_ok {K : PySem.W.Frag} {HF : Hp} : ∀ {ds : List D} {vs : List V} {us : List Value}, clsDs ds = some us → Reps K HF ds vs → Paired ClsV vs us
  | [], vs, us, h, r => by cases h; rw [show vs = [] from r]; exact .nil
  | d :: ds, vs, us, h, r => by
    obtain ⟨v, ws, rfl, r1, r2⟩ := r
    unfold clsDs at h
    split at h
    · rename_i c cs e1 e2
      cases h
      exact .cons (clsD_ok e1 r1) (clsDs_ok e2 r2)
    · cases h
theorem Vw.ofC {K : PySem.W.Frag} {HF H : Hp} {d : D} {v : V} {u : Value} (h : clsD d = some u) (r : Vw K HF H d v) : Rep K HF d v := by
  unfold clsD at h
  split at h
  · exact r
  · exact r
  · cases h
theorem tyD_ok {HF H : Hp} {d : D} {v : V} {t : Value} (s : Same HF H) (h : tyD X.K d t) (r : Vw X.K HF H d v) : KitV X H v t := by
  cases d with
  | non => obtain rfl := h; obtain rfl := r; exact .of (.base .non)
  | bl b => obtain rfl := h; obtain rfl := r; exact .of (.base (.bl _))
  | int i => obtain rfl := h; obtain rfl := r; exact .of (.base (.int _))
  | str x => obtain rfl := h; obtain rfl := r; exact .of (.base (.str _))
  | lst xs => obtain rfl := h; obtain ⟨a, vs, rfl, e, _⟩ := r; exact .of (.base (.lst e))
  | tup xs => obtain rfl := h; obtain ⟨a, vs, rfl, e, _⟩ := r; exact .of (.base (.tup (s _ _ e)))
  | dic xs =>
    obtain rfl := h
    obtain ⟨a, vs, rfl, e, _⟩ := r
    rcases e with e | ⟨o, e⟩
    · exact .of (.base (.dK e))
    · exact .of (.fDict e)
  | ins C fs =>
    obtain ⟨rfl, z⟩ := h
    obtain ⟨a, dx, vs, rfl, e, _⟩ := r
    exact .of (.base (.ins e z.cl z.ca z.sg z.tk z.mo))
  | xo cls fs =>
    obtain ⟨rfl, z⟩ := h
    obtain ⟨a, rfl, y⟩ := r
    rcases z with rfl | ⟨C, rfl, z⟩
    · rcases y with ⟨_, e⟩ | ⟨p, fvs, e, _, _⟩
      · exact KitV.ve (s _ _ e)
      · exact KitV.ve (s _ _ e)
    · rcases y with ⟨_, e⟩ | ⟨p, fvs, e, e2, _⟩
      · exact KitV.xo (fvs := []) z (s _ _ e) fun _ q => by cases q
      · exact KitV.xo z (s _ _ e) fun _ q => by cases q; exact s _ _ e2
  | _ => exact h.elim
theorem do_isi : DoN X.K (fun xs H Q => rIsiV X xs H Q ∨ rIsiVT X xs H Q) (gIsi X.K) := fun HF H vs ds P Q s r g k => by
  unfold gIsi at g
  split at g
  · obtain ⟨v, v', rfl, r1, r2⟩ := r.two
    obtain ⟨t, us, b, ty, hc, e, q⟩ := g
    obtain ⟨tp, cs, rfl, ht, rs⟩ := r2
    exact .inr ⟨v, tp, cs, t, us, b, rfl, s _ _ ht, clsDs_ok hc rs, tyD_ok s ty r1, e, k _ _ _ _ _ q (New.imm s rfl)⟩
  · obtain ⟨v, v', rfl, r1, r2⟩ := r.two
    obtain ⟨t, u, b, ty, hc, e, q⟩ := g
    exact .inl ⟨v, v', t, u, b, rfl, clsD_ok hc (Vw.ofC hc r2), tyD_ok s ty r1, e, k _ _ _ _ _ q (New.imm s rfl)⟩
  · exact g.elim
theorem ae_isi {es : List Expr} {ts : TDs} (hg : Gl X "isinstance") (hm : X.mg "isinstance" = none) (ha : AA X W (e :: es) ts) (he : starEach (e :: es) X.env = (false, eval e X.env) :: starEach es X.env := by rfl) (hpl : (backTo pos (starEach es X.env)).any (·.1) = false := by rfl) :
    AE X W (.Call (.Name "isinstance" p) (e :: es) [] pos) (tN (pN (gIsi X.K)) ts) := ae_callB (CallR.or call_isiV call_isiVT) (primN do_isi) hg hm (by decide +kernel) ha (by decide) (by decide) he hpl
end
end AE
namespace AE
open PySem PySem.Spec PyProof.Rows L2
section
variable {prog : Program} {w : World} {A : Around} {E : Value → Shared → Prop} {R : Result → Shared → Prop} {I : Addr} {fp wr : List Addr} {G : Array GenState → Array GenState → Prop} {n : Nat} {P : Nat → Value → Prop} {St : Nat → Shared → Prop}
end
section
variable {X : Cx}
variable {W : WX} {p pos : Pos} {e : Expr} {es : List Expr} {ts : TDs} {a b : Expr} {ta tb : TD}
def gSum : GN := fun ds P => match ds with
  | [.lst xs] => ∃ bs : List Bool, xs = bs.map D.bl ∧ bs.length ≤ 1000000 ∧ P (.fz (.int ((bs.filter id).length : Int)))
  | _ => False
def repS (x : Str) (n : Int) : Str := ⟨(List.replicate n.toNat x.cps).foldl (· ++ ·) #[]⟩
def gMulS : G2 := fun d d' P => match d, d' with
  | .str z, .int n => -1000000 ≤ n ∧ n ≤ 1000000 ∧ z.length ≤ 16 ∧ P (.fz (.str (repS z n)))
  | _, _ => False
end
end AE
namespace AH
open PySem L2
end AH
namespace AH
open PySem L2 AE
theorem fun_of {K : PySem.W.Frag} {x qual : Str} {st : Stmt} {f : Addr} {fd : FuncData} (F : FunD K x qual (defArgs st) (defBody st) (defScope st) [] [] f fd) : L2.Fun K x qual st f fd := by
  obtain ⟨oc, od, dV, kV, doc, pm, an, cdv, ct, osl, e, lk, hc, hD, _⟩ := F.ex
  rcases hD with ⟨_, rfl⟩ | ⟨z, _⟩
  · exact ⟨⟨oc, od, kV, doc, pm, an, cdv, ct, osl, e, lk, hc⟩, F.kp⟩
  · exact absurd rfl z
theorem andB {a b : Bool} (h : (a && b) = true) : a = true ∧ b = true := Bool.and_eq_true_iff.mp h
section
variable {K : PySem.W.Frag} {h : Heap} {mg : Str → Option Value} {x : Str}
theorem gloB_ok (X : K.In h) (G : h.Ns mainGlobals mg) (c : gloB K x = true) : mg x = some (.ref (C K x)) := PySem.W.mg_of X G (of_decide_eq_true c)
theorem freeB_ok (X : K.In h) (G : h.Ns mainGlobals mg) (c : freeB K x = true) : mg x = none := PySem.W.mg_none_of X G (of_decide_eq_true c)
end
theorem xobjB_ok {K : PySem.W.Frag} {C : Addr} (c : xobjB K C = true) : ∃ nm q N bs bm sn sub ab col dd k0 k1 k2 k3 k5, K.lookup C = some (excClassObj nm q C N bs bm true sn sub ab col dd k0 k1 k2 k3 k5 "ValueError.__new__") ∧ PySem.HandSPX.refsVE bm = true := by
  unfold xobjB at c
  split at c
  · rename_i o lk
    obtain ⟨oc, od, dt, sl⟩ := o
    dsimp only at c
    split at c
    · rename_i t cd k0 k1 k2 k3 n k5 e1
      split at c
      · rename_i C' bm em
        obtain ⟨c1, c⟩ := andB c
        obtain ⟨c2, c⟩ := andB c
        obtain ⟨c3, c⟩ := andB c
        obtain ⟨c4, c⟩ := andB c
        obtain ⟨c5, c6⟩ := andB c
        obtain rfl : t = "type" := beq_iff_eq.mp c1
        obtain rfl : C' = C := beq_iff_eq.mp c2
        obtain rfl : n = "ValueError.__new__" := beq_iff_eq.mp c3
        obtain ⟨nm, bs, mro, ns, qn, hd, sn, sub, ab, col, del⟩ := cd
        dsimp only at em c4 c5
        subst em
        obtain rfl : hd = true := c5
        obtain rfl : del = false := by simpa using c4
        have es : sl = #[k0, k1, k2, k3, some (.builtin "ValueError.__new__"), k5] := by
          apply Array.toList_inj.mp
          exact e1
        subst es
        exact ⟨nm, qn, ns, bs, bm, sn, sub, ab, col, od, k0, k1, k2, k3, k5, lk, c6⟩
      · cases c
    · cases c
  · cases c
structure ExcOk (K : PySem.W.Frag) (C : Addr) : Prop where
  oex : OexC K C
  xf : XfC K C
  xi : XIs K C
theorem excB_ok {K : PySem.W.Frag} {C : Addr} (c : excB K C = true) : ExcOk K C := by
  obtain ⟨c1, c⟩ := andB c
  obtain ⟨c2, c⟩ := andB c
  obtain ⟨c3, c⟩ := andB c
  obtain ⟨c4, c⟩ := andB c
  obtain ⟨c5, c⟩ := andB c
  obtain ⟨c6, c⟩ := andB c
  obtain ⟨c7, c⟩ := andB c
  obtain ⟨c8, c⟩ := andB c
  obtain ⟨c9, c⟩ := andB c
  obtain ⟨d1, c⟩ := andB c
  obtain ⟨d2, c⟩ := andB c
  obtain ⟨d3, d4⟩ := andB c
  have c2 := of_decide_eq_true c2
  have c3 := of_decide_eq_true c3
  have c4 := of_decide_eq_true c4
  have c6 := of_decide_eq_true c6
  have c7 := of_decide_eq_true c7
  exact ⟨⟨xobjB_ok c1, c2, c3, c4, c5⟩, ⟨c6, c7, c3, c8⟩, ⟨c9, c6, c7, c3, of_decide_eq_true d1, of_decide_eq_true d2, of_decide_eq_true d3, of_decide_eq_true d4⟩⟩
theorem plain_ok {K : PySem.W.Frag} {h : Heap} {mg : Str → Option Value} {x : Str} (X : K.In h) (G : h.Ns mainGlobals mg) (g : gloB K x = true) (e : ExcOk K (C K x)) (p : plainB K (C K x) = true) : XPlain K mg x (C K x) :=
  ⟨gloB_ok X G g, p, e.oex.kC, e.oex.exC, e.oex.tyC⟩
theorem one_ok {P : Program} {w : World} {K : PySem.W.Frag} {base h : Heap} {mg : Str → Option Value} {x : Str} {st : Stmt} {qual f pn : Str} {fd : FuncData} {p1 p2 p3 p4 : Pos} (X : K.In h) (G : h.Ns mainGlobals mg) (g : gloB K x = true) (e : ExcOk K (C K x)) (o : oneB K (C K x) f = true)
    (Fn : L2.Fun K "__init__" qual st (He.ma K (C K x) "__init__") fd) (S : FnScope ["self", pn] ["self", pn] (defScope st)) (hb : defBody st = [.Assign [.Attribute (.Name "self" p1) f p2] (.Name pn p3) p4]) (hp : (pn == ("__debug__" : Str)) = false) (hp' : (pn == ("__classdict__" : Str)) = false) (v0 : Vis (defScope st) "self") (v1 : Vis (defScope st) pn)
    (b1 : Binds K fd ["self", pn] []) (b2 : ∀ (s : Shared) (a u : Value), BindsTo s fd ⟨[a], [(pn, u)]⟩ [("self", a), (pn, u)]) : XOneK P w K mg base x (C K x) f pn ∧ XfD K (C K x) f := by
  obtain ⟨o1, o⟩ := andB o
  obtain ⟨o2, o3⟩ := andB o
  exact ⟨⟨gloB_ok X G g, e.oex, _, fd, of_decide_eq_true o1, of_decide_eq_true o2, b1, b2, ok_xinit Fn S hb hp hp' e.oex (of_decide_eq_true o3) v0 v1⟩, e.xf, of_decide_eq_true o3⟩
end AH
namespace AE
open PySem L2
section
variable {X : Cx} {W : WX} {pos : Pos}
theorem ae_ty {x : Str} {T : String} (hg : Gl X x) (hm : X.mg x = none) (hv : bootBuiltins x = some (.type T)) (hn : x ≠ "__name__" := by decide) (hd : (x == ("__debug__" : Str)) = false := by decide) : AE X W (.Name x pos) (tK (.ty T)) := ae_const (pe_bltn (v := .ty T) hg hm hv rfl hn hd) fun _ _ => rfl
end
abbrev gSub : G2 := gI0 fun i j => .int (i - j)
abbrev gMod : G2 := gI (fun _ j => 0 < j) fun i j => .int (i % j)
abbrev gDiv : G2 := gI CDivW fun i j => .int (i / j)
abbrev gMul : G2 := gI CMulW fun i j => .int (i * j)
abbrev gPow : G2 := gI CPowW fun i j => .int (i ^ j.toNat)
abbrev gLt : G2 := gI0 fun i j => .bl (decide (i < j))
abbrev gGt : G2 := gI0 fun i j => .bl (decide (j < i))
abbrev gGe : G2 := gI0 fun i j => .bl (decide (j ≤ i))
end AE
namespace AE
open PySem L2
theorem iteB {b : Bool} {P Q : Prop} (h1 : b = true → P) (h2 : b = false → Q) : (if b = true then P else Q) := by
  cases b
  · exact h2 rfl
  · exact h1 rfl
theorem bits_le {x : Int} {n : Nat} (h : x.natAbs < 2 ^ n) : Builtin.Int.intBits x ≤ n := by
  unfold Builtin.Int.intBits
  split
  · exact Nat.zero_le _
  · rename_i hx
    have hx : x ≠ 0 := fun e => hx (by rw [e]; rfl)
    have : x.natAbs ≠ 0 := fun e => hx (Int.natAbs_eq_zero.mp e)
    have := (Nat.log2_lt this).mpr h
    omega
theorem log_lt {x : Int} {n : Nat} (hn : 0 < n) (h : x.natAbs < 2 ^ n) : x.natAbs.log2 < n := by
  by_cases e : x.natAbs = 0
  · rw [e]; simpa using hn
  · exact (Nat.log2_lt e).mpr h
theorem mulW {i j : Int} (hi : i.natAbs < 2 ^ 200) (hj : j.natAbs < 2 ^ 200) : CMulW i j := by
  have a := log_lt (by decide) hi
  have b := log_lt (by decide) hj
  show i.natAbs.log2 + j.natAbs.log2 < 1000000
  omega
end AE
namespace AE
open PySem L2
theorem szB {n : Nat} (h : Nat.ble n sizeLine = true) : n ≤ sizeLine := Nat.le_of_ble_eq_true h
theorem powW {i j : Int} (h0 : 0 ≤ j) (h1 : j ≤ 1000) (hi : i.natAbs < 2 ^ 200) : CPowW i j := by
  have b := bits_le hi
  refine ⟨h0, ?_⟩
  have : (Builtin.Int.intBits i : Int) * j ≤ 200 * 1000 := Int.mul_le_mul (by omega) h1 h0 (by omega)
  omega
theorem divW {i j : Int} (h : 0 < j) (hj : j.natAbs < 2 ^ 200) : CDivW i j := ⟨h, by have := log_lt (by decide) hj; omega⟩
theorem atI_lt {α : Type} {xs : List α} {k : Int} (h0 : 0 ≤ k) (h1 : k < xs.length) : ∃ x, x ∈ xs ∧ atI xs k = some x := by
  have hk : k.toNat < xs.length := by omega
  refine ⟨xs[k.toNat], List.getElem_mem _, ?_⟩
  unfold atI ixN
  rw [if_pos h0, if_pos h1]
  simp [hk]
end AE
namespace AE
open PySem L2
end AE
namespace AE
open PySem L2
end AE
namespace AH
open PySem PySem.Spec PyProof.Rows L2
theorem noCX {P : Program} {w : World} {H : Hp} {s : Shared} {e : Value} {s' : Shared} (z : L2N.CX P w [] H s (fun _ _ _ => False) e s') : False := by
  obtain ⟨_, _, _, _, _, _, _, _, _, _, _, _, z⟩ := z
  exact z
theorem bindsK {K : PySem.W.Frag} {x qual : Str} {params : Arguments} {body : List Stmt} {scope : Scope} {kws : List (Str × V)} {f : Addr} {fd : FuncData} {pn : Str} (F : FunD K x qual params body scope [] kws f fd)
    (h : ∀ (kV doc pm : Value) (an : Option Addr) (cdv ct a u : Value), bindArgs (PySem.W.fnOf x qual params body scope .none kV doc pm an cdv ct) ⟨[a], [(pn, u)]⟩ = pure ([("self", a), (pn, u)] : List (Str × Value))) (s : Shared) (a u : Value) : BindsTo s fd ⟨[a], [(pn, u)]⟩ [("self", a), (pn, u)] := by
  obtain ⟨oc, od, dV, kV, doc, pm, an, cdv, ct, osl, rfl, lk, hcd, hD, hK⟩ := F.ex
  rcases hD with ⟨_, rfl⟩ | ⟨e, _⟩
  · exact .of_eq (h kV doc pm an cdv ct a u)
  · exact absurd rfl e
open AE in
theorem spLaw {K : PySem.W.Frag} {n : Nat} {F : AFn} (pure_ : ∀ ns : List Int, ns.length ≤ n → F [.fz (.scr ns)] (fun o _ => o = .fz (.bl true)) (fun _ _ => False)) (H : Hp) (a : Addr) (ns : List Int) (hl : ns.length ≤ n) (hS : SqL K H a (ns.map V.int)) : spA K 1 F [.ref a] H (fun v _ => v = .bl true) fun _ _ _ => False := by
  refine ⟨H, [.fz (.scr ns)], [], _, _, rfl, ⟨.refl _, List.nodup_nil, fun _ h => by cases h⟩, ⟨.ref a, [], [], [], rfl, rfl, ⟨rfl, a, rfl, hS⟩, rfl, rfl⟩, pure_ ns hl, fun o ρ q HF' H' A' v Av f w en r => ?_, fun x ρ q => q.elim⟩
  subst q
  exact r.2
end AH
namespace AE
open PySem L2
def putFO (f : Str) (o : O) : List (Str × O) → List (Str × O)
  | [] => [(f, o)]
  | (g, x) :: r => if g = f then (g, o) :: r else (g, x) :: putFO f o r
section
variable {K : PySem.W.Frag} {HF H : Hp}
theorem RepOFs.put {f : Str} {o : O} {y : V} {Ay : List Addr} (r : RepO K HF H o y Ay) : ∀ {fs : List (Str × O)} {vs : List (Str × V)} {B : List Addr}, RepOFs K HF H fs vs B → ∃ B' R, (B ++ Ay).Perm (B' ++ R) ∧ RepOFs K HF H (putFO f o fs) (putF f y vs) B'
  | [], vs, B, h => by
    obtain ⟨rfl, rfl⟩ := h
    exact ⟨Ay, [], by simp, (f, y), [], Ay, [], rfl, by simp, ⟨rfl, r⟩, rfl, rfl⟩
  | (g, x) :: fs, vs, B, h => by
    obtain ⟨⟨g', v⟩, ws, A1, A2, rfl, rfl, ⟨eg, r1⟩, r2⟩ := h
    obtain rfl : g' = g := eg
    unfold putFO putF
    by_cases e : g' = f
    · rw [if_pos e, if_pos e]
      refine ⟨Ay ++ A2, A1, ?_, (g', y), ws, Ay, A2, rfl, rfl, ⟨rfl, r⟩, r2⟩
      have h1 : (A1 ++ A2 ++ Ay).Perm ((A2 ++ Ay) ++ A1) := by rw [List.append_assoc]; exact List.perm_append_comm
      exact h1.trans (List.Perm.append_right A1 List.perm_append_comm)
    · rw [if_neg e, if_neg e]
      obtain ⟨B', R, pm, r3⟩ := RepOFs.put r r2
      refine ⟨A1 ++ B', R, ?_, (g', v), _, A1, B', rfl, rfl, ⟨rfl, r1⟩, r3⟩
      rw [List.append_assoc, List.append_assoc]
      exact List.Perm.append_left A1 pm
theorem RepOFs.length : ∀ {fs : List (Str × O)} {vs : List (Str × V)} {B : List Addr}, RepOFs K HF H fs vs B → vs.length = fs.length
  | [], vs, B, h => by rw [h.1]; rfl
  | _ :: fs, vs, B, h => by obtain ⟨v, ws, A1, A2, rfl, rfl, _, r⟩ := h; simp [RepOFs.length r]
end
def tFldS (K : PySem.W.Frag) (f : Str) (j : Nat) (te : TD) : TSD := fun E Ed ρ => te ρ (fun ev ρ1 => match ev with
  | .ow o => (match ρ1[j]? with
    | some (some (.ob C fs)) => FldOk K C f ∧ fs.length < 1000 ∧ E.nx (ρ1.set j (some (.ob C (putFO f o fs))))
    | _ => False)
  | .pt _ => False
  | .tk _ _ _ _ => False) Ed
section
variable {X : Cx} {W : WX} {P : Prot} {o e : Expr} {te : TD} {f : Str} {j : Nat} {pos' pos : Pos}
theorem as_fld (ho : PE X o (tVar j)) (he : AE X W e te) (hs : swapsWith e (some (.Attribute o f pos')) pos.line X.env = pure false := by rfl) : AS X W P (.Assign [.Attribute o f pos'] e pos) (tFldS X.K f j te) := PS.imp (ps_fld ho he hs) fun D σ H q => by
  obtain ⟨HF, ρ, A, E, Ed, w, en, t, k, x⟩ := q
  refine ⟨HF, ρ, A, _, Ed, w, en, t, fun ev ρ1 q1 HF1 H1 A1 y Ay f1 w1 en1 r1 => ?_, x.x⟩
  cases ev with
  | pt i => exact q1.elim
  | tk _ _ _ _ => exact q1.elim
  | ow o1 =>
    dsimp only at q1
    split at q1
    · rename_i C fs e1
      obtain ⟨hf, hl, n⟩ := q1
      obtain ⟨v, B, R, h1, r, pm, en2⟩ := en1.get e1
      obtain ⟨a, dx, vs, B', rfl, rfl, hH, rs⟩ := r
      refine ⟨_, h1, a, C, dx, vs, rfl, hH, hf.cl, hf.no, by rw [rs.length]; exact hl, ?_⟩
      have pmA : (A1 ++ Ay).Perm (a :: (R ++ (B' ++ Ay))) := by
        have := List.Perm.append_right Ay pm
        refine this.trans ?_
        simp only [List.cons_append]
        refine List.Perm.cons a ?_
        rw [List.append_assoc]
        exact (List.perm_append_comm_assoc B' R Ay)
      have wA : WR HF1 H1 (a :: (R ++ (B' ++ Ay))) := w1.perm pmA
      obtain ⟨na, nd⟩ := List.nodup_cons.mp wA.nodup
      obtain ⟨B2, R2, pm2, rs2⟩ := RepOFs.put (f := f) r1 rs
      have mem2 : ∀ p ∈ B2, p ∈ B' ++ Ay := fun p hp => pm2.mem_iff.mpr (List.mem_append_left _ hp)
      have ne2 : ∀ p ∈ B2, p ≠ a := fun p hp z => na (List.mem_append_right _ (z ▸ mem2 p hp))
      have neR : ∀ p ∈ R, p ≠ a := fun p hp z => na (List.mem_append_left _ (z ▸ hp))
      have hHF : HF1 a = none := wA.out a (by simp)
      have rep : RepO X.K HF1 (upd H1 a (.ins C dx (putF f y vs))) (.ob C (putFO f o1 fs)) (.ref a) (a :: B2) := ⟨a, dx, _, B2, rfl, rfl, upd_same, RepOFs.keep (.refl _) _ rs2 fun p hp => by rw [upd_ne (ne2 p hp)]⟩
      have hi : j < ρ1.length := (List.getElem?_eq_some_iff.mp e1).1
      obtain ⟨A', pm3, en3⟩ := EnvR.put (EnvR.keep (H' := upd H1 a (.ins C dx (putF f y vs))) (.refl _) _ en2 fun p hp => by rw [upd_ne (neR p hp)]) hi rep
      rw [set_get h1] at en3
      have pm4 : (a :: (R ++ (B' ++ Ay))).Perm (A' ++ R2) := by
        have z : (A' ++ R2).Perm ((a :: B2 ++ R) ++ R2) := List.Perm.append_right R2 pm3
        refine List.Perm.trans ?_ z.symm
        simp only [List.cons_append]
        refine List.Perm.cons a ?_
        refine (List.Perm.append_left R pm2).trans ?_
        rw [← List.append_assoc]
        exact List.Perm.append_right R2 List.perm_append_comm
      have w2 : WR HF1 (upd H1 a (.ins C dx (putF f y vs))) A' := by
        refine ⟨fun b u eb => ?_, ((pm4.nodup_iff.mp wA.nodup).sublist (List.sublist_append_left _ _)), fun p hp => wA.out p (pm4.mem_iff.mpr (List.mem_append_left _ hp))⟩
        have : b ≠ a := fun z => by rw [z, hHF] at eb; cases eb
        rw [upd_ne this]; exact w1.same b u eb
      refine k.nx _ n HF1 _ σ A' .refl (f1.trans ⟨.refl _, fun p u ep np => ?_, fun _ _ _ _ h => h, fun p hp => .inl (pmA.mem_iff.mpr (pm4.mem_iff.mpr (List.mem_append_left _ hp)))⟩) w2 en3
      have : p ≠ a := fun z => np (pmA.mem_iff.mpr (by simp [z]))
      rw [upd_ne this]; exact ep
    · exact q1.elim
end
structure Met (P : Program) (w : World) (K : PySem.W.Frag) (mg : Str → Option Value) (base : Heap) (lv : Nat) (C : Addr) (m : Str) (ps : List Str) (F : AFn) : Prop where
  cl : Cls K C
  ex : ∃ f fd, Meth K C m f ∧ Binds K fd ps [] ∧ FnOk P w K mg base (L2N.CX P w) lv f fd ps (spA K ps.length F)
  len : ∀ os Kd Ed, F os Kd Ed → os.length = ps.length
def callK (F : AFn) (es : List EV) (ρ : Env) (Kd : KD) (Ed : XC) : Prop := match takeD ρ es with
  | some (os, ρ2) => F os (fun o ρx => backP (Kd (.ow o)) ρ2 es ρx) (fun x ρx => backP (Ed x) ρ2 es ρx)
  | none => False
section
variable {X : Cx} {W : WX} {lv : Nat} {C : Addr} {m : Str} {ps : List Str} {F : AFn} {o e : Expr} {es : List Expr} {to : TD} {ts : TDs} {apos pos : Pos}
structure Prp (P : Program) (w : World) (K : PySem.W.Frag) (mg : Str → Option Value) (base : Heap) (lv : Nat) (C : Addr) (f : Str) (F : AFn) : Prop where
  cl : Cls K C
  ex : ∃ p g fd ps, PropOf K C f p g ∧ Binds K fd ps [] ∧ ps.length = 1 ∧ FnOk P w K mg base (L2N.CX P w) lv g fd ps (spA K ps.length F)
  len : ∀ os Kd Ed, F os Kd Ed → os.length = 1
def isIns (ρ : Env) (e : EV) (C : Addr) : Prop := match deref ρ e with
  | some (.fz (.ins C' _)) => C' = C
  | some (.ob C' _) => C' = C
  | _ => False
theorem isIns_ok {K : PySem.W.Frag} {HF H : Hp} {ρ : Env} {σ : St} {A Av : List Addr} {ev : EV} {v : V} {C : Addr} (s : Same HF H) (en : EnvR K HF H ρ σ A) (r : EVR K HF H σ ev v Av) (h : isIns ρ ev C) : ∃ a dx fs, v = .ref a ∧ H a = some (.ins C dx fs) := by
  unfold isIns at h
  split at h
  · rename_i C' fs e
    obtain ⟨B, rb⟩ := deref_ok en r e
    obtain rfl := h
    obtain ⟨_, a, dx, vs, rfl, hH, rs⟩ := rb
    exact ⟨a, dx, vs, rfl, s _ _ hH⟩
  · rename_i C' fs e
    obtain ⟨B, rb⟩ := deref_ok en r e
    obtain rfl := h
    obtain ⟨a, dx, vs, B', rfl, _, hH, rs⟩ := rb
    exact ⟨a, dx, vs, rfl, hH⟩
  · exact h.elim
end
end AE
namespace AE
open PySem L2
section
variable {X : Cx} {W : WX} {P : Prot}
theorem PS.impL {st : Stmt} {t u : TS} (h : PS X st t) (i : ∀ D σ H, σ.length = X.N.length → u D σ H → t D σ H) : PS X st u := ⟨fun pins s σ H D I q => h.run pins s σ H D I (i D σ H I.len q)⟩
end
theorem Reps.eraseIdx {K : PySem.W.Frag} {HF : Hp} : ∀ {ds : List D} {vs : List V} (n : Nat), Reps K HF ds vs → Reps K HF (ds.eraseIdx n) (vs.eraseIdx n)
  | [], vs, n, h => by obtain rfl : vs = [] := h; exact rfl
  | d :: ds, vs, 0, h => by obtain ⟨v, ws, rfl, r, t⟩ := h; exact t
  | d :: ds, vs, n + 1, h => by obtain ⟨v, ws, rfl, r, t⟩ := h; exact ⟨v, _, rfl, r, Reps.eraseIdx n t⟩
def fPopAt : Env → List EV → KD → Prop := fun ρ es Kd => match es with
  | [.pt i, e] => (match ρ[i]? with
    | some (some (.ls xs)) => (match dOf ρ e with
      | some (.int k) => (-(2 ^ 63) ≤ k ∧ k < 2 ^ 63) ∧ ∃ n d, ixN xs.length k = some n ∧ xs[n]? = some d ∧ Kd (.ow (.fz d)) (ρ.set i (some (.ls (xs.eraseIdx n))))
      | _ => False)
    | _ => False)
  | _ => False
section
variable {K : PySem.W.Frag}
theorem prim_popAt : Prim K (rML rPopAt) fPopAt := fun σ HF H ρ A Av evs vs Kd Q w en r q k => by
  unfold fPopAt at q
  split at q
  · rename_i i e
    split at q
    · rename_i xs e1
      split at q
      · rename_i kk e2
        obtain ⟨hb, n, d, hn, hd, q⟩ := q
        obtain ⟨v, ws, A1, A2, rfl, rfl, r1, v2, ws2, A3, A4, rfl, rfl, r2, rfl, rfl⟩ := r
        obtain ⟨rfl, hv⟩ := r1
        cases (show v2 = .int kk from Vw.ev w.same en r2 e2)
        obtain ⟨a, s1, ro, upd1⟩ := slot_one en e1 trivial
        rw [hv] at s1
        obtain rfl := Option.some.inj (Option.some.inj s1)
        simp only [List.nil_append, List.append_nil] at w k
        obtain ⟨a', us, ee, e3, hH, rs⟩ := ro
        cases ee
        obtain ⟨u, hu, ru⟩ := rs.get hd
        obtain ⟨A', w', f', en'⟩ := upd1 HF (.lst (us.eraseIdx n)) (.ls (xs.eraseIdx n)) (.refl _) w.left ⟨a, _, rfl, rfl, upd_same, Reps.eraseIdx n rs⟩
        refine ⟨a, us, kk, n, u, rfl, rfl, hH, hb.1, hb.2, by rw [rs.length]; exact (ixN_seq hn).1, hu, ?_⟩
        exact k _ _ q HF _ A' u [] (by rw [List.append_nil]; exact f'.mono (fun p hp => List.mem_append_left _ hp) fun p hp => .inl hp) (by rw [List.append_nil]; exact w') en' ⟨rfl, ru⟩
      · exact q.elim
    · exact q.elim
  · exact q.elim
end
section
variable {X : Cx} {W : WX} {o e : Expr} {to : TD} {ts : TDs} {apos cpos : Pos}
theorem ae_popAt (ho : AE X W o to) (ha : AA X W [e] ts) (hbase : attributeBase o "pop" X.env (eval o X.env) = eval o X.env := by rfl)
    (hfew : ((backTo cpos (starEach [e] X.env)).all (fun x => !x.1) && (backToKw cpos (keywordEach [] X.env)).all (fun x => x.1.isSome)
      && decide (([e] : List Expr).length + ([] : List Keyword).length + (if ([] : List Keyword).isEmpty then 0 else 1) < 30)) = true := by rfl)
    (hline : (apos.endLine == cpos.line) = true := by rfl) (hs : starEach [e] X.env = (false, eval e X.env) :: starEach [] X.env := by rfl) :
    AE X W (.Call (.Attribute o "pop" apos) [e] [] cpos) (tMtL fPopAt to ts) := ae_mtL PySem.F.slot_list_pop PySem.F.type_list_pop mt_popAt prim_popAt ho ha hbase hfew hline hs rfl
end
abbrev GS1 := Str → D → (O → Prop) → Prop
section
variable {X : Cx} {W : WX} {o e : Expr} {to te : TD} {apos pos : Pos} {id : String} {name : Str} {r : V → List V → Hp → VK → Prop} {g : GS1}
end
def gSplit : GS1 := fun a d P => match d with
  | .str b => (b.length == 0) = false ∧ a.length + 2 ≤ sizeLine ∧ P (.ls ((Txt.split a b).map D.str))
  | _ => False
def gJoin : GS1 := fun a d P => match d with
  | .lst xs => ∃ ys : List Str, xs = ys.map D.str ∧ (ys.map (·.length)).sum + ys.length * a.length ≤ 16777216 ∧ P (.fz (.str (Txt.join a ys)))
  | .tup xs => ∃ ys : List Str, xs = ys.map D.str ∧ (ys.map (·.length)).sum + ys.length * a.length ≤ 16777216 ∧ P (.fz (.str (Txt.join a ys)))
  | _ => False
def gPart : GS1 := fun a d P => match d with
  | .str b => (b.length == 0) = false ∧ a.length ≤ sizeLine ∧ P (.fz (.tup [.str (Txt.partition a b).1, .str (Txt.partition a b).2.1, .str (Txt.partition a b).2.2]))
  | _ => False
def gStarts : GS1 := fun a d P => match d with
  | .str b => P (.fz (.bl (Txt.startswith a b)))
  | _ => False
section
variable {X : Cx} {W : WX} {o e : Expr} {to te : TD} {apos pos : Pos}
def tDNew : TD := fun ρ Kd _ => Kd (.ow (.dc [])) ρ
theorem ae_dnew : AE X W (.Dict [] [] pos) tDNew := PE.imp pe_dnewK fun σ H Q q => by
  obtain ⟨HF, ρ, A, Kd, Ed, w, en, t, k, x⟩ := q
  intro p hp
  have k' : KOk X.K σ H HF (A ++ []) Kd Q := by rw [List.append_nil]; exact k
  exact k'.new (by rw [List.append_nil]; exact w) en t (New.own (o := .dc []) w.same hp ⟨p, [], rfl, rfl, upd_same, rfl⟩)
end
end AE
namespace AE
open PySem L2
structure Cp (K : PySem.W.Frag) (H0 HF0 : Hp) (C : List Addr) (D : Addr) (u : HO) (σ' : St) (ρ' : Env) (H2 HF2 : Hp) (A2 : List Addr) : Prop where
  fr : Fr H0 H2 HF0 HF2 (C ++ [D]) (A2 ++ [D])
  wr : WR HF2 H2 (A2 ++ [D])
  en : EnvR K HF2 H2 ρ' σ' A2
  at_ : H2 D = some u
section
variable {K : PySem.W.Frag} {H0 HF0 : Hp} {C : List Addr} {D : Addr} {u : HO} {σ' : St} {ρ' : Env} {H2 HF2 : Hp} {A2 : List Addr}
theorem Cp.step {H3 HF3 : Hp} {A3 : List Addr} {σ3 : St} {ρ3 : Env} (c : Cp K H0 HF0 C D u σ' ρ' H2 HF2 A2) (f : Fr H2 H3 HF2 HF3 A2 A3) (w : WR HF3 H3 A3) (en : EnvR K HF3 H3 ρ3 σ3 A3) : Cp K H0 HF0 C D u σ3 ρ3 H3 HF3 A3 := by
  obtain ⟨h1, w', f'⟩ := hold c.wr c.at_ f w
  exact ⟨c.fr.trans f', w', en, h1⟩
theorem Cp.item {H3 HF3 : Hp} (c : Cp K H0 HF0 C D u σ' ρ' H2 HF2 A2) (f3 : Fr H2 H3 HF2 HF3 [] []) (s3 : Same HF3 H3) : Cp K H0 HF0 C D u σ' ρ' H3 HF3 A2 := by
  obtain ⟨k1, k2, k3⟩ := f3.frame (EnvR.there _ c.en) (fun _ _ h => by cases h)
  exact c.step (f3.mono (fun _ h => by cases h) fun p hp => .inr hp) ⟨s3, c.wr.left.nodup, fun a ha => k2 a ha (c.wr.left.out a ha)⟩ (EnvR.keep f3.same _ c.en k1)
theorem Cp.tgt {P : Prot} {g : TGD} {d : AE.D} {x : V} {N : Env → Prop} {Q : St → Hp → Prop} (c : Cp K H0 HF0 C D u σ' ρ' H2 HF2 A2) (rd : Rep K HF2 d x) (hg : g (.fz d) ρ' N)
    (k : ∀ ρ5 σ5 H5 HF5 A5, N ρ5 → Pr P σ' σ5 → Same HF2 HF5 → Cp K H0 HF0 C D u σ5 ρ5 H5 HF5 A5 → Q σ5 H5) : tG K P g x σ' H2 Q := by
  refine ⟨HF2, ρ', A2, .fz d, [], N, by rw [List.append_nil]; exact c.wr.left, c.en, ⟨rfl, rd⟩, hg, fun ρ4 n4 HF4 H4 σ4 A4 p4 f4 w4 en4 => ?_⟩
  rw [List.append_nil] at f4
  exact k ρ4 σ4 H4 HF4 A4 n4 p4 f4.same (c.step f4 w4 en4)
theorem Cp.test {tt : TDt} {Kd : Bool → Env → Prop} {Q : Bool → Hp → Prop} (c : Cp K H0 HF0 C D u σ' ρ' H2 HF2 A2) (ht : tt ρ' Kd NoX)
    (k : ∀ b ρ6 H6 HF6 A6, Kd b ρ6 → Same HF2 HF6 → Cp K H0 HF0 C D u σ' ρ6 H6 HF6 A6 → Q b H6) : tAt K WF tt σ' H2 Q :=
  ⟨HF2, ρ', A2, Kd, NoX, c.wr.left, c.en, ht, fun b ρ6 q6 HF6 H6 A6 f6 w6 en6 => k b ρ6 H6 HF6 A6 q6 f6.same (c.step f6 w6 en6), fun _ _ z => z.elim⟩
theorem Cp.elt {te : TD} {Kd : KD} {Q : VK} (c : Cp K H0 HF0 C D u σ' ρ' H2 HF2 A2) (he : te ρ' Kd NoX) (hpt : (∀ i ρ, Kd (.pt i) ρ → False) ∧ ∀ i π w o ρ, Kd (.tk i π w o) ρ → False)
    (k : ∀ o ρ6 H6 HF6 A6 y, Kd (.ow o) ρ6 → Same HF2 HF6 → Rep K HF6 (frz o) y → Cp K H0 HF0 C D u σ' ρ6 H6 HF6 A6 → Q y H6) : tA K WF te σ' H2 Q := by
  refine ⟨HF2, ρ', A2, Kd, NoX, c.wr.left, c.en, he, fun ev ρ6 q6 HF6 H6 A6 y6 Ay f6 w6 en6 r6 => ?_, fun _ _ z => z.elim⟩
  cases ev with
  | pt j => exact (hpt.1 j ρ6 q6).elim
  | tk i π w o => exact (hpt.2 i π w o ρ6 q6).elim
  | ow o =>
    obtain ⟨sg, wg, fg⟩ := grow_ok (w6.perm List.perm_append_comm)
    have rg : Rep K (grow HF6 H6 Ay) (frz o) y6 := RepO.frz sg o r6 fun p hp => grow_in hp
    have f6' : Fr H2 H6 HF2 (grow HF6 H6 Ay) A2 A6 := f6.trans (fg.mono (fun p hp => (List.mem_append.mp hp).elim (fun z => List.mem_append_right _ z) (fun z => List.mem_append_left _ z)) fun p hp => .inl hp)
    exact k o ρ6 H6 _ A6 y6 q6 f6'.same rg (c.step f6' wg (EnvR.keep sg _ en6 fun _ _ => rfl))
theorem Cp.wipe (c : Cp K H0 HF0 C D u σ' ρ' H2 HF2 A2) (vs : List Nat) (nd : vs.Nodup) (hlt : ∀ v ∈ vs, v < ρ'.length) : ∃ A7, Cp K H0 HF0 C D u (L2.wipe σ' vs) (wipeD ρ' vs) H2 HF2 A7 := by
  obtain ⟨C5, B5, pm5, _, enw5, _⟩ := holes c.en vs nd hlt
  have sub : ∀ p ∈ C5, p ∈ A2 := fun p hp => pm5.mem_iff.mpr (List.mem_append_left _ hp)
  have w7 : WR HF2 H2 (C5 ++ [D]) := by
    have : (A2 ++ [D]).Perm ((C5 ++ [D]) ++ B5) := (List.Perm.append_right [D] pm5).trans (by rw [List.append_assoc, List.append_assoc]; exact List.Perm.append_left C5 List.perm_append_comm)
    exact (c.wr.perm this).left
  exact ⟨C5, c.fr.mono (fun _ h => h) fun p hp => .inl ((List.mem_append.mp hp).elim (fun z => List.mem_append_left _ (sub p z)) fun z => List.mem_append_right _ z), w7, enw5, c.at_⟩
theorem Cp.put (c : Cp K H0 HF0 C D u σ' ρ' H2 HF2 A2) (u' : HO) : Cp K H0 HF0 C D u' σ' ρ' (upd H2 D u') HF2 A2 := by
  obtain ⟨w8, f8, k8⟩ := putD (K := K) (u := u') c.wr
  exact ⟨c.fr.trans f8, w8, k8 _ _ c.en, upd_same⟩
theorem Cp.over {u' : HO} {σ3 : St} {ρ3 : Env} {H3 HF3 : Hp} {A3 : List Addr} (c : Cp K H0 HF0 C D u σ' ρ' H2 HF2 A2) (c2 : Cp K H2 HF2 A2 D u' σ3 ρ3 H3 HF3 A3) : Cp K H0 HF0 C D u' σ3 ρ3 H3 HF3 A3 := ⟨c.fr.trans c2.fr, c2.wr, c2.en, c2.at_⟩
theorem Cp.side (c : Cp K H0 HF0 C D u σ' ρ' H2 HF2 A2) {p : Addr} {o : HO} (h : H0 p = some o) (n : p ∉ C ++ [D]) : H2 p = some o ∧ (HF0 p = none → HF2 p = none) ∧ p ∉ A2 ++ [D] :=
  ⟨c.fr.keep p o h n, c.fr.free p o h n, fun z => (c.fr.new p z).elim n fun q => by rw [h] at q; cases q⟩
theorem Cp.src {ti : TId} {Kd : List AE.D → Env → Prop} {R : It → Hp → Prop} (c : Cp K H0 HF0 C D u σ' ρ' H2 HF2 A2) (hi : ti ρ' Kd NoX)
    (k : ∀ items ρ6 J H6 HF6 A6 Av, Kd items ρ6 → Same HF2 HF6 → Cp K H0 HF0 C D u σ' ρ6 H6 HF6 A6 → (∀ p ∈ Av, ∃ o, H6 p = some o ∧ p ∉ A6 ++ [D]) → SrcR K HF6 H6 items Av J → R J H6) : tAI K WF ti σ' H2 R := by
  refine ⟨HF2, ρ', A2, Kd, NoX, c.wr.left, c.en, hi, fun items ρ6 q6 HF6 H6 A6 Av J f6 w6 tv en6 src => ?_, fun _ _ z => z.elim⟩
  obtain ⟨h1, w', f'⟩ := hold c.wr c.at_ f6 w6
  have ff : Fr H2 H6 HF2 HF6 (A2 ++ [D]) (A6 ++ [D]) := f'.mono (fun _ h => h) fun p hp => .inl ((List.mem_append.mp hp).elim (fun z => List.mem_append_left _ (List.mem_append_left _ z)) fun z => List.mem_append_right _ z)
  have pmw : ((A6 ++ Av) ++ [D]).Perm ((A6 ++ [D]) ++ Av) := by
    rw [List.append_assoc, List.append_assoc]
    exact List.Perm.append_left A6 List.perm_append_comm
  have w2 := w'.perm pmw
  refine k items ρ6 J H6 HF6 A6 Av q6 f6.same ⟨c.fr.trans ff, w2.left, en6, h1⟩ (fun p hp => ?_) src
  obtain ⟨o, ho⟩ := tv p hp
  exact ⟨o, ho, fun z => w2.disj p z hp⟩
theorem comp_frame {HF1 H1 : Hp} {A1 Av : List Addr} {ρ1 : Env} {σ : St} {vs : List Nat} (w1 : WR HF1 H1 (A1 ++ Av)) (tv : ∀ p ∈ Av, ∃ o, H1 p = some o) (en1 : EnvR K HF1 H1 ρ1 σ A1) (hD : H1 D = none) (u0 : HO) (nd : vs.Nodup) (hlt : ∀ v ∈ vs, v < ρ1.length) :
    ∃ C, Cp K (upd H1 D u0) HF1 C D u0 (L2.wipe σ vs) (wipeD ρ1 vs) (upd H1 D u0) HF1 C ∧ (∀ {u σ' ρ' H2 HF2 A2}, Cp K (upd H1 D u0) HF1 C D u σ' ρ' H2 HF2 A2 → ∀ p ∈ Av, H2 p = H1 p) ∧
      ∀ {u ρ' H2 HF2 A2}, Cp K (upd H1 D u0) HF1 C D u (L2.wipe σ vs) (wipeD ρ' vs) H2 HF2 A2 → ρ'.length = ρ1.length → ∃ A3, Fr H1 H2 HF1 HF2 (A1 ++ Av) (A3 ++ [D]) ∧ WR HF2 H2 (A3 ++ [D]) ∧ EnvR K HF2 H2 (backL ρ1 (wipeD ρ' vs) vs) σ A3 := by
  obtain ⟨C, B, pm, tB, enw, back⟩ := holes en1 vs nd hlt
  have memC : ∀ p ∈ C, p ∈ A1 := fun p hp => pm.mem_iff.mpr (List.mem_append_left _ hp)
  have memB : ∀ p ∈ B, p ∈ A1 := fun p hp => pm.mem_iff.mpr (List.mem_append_right _ hp)
  have wCB : WR HF1 H1 (C ++ B) := w1.left.perm pm
  have tA1 := EnvR.there _ en1
  have nD : ∀ p o, H1 p = some o → p ≠ D := fun p o e z => by rw [z, hD] at e; cases e
  have w0 : WR HF1 (upd H1 D u0) (C ++ [D]) := by
    refine ⟨fun b o e => by rw [upd_ne (nD b o (w1.same b o e))]; exact w1.same b o e, List.nodup_append.mpr ⟨wCB.left.nodup, by simp, fun a ha b hb e => ?_⟩, fun a ha => ?_⟩
    · rw [List.mem_singleton.mp hb] at e
      obtain ⟨o, ho⟩ := tA1 a (memC a ha)
      exact nD a o ho e
    · rcases List.mem_append.mp ha with z | z
      · exact wCB.left.out a z
      · rw [List.mem_singleton.mp z]; exact w1.same.free hD
  have en0 : EnvR K HF1 (upd H1 D u0) (wipeD ρ1 vs) (L2.wipe σ vs) C := EnvR.keep (.refl _) _ enw fun p hp => by
    obtain ⟨o, ho⟩ := tA1 p (memC p hp)
    rw [upd_ne (nD p o ho)]
  have side : ∀ {u σ' ρ' H2 HF2 A2}, Cp K (upd H1 D u0) HF1 C D u σ' ρ' H2 HF2 A2 → ∀ p, (p ∈ B ∨ p ∈ Av) → H2 p = H1 p ∧ (HF1 p = none → HF2 p = none) ∧ p ∉ A2 ++ [D] := fun {u σ' ρ' H2 HF2 A2} c p hp => by
    obtain ⟨o, ho, hn⟩ : ∃ o, H1 p = some o ∧ p ∉ C := by
      rcases hp with hp | hp
      · obtain ⟨o, ho⟩ := tB p hp
        exact ⟨o, ho, fun z => wCB.disj p z hp⟩
      · obtain ⟨o, ho⟩ := tv p hp
        exact ⟨o, ho, fun z => w1.disj p (memC p z) hp⟩
    have e0 : upd H1 D u0 p = some o := by rw [upd_ne (nD p o ho)]; exact ho
    have n0 : p ∉ C ++ [D] := fun z => (List.mem_append.mp z).elim hn fun z => nD p o ho (List.mem_singleton.mp z)
    obtain ⟨s1, s2, s3⟩ := c.side e0 n0
    exact ⟨by rw [ho]; exact s1, s2, s3⟩
  refine ⟨C, ⟨.refl, w0, en0, upd_same⟩, fun c p hp => (side c p (.inr hp)).1, fun {u ρ' H2 HF2 A2} c hl2 => ?_⟩
  obtain ⟨A3, pm3, en3⟩ := back HF2 H2 (wipeD ρ' vs) A2 c.fr.same (fun p hp => (side c p (.inl hp)).1) c.en fun v hv => wipeD_none ρ' hv (by rw [hl2]; exact hlt v hv)
  have pm4 : (A3 ++ [D]).Perm ((A2 ++ [D]) ++ B) := (List.Perm.append_right [D] pm3).trans (by rw [List.append_assoc, List.append_assoc]; exact List.Perm.append_left A2 List.perm_append_comm)
  have w4 : WR HF2 H2 (A3 ++ [D]) := WR.perm (A := (A2 ++ [D]) ++ B) ⟨c.wr.same, List.nodup_append.mpr ⟨c.wr.nodup, wCB.right.nodup, fun a ha b hb e => (side c b (.inl hb)).2.2 (e ▸ ha)⟩, fun a ha => (List.mem_append.mp ha).elim (c.wr.out a) fun z => (side c a (.inl z)).2.1 (wCB.right.out a z)⟩ pm4.symm
  refine ⟨A3, ⟨c.fr.same, fun p o e n => ?_, fun p o e n fr => ?_, fun p hp => ?_⟩, w4, en3⟩
  · have nd' := nD p o e
    exact c.fr.keep p o (by rw [upd_ne nd']; exact e) fun z => (List.mem_append.mp z).elim (fun z => n (List.mem_append_left _ (memC p z))) fun z => nd' (List.mem_singleton.mp z)
  · have nd' := nD p o e
    exact c.fr.free p o (by rw [upd_ne nd']; exact e) (fun z => (List.mem_append.mp z).elim (fun z => n (List.mem_append_left _ (memC p z))) fun z => nd' (List.mem_singleton.mp z)) fr
  · rcases List.mem_append.mp (pm4.mem_iff.mp hp) with z | z
    · rcases c.fr.new p z with z | z
      · rcases List.mem_append.mp z with z | z
        · exact .inl (List.mem_append_left _ (memC p z))
        · rw [List.mem_singleton.mp z]; exact .inr hD
      · refine .inr ?_
        by_cases hp' : p = D
        · rw [hp']; exact hD
        · rw [upd_ne hp'] at z; exact z
    · exact .inl (List.mem_append_left _ (memB p z))
end
theorem wipe_pr {σ σ4 : St} {vs : List Nat} (p : Pr (butP vs) (wipe σ vs) σ4) : wipe σ4 vs = wipe σ vs ∧ σ4.length = σ.length := by
  refine ⟨?_, by rw [p.1, wipe_length]⟩
  have z : wipe σ4 vs = wipe (wipe σ vs) vs := wipe_eq p.1 fun j hj => p.2 j (by simp [butP]; simpa using hj)
  rw [z]
  exact wipe_eq (wipe_length _ _) fun j hj => wipe_out (by simpa using hj)
section
variable {X : Cx} {W : WX}
end
section
variable {X : Cx} {W : WX} {P : Prot}
end
end AE
namespace PySem
open Sem (wp)
set_option maxHeartbeats 4000000 in
theorem ae_enum_newB {v : Value} {o : Obj} {H : Heap → Prop} (B : PySem.Begins v o H) :
    Meets (Builtin.«enumerate.__new__» ⟨[.type "enumerate", v], []⟩) (fun _ R s => H s.heap ∧
      R (.ok (.ret (.ref (s.heap.push o).objs.size))) { s with heap := (s.heap.push o).push { cls := .type "enumerate", data := .fields #[.none, .bool false, .ref s.heap.objs.size, rawInt 0, .none, .none] } }) :=
  .of_wp fun prog w A R s h => by
    obtain ⟨hp, g, d, tk, os⟩ := s; obtain ⟨h1, h⟩ := h
    have hsub := sub_enumerate
    have q1 : ∀ {A' : Around} {E : Value → Shared → Prop} {Q : Value → Shared → Prop}, Q (.ref hp.objs.size) ⟨hp.push o, g, d, tk, os⟩ → wpAny (model prog w) A' (pyIter v) Q E ⟨hp, g, d, tk, os⟩ :=
      fun q => B.iter prog w _ _ ⟨hp, g, d, tk, os⟩ _ h1 q
    wp_walk using q1
    refine wpAny_stack_any fun st => wpAny_pure ?_
    split
    · rename_i c _ _ _ _ _
      cases (c == Value.type "enumerate")
      · wp_walk using q1
        exact ⟨_, rfl, h⟩
      · wp_walk using q1
        exact ⟨_, rfl, h⟩
    · wp_walk using q1
      exact ⟨_, rfl, h⟩
theorem ae_enum_begins {prog : Program} {w : World} {A : Around} {E : Value → Shared → Prop} {s : Shared} {v : Value} {o : Obj} {H : Heap → Prop} {Q : Value → Shared → Prop} (B : PySem.Begins v o H) (h1 : H s.heap)
    (h : ∀ h', IsEnum h' (s.heap.objs.size + 1) s.heap.objs.size 0 .none → h'.get? s.heap.objs.size = some o → h'.objs.size = s.heap.objs.size + 2 →
      (∀ b o, s.heap.get? b = some o → h'.get? b = some o) → Q (.ref (s.heap.objs.size + 1)) { s with heap := h' }) :
    wpAny (model prog w) A (call (.type "enumerate") [v]) Q E s := by
  refine callType_new F.called_enumerate (by decide) (F.typeCall_enumerate_1 _) (F.newCall_enumerate_1 _) (fun obj => F.args_object_init_2 obj _) F.entry_enumerate_new
    (ae_enum_newB B) ⟨h1, ?_⟩
  have hz : (s.heap.push o).objs.size = s.heap.objs.size + 1 := Heap.size_push ..
  show _ ∧ _
  rw [hz]
  have he : IsEnum ((s.heap.push o).push { cls := .type "enumerate", data := .fields #[.none, .bool false, .ref s.heap.objs.size, rawInt 0, .none, .none] }) (s.heap.objs.size + 1) s.heap.objs.size 0 .none := by
    have := Heap.get?_push_size (s.heap.push o) (o := { cls := .type "enumerate", data := .fields #[.none, .bool false, .ref s.heap.objs.size, rawInt 0, .none, .none] }) rfl
    rw [hz] at this; exact this
  refine ⟨⟨_, he, rfl⟩, h _ he (Heap.get?_push_of_some _ (Heap.get?_push_size _ B.free)) (by rw [Heap.size_push, hz]) fun b o x => Heap.get?_push_of_some _ (Heap.get?_push_of_some _ x)⟩
end PySem
namespace AE
open PySem L2
def Itet (K : PySem.W.Frag) (a : Addr) : It :=
  ⟨fun i H => ∃ (xs : List V) (x : V), SqT K H a xs ∧ xs[i]? = some x, fun i H v H' => ∃ T x, v = .ref T ∧ H T = none ∧ H' = upd H T (.tup [.int (i : Nat), x]) ∧ ∀ xs, SqT K H a xs → xs[i]? = some x, fun i H => ∃ xs : List V, SqT K H a xs ∧ xs.length = i⟩
theorem turn_enumT {P : Program} {w : World} {K : PySem.W.Frag} {elts : List Expr} {kk : Nat} {tpos : Pos} (a e it : Addr) :
    Turn P w K (.Tuple elts kk tpos) (Itet K a) [e, it] e (fun i h => (∃ old, IsEnum h e it ((i : Nat) : Int) old) ∧ h.IsTupleIter it a i ∧ e ≠ it) where
  mem := by simp
  obj := fun i h st b hb => by
    obtain ⟨⟨old, he⟩, ⟨o, ho, hc, hd⟩, _⟩ := st
    have e' : b = e ∨ b = it := by simpa using hb
    rcases e' with z | z
    · rw [z]; exact ⟨_, he, fun v q => nomatch q⟩
    · rw [z]; exact ⟨o, ho, fun v q => by rw [hd] at q; cases q⟩
  keep := fun i h h' st k => let ⟨⟨old, he⟩, hi, hne⟩ := st; ⟨⟨old, k e (by simp) _ he⟩, hi.at fun o q => k it (by simp) o q, hne⟩
  item := by
    intro X hP hw hK hc i pins s σ H E I hf st hg
    subst hP hw hK
    obtain ⟨⟨old, he⟩, hit, hne⟩ := st
    obtain ⟨xs, x, hq, hx⟩ := hg
    obtain ⟨its, rv, p, hz⟩ := I.tuple hq
    have pT : s.heap.IsTuple a its.toArray := p
    obtain ⟨u, hu, ru⟩ := rv.get hx
    have hel : e < s.heap.objs.size := Heap.lt_size he
    have hil : it < s.heap.objs.size := by obtain ⟨_, q, _⟩ := hit; exact Heap.lt_size q
    have hai : a ≠ it := fun z => by
      obtain ⟨o1, h1, c1, _⟩ := pT
      obtain ⟨o2, h2, c2, _⟩ := id hit
      rw [z, h2] at h1
      cases h1
      injection c1.symm.trans c2 with zz
      exact absurd zz (by decide)
    have hea : e ≠ a := fun z => by
      obtain ⟨o1, h1, c1, _⟩ := pT
      rw [← z, he] at h1
      cases h1
      injection c1 with zz
      exact absurd zz (by decide)
    have hii : i < its.toArray.size := by
      have := (List.getElem?_eq_some_iff.mp hu).1
      simpa using this
    refine wpAny_pyNext_enum_itemD (PySem.Draws.tuple (show X.A.in1.handled = none from I.ok.hd hc) it a hai its.toArray) he ⟨hit, pT⟩ hii hne (by simp [hne, hea]) fun y h' tk hy ho hst hT hsz hk => ?_
    have ey : y = u := by
      have z : its.toArray[i]? = some u := by simpa using hu
      rw [show its.toArray[i]? = some y from hy] at z
      exact Option.some.inj z
    subst ey
    refine ⟨_, rfl, wpAny_letOwnedTupleGo_enum (s := { s with heap := h', toks := tk + 1 }) ho fun h'' he' sb => ?_⟩
    have hT2 : h''.get? s.heap.objs.size = some { cls := .type "tuple", data := .seq #[.int i tk, y] } := (sb.2 _ (Nat.ne_of_gt hel)).trans hT
    have new : ObjOk X.prog X.w (upd H s.heap.objs.size (.tup [.int (i : Nat), x])) h'' s.heap.objs.size (.tup [.int (i : Nat), x]) :=
      ⟨by show 2 ≤ sizeLine; decide, [.int i tk, y], .cons ⟨_, rfl⟩ (.cons ru .nil), ⟨_, hT2, rfl, _, rfl⟩⟩
    have I1 : Inv X pins σ (upd H s.heap.objs.size (.tup [.int (i : Nat), x])) { s with heap := h'', toks := tk + 1 } :=
      I.turnedNew (ch := [e, it]) (fun b ob hb q => (sb.2 b (fun z => hb (by simp [z]))).trans (hk b ob (fun z => hb (by simp [z])) (fun z => hb (by simp [z])) q)) hf (Nat.le_refl _) new
    refine ⟨.ref s.heap.objs.size, _, I1, rfl, ⟨_, x, rfl, I.hok.fresh (Nat.le_refl _), rfl, fun ys hy => by rw [I.tuple_inj hy hq]; exact hx⟩, ⟨⟨y, ?_⟩, hst.1.at fun o q => (sb.2 it (Ne.symm hne)).trans q, hne⟩, fun b hb => ?_⟩
    · have e1 : ((i + 1 : Nat) : Int) = (i : Int) + 1 := by omega
      rw [e1]; exact he'
    · have hb' : b < s.heap.objs.size := by
        have e' : b = e ∨ b = it := by simpa using hb
        rcases e' with z | z
        · rw [z]; exact hel
        · rw [z]; exact hil
      rw [upd_ne (Nat.ne_of_lt hb')]
      exact (hf b hb).1
  done := by
    intro X hP hw hK hc i pins s σ H E I hf st hg
    subst hP hw hK
    obtain ⟨⟨old, he⟩, hit, hne⟩ := st
    obtain ⟨xs, hq, hx⟩ := hg
    obtain ⟨its, rv, p, hz⟩ := I.tuple hq
    have pT : s.heap.IsTuple a its.toArray := p
    have hai : a ≠ it := fun z => by
      obtain ⟨o1, h1, c1, _⟩ := pT
      obtain ⟨o2, h2, c2, _⟩ := id hit
      rw [z, h2] at h1
      cases h1
      injection c1.symm.trans c2 with zz
      exact absurd zz (by decide)
    obtain ⟨f0, f1, f2, f3, f4, f5⟩ := hf it (by simp)
    have hl := rv.length
    refine wpAny_pyNext_enum_endD (PySem.Draws.tuple (show X.A.in1.handled = none from I.ok.hd hc) it a hai its.toArray) he ⟨?_, pT⟩ fun h' eb => ⟨rfl, I.turned (t' := s.toks) (fun b o hb q => eb b o hb q) f0 f1 f3 f4 f5⟩
    have : its.toArray.size = i := by simp; omega
    rw [this]; exact hit
  self := fun A i s Q E st h => let ⟨⟨_, he⟩, _⟩ := st; wpAny_pyIter_enum he h
theorem walk_enumT {K : PySem.W.Frag} {a : Addr} {xs : List V} : Walk (Itet K a) xs.length (fun H => SqT K H a xs) (YPair (fun i => some (.int (i : Nat))) (fun i => xs[i]?)) := by
  refine ⟨fun i _ hi q => ⟨xs, xs[i], q, by simp [hi]⟩, fun _ q => ⟨xs, q, rfl⟩, fun i H v H' _ q y => ?_⟩
  obtain ⟨T, x, h1, h2, h3, h4⟩ := y
  exact ⟨T, .int (i : Nat), x, h1, h2, h3, rfl, h4 xs q⟩
def iEnumU (K : PySem.W.Frag) (ta : TA) : TI := fun σ H R => ta σ H fun vs H1 => (∃ a xs, vs = [.ref a] ∧ SqL K H1 a xs ∧ R (Ite K a) H1) ∨ ∃ a xs, vs = [.ref a] ∧ SqT K H1 a xs ∧ R (Itet K a) H1
theorem pi_enumU {X : Cx} {e : Expr} {ta : TA} {p pos tpos : Pos} {elts : List Expr} {kk : Nat} (hg : Gl X "enumerate") (hm : X.mg "enumerate" = none) (ha : PA X [e] ta) (hs : starEach [e] X.env = [(false, eval e X.env)]) :
    PI X (.Tuple elts kk tpos) (.Call (.Name "enumerate" p) [e] [] pos) (iEnumU X.K ta) := by
  refine ⟨fun pins s σ H R I h => ?_⟩
  refine PyProof.Rows.Call_ (ld_blt I hg hm PyProof.Rows.boot_enumerate (PyProof.Rows.callWith_type1 (thn (ha.run pos pins s σ H _ I h) fun us s1 ⟨vs, H1, I1, r1, q1⟩ => ?_) hs rfl))
  have fpo : ∀ b ∈ [s1.heap.objs.size + 1, s1.heap.objs.size], FpOk X pins H1 b := fun b hb => by
    have e' : b = s1.heap.objs.size + 1 ∨ b = s1.heap.objs.size := by simpa using hb
    have hle : s1.heap.objs.size ≤ b := by
      rcases e' with z | z
      · rw [z]; exact Nat.le_add_right _ _
      · rw [z]; exact Nat.le_refl _
    exact I1.fpOk hle (I1.hok.fresh hle)
  rcases q1 with ⟨a, xs, ex, hq, q⟩ | ⟨a, xs, ex, hq, q⟩
  · subst ex
    cases r1 with
    | cons r rr =>
      cases rr
      cases r
      obtain ⟨its, rv, p', hz⟩ := I1.list hq
      refine call_enumerate_list p'.isList fun h' he hit hsz hk => wpAny_pyIter_enum he ?_
      have I2 : Inv X pins σ H1 { s1 with heap := h' } := I1.kept (t' := s1.toks) hk
      exact ⟨s1.heap.objs.size + 1, [s1.heap.objs.size + 1, s1.heap.objs.size], _, _, H1, rfl, I2, turn_enum a (s1.heap.objs.size + 1) s1.heap.objs.size, ⟨⟨.none, he⟩, hit, Nat.succ_ne_self _⟩, fpo, q⟩
  · subst ex
    cases r1 with
    | cons r rr =>
      cases rr
      cases r
      obtain ⟨its, rv, p', hz⟩ := I1.tuple hq
      have pT : s1.heap.IsTuple a its.toArray := p'
      refine ae_enum_begins (PySem.begins_tuple a its.toArray) pT fun h' he hit hsz hk => wpAny_pyIter_enum he ?_
      have I2 : Inv X pins σ H1 { s1 with heap := h' } := I1.kept (t' := s1.toks) hk
      exact ⟨s1.heap.objs.size + 1, [s1.heap.objs.size + 1, s1.heap.objs.size], _, _, H1, rfl, I2, turn_enumT a (s1.heap.objs.size + 1) s1.heap.objs.size, ⟨⟨.none, he⟩, ⟨_, hit, rfl, rfl⟩, Nat.succ_ne_self _⟩, fpo, q⟩
def enumD (ds : List D) : List D := (List.range ds.length).zipWith (fun i d => .tup [.int (i : Nat), d]) ds
theorem enumD_len {ds : List D} : (enumD ds).length = ds.length := by simp [enumD]
theorem enumD_get {ds : List D} {i : Nat} {d : D} (h : ds[i]? = some d) : (enumD ds)[i]? = some (.tup [.int (i : Nat), d]) := by
  have hi := (List.getElem?_eq_some_iff.mp h).1
  unfold enumD
  rw [List.getElem?_zipWith, List.getElem?_range hi, h]
def tIEnum (ts : TDs) : TId := fun ρ Kd Ed => ts ρ (fun evs ρ1 => match evs with
  | [.ow (.fz (.lst ds))] => Kd (enumD ds) ρ1
  | [.ow (.fz (.tup ds))] => Kd (enumD ds) ρ1
  | [.ow (.ls ds)] => Kd (enumD ds) ρ1
  | _ => False) Ed
theorem src_enum {K : PySem.W.Frag} {HF H : Hp} {ds : List D} {vs : List V} {Av : List Addr} {J : It} {G : Hp → Prop} (w : Walk J vs.length G (YPair (fun i => some (.int (i : Nat))) (fun i => vs[i]?))) (r : Reps K HF ds vs) (hG : ∀ HF2 H2, Same HF HF2 → Same HF2 H2 → (∀ p ∈ Av, H2 p = H p) → G H2) : SrcR K HF H (enumD ds) Av J := by
  refine ⟨G, _, by rw [enumD_len, ← r.length]; exact w, hG, fun i HF2 H2 x H3 s1 s2 k hi y => ?_⟩
  obtain ⟨T, z, y, rfl, hT, rfl, hz, hy⟩ := y
  obtain ⟨d, hd, rd⟩ := r.getV hy
  cases hz
  have n := New.tup (K := K) (HF := HF2) (H := H2) (ds := [.int (i : Nat), d]) (vs := [.int (i : Nat), y]) (p := T) s2 hT ⟨_, _, rfl, rfl, _, _, rfl, Rep.mono s1 d rd, rfl⟩
  exact ⟨_, _, enumD_get hd, n.fr, n.wr.same, n.rep.2⟩
theorem ai_enum {X : Cx} {W : WX} {e : Expr} {ts : TDs} {p pos tpos : Pos} {elts : List Expr} {kk : Nat} (hg : Gl X "enumerate") (hm : X.mg "enumerate" = none) (ha : AA X W [e] ts) (hs : starEach [e] X.env = [(false, eval e X.env)] := by rfl) :
    AI X W (.Tuple elts kk tpos) (.Call (.Name "enumerate" p) [e] [] pos) (tIEnum ts) := PI.imp (pi_enumU hg hm ha hs) fun σ H R q => by
  obtain ⟨HF, ρ, A, Kd, Ed, w, en, t, k, x⟩ := q
  refine ⟨HF, ρ, A, _, Ed, w, en, t, fun evs ρ1 q1 HF1 H1 A1 vs Av f1 w1 en1 r1 => ?_, x⟩
  dsimp only at q1
  split at q1
  · obtain ⟨v, ws, B1, B2, rfl, rfl, ⟨rfl, a, us, rfl, h1, rs⟩, rfl, rfl⟩ := r1
    exact .inl ⟨a, us, rfl, SqL.of (w1.same _ _ h1), k _ ρ1 q1 HF1 H1 A1 [] _ f1 w1 (fun _ h => by cases h) en1 (src_enum walk_enum rs fun HF2 H2 s1 s2 _ => SqL.of (s2 _ _ (s1 _ _ h1)))⟩
  · obtain ⟨v, ws, B1, B2, rfl, rfl, ⟨rfl, a, us, rfl, h1, rs⟩, rfl, rfl⟩ := r1
    exact .inr ⟨a, us, rfl, SqT.of (w1.same _ _ h1), k _ ρ1 q1 HF1 H1 A1 [] _ f1 w1 (fun _ h => by cases h) en1 (src_enum walk_enumT rs fun HF2 H2 s1 s2 _ => SqT.of (s2 _ _ (s1 _ _ h1)))⟩
  · obtain ⟨v, ws, B1, B2, rfl, rfl, ⟨a, us, rfl, rfl, h1, rs⟩, rfl, rfl⟩ := r1
    rw [List.append_nil] at f1 w1
    exact .inl ⟨a, us, rfl, SqL.of h1, k _ ρ1 q1 HF1 H1 A1 [a] _ f1 w1 (fun p hp => by rw [List.mem_singleton.mp hp]; exact ⟨_, h1⟩) en1 (src_enum walk_enum rs fun HF2 H2 s1 s2 k2 => SqL.of ((k2 a (by simp)).trans h1))⟩
  · exact q1.elim
end AE
namespace AE
open PySem L2
open PyProof.Rows (envOfC)
section
variable {P : Program} {w : World} {K : PySem.W.Frag} {mg : Str → Option Value} {base : Heap}
theorem FunD.okA {x qual : Str} {params : Arguments} {body : List Stmt} {scope : Scope} {dvs : List V} {kws : List (Str × V)} {f : Addr} {fd : FuncData} {N ps : List Str} {k : Nat} {F : AFn} (Fn : FunD K x qual params body scope dvs kws f fd) (S : FnScope N ps scope) (pr : Prot)
    (hbody : ∀ (cdv : Value) (A : Around) (outer : List PySem.Env) (s : Shared) (H : Hp) (E : XK), Room k (A.deeper (envOfC qual scope s.heap.objs.size f cdv)) →
      ∃ t, ASs (cxOf (L2N.CX P w) P w K mg base N qual scope f cdv A outer s H E) (fun cls d _ H => E cls d H) pr body t ∧
        ∀ os Kd Ed, os.length = ps.length → F os Kd Ed → t { nx := fun ρ => Kd (.fz .non) (leftD pr 0 os ρ), rt := fun o ρ => Kd o (leftD pr 0 os ρ) } (fun x ρ => Ed x (leftD pr 0 os ρ)) (startD N.length os)) :
    FnOk P w K mg base (L2N.CX P w) (k + 1) f fd ps (spA K ps.length F) := by
  obtain ⟨oc, od, dV, kV, doc, pm, an, cdv, ct, osl, rfl, lk, hcd, _, _⟩ := Fn.ex
  refine fn_of lk hcd S (fun vs H Q E h => ?_) (fun A outer s H vs Q E hr h => ?_)
  · obtain ⟨HF, os, A, Kd, Ed, hl, _⟩ := h
    exact hl
  · obtain ⟨HF, os, Af, Kd, Ed, hl, wr, en, hF, hK, hE⟩ := h
    have hol : os.length = ps.length := by
      have := en.length
      simp [ros, svs] at this
      omega
    have hpl : ps.length ≤ N.length := by
      have := congrArg List.length S.pre
      rw [List.length_take] at this
      omega
    have hst : (L2.start N vs).length = N.length := by
      unfold L2.start
      rw [List.length_append, List.length_map, List.length_replicate]
      omega
    have slot : ∀ j, j < os.length → (L2.start N vs)[j]? = (svs vs)[j]? := fun j hj => by
      unfold L2.start svs
      rw [List.getElem?_append_left (by rw [List.length_map]; omega)]
    obtain ⟨t, h1, h2⟩ := hbody cdv A outer s H E hr
    have fin : ∀ {ρ : Env} {HF' H' : Hp} {σ' : St} {A' : List Addr}, Pr pr (L2.start N vs) σ' → Same HF HF' → EnvR K HF' H' ρ σ' A' → ∃ B, B.Sublist A' ∧ EnvR K HF' H' (leftD pr 0 os ρ) (svs vs) B := fun {ρ HF' H' σ' A'} p s' en' => by
      refine leftD_ok s' en en' ?_ fun j hj hP => ?_
      · rw [← en'.length, p.1, hst]; omega
      · rw [Nat.zero_add] at hP
        rw [p.2 j hP, slot j hj]
    refine ⟨_, h1, HF, startD N.length os, Af, _, _, wr, ?_, h2 os Kd Ed hol hF, ⟨fun ρ n HF' H' σ' A' p f w' en' => ?_, fun o ρ n HF' H' σ' A' v Av p f w' en' r => ?_, fun ρ n => n.elim, fun ρ n => n.elim⟩, fun x ρ n HF' H' σ' A' cls d p f w' en' r => ?_⟩
    · show EnvR K HF H (ros os ++ List.replicate (N.length - os.length) none) (L2.start N vs) Af
      unfold L2.start
      rw [show N.length - vs.length = N.length - os.length by omega]
      exact EnvR.pad _ en
    · obtain ⟨B, hs, en2⟩ := fin p f.same en'
      exact hK _ _ n HF' H' B .non [] (by rw [List.append_nil]; exact f.mono (fun _ h => h) fun p hp => .inl (hs.subset hp)) (by rw [List.append_nil]; exact w'.sub hs) en2 ⟨rfl, rfl⟩
    · obtain ⟨B, hs, en2⟩ := fin p f.same en'
      have hs2 : (B ++ Av).Sublist (A' ++ Av) := List.Sublist.append_right hs Av
      exact hK _ _ n HF' H' B v Av (f.mono (fun _ h => h) fun p hp => .inl (hs2.subset hp)) (w'.sub hs2) en2 r
    · obtain ⟨B, hs, en2⟩ := fin p f.same en'
      exact hE _ _ n HF' H' B cls d (f.mono (fun _ h => h) fun p hp => .inl (hs.subset hp)) (w'.sub hs) en2 r
end
def selI {α : Type} (ix : List Nat) (l : List α) : List α := ix.filterMap fun i => l[i]?
theorem Reps.selI {K : PySem.W.Frag} {HF : Hp} {ds : List D} {vs : List V} (r : Reps K HF ds vs) : ∀ ix : List Nat, Reps K HF (AE.selI ix ds) (AE.selI ix vs)
  | [] => rfl
  | i :: ix => by
    unfold AE.selI
    rw [List.filterMap_cons, List.filterMap_cons]
    cases e : ds[i]? with
    | none =>
      have : vs[i]? = none := by rw [List.getElem?_eq_none_iff] at e ⊢; rw [r.length]; exact e
      rw [this]; exact Reps.selI r ix
    | some d =>
      obtain ⟨v, hv, rv⟩ := r.get e
      rw [hv]; exact ⟨v, _, rfl, rv, Reps.selI r ix⟩
theorem Vals.selI {vs : List V} {us : List Value} (r : Vals vs us) : ∀ ix : List Nat, Vals (AE.selI ix vs) (AE.selI ix us)
  | [] => .nil
  | i :: ix => by
    unfold AE.selI
    rw [List.filterMap_cons, List.filterMap_cons]
    cases e : vs[i]? with
    | none =>
      have : us[i]? = none := by rw [List.getElem?_eq_none_iff] at e ⊢; rw [← r.length]; exact e
      rw [this]; exact Vals.selI r ix
    | some d =>
      obtain ⟨v, hv, rv⟩ := r.get e
      rw [hv]; exact .cons rv (Vals.selI r ix)
theorem envR_pure {K : PySem.W.Frag} {HF H : Hp} : ∀ {ds : List D} {vs : List V}, Reps K HF ds vs → EnvR K HF H (ros (ds.map O.fz)) (svs vs) []
  | [], vs, h => by obtain rfl : vs = [] := h; exact ⟨rfl, rfl⟩
  | d :: ds, vs, h => by obtain ⟨v, ws, rfl, r, t⟩ := h; exact ⟨v, svs ws, [], [], rfl, rfl, ⟨rfl, r⟩, envR_pure t⟩
structure KwB (K : PySem.W.Frag) (fd : FuncData) (ps : List Str) (n : Nat) (ks : List Str) (ix : List Nat) : Prop where
  to : ∀ (s : Shared) (us ws : List Value), K.In s.heap → us.length = n → ws.length = ks.length → BindsTo s fd ⟨us, ks.zip ws⟩ (ps.zip (us ++ selI ix ws))
theorem KwB.of {K : PySem.W.Frag} {x qual : Str} {params : Arguments} {body : List Stmt} {scope : Scope} {kws : List (Str × V)} {f : Addr} {fd : FuncData} {ps ks : List Str} {n : Nat} {ix : List Nat} (F : FunD K x qual params body scope [] kws f fd)
    (h : ∀ (kV doc pm : Value) (an : Option Addr) (cdv ct : Value) (us ws : List Value), us.length = n → ws.length = ks.length → bindArgs (PySem.W.fnOf x qual params body scope .none kV doc pm an cdv ct) ⟨us, ks.zip ws⟩ = pure (ps.zip (us ++ selI ix ws))) : KwB K fd ps n ks ix := by
  obtain ⟨oc, od, dV, kV, doc, pm, an, cdv, ct, osl, rfl, lk, hcd, hD, hK⟩ := F.ex
  rcases hD with ⟨_, rfl⟩ | ⟨e, _⟩
  · exact ⟨fun s us ws _ h1 h2 => .of_eq (h kV doc pm an cdv ct us ws h1 h2)⟩
  · exact absurd rfl e
section
variable {X : Cx} {W : WX} {lv : Nat} {C : Addr} {m : Str} {ps ks : List Str} {F : AFn} {o e : Expr} {es : List Expr} {kws : List Keyword} {to : TD} {ts : TDs} {apos pos : Pos} {mc : Value} {p g : Addr} {ix : List Nat}
structure CMt (P : Program) (w : World) (K : PySem.W.Frag) (mg : Str → Option Value) (base : Heap) (lv : Nat) (C : Addr) (m : Str) (ps : List Str) (F : AFn) (ks : List Str) (ix : List Nat) : Prop where
  ex : ∃ mc p g fd, ClX.CRead K C mc ∧ ClX.CMet K C mc m p g ∧ Binds K fd ps [] ∧ KwB K fd ps 1 ks ix ∧ FnOk P w K mg base (L2N.CX P w) lv g fd ps (spA K ps.length F)
  len : ∀ os Kd Ed, F os Kd Ed → os.length = ps.length
end
end AE
namespace AE
open PySem L2
def rIsX (K : PySem.W.Frag) (a : Addr) (cls : Value) (d : Option Addr) : List V → Hp → VK → Prop := fun xs H Q => ∃ (c : V) (cv : Value) (C : Addr) (b : Bool), xs = [.ref a, c] ∧ ClsV c cv ∧ cls = .ref C ∧ XIs K C ∧ (d = none ∨ ∃ p fvs, d = some p ∧ H p = some (.xd fvs)) ∧ PySem.W.kitOne K cls cv = some b ∧ Q (.bl b) H
theorem call_isX {X : Cx} {a : Addr} {cls : Value} {d : Option Addr} {oe : Obj} {pn : List (Addr × Obj)} (hz : L2N.Zn cls d oe) (hf : ∃ vs, oe.data = .fields vs) : CallR (X.suite a ((a, oe) :: pn)) (.builtin "isinstance") (rIsX X.K a cls d) := by
  intro pins s σ H xs us Q I r h
  obtain ⟨c, cv, C, b, rfl, hcv, rfl, z, hd, e, q⟩ := h
  obtain ⟨u1, u2, rfl, r1, r2⟩ := vals2 r
  obtain rfl : u1 = Value.ref a := r1
  obtain rfl := hcv.eq r2
  obtain ⟨ha, _⟩ := I.pin (a, oe) (List.mem_append_left _ List.mem_cons_self)
  obtain ⟨vs, hv⟩ := hf
  have key : ∃ od, PySem.W.InstAt s.heap a oe C od := by
    rcases hd with rfl | ⟨p, fvs, rfl, hp⟩
    · exact ⟨none, ha, hz.1, by unfold PySem.W.notCls; rw [hv], by rw [hz.2.1]; trivial⟩
    · have hx : ObjOk X.prog X.w H s.heap p (.xd fvs) := I.hok p _ hp
      obtain ⟨mA, hns, hr⟩ := hx
      obtain ⟨od, ho, hl⟩ := lookIn_ns hns
      exact ⟨some od, ha, hz.1, by unfold PySem.W.notCls; rw [hv], by rw [hz.2.1]; exact ho⟩
  obtain ⟨od, J⟩ := key
  exact PySem.W.kia_one (PySem.W.kitx_exc (od := od) z.cl z.ga z.gg z.sb z.ca z.sg z.tk z.mo) I.kIn J e (fun y => nomatch y) fun tk => ⟨.bl b, H, I.tok tk, rfl, q⟩
def fIsX (K : PySem.W.Frag) (a : Addr) (cls : Value) (d : Option Addr) : Env → List EV → KD → Prop := fun ρ es Kd => match es with
  | [e1, e2] => (match dOf ρ e1 with
    | some (.exc a' _ d' _) => a' = a ∧ d' = d ∧ (match dOf ρ e2 with
      | some c => ∃ C cv b, cls = .ref C ∧ XIs K C ∧ clsD c = some cv ∧ PySem.W.kitOne K cls cv = some b ∧ Kd (.ow (.fz (.bl b))) ρ
      | none => False)
    | _ => False)
  | _ => False
theorem prim_isX {K : PySem.W.Frag} {a : Addr} {cls : Value} {d : Option Addr} : Prim K (rIsX K a cls d) (fIsX K a cls d) := fun σ HF H ρ A Av evs vs Kd Q w en r q k => by
  unfold fIsX at q
  split at q
  · rename_i e1 e2
    split at q
    · rename_i a' cls' d' fs ed
      obtain ⟨rfl, rfl, q⟩ := q
      split at q
      · rename_i c ec
        obtain ⟨C, cv, b, rfl, hz, hc, e, q⟩ := q
        obtain ⟨v, ws, A1, A2, rfl, rfl, r1, v2, ws2, A3, A4, rfl, rfl, r2, rfl, rfl⟩ := r
        have rv : Vw K HF H (.exc a' cls' d' fs) v := Vw.ev w.same en r1 ed
        obtain ⟨rfl, rx⟩ := rv
        refine ⟨v2, cv, C, b, rfl, clsD_ok hc (Vw.ofC hc (Vw.ev w.same en r2 ec)), rfl, hz, ?_, e, k.new w en q (New.imm w.same rfl)⟩
        rcases rx with ⟨h1, _⟩ | ⟨p, fvs, h1, h2, _⟩
        · exact .inl h1
        · exact .inr ⟨p, fvs, h1, w.same _ _ h2⟩
      · exact q.elim
    · exact q.elim
  · exact q.elim
theorem ae_isiX {X : Cx} {W : WX} {a : Addr} {cls : Value} {d : Option Addr} {oe : Obj} {pn : List (Addr × Obj)} {e : Expr} {es : List Expr} {ts : TDs} {p pos : Pos} (hz : L2N.Zn cls d oe) (hf : ∃ vs, oe.data = .fields vs) (hg : Gl (X.suite a ((a, oe) :: pn)) "isinstance") (hm : X.mg "isinstance" = none) (ha : AA (X.suite a ((a, oe) :: pn)) W (e :: es) ts)
    (he : starEach (e :: es) X.env = (false, eval e X.env) :: starEach es X.env := by rfl) (hpl : (backTo pos (starEach es X.env)).any (·.1) = false := by rfl) :
    AE (X.suite a ((a, oe) :: pn)) W (.Call (.Name "isinstance" p) (e :: es) [] pos) (tN (fIsX X.K a cls d) ts) := ae_callB (call_isX hz hf) prim_isX hg hm (by decide +kernel) ha (by decide) (by decide) he hpl
structure EqO (P : Program) (w : World) (K : PySem.W.Frag) (mg : Str → Option Value) (base : Heap) (lv : Nat) (C : Addr) (F : AFn) : Prop where
  ex : ∃ f fd ps, PySem.W.findIn K (.ref C) "__eq__" = some (some (.ref f)) ∧ PySem.W.isFn K (.ref f) = true ∧ Binds K fd ps [] ∧ ps.length = 2 ∧ FnOk P w K mg base (L2N.CX P w) lv f fd ps (spA K ps.length F)
  len : ∀ os Kd Ed, F os Kd Ed → os.length = 2
  nf : PySem.W.notFirst K C (.ref C) = true
section
variable {X : Cx} {W : WX} {o e : Expr} {to : TD} {ts : TDs} {apos cpos : Pos}
end
end AE
namespace AE
open PySem L2
section
variable {M : Model} {A : Around} {E : Value → Shared → Prop} {s : Shared} {env : PySem.Env} {outer : List PySem.Env} {base : Heap} {L e : Addr} {Z : Obj → Prop}
end
section
variable {X : Cx}
end
end AE
namespace AE
open PySem L2
section
variable {X : Cx}
abbrev blkX (X : Cx) (s : Shared) (H : Hp) (scope : Scope) (cenv : PySem.Env) (fp : List Addr) (xe : Value → Shared → Prop) : Cx := { X.blk s H scope cenv fp with xe := xe }
end
end AE
namespace AE
open PySem L2
section
variable {X : Cx} {W : WX}
end
end AE
namespace AH
open PySem L2 AE
theorem clsB_ok {K : PySem.W.Frag} {C : Addr} (c : clsB K C = true) : Cls K C := by
  obtain ⟨c1, c⟩ := andB c
  obtain ⟨c2, c⟩ := andB c
  obtain ⟨c3, c4⟩ := andB c
  exact ⟨c1, c2, c3, of_decide_eq_true c4⟩
theorem fldB_ok {K : PySem.W.Frag} {C : Addr} {f : Str} (c : Cls K C) (h : fldB K C f = true) : FldOk K C f := ⟨c, show PySem.W.findIn K (.ref C) f = some none from of_decide_eq_true h⟩
theorem insB_ok {K : PySem.W.Frag} {C : Addr} (c : Cls K C) (h : insB K C = true) : InsIs K C := by
  obtain ⟨c1, h⟩ := andB h
  obtain ⟨c2, h⟩ := andB h
  obtain ⟨c3, c4⟩ := andB h
  exact ⟨c, of_decide_eq_true c1, of_decide_eq_true c2, of_decide_eq_true c3, of_decide_eq_true c4⟩
theorem mkB_ok {K : PySem.W.Frag} {C : Addr} (c : mkB K C = true) : Mk K C (ma K C "__init__") := by
  obtain ⟨c1, c⟩ := andB c
  obtain ⟨c2, c⟩ := andB c
  obtain ⟨c3, c4⟩ := andB c
  exact ⟨c1, of_decide_eq_true c2, c3, c4⟩
theorem methB_ok {K : PySem.W.Frag} {C : Addr} {m : Str} (c : methB K C m = true) : Meth K C m (ma K C m) := by
  obtain ⟨c1, c⟩ := andB c
  obtain ⟨c2, c3⟩ := andB c
  exact ⟨of_decide_eq_true c1, c2, c3⟩
theorem propB_ok {K : PySem.W.Frag} {C : Addr} {m : Str} (c : propB K C m = true) : PropOf K C m (ma K C m) (He5.wf K C "property" m) := by
  obtain ⟨c1, c⟩ := andB c
  obtain ⟨c2, c⟩ := andB c
  obtain ⟨c3, c4⟩ := andB c
  refine ⟨of_decide_eq_true c1, of_decide_eq_true c2, of_decide_eq_true c3, ?_⟩
  unfold He5.wf
  split at c4
  · rename_i f r e
    exact ⟨r, by rw [show He.ma K C m = ma K C m from rfl, e]⟩
  · cases c4
theorem conB_ok {K : PySem.W.Frag} {h : Heap} {mg : Str → Option Value} {x : Str} {v : V} {d : D} (X : K.In h) (G : h.Ns mainGlobals mg) (c : conB K x v = true) (r : ∀ H, Rep K H d v) : GlobD K mg x d := by
  unfold conB at c
  split at c
  · rename_i u e
    exact ⟨u, v, PySem.W.mg_of X G e, He.relB_ok c, r⟩
  · cases c
theorem tup_ok {K : PySem.W.Frag} {h : Heap} {mg : Str → Option Value} {x : Str} {vs : List He.Dv} {ds : List D} (X : K.In h) (G : h.Ns mainGlobals mg) (g : gloB K x = true) (c : He.tupB K x vs = true) (r : ∀ H, Reps K H ds (vs.map (He.Dv.v K))) : GlobD K mg x (.kt ds) :=
  ⟨_, .ref _, gloB_ok X G g, rfl, fun H => ⟨_, _, rfl, He.tupB_ok c H, r H⟩⟩
end AH
namespace AH
open PySem L2 AE
end AH
theorem AE.ltAll {vs : List Nat} {n : Nat} (h : (vs.all fun v => Nat.blt v n) = true) : ∀ v ∈ vs, v < n := fun v hv => by
  have := List.all_eq_true.mp h v hv
  exact Nat.blt_eq.mp this
namespace AE
open PySem L2
theorem sz_lt {n : Nat} (h : n < 16500000) : n < sizeLine := by rw [sizeLine_eq]; omega
theorem sz_le {n : Nat} (h : n ≤ 16500000) : n ≤ sizeLine := by rw [sizeLine_eq]; omega
theorem dEq_str {x y : Str} : dEq (.str x) (.str y) = (x == y) := rfl
theorem dIn_str {x : Str} {ys : List Str} : dIn (.str x) (ys.map D.str) = decide (x ∈ ys) := by
  unfold dIn
  rw [List.any_map]
  by_cases h : x ∈ ys
  · rw [decide_eq_true h, List.any_eq_true]
    exact ⟨x, h, by simp [dEq]⟩
  · rw [decide_eq_false h, List.any_eq_false]
    intro y hy
    simp only [Function.comp, dEq_str, beq_iff_eq]
    exact fun e => h (e ▸ hy)
end AE
namespace AE
open PySem L2
end AE
namespace AE
open PySem L2 TL
def blank : Str := " "
section
variable {κ : Type} [DecidableEq κ]
end
end AE
namespace AE
open PySem L2
section
variable (X : Cx) (W : WX) (P : Prot)
def wE (e : Expr) : TD := fun ρ Kd Ed => ∀ HF A σ H Q, WR HF H A → EnvR X.K HF H ρ σ A → KOk X.K σ H HF A Kd Q → XOk X.K σ H HF A Ed W → PE X e fun σ' H' Q' => σ' = σ ∧ H' = H ∧ Q' = Q
def wA (es : List Expr) : TDs := fun ρ Kd Ed => ∀ HF A σ H Q, WR HF H A → EnvR X.K HF H ρ σ A → KOks X.K σ H HF A Kd Q → XOk X.K σ H HF A Ed W → PA X es fun σ' H' Q' => σ' = σ ∧ H' = H ∧ Q' = Q
def wK (es : List Keyword) : TDs := fun ρ Kd Ed => ∀ HF A σ H Q, WR HF H A → EnvR X.K HF H ρ σ A → KOks X.K σ H HF A Kd Q → XOk X.K σ H HF A Ed W → PK X es fun σ' H' Q' => σ' = σ ∧ H' = H ∧ Q' = Q
def wT (e : Expr) : TDt := fun ρ Kd Ed => ∀ HF A σ H Q, WR HF H A → EnvR X.K HF H ρ σ A → KOkt X.K σ H HF A Kd Q → XOk X.K σ H HF A Ed W → PT X e fun σ' H' Q' => σ' = σ ∧ H' = H ∧ Q' = Q
def wTs (e : List Expr) : TDt := fun ρ Kd Ed => ∀ HF A σ H Q, WR HF H A → EnvR X.K HF H ρ σ A → KOkt X.K σ H HF A Kd Q → XOk X.K σ H HF A Ed W → PTs X e fun σ' H' Q' => σ' = σ ∧ H' = H ∧ Q' = Q
def wW (e : Expr) : TDt := fun ρ Kd Ed => ∀ HF A σ H Q, WR HF H A → EnvR X.K HF H ρ σ A → KOkt X.K σ H HF A Kd Q → XOk X.K σ H HF A Ed W → PW X e fun σ' H' Q' => σ' = σ ∧ H' = H ∧ Q' = Q
def wO (e : Option Expr) : TDo := fun ρ Kd Ed => ∀ HF A σ H Q, WR HF H A → EnvR X.K HF H ρ σ A → KOko X.K σ H HF A Kd Q → XOk X.K σ H HF A Ed W → PO X e fun σ' H' Q' => σ' = σ ∧ H' = H ∧ Q' = Q
def wS (e : Stmt) : TSD := fun E Ed ρ => ∀ HF A σ H D, WR HF H A → EnvR X.K HF H ρ σ A → SOk X.K P σ H HF A E D → XSOk X.K P σ H HF A Ed W → PS X e fun D' σ' H' => D' = D ∧ σ' = σ ∧ H' = H
def wB (e : List Stmt) : TSD := fun E Ed ρ => ∀ HF A σ H D, WR HF H A → EnvR X.K HF H ρ σ A → SOk X.K P σ H HF A E D → XSOk X.K P σ H HF A Ed W → PSs X e fun D' σ' H' => D' = D ∧ σ' = σ ∧ H' = H
def wG (tg : Expr) : TGD := fun o ρ N => ∀ HF A B v σ H Q, WR HF H (A ++ B) → EnvR X.K HF H ρ σ A → RepO X.K HF H o v B → NOk X.K P σ H HF (A ++ B) N Q → PG X tg fun v' σ' H' Q' => v' = v ∧ σ' = σ ∧ H' = H ∧ Q' = Q
def wGs (ts : List Expr) : TGDs := fun ds ρ N => ∀ HF A vs σ H Q, WR HF H A → EnvR X.K HF H ρ σ A → Reps X.K HF ds vs → NOk X.K P σ H HF A N Q → PGs X ts fun v' σ' H' Q' => v' = vs ∧ σ' = σ ∧ H' = H ∧ Q' = Q
def wI (tg iter : Expr) : TId := fun ρ Kd Ed => ∀ HF A σ H (R : It → Hp → Prop), WR HF H A → EnvR X.K HF H ρ σ A → (∀ items ρ', Kd items ρ' → ∀ HF' H' A' Av J, Fr H H' HF HF' A (A' ++ Av) → WR HF' H' (A' ++ Av) → (∀ p ∈ Av, ∃ o, H' p = some o) → EnvR X.K HF' H' ρ' σ A' → SrcR X.K HF' H' items Av J → R J H') → XOk X.K σ H HF A Ed W → PI X tg iter fun σ' H' R' => σ' = σ ∧ H' = H ∧ R' = R
end
section
variable {X : Cx} {W : WX} {P : Prot}
theorem ewE {e : Expr} : AE X W e (wE X W e) := ⟨fun pins s σ H Q I ⟨_, _, _, _, _, w, en, t, k, x⟩ => (t _ _ σ H Q w en k x).run pins s σ H Q I ⟨rfl, rfl, rfl⟩⟩
theorem ewA {e : List Expr} : AA X W e (wA X W e) := ⟨fun pos pins s σ H Q I ⟨_, _, _, _, _, w, en, t, k, x⟩ => (t _ _ σ H Q w en k x).run pos pins s σ H Q I ⟨rfl, rfl, rfl⟩⟩
theorem ewK {e : List Keyword} : AK X W e (wK X W e) := ⟨fun pos pins s σ H Q I ⟨_, _, _, _, _, w, en, t, k, x⟩ => (t _ _ σ H Q w en k x).run pos pins s σ H Q I ⟨rfl, rfl, rfl⟩⟩
theorem ewT {e : Expr} : AT X W e (wT X W e) := ⟨fun pins s σ H Q I ⟨_, _, _, _, _, w, en, t, k, x⟩ => (t _ _ σ H Q w en k x).run pins s σ H Q I ⟨rfl, rfl, rfl⟩⟩
theorem ewTs {e : List Expr} : ATs X W e (wTs X W e) := ⟨fun pins s σ H Q I ⟨_, _, _, _, _, w, en, t, k, x⟩ => (t _ _ σ H Q w en k x).run pins s σ H Q I ⟨rfl, rfl, rfl⟩⟩
theorem ewW {e : Expr} : AW X W e (wW X W e) := ⟨fun wh pins s σ H Q I ⟨_, _, _, _, _, w, en, t, k, x⟩ => (t _ _ σ H Q w en k x).run wh pins s σ H Q I ⟨rfl, rfl, rfl⟩⟩
theorem ewO {e : Option Expr} : AO X W e (wO X W e) := ⟨fun pins s σ H Q I ⟨_, _, _, _, _, w, en, t, k, x⟩ => (t _ _ σ H Q w en k x).run pins s σ H Q I ⟨rfl, rfl, rfl⟩⟩
theorem ewS {e : Stmt} : AS X W P e (wS X W P e) := ⟨fun pins s σ H D I ⟨_, _, _, _, _, w, en, t, k, x⟩ => (t _ _ σ H D w en k x).run pins s σ H D I ⟨rfl, rfl, rfl⟩⟩
theorem ewB {e : List Stmt} : ASs X W P e (wB X W P e) := ⟨fun pins s σ H D I ⟨_, _, _, _, _, w, en, t, k, x⟩ => (t _ _ σ H D w en k x).run pins s σ H D I ⟨rfl, rfl, rfl⟩⟩
theorem ewG {tg : Expr} : AG X P tg (wG X P tg) := ⟨fun pins s σ H v u Q I r ⟨_, _, _, _, _, _, w, en, ro, t, k⟩ => (t _ _ _ v σ H Q w en ro k).run pins s σ H v u Q I r ⟨rfl, rfl, rfl, rfl⟩⟩
theorem ewGs {tg : List Expr} : AGs X P tg (wGs X P tg) := ⟨fun pins s σ H v u Q I r ⟨_, _, _, _, _, w, en, ro, t, k⟩ => (t _ _ v σ H Q w en ro k).run pins s σ H v u Q I r ⟨rfl, rfl, rfl, rfl⟩⟩
theorem ewI {tg iter : Expr} : AI X W tg iter (wI X W tg iter) := ⟨fun pins s σ H R I ⟨_, _, _, _, _, w, en, t, k, x⟩ => (t _ _ σ H R w en k x).run pins s σ H R I ⟨rfl, rfl, rfl⟩⟩
theorem wE.of {e : Expr} {t : TD} {ρ : Env} {Kd : KD} {Ed : XC} (h : AE X W e t) (q : t ρ Kd Ed) : wE X W e ρ Kd Ed := fun HF A σ H Q w en k x => PE.imp h fun σ' H' Q' ⟨e1, e2, e3⟩ => by subst e1 e2 e3; exact ⟨HF, ρ, A, Kd, Ed, w, en, q, k, x⟩
theorem wA.of {e : List Expr} {t : TDs} {ρ : Env} {Kd : List EV → Env → Prop} {Ed : XC} (h : AA X W e t) (q : t ρ Kd Ed) : wA X W e ρ Kd Ed := fun HF A σ H Q w en k x => PA.imp h fun σ' H' Q' ⟨e1, e2, e3⟩ => by subst e1 e2 e3; exact ⟨HF, ρ, A, Kd, Ed, w, en, q, k, x⟩
theorem wK.of {e : List Keyword} {t : TDs} {ρ : Env} {Kd : List EV → Env → Prop} {Ed : XC} (h : AK X W e t) (q : t ρ Kd Ed) : wK X W e ρ Kd Ed := fun HF A σ H Q w en k x => PK.imp h fun σ' H' Q' ⟨e1, e2, e3⟩ => by subst e1 e2 e3; exact ⟨HF, ρ, A, Kd, Ed, w, en, q, k, x⟩
theorem wT.of {e : Expr} {t : TDt} {ρ : Env} {Kd : Bool → Env → Prop} {Ed : XC} (h : AT X W e t) (q : t ρ Kd Ed) : wT X W e ρ Kd Ed := fun HF A σ H Q w en k x => PT.imp h fun σ' H' Q' ⟨e1, e2, e3⟩ => by subst e1 e2 e3; exact ⟨HF, ρ, A, Kd, Ed, w, en, q, k, x⟩
theorem wTs.of {e : List Expr} {t : TDt} {ρ : Env} {Kd : Bool → Env → Prop} {Ed : XC} (h : ATs X W e t) (q : t ρ Kd Ed) : wTs X W e ρ Kd Ed := fun HF A σ H Q w en k x => PTs.imp h fun σ' H' Q' ⟨e1, e2, e3⟩ => by subst e1 e2 e3; exact ⟨HF, ρ, A, Kd, Ed, w, en, q, k, x⟩
theorem wW.of {e : Expr} {t : TDt} {ρ : Env} {Kd : Bool → Env → Prop} {Ed : XC} (h : AW X W e t) (q : t ρ Kd Ed) : wW X W e ρ Kd Ed := fun HF A σ H Q w en k x => PW.imp h fun σ' H' Q' ⟨e1, e2, e3⟩ => by subst e1 e2 e3; exact ⟨HF, ρ, A, Kd, Ed, w, en, q, k, x⟩
theorem wO.of {e : Option Expr} {t : TDo} {ρ : Env} {Kd : Option Int → Env → Prop} {Ed : XC} (h : AO X W e t) (q : t ρ Kd Ed) : wO X W e ρ Kd Ed := fun HF A σ H Q w en k x => PO.imp h fun σ' H' Q' ⟨e1, e2, e3⟩ => by subst e1 e2 e3; exact ⟨HF, ρ, A, Kd, Ed, w, en, q, k, x⟩
theorem wS.of {e : Stmt} {t : TSD} {ρ : Env} {E : EndsD} {Ed : XC} (h : AS X W P e t) (q : t E Ed ρ) : wS X W P e E Ed ρ := fun HF A σ H D w en k x => PS.imp h fun D' σ' H' ⟨e1, e2, e3⟩ => by subst e1 e2 e3; exact ⟨HF, ρ, A, E, Ed, w, en, q, k, x⟩
theorem wB.of {e : List Stmt} {t : TSD} {ρ : Env} {E : EndsD} {Ed : XC} (h : ASs X W P e t) (q : t E Ed ρ) : wB X W P e E Ed ρ := fun HF A σ H D w en k x => PSs.imp h fun D' σ' H' ⟨e1, e2, e3⟩ => by subst e1 e2 e3; exact ⟨HF, ρ, A, E, Ed, w, en, q, k, x⟩
theorem wG.of {tg : Expr} {g : TGD} {ρ : Env} {o : O} {N : Env → Prop} (h : AG X P tg g) (q : g o ρ N) : wG X P tg o ρ N := fun HF A B v σ H Q w en r k => PG.imp h fun v' σ' H' Q' ⟨e0, e1, e2, e3⟩ => by subst e0 e1 e2 e3; exact ⟨HF, ρ, A, o, B, N, w, en, r, q, k⟩
theorem wGs.of {tg : List Expr} {g : TGDs} {ρ : Env} {ds : List D} {N : Env → Prop} (h : AGs X P tg g) (q : g ds ρ N) : wGs X P tg ds ρ N := fun HF A v σ H Q w en r k => PGs.imp h fun v' σ' H' Q' ⟨e0, e1, e2, e3⟩ => by subst e0 e1 e2 e3; exact ⟨HF, ρ, A, ds, N, w, en, r, q, k⟩
theorem wI.of {tg iter : Expr} {t : TId} {ρ : Env} {Kd : List D → Env → Prop} {Ed : XC} (h : AI X W tg iter t) (q : t ρ Kd Ed) : wI X W tg iter ρ Kd Ed := fun HF A σ H R w en k x => PI.imp h fun σ' H' R' ⟨e1, e2, e3⟩ => by subst e1 e2 e3; exact ⟨HF, ρ, A, Kd, Ed, w, en, q, k, x⟩
end
def ownO : D → O
  | .lst xs => .ls xs
  | .dic kvs => .dc kvs
  | .dit kvs => .dt kvs
  | d => .fz d
theorem frz_own (d : D) : frz (ownO d) = d := by cases d <;> rfl
theorem flat_own (d : D) : flat (ownO d) = some d := by cases d <;> rfl
theorem frz_flatFs : ∀ {fs : List (Str × O)} {l : List (Str × D)}, flatFs fs = some l → frzFs fs = l
  | [], l, h => by cases h; rfl
  | (f, o) :: r, l, h => by
    cases o with
    | fz d =>
      unfold flatFs at h
      split at h
      · rename_i l' e
        cases h
        show (f, d) :: frzFs r = _
        rw [frz_flatFs e]
      · cases h
    | ls _ => simp [flatFs] at h
    | dc _ => simp [flatFs] at h
    | dt _ => simp [flatFs] at h
    | nl _ => simp [flatFs] at h
    | nd _ => simp [flatFs] at h
    | ob _ _ => simp [flatFs] at h
theorem frz_flat {o : O} {d : D} (h : flat o = some d) : frz o = d := by
  cases o with
  | fz d' => cases h; rfl
  | ls ds => cases h; rfl
  | dc ds => cases h; rfl
  | dt ds => cases h; rfl
  | nl os => cases h
  | nd os => cases h
  | ob C fs =>
    have h : (match flatFs fs with | some l => some (D.ins C l) | none => none) = some d := h
    split at h
    · rename_i l e
      cases h
      show D.ins C (frzFs fs) = _
      rw [frz_flatFs e]
    · cases h
theorem dOf_pt {ρ : Env} {i : Nat} {o : O} {d : D} (h : ρ[i]? = some (some o)) (hf : flat o = some d) : dOf ρ (.pt i) = some d := by
  show (match (match ρ[i]? with | some (some o) => some o | _ => none : Option O) with | some o => flat o | none => none) = some d
  rw [h]
  exact hf
inductive Le : Env → Env → Prop
  | nil : Le [] []
  | same {x : Option O} {a b : Env} : Le a b → Le (x :: a) (x :: b)
  | drop {x : Option O} {a b : Env} : Le a b → Le (x :: a) (none :: b)
theorem Le.refl : ∀ (ρ : Env), Le ρ ρ
  | [] => .nil
  | _ :: ρ => .same (Le.refl ρ)
theorem Le.trans : ∀ {a b c : Env}, Le a b → Le b c → Le a c
  | _, _, _, .nil, .nil => .nil
  | _, _, _, .same h, .same k => .same (h.trans k)
  | _, _, _, .same h, .drop k => .drop (h.trans k)
  | _, _, _, .drop h, .same k => .drop (h.trans k)
  | _, _, _, .drop h, .drop k => .drop (h.trans k)
theorem Le.length : ∀ {a b : Env}, Le a b → a.length = b.length
  | _, _, .nil => rfl
  | _, _, .same h => by simp [h.length]
  | _, _, .drop h => by simp [h.length]
section
variable {K : PySem.W.Frag} {HF H : Hp}
theorem Le.envR : ∀ {ρ ρ' : Env} {σ : St} {A : List Addr}, Le ρ ρ' → EnvR K HF H ρ σ A → ∃ B, B.Sublist A ∧ EnvR K HF H ρ' σ B
  | _, _, σ, A, .nil, h => ⟨A, .refl _, h⟩
  | none :: ρ, _, σ, A, .same l, h => by
    obtain ⟨s, r, rfl, q⟩ := h
    obtain ⟨B, hs, e⟩ := l.envR q
    exact ⟨B, hs, s, r, rfl, e⟩
  | some o :: ρ, _, σ, A, .same l, h => by
    obtain ⟨v, r, A1, A2, rfl, rfl, q, t⟩ := h
    obtain ⟨B, hs, e⟩ := l.envR t
    exact ⟨A1 ++ B, List.Sublist.append_left hs A1, v, r, A1, B, rfl, rfl, q, e⟩
  | none :: ρ, _, σ, A, .drop l, h => by
    obtain ⟨s, r, rfl, q⟩ := h
    obtain ⟨B, hs, e⟩ := l.envR q
    exact ⟨B, hs, s, r, rfl, e⟩
  | some o :: ρ, _, σ, A, .drop l, h => by
    obtain ⟨v, r, A1, A2, rfl, rfl, q, t⟩ := h
    obtain ⟨B, hs, e⟩ := l.envR t
    exact ⟨B, hs.trans (List.sublist_append_right _ _), some v, r, rfl, e⟩
end
section
variable {X : Cx} {W : WX} {P : Prot}
theorem wB.step {ss : List Stmt} {ρ ρ' : Env} {E : EndsD} {Ed : XC} (h : ∀ HF A σ H, WR HF H A → EnvR X.K HF H ρ σ A → ∃ HF' A', Fr H H HF HF' A A' ∧ WR HF' H A' ∧ EnvR X.K HF' H ρ' σ A') (q : wB X W P ss E Ed ρ') : wB X W P ss E Ed ρ := fun HF A σ H D w en k x => by
  obtain ⟨HF', A', f, w', en'⟩ := h HF A σ H w en
  exact q HF' A' σ H D w' en' (k.step .refl f) (x.step .refl f)
theorem wB.drop {ss : List Stmt} {ρ ρ' : Env} {E : EndsD} {Ed : XC} (l : Le ρ ρ') (q : wB X W P ss E Ed ρ') : wB X W P ss E Ed ρ := wB.step (fun HF A σ H w en => by
  obtain ⟨B, hs, e⟩ := l.envR en
  exact ⟨HF, B, Fr.drop fun p hp => hs.subset hp, w.sub hs, e⟩) q
theorem wB.frz {ss : List Stmt} {ρ : Env} {i : Nat} {o : O} {E : EndsD} {Ed : XC} (hi : ρ[i]? = some (some o)) (q : wB X W P ss E Ed (ρ.set i (some (.fz (frz o))))) : wB X W P ss E Ed ρ := wB.step (fun HF A σ H w en => by
  obtain ⟨v, HF', A', h1, s1, w1, f1, en1, r1⟩ := freeze (Av := []) (by rw [List.append_nil]; exact w) en hi
  rw [List.append_nil] at w1 f1
  rw [List.append_nil] at f1
  exact ⟨HF', A', f1, w1, en1⟩) q
def zK (Kd : KD) : KD := fun ev ρ => match ev with
  | .ow o => Kd (.ow (.fz (AE.frz o))) ρ
  | _ => False
theorem zK_ok {K : PySem.W.Frag} {σ : St} {H HF : Hp} {A : List Addr} {Kd : KD} {Q : VK} (k : KOk K σ H HF A Kd Q) : KOk K σ H HF A (zK Kd) Q := fun ev ρ q HF' H' A' v Av f w en r => by
  cases ev with
  | pt i => exact q.elim
  | tk _ _ _ _ => exact q.elim
  | ow o =>
    obtain ⟨s1, w1, f1⟩ := grow_ok (w.perm List.perm_append_comm)
    have r1 : Rep K (grow HF' H' Av) (AE.frz o) v := RepO.frz s1 o r fun p hp => grow_in hp
    refine k _ ρ q (grow HF' H' Av) H' A' v [] ?_ (by rw [List.append_nil]; exact w1) (EnvR.keep s1 _ en fun _ _ => rfl) ⟨rfl, r1⟩
    rw [List.append_nil]
    exact f.trans (f1.mono (fun p hp => (List.mem_append.mp hp).elim (fun z => List.mem_append_right _ z) fun z => List.mem_append_left _ z) fun p hp => .inl hp)
theorem wE.frz {e : Expr} {ρ : Env} {Kd : KD} {Ed : XC} (q : wE X W e ρ (zK Kd) Ed) : wE X W e ρ Kd Ed := fun HF A σ H Q w en k x => q HF A σ H Q w en (zK_ok k) x
theorem wE.imp {e : Expr} {ρ : Env} {Kd Kd' : KD} {Ed : XC} (q : wE X W e ρ Kd Ed) (h : ∀ ev ρ', Kd ev ρ' → Kd' ev ρ') : wE X W e ρ Kd' Ed := fun HF A σ H Q w en k x => q HF A σ H Q w en (fun ev ρ' z => k ev ρ' (h ev ρ' z)) x
end
end AE
namespace AE
open PySem L2
abbrev zz (d : D) : Option O := some (.fz d)
abbrev oo (d : D) : Option O := some (ownO d)
abbrev nn : Option O := none
def z1 (g : G1) (x : D) (R : D → Prop) : Prop := g x fun o => R (frz o)
def z2 (g : G2) (x y : D) (R : D → Prop) : Prop := g x y fun o => R (frz o)
def zN (g : GN) (xs : List D) (R : D → Prop) : Prop := g xs fun o => R (frz o)
def o1 (g : G1) (x : D) (R : D → Prop) : Prop := g x fun o => o = ownO (frz o) ∧ R (frz o)
def o2 (g : G2) (x y : D) (R : D → Prop) : Prop := g x y fun o => o = ownO (frz o) ∧ R (frz o)
def oN (g : GN) (xs : List D) (R : D → Prop) : Prop := g xs fun o => o = ownO (frz o) ∧ R (frz o)
def tst (d : D) (k : Bool → Prop) : Prop := match d with
  | .bl b => k b
  | _ => False
def jn {α : Type} (b : (α → Prop) → Prop) (k : α → Prop) : Prop := b k
def jn2 {α β : Type} (b : (α → β → Prop) → Prop) (k : α → β → Prop) : Prop := b k
class Mo1 (g : G1) : Prop where mo : ∀ x (P P' : O → Prop), (∀ o, P o → P' o) → g x P → g x P'
class Mo2 (g : G2) : Prop where mo : ∀ x y (P P' : O → Prop), (∀ o, P o → P' o) → g x y P → g x y P'
class MoN (g : GN) : Prop where mo : ∀ x (P P' : O → Prop), (∀ o, P o → P' o) → g x P → g x P'
class MoS (g : GS1) : Prop where mo : ∀ a x (P P' : O → Prop), (∀ o, P o → P' o) → g a x P → g a x P'
instance : Mo2 gAdd := ⟨fun x y P P' k h => by unfold gAdd at h; split at h <;> first | exact k _ h | exact ⟨h.1, k _ h.2⟩ | exact h.elim⟩
instance {C : Int → Int → Prop} {gd : Int → Int → D} : Mo2 (gI C gd) := ⟨fun x y P P' k h => by unfold gI at h; split at h <;> first | exact ⟨h.1, k _ h.2⟩ | exact h.elim⟩
instance {gd : Int → Int → D} : Mo2 (gI0 gd) := ⟨fun x y P P' k h => by unfold gI0 at h; split at h <;> first | exact k _ h | exact h.elim⟩
instance : Mo1 gNeg := ⟨fun x P P' k h => by unfold gNeg at h; split at h <;> first | exact k _ h | exact h.elim⟩
theorem mo_ix {x y : D} {P P' : O → Prop} (k : ∀ o, P o → P' o) (h : gIx x y P) : gIx x y P' := by
  unfold gIx at h
  split at h <;> first | exact h.elim | (obtain ⟨d, e, q⟩ := h; first | exact ⟨d, e, k _ q⟩ | (obtain ⟨c, e2, q⟩ := e; exact ⟨d, c, e2, k _ q⟩) | (obtain ⟨e2, q⟩ := q; exact ⟨d, _, e2, k _ q⟩))
instance : Mo2 gIxD := ⟨fun x y P P' k h => by
  unfold gIxD at h ⊢
  split at h
  · split at h
    · obtain ⟨v, e, q⟩ := h
      exact ⟨v, e, k _ q⟩
    · exact h.elim
  · exact mo_ix k h⟩
instance {lo hi : Option Int} : Mo1 (gSl lo hi) := ⟨fun x P P' k h => by unfold gSl at h; split at h <;> first | exact k _ h | exact ⟨h.1, k _ h.2⟩ | exact h.elim⟩
instance : MoN gLen := ⟨fun x P P' k h => by unfold gLen at h; split at h <;> first | exact k _ h | exact ⟨h.1, k _ h.2⟩ | exact h.elim⟩
instance : MoN gAbs := ⟨fun x P P' k h => by unfold gAbs at h; split at h <;> first | exact k _ h | exact h.elim⟩
instance : MoN gInt := ⟨fun x P P' k h => by unfold gInt at h; split at h <;> first | exact k _ h | exact h.elim⟩
instance : MoN gList := ⟨fun x P P' k h => by unfold gList at h; split at h <;> first | exact k _ h | exact h.elim⟩
instance : MoN gTuple := ⟨fun x P P' k h => by unfold gTuple at h; split at h <;> first | exact k _ h | exact h.elim⟩
instance : MoN gAll := ⟨fun x P P' k h => by unfold gAll at h; split at h <;> first | exact h.elim | (obtain ⟨b, e, q⟩ := h; exact ⟨b, e, k _ q⟩)⟩
instance : MoN gAny := ⟨fun x P P' k h => by unfold gAny at h; split at h <;> first | exact h.elim | (obtain ⟨b, e, q⟩ := h; exact ⟨b, e, k _ q⟩)⟩
instance : MoN gSum := ⟨fun x P P' k h => by unfold gSum at h; split at h <;> first | exact h.elim | (obtain ⟨b, e, l, q⟩ := h; exact ⟨b, e, l, k _ q⟩)⟩
instance : Mo2 gEq := ⟨fun x y P P' k h => ⟨h.1, k _ h.2⟩⟩
instance : Mo2 gNe := ⟨fun x y P P' k h => ⟨h.1, k _ h.2⟩⟩
instance {b : Bool} : Mo2 (gIsN b) := ⟨fun x y P P' k h => by unfold gIsN at h; split at h <;> first | exact k _ h | exact h.elim⟩
instance {b : Bool} : Mo2 (gIn b) := ⟨fun x y P P' k h => by
  unfold gIn at h ⊢
  split at h
  · exact ⟨h.1, k _ h.2⟩
  · exact ⟨h.1, k _ h.2⟩
  · exact ⟨h.1, k _ h.2⟩
  · split at h
    · obtain ⟨c, e, q⟩ := h; exact ⟨c, e, k _ q⟩
    · exact h.elim
  · split at h
    · exact k _ h
    · exact h.elim
  · exact h.elim⟩
instance : Mo2 gMulS := ⟨fun x y P P' k h => by unfold gMulS at h; split at h <;> first | exact h.elim | (obtain ⟨a, b, c, q⟩ := h; exact ⟨a, b, c, k _ q⟩)⟩
instance : MoS gSplit := ⟨fun a x P P' k h => by unfold gSplit at h; split at h <;> first | exact h.elim | exact ⟨h.1, h.2.1, k _ h.2.2⟩⟩
instance : MoS gJoin := ⟨fun a x P P' k h => by unfold gJoin at h; split at h <;> first | exact h.elim | (obtain ⟨ys, e, l, q⟩ := h; exact ⟨ys, e, l, k _ q⟩)⟩
instance : MoS gPart := ⟨fun a x P P' k h => by unfold gPart at h; split at h <;> first | exact h.elim | exact ⟨h.1, h.2.1, k _ h.2.2⟩⟩
instance : MoS gStarts := ⟨fun a x P P' k h => by unfold gStarts at h; split at h <;> first | exact h.elim | exact k _ h⟩
inductive VwE (ρ : Env) : EV → D → Prop
  | ow {o : O} {d : D} (h : flat o = some d) : VwE ρ (.ow o) d
  | pt {i : Nat} {o : O} {d : D} (h : ρ[i]? = some (some o)) (hf : flat o = some d) : VwE ρ (.pt i) d
theorem VwE.z {ρ : Env} {d : D} : VwE ρ (.ow (.fz d)) d := .ow rfl
theorem VwE.o {ρ : Env} {i : Nat} {d : D} (h : ρ[i]? = some (oo d)) : VwE ρ (.pt i) d := .pt h (flat_own d)
theorem VwE.dOf {ρ : Env} {e : EV} {d : D} (h : VwE ρ e d) : dOf ρ e = some d := by
  cases h with
  | ow h => exact h
  | pt h hf => exact dOf_pt h hf
theorem VwE.rel {ρ : Env} {e : EV} {d : D} {N : Env → Prop} {es : List EV} (h : VwE ρ e d) : relP ρ N (e :: es) = relP ρ N es := by cases h <;> rfl
inductive VwEs (ρ : Env) : List EV → List D → Prop
  | nil : VwEs ρ [] []
  | cons {e : EV} {d : D} {es : List EV} {ds : List D} (h : VwE ρ e d) (r : VwEs ρ es ds) : VwEs ρ (e :: es) (d :: ds)
theorem VwEs.dsOf {ρ : Env} : ∀ {es : List EV} {ds : List D}, VwEs ρ es ds → dsOf ρ es = some ds
  | _, _, .nil => rfl
  | _, _, .cons h r => by
    show (match AE.dOf ρ _ with | some d => (match AE.dsOf ρ _ with | some ds => some (d :: ds) | none => none) | none => none) = _
    rw [h.dOf, r.dsOf]
theorem VwEs.rel {ρ : Env} {N : Env → Prop} : ∀ {es : List EV} {ds : List D}, VwEs ρ es ds → relP ρ N es = N ρ
  | _, _, .nil => rfl
  | _, _, .cons h r => by rw [h.rel, r.rel]
section
variable {ρ : Env} {Kd : KD}
theorem k1 {g : G1} [Mo1 g] {e1 : EV} {x : D} {R : D → Prop} (v1 : VwE ρ e1 x) (h : z1 g x R) (k : ∀ z, R z → Kd (.ow (.fz z)) ρ) : p1 g ρ [e1] (zK Kd) := by
  show (match dOf ρ e1 with | some d => g d (fun o => relP ρ (zK Kd (.ow o)) [e1]) | none => False)
  rw [v1.dOf]
  refine Mo1.mo x _ _ (fun o q => ?_) h
  rw [v1.rel]
  exact k _ q
theorem k2 {g : G2} [Mo2 g] {e1 e2 : EV} {x y : D} {R : D → Prop} (v1 : VwE ρ e1 x) (v2 : VwE ρ e2 y) (h : z2 g x y R) (k : ∀ z, R z → Kd (.ow (.fz z)) ρ) : p2 g ρ [e1, e2] (zK Kd) := by
  show (match dOf ρ e1 with | some d => (match dOf ρ e2 with | some d' => g d d' (fun o => relP ρ (zK Kd (.ow o)) [e1, e2]) | none => False) | none => False)
  rw [v1.dOf]
  dsimp only
  rw [v2.dOf]
  refine Mo2.mo x y _ _ (fun o q => ?_) h
  rw [v1.rel, v2.rel]
  exact k _ q
theorem kN {g : GN} [MoN g] {es : List EV} {xs : List D} {R : D → Prop} (v : VwEs ρ es xs) (h : zN g xs R) (k : ∀ z, R z → Kd (.ow (.fz z)) ρ) : pN g ρ es (zK Kd) := by
  show (match dsOf ρ es with | some ds => g ds (fun o => relP ρ (zK Kd (.ow o)) es) | none => False)
  rw [v.dsOf]
  refine MoN.mo xs _ _ (fun o q => ?_) h
  rw [v.rel]
  exact k _ q
theorem kNo {g : GN} [MoN g] {es : List EV} {xs : List D} {R : D → Prop} (v : VwEs ρ es xs) (h : oN g xs R) (k : ∀ z, R z → Kd (.ow (ownO z)) ρ) : pN g ρ es Kd := by
  show (match dsOf ρ es with | some ds => g ds (fun o => relP ρ (Kd (.ow o)) es) | none => False)
  rw [v.dsOf]
  refine MoN.mo xs _ _ (fun o q => ?_) h
  rw [v.rel, q.1]
  exact k _ q.2
end
section
variable {X : Cx} {W : WX} {ρ : Env} {Kd : KD} {Ed : XC} {a b c : Expr} {pos : Pos}
theorem e_name {e : Expr} {i : Nat} {d : D} (h : PE X e (tVar i)) (hi : ρ[i]? = some (zz d)) (q : Kd (.ow (.fz d)) ρ) : wE X W e ρ Kd Ed := wE.of (ae_name h) (by unfold tName; rw [hi]; exact q)
theorem e_namep {e : Expr} {i : Nat} {o : O} (h : PE X e (tVar i)) (hi : ρ[i]? = some (some o)) (q : Kd (.pt i) ρ) : wE X W e ρ Kd Ed := fun HF A σ H Q w en k x => PE.imp h fun σ' H' Q' ⟨e1, e2, e3⟩ => by
  subst e1 e2 e3
  obtain ⟨v, B, C, h1, h2, h3, _⟩ := en.get hi
  exact ⟨v, h1, k _ _ q HF _ A v [] (by rw [List.append_nil]; exact Fr.refl) (by rw [List.append_nil]; exact w) en ⟨rfl, h1⟩⟩
theorem e_int {i j} (q : Kd (.ow (.fz (.int i))) ρ) : wE X W (.Constant (.int i) j pos) ρ Kd Ed := wE.of ae_int q
theorem e_bl {i j} (q : Kd (.ow (.fz (.bl i))) ρ) : wE X W (.Constant (.bool i) j pos) ρ Kd Ed := wE.of ae_bl q
theorem e_str {i j} (q : Kd (.ow (.fz (.str i))) ρ) : wE X W (.Constant (.str i) j pos) ρ Kd Ed := wE.of ae_str q
theorem e_non {j} (q : Kd (.ow (.fz .non)) ρ) : wE X W (.Constant .none j pos) ρ Kd Ed := wE.of ae_non q
theorem e_glob {x : Str} {d : D} (h : GlobD X.K X.mg x d) (hg : Gl X x) (q : Kd (.ow (.fz d)) ρ) (hd : (x == ("__debug__" : Str)) = false := by decide) : wE X W (.Name x pos) ρ Kd Ed := wE.of (ae_glob h hg hd) q
theorem e_ty {x : Str} {T : String} (hg : Gl X x) (hm : X.mg x = none) (hv : bootBuiltins x = some (.type T)) (q : Kd (.ow (.fz (.ty T))) ρ) (hn : x ≠ "__name__" := by decide) (hd : (x == ("__debug__" : Str)) = false := by decide) : wE X W (.Name x pos) ρ Kd Ed := wE.of (ae_ty hg hm hv hn hd) q
section
variable (q : ∀ g : G2, wE X W a ρ (fun e1 ρ1 => wE X W b ρ1 (fun e2 ρ2 => p2 g ρ2 [e1, e2] Kd) Ed) Ed)
end
abbrev q2 (X : Cx) (W : WX) (g : G2) (a b : Expr) (ρ : Env) (Kd : KD) (Ed : XC) : Prop := wE X W a ρ (fun e1 ρ1 => wE X W b ρ1 (fun e2 ρ2 => p2 g ρ2 [e1, e2] Kd) Ed) Ed
theorem e_add (q : q2 X W gAdd a b ρ (zK Kd) Ed) : wE X W (.BinOp a .Add b pos) ρ Kd Ed := wE.frz (wE.of (ae_add ewE ewE) q)
theorem e_sub (q : q2 X W gSub a b ρ (zK Kd) Ed) : wE X W (.BinOp a .Sub b pos) ρ Kd Ed := wE.frz (wE.of (ae_sub ewE ewE) q)
theorem e_mul (q : q2 X W gMul a b ρ (zK Kd) Ed) : wE X W (.BinOp a .Mult b pos) ρ Kd Ed := wE.frz (wE.of (ae_mul ewE ewE) q)
theorem e_mod (q : q2 X W gMod a b ρ (zK Kd) Ed) : wE X W (.BinOp a .Mod b pos) ρ Kd Ed := wE.frz (wE.of (ae_mod ewE ewE) q)
theorem e_fdiv (q : q2 X W gDiv a b ρ (zK Kd) Ed) : wE X W (.BinOp a .FloorDiv b pos) ρ Kd Ed := wE.frz (wE.of (ae_fdiv ewE ewE) q)
theorem e_pow (q : q2 X W gPow a b ρ (zK Kd) Ed) : wE X W (.BinOp a .Pow b pos) ρ Kd Ed := wE.frz (wE.of (ae_pow ewE ewE) q)
theorem e_neg (q : wE X W a ρ (fun e1 ρ1 => p1 gNeg ρ1 [e1] (zK Kd)) Ed) : wE X W (.UnaryOp .USub a pos) ρ Kd Ed := wE.frz (wE.of (ae_neg ewE) q)
theorem e_at (hu : X.A.units + 64 < cLine) (q : q2 X W gIxD a b ρ (zK Kd) Ed) (hs : PlainIx b := by intro _ _; rfl) : wE X W (.Subscript a b pos) ρ Kd Ed := wE.frz (wE.of (ae_at hu ewE ewE hs) q)
theorem e_c {op : CmpOp} {g : G2} (h : CR X op (p2 g)) (q : q2 X W g a b ρ (zK Kd) Ed) (hm : behindInMarks op b = false := by first | exact nobehind _ (by decide) (by decide) | rfl) : wE X W (.Compare a [op] [b] pos) ρ Kd Ed := wE.frz (wE.of (ae_c h ewE ewE hm) q)
def tK' (Kd : Bool → Env → Prop) : KD := fun e ρ => match dOf ρ e with
  | some (.bl b) => Kd b ρ
  | _ => False
theorem relP_imp {N N' : Env → Prop} (h : ∀ ρ, N ρ → N' ρ) : ∀ {es : List EV} {ρ : Env}, relP ρ N es → relP ρ N' es
  | [], ρ, q => h ρ q
  | .ow o :: es, ρ, q => relP_imp (es := es) h q
  | .pt i :: es, ρ, q => relP_imp (es := es) h q
  | .tk i π v o :: es, ρ, q => by
    have q : (match ρ[i]? with | some (some t) => getAt t π = some (.fz (.raw v)) ∧ relP (ρ.set i (some (putAt t π o))) N es | _ => False) := q
    show (match ρ[i]? with | some (some t) => getAt t π = some (.fz (.raw v)) ∧ relP (ρ.set i (some (putAt t π o))) N' es | _ => False)
    split at q
    · exact ⟨q.1, relP_imp (es := es) h q.2⟩
    · exact q.elim
theorem zK_tK {Kd : Bool → Env → Prop} {o : O} {ρ : Env} (h : zK (tK' Kd) (.ow o) ρ) : tK' Kd (.ow o) ρ := by
  cases o with
  | fz d => exact h
  | ls ds => exact h
  | dc ds => exact h
  | dt ds => exact h
  | nl os => exact h.elim
  | nd os => exact h.elim
  | ob C fs => exact h.elim
theorem t_c {Kd : Bool → Env → Prop} {op : CmpOp} {g : G2} [Mo2 g] (h : CR X op (p2 g)) (q : q2 X W g a b ρ (zK (tK' Kd)) Ed) (hm : behindInMarks op b = false := by first | exact nobehind _ (by decide) (by decide) | rfl) : wT X W (.Compare a [op] [b] pos) ρ Kd Ed := by
  refine wT.of (at_c h ewE ewE hm) ?_
  show wE X W a ρ (fun e1 ρ1 => wE X W b ρ1 (fun e2 ρ2 => p2 g ρ2 [e1, e2] (tK' Kd)) Ed) Ed
  refine wE.imp q fun e1 ρ1 z => wE.imp z fun e2 ρ2 z => ?_
  have z : (match dOf ρ2 e1 with | some d => (match dOf ρ2 e2 with | some d' => g d d' (fun o => relP ρ2 (zK (tK' Kd) (.ow o)) [e1, e2]) | none => False) | none => False) := z
  show (match dOf ρ2 e1 with | some d => (match dOf ρ2 e2 with | some d' => g d d' (fun o => relP ρ2 (tK' Kd (.ow o)) [e1, e2]) | none => False) | none => False)
  split at z
  · split at z
    · exact Mo2.mo _ _ _ _ (fun o w => relP_imp (fun ρ => zK_tK) w) z
    · exact z.elim
  · exact z.elim
theorem t_val {e : Expr} {Kd : Bool → Env → Prop} (q : wE X W e ρ (tK' Kd) Ed) (he : ∀ whole, isTrue e X.env whole = (do let v ← whole; standAt e.pos; holding [v] (truthy v)) := by intro _; rfl) : wT X W e ρ Kd Ed := wT.of (at_val ewE he) q
end
end AE
namespace AE
open PySem L2
theorem wG.drop {X : Cx} {P : Prot} {tg : Expr} {o : O} {ρ ρ' : Env} {N : Env → Prop} (l : Le ρ ρ') (q : wG X P tg o ρ' N) : wG X P tg o ρ N := fun HF A B v σ H Q w en r k => by
  obtain ⟨C, hs, e⟩ := l.envR en
  have hs2 : (C ++ B).Sublist (A ++ B) := List.Sublist.append_right hs B
  exact q HF C B v σ H Q (w.sub hs2) e r (k.step .refl (Fr.drop fun p hp => hs2.subset hp))
theorem wT.drop {X : Cx} {W : WX} {e : Expr} {ρ ρ' : Env} {Kd : Bool → Env → Prop} {Ed : XC} (l : Le ρ ρ') (q : wT X W e ρ' Kd Ed) : wT X W e ρ Kd Ed := fun HF A σ H Q w en k x => by
  obtain ⟨C, hs, e⟩ := l.envR en
  exact q HF C σ H Q (w.sub hs) e (k.step (Fr.drop fun p hp => hs.subset hp)) (x.step (Fr.drop fun p hp => hs.subset hp))
theorem wT.imp {X : Cx} {W : WX} {e : Expr} {ρ : Env} {Kd Kd' : Bool → Env → Prop} {Ed : XC} (q : wT X W e ρ Kd Ed) (h : ∀ b ρ', Kd b ρ' → Kd' b ρ') : wT X W e ρ Kd' Ed := fun HF A σ H Q w en k x => q HF A σ H Q w en (fun b ρ' z => k b ρ' (h b ρ' z)) x
theorem wB.imp {X : Cx} {W : WX} {P : Prot} {ss : List Stmt} {ρ : Env} {E E' : EndsD} {Ed : XC} (q : wB X W P ss E Ed ρ) (h1 : ∀ ρ', E.nx ρ' → E'.nx ρ') (h2 : ∀ o ρ', E.rt o ρ' → E'.rt o ρ') (h3 : ∀ ρ', E.bk ρ' → E'.bk ρ') (h4 : ∀ ρ', E.ct ρ' → E'.ct ρ') : wB X W P ss E' Ed ρ := fun HF A σ H D w en k x => q HF A σ H D w en ⟨fun ρ' z => k.nx ρ' (h1 ρ' z), fun o ρ' z => k.rt o ρ' (h2 o ρ' z), fun ρ' z => k.bk ρ' (h3 ρ' z), fun ρ' z => k.ct ρ' (h4 ρ' z)⟩ x
theorem itk {b : Bool} {A B A' B' : Prop} (h : if b = true then A else B) (h1 : A → A') (h2 : B → B') : if b = true then A' else B' := by
  cases b
  · exact h2 h
  · exact h1 h
def asI (d : D) (k : Int → Prop) : Prop := match d with
  | .int i => k i
  | _ => False
def chD (z : Str) : List D := z.cps.toList.map fun c => .str ⟨#[c]⟩
def asIt (d : D) (k : List D → Prop) : Prop := match d with
  | .lst xs => k xs
  | .tup xs => k xs
  | .kt xs => k xs
  | .str z => k (chD z)
  | _ => False
section
variable {ρ : Env} {Kd : Bool → Env → Prop}
theorem tk {z : D} {R : Bool → Prop} {ev : EV} (v : VwE ρ ev z) (h : tst z R) (k : ∀ b, R b → Kd b ρ) : tK' Kd ev ρ := by
  unfold tK'
  rw [v.dOf]
  cases z <;> first | exact k _ h | exact h.elim
end
section
variable {X : Cx} {W : WX} {ρ : Env} {Kd : KD} {Kb : Bool → Env → Prop} {Ed : XC} {a b c : Expr} {rest : List Expr} {pos : Pos}
theorem t_w {e : Expr} (q : wW X W e ρ Kb Ed) : wT X W e ρ Kb Ed := wT.of (AW.at ewW) q
theorem w_and1 (q : wT X W a ρ Kb Ed) : wW X W (.BoolOp .And [a] pos) ρ Kb Ed := wW.of (aw_and1 ewT) q
theorem w_or1 (q : wT X W a ρ Kb Ed) : wW X W (.BoolOp .Or [a] pos) ρ Kb Ed := wW.of (aw_or1 ewT) q
theorem w_and (q : wT X W a ρ (fun b1 ρ1 => if b1 = true then wW X W (.BoolOp .And (b :: rest) pos) ρ1 Kb Ed else Kb false ρ1) Ed) : wW X W (.BoolOp .And (a :: b :: rest) pos) ρ Kb Ed := wW.of (aw_and ewT ewW) q
theorem w_or (q : wT X W a ρ (fun b1 ρ1 => if b1 = true then Kb true ρ1 else wW X W (.BoolOp .Or (b :: rest) pos) ρ1 Kb Ed) Ed) : wW X W (.BoolOp .Or (a :: b :: rest) pos) ρ Kb Ed := wW.of (aw_or ewT ewW) q
theorem t_not (q : wT X W a ρ (fun b ρ1 => Kb (!b) ρ1) Ed) : wT X W (.UnaryOp .Not a pos) ρ Kb Ed := wT.of (at_not ewT) q
theorem e_one {op} (q : wE X W a ρ Kd Ed) : wE X W (.BoolOp op [a] pos) ρ Kd Ed := wE.of (ae_one ewE) q
theorem e_and (q : wE X W a ρ (tK' fun b1 ρ1 => if b1 = true then wE X W (.BoolOp .And (b :: rest) pos) ρ1 Kd Ed else Kd (.ow (.fz (.bl false))) ρ1) Ed) : wE X W (.BoolOp .And (a :: b :: rest) pos) ρ Kd Ed := wE.of (ae_and ewE ewE) q
theorem e_not (q : wE X W a ρ (tK' fun b1 ρ1 => Kd (.ow (.fz (.bl (!b1)))) ρ1) Ed) : wE X W (.UnaryOp .Not a pos) ρ Kd Ed := wE.of (ae_not ewE) q
theorem e_if (q : wT X W c ρ (fun b1 ρ1 => if b1 = true then wE X W a ρ1 Kd Ed else wE X W b ρ1 Kd Ed) Ed) : wE X W (.IfExp c a b pos) ρ Kd Ed := wE.of (ae_if ewT ewE ewE) q
theorem o_none {Ko : Option Int → Env → Prop} (q : Ko none ρ) : wO X W none ρ Ko Ed := wO.of ao_none q
def oK (Ko : Option Int → Env → Prop) : KD := fun e ρ => match dOf ρ e with
  | some (.int i) => Ko (some i) ρ
  | _ => False
theorem o_some {Ko : Option Int → Env → Prop} (q : wE X W a ρ (oK Ko) Ed) : wO X W (some a) ρ Ko Ed := wO.of (ao_some ewE) q
theorem ok_ {Ko : Option Int → Env → Prop} {z : D} {R : Int → Prop} {ev : EV} (v : VwE ρ ev z) (h : asI z R) (k : ∀ i, R i → Ko (some i) ρ) : oK Ko ev ρ := by
  unfold oK
  rw [v.dOf]
  cases z <;> first | exact k _ h | exact h.elim
theorem e_slice {lo hi : Option Expr} {p2 : Pos} (q : wE X W a ρ (fun e1 ρ1 => wO X W lo ρ1 (fun l ρ2 => wO X W hi ρ2 (fun h ρ3 => p1 (gSl l h) ρ3 [e1] (zK Kd)) Ed) Ed) Ed) : wE X W (.Subscript a (.Slice lo hi none p2) pos) ρ Kd Ed := wE.frz (wE.of (ae_slice ewE ewO ewO) q)
variable {Ks : List EV → Env → Prop} {es : List Expr} {e : Expr}
theorem a_nil (q : Ks [] ρ) : wA X W [] ρ Ks Ed := wA.of aa_nil q
theorem a_cons (q : wE X W e ρ (fun e1 ρ1 => wA X W es ρ1 (fun es1 ρ2 => Ks (e1 :: es1) ρ2) Ed) Ed) (hs : starEach (e :: es) X.env = (false, eval e X.env) :: starEach es X.env := by rfl) : wA X W (e :: es) ρ Ks Ed := wA.of (aa_cons ewE ewA hs) q
def Sto (es : List EV) (ds : List D) : Prop := storedD es = some ds
theorem Sto.nil : Sto [] [] := rfl
theorem Sto.cons {d : D} {es : List EV} {ds : List D} (h : Sto es ds) : Sto (.ow (.fz d) :: es) (d :: ds) := by
  show (match storedD es with | some ds => some (frz (.fz d) :: ds) | none => none) = _
  rw [show storedD es = some ds from h]; rfl
def dK (mk : List D → O) (Kd : KD) (evs : List EV) (ρ1 : Env) : Prop := match storedD evs with
  | some ds => ds.length ≤ sizeLine ∧ Kd (.ow (mk ds)) ρ1
  | none => False
theorem dk {mk : List D → O} {evs : List EV} {ds : List D} (s : Sto evs ds) (h : ds.length ≤ sizeLine) (q : Kd (.ow (mk ds)) ρ) : dK mk Kd evs ρ := by
  unfold dK
  rw [show storedD evs = some ds from s]
  exact ⟨h, q⟩
theorem e_tup {x1} (q : wA X W es ρ (dK (fun ds => .fz (.tup ds)) Kd) Ed) : wE X W (.Tuple es x1 pos) ρ Kd Ed := wE.of (ae_tup ewA) q
theorem e_lst (q : wA X W es ρ (dK (fun ds => .ls ds) (zK Kd)) Ed) : wE X W (.List es pos) ρ Kd Ed := wE.frz (wE.of (ae_lst ewA) q)
theorem e_lsto (q : wA X W es ρ (dK (fun ds => .ls ds) Kd) Ed) : wE X W (.List es pos) ρ Kd Ed := wE.of (ae_lst ewA) q
theorem e_dnew (q : Kd (.ow (ownO (.dic []))) ρ) : wE X W (.Dict [] [] pos) ρ Kd Ed := wE.of ae_dnew q
def pFld (C : Addr) (f : Str) (x : D) (R : D → Prop) : Prop := match x with
  | .ins C' fs => C' = C ∧ ∃ d, fs.lookup f = some d ∧ R d
  | _ => False
def fK (K : PySem.W.Frag) (f : Str) (Kd : KD) : KD := fun e ρ1 => match deref ρ1 e with
  | some (.fz (.ins C fs)) => FldOk K C f ∧ ∃ d, fs.lookup f = some d ∧ Kd (.ow (.fz d)) ρ1
  | some (.ob C fs) => FldOk K C f ∧ ∃ d, fs.lookup f = some (.fz d) ∧ Kd (.ow (.fz d)) ρ1
  | _ => False
theorem e_fld {f : Str} (q : wE X W a ρ (fK X.K f Kd) Ed) (hb : attributeBase a f X.env (eval a X.env) = eval a X.env := by rfl) : wE X W (.Attribute a f pos) ρ Kd Ed := wE.of (ae_fld ewE hb) q
theorem fk {K : PySem.W.Frag} {C : Addr} {f : Str} {x : D} {R : D → Prop} (hF : FldOk K C f) (h : pFld C f x R) (k : ∀ d, R d → Kd (.ow (.fz d)) ρ) : fK K f Kd (.ow (.fz x)) ρ := by
  cases x <;> first | exact h.elim | (obtain ⟨e, d, hl, q⟩ := h; subst e; exact ⟨hF, d, hl, k _ q⟩)
end
def backE : Env → List EV → Env → Env
  | ρ, .pt i :: es, x :: xs => backE (ρ.set i x) es xs
  | ρ, .ow _ :: es, _ :: xs => backE ρ es xs
  | ρ, _, _ => ρ
inductive Args : Env → List EV → List O → Env → Prop
  | nil {ρ : Env} : Args ρ [] [] ρ
  | ow {ρ ρ' : Env} {o : O} {es : List EV} {os : List O} (h : Args ρ es os ρ') : Args ρ (.ow o :: es) (o :: os) ρ'
  | pt {ρ ρ' : Env} {i : Nat} {o : O} {es : List EV} {os : List O} (hi : ρ[i]? = some (some o)) (h : Args (ρ.set i none) es os ρ') : Args ρ (.pt i :: es) (o :: os) ρ'
theorem Args.take : ∀ {ρ ρ' : Env} {es : List EV} {os : List O}, Args ρ es os ρ' → takeD ρ es = some (os, ρ')
  | _, _, _, _, .nil => rfl
  | ρ, ρ', _, _, .ow (es := es) (os := os) h => by
    show (match takeD ρ es with | some (os, ρ') => some (_ :: os, ρ') | none => none) = _
    rw [h.take]
  | ρ, ρ', _, _, .pt (i := i) (es := es) (os := os) hi h => by
    show (match ρ[i]? with | some (some o) => (match takeD (ρ.set i none) es with | some (os, ρ') => some (o :: os, ρ') | none => none) | _ => none) = _
    rw [hi]
    dsimp only
    rw [h.take]
theorem Args.noneAt : ∀ {ρ ρ' : Env} {es : List EV} {os : List O}, Args ρ es os ρ' → ∀ j : Nat, ρ[j]? = some Option.none → ρ'[j]? = some Option.none
  | _, _, _, _, .nil, j, hj => hj
  | _, _, _, _, .ow h, j, hj => h.noneAt j hj
  | ρ, _, _, _, .pt (i := i) hi h, j, hj => h.noneAt j (by
    by_cases e : i = j
    · subst e; rw [hi] at hj; cases hj
    · rw [List.getElem?_set_ne e]; exact hj)
theorem Args.slot : ∀ {ρ ρ' : Env} {es : List EV} {os : List O}, Args ρ es os ρ' → ∀ i : Nat, .pt i ∈ es → ρ'[i]? = some Option.none
  | _, _, _, _, .nil, i, h => by cases h
  | _, _, _, _, .ow a, i, h => a.slot i (by
    rcases List.mem_cons.mp h with h | h
    · cases h
    · exact h)
  | ρ, _, _, _, .pt (i := i') hi a, i, h => by
    rcases List.mem_cons.mp h with h | h
    · cases h
      exact a.noneAt _ (List.getElem?_set_self (List.getElem?_eq_some_iff.mp hi).1)
    · exact a.slot i h
theorem Args.nodup : ∀ {ρ ρ' : Env} {es : List EV} {os : List O}, Args ρ es os ρ' → ∀ i : Nat, ρ[i]? = some Option.none → .pt i ∉ es
  | _, _, _, _, .nil, i, h => by simp
  | _, _, _, _, .ow a, i, h => by
    have := a.nodup i h
    simp [this]
  | ρ, _, _, _, .pt (i := i') hi a, i, h => by
    have e : i ≠ i' := fun e => by subst e; rw [hi] at h; cases h
    have := a.nodup i (by rw [List.getElem?_set_ne (Ne.symm e)]; exact h)
    simp [this, e]
theorem backI' {N : Env → Prop} : ∀ {ρ ρ' : Env} {es : List EV} {os : List O} {ρx ρ2 : Env}, Args ρ es os ρ' → (∀ i : Nat, .pt i ∈ es → ρ2[i]? = some none) → N (backE ρ2 es ρx) → backP N ρ2 es ρx
  | _, _, _, _, ρx, ρ2, .nil, hs, q => by cases ρx <;> exact q
  | _, _, _, _, [], ρ2, .ow a, hs, q => q
  | _, _, _, _, x :: xs, ρ2, .ow (es := es) a, hs, q => backI' (es := es) a (fun i hi => hs i (List.mem_cons_of_mem _ hi)) q
  | _, _, _, _, [], ρ2, .pt hi a, hs, q => q
  | ρ, _, _, _, x :: xs, ρ2, .pt (i := i) (es := es) hi a, hs, q => by
    show (match ρ2[i]? with | some none => backP N (ρ2.set i x) es xs | _ => backP N ρ2 es xs)
    rw [hs i (by simp)]
    refine backI' (es := es) a (fun j hj => ?_) q
    have ne : i ≠ j := fun e => by
      subst e
      exact a.nodup i (List.getElem?_set_self (List.getElem?_eq_some_iff.mp hi).1) hj
    rw [List.getElem?_set_ne ne]
    exact hs j (List.mem_cons_of_mem _ hj)
theorem backI {N : Env → Prop} {ρ ρ' ρ3 : Env} {es : List EV} {os : List O} {ρx : Env} (a : Args ρ es os ρ') (e : backE ρ' es ρx = ρ3) (q : N ρ3) : backP N ρ' es ρx := backI' a a.slot (by rw [e]; exact q)
theorem callI {F : AFn} {es : List EV} {os : List O} {ρ ρ2 : Env} {Kd : KD} {Ed : XC} (a : Args ρ es os ρ2) (h : F os (fun o ρx => backP (Kd (.ow o)) ρ2 es ρx) (fun x ρx => backP (Ed x) ρ2 es ρx)) : callK F es ρ Kd Ed := by
  unfold callK
  rw [a.take]
  exact h
section
variable {X : Cx} {W : WX} {ρ : Env} {Kd : KD} {Ed : XC} {lv : Nat} {x : Str} {C : Addr} {m : Str} {ps : List Str} {F : AFn} {p pos apos : Pos} {o e : Expr} {es : List Expr}
theorem e_call (C : Cal X.prog X.w X.K X.mg X.base lv x ps F) (hr : Room lv X.A) (tk : L2N.Takes X W) (hg : Gl X x) (q : wA X W (e :: es) ρ (fun es1 ρ1 => callK F es1 ρ1 Kd Ed) Ed) (hdb : (x == ("__debug__" : Str)) = false := by decide)
    (he : starEach (e :: es) X.env = (false, eval e X.env) :: starEach es X.env := by rfl) (hpl : (backTo pos (starEach es X.env)).any (·.1) = false := by rfl) : wE X W (.Call (.Name x p) (e :: es) [] pos) ρ Kd Ed := wE.of (ae_call C hr tk hg ewA hdb he hpl) q
def isP (C : Addr) (x : D) (R : Prop) : Prop := match x with
  | .ins C' _ => C' = C ∧ R
  | _ => False
end
section
variable {X : Cx} {W : WX} {P : Prot} {ρ : Env} {E : EndsD} {Ed : XC} {st : Stmt} {rest : List Stmt} {e : Expr} {pos : Pos}
theorem b_nil (q : E.nx ρ) : wB X W P [] E Ed ρ := wB.of ass_nil q
theorem b_cons (q : wS X W P st { E with nx := fun ρ1 => wB X W P rest E Ed ρ1 } Ed ρ) : wB X W P (st :: rest) E Ed ρ := wB.of (ass_cons ewS ewB) q
theorem s_expr (q : wE X W e ρ (fun _ ρ1 => E.nx ρ1) Ed) (hs : swapsWith e none pos.line X.env = pure false := by rfl) : wS X W P (.Expr e pos) E Ed ρ := wS.of (as_expr ewE hs) q
def rK (E : EndsD) : KD := fun ev ρ1 => match moved ρ1 ev with
  | some (o, ρ2) => E.rt o ρ2
  | none => False
theorem s_ret (q : wE X W e ρ (rK E) Ed) : wS X W P (.Return (some e) pos) E Ed ρ := wS.of (as_ret ewE) q
theorem s_if {c : Expr} {a b : List Stmt} (q : wT X W c ρ (fun b1 ρ1 => if b1 = true then wB X W P a E Ed ρ1 else wB X W P b E Ed ρ1) Ed) : wS X W P (.If c a b pos) E Ed ρ := wS.of (as_if ewT ewB ewB) q
def nK (i : Nat) (N : Env → Prop) : KD := fun ev ρ1 => match ev with
  | .ow o => i < ρ1.length ∧ N (ρ1.set i (some o))
  | _ => False
theorem g_name {x : Str} {i : Nat} {o : O} {N : Env → Prop} (hN : X.N.Nodup) (hi : X.N[i]? = some x) (hx : Loc X.env.scope x) (hp : P i = false) (hl : i < ρ.length) (q : N (ρ.set i (some o))) (hf : X.fn x = true ∨ X.env.scope.names.lookup x = some .local := by first | exact .inl rfl | exact .inr rfl | assumption) : wG X P (.Name x pos) o ρ N := wG.of (ag_name hN hi hx hp hf) (by
  unfold gNameD
  rw [List.getElem?_eq_getElem hl]
  exact q)
theorem s_set {x : Str} {i : Nat} {pos' : Pos} (hN : X.N.Nodup) (hi : X.N[i]? = some x) (hx : Loc X.env.scope x) (hp : P i = false) (q : wE X W e ρ (nK i E.nx) Ed) (hs : swapsWithSole [.Name x pos'] e pos.line X.env = pure false := by rfl) (hw : swappedStores [.Name x pos'] e X.env = pure none := by rfl) (hf : X.fn x = true ∨ X.env.scope.names.lookup x = some .local := by first | exact .inl rfl | exact .inr rfl | assumption) : wS X W P (.Assign [.Name x pos'] e pos) E Ed ρ := by
  refine wS.of (as_asg ewE (ag_name hN hi hx hp hf) hs hw) (wE.imp q fun ev ρ1 z => ?_)
  unfold nK at z
  split at z
  · rename_i o
    show (match ρ1[i]? with | some _ => E.nx (ρ1.set i (some o)) | none => False)
    rw [List.getElem?_eq_getElem z.1]
    exact z.2
  · exact z.elim
theorem s_asg {tg : Expr} (q : wE X W e ρ (fun ev ρ1 => match ev with | .ow o => wG X P tg o ρ1 E.nx | _ => False) Ed) (hs : swapsWithSole [tg] e pos.line X.env = pure false := by rfl) (hw : swappedStores [tg] e X.env = pure none := by rfl) (h1 : (assignEach [tg] X.env).map (·.2) = [assign tg X.env] := by rfl) : wS X W P (.Assign [tg] e pos) E Ed ρ := by
  refine wS.of (as_asg ewE ewG hs hw h1) (wE.imp q fun ev ρ1 z => ?_)
  split at z
  · exact z
  · exact z.elim
theorem gs_nil {N : Env → Prop} (q : N ρ) : wGs X P [] [] ρ N := wGs.of ags_nil q
theorem gs_cons {tg : Expr} {ts : List Expr} {d : D} {ds : List D} {N : Env → Prop} (q : wG X P tg (.fz d) ρ (fun ρ1 => wGs X P ts ds ρ1 N)) (hs : (assignEach (tg :: ts) X.env).map (·.2) = assign tg X.env :: (assignEach ts X.env).map (·.2) := by rfl) : wGs X P (tg :: ts) (d :: ds) ρ N := wGs.of (ags_cons ewG ewGs hs) q
theorem g_tup {es : List Expr} {k : Nat} {n : Nat} {ds : List D} {N : Env → Prop} (hc : X.calm = true) (hl : ds.length = n) (q : wGs X P es ds ρ N) (hn : (assignEach es X.env).length = n := by rfl) (hst : (assignEach es X.env).findIdx? (·.1) = none := by rfl) : wG X P (.Tuple es k pos) (.fz (.tup ds)) ρ N := wG.of (ag_tup hc ewGs hn hst) ⟨hl, q⟩
end
def asT2 (d : D) (k : D → D → Prop) : Prop := match d with
  | .tup [a, b] => k a b
  | _ => False
def asT3 (d : D) (k : D → D → D → Prop) : Prop := match d with
  | .tup [a, b, c] => k a b c
  | _ => False
def asT4 (d : D) (k : D → D → D → D → Prop) : Prop := match d with
  | .tup [a, b, c, e] => k a b c e
  | _ => False
theorem asT2.get {d : D} {k : D → D → Prop} (h : asT2 d k) : ∃ a b, d = .tup [a, b] ∧ k a b := by
  unfold asT2 at h
  split at h
  · exact ⟨_, _, rfl, h⟩
  · exact h.elim
theorem asT3.get {d : D} {k : D → D → D → Prop} (h : asT3 d k) : ∃ a b c, d = .tup [a, b, c] ∧ k a b c := by
  unfold asT3 at h
  split at h
  · exact ⟨_, _, _, rfl, h⟩
  · exact h.elim
theorem asT4.get {d : D} {k : D → D → D → D → Prop} (h : asT4 d k) : ∃ a b c e, d = .tup [a, b, c, e] ∧ k a b c e := by
  unfold asT4 at h
  split at h
  · exact ⟨_, _, _, _, rfl, h⟩
  · exact h.elim
section
variable {X : Cx} {W : WX} {ρ : Env} {Ki : List D → Env → Prop} {Ed : XC} {tg l a b : Expr} {p pos : Pos}
def itK (Ki : List D → Env → Prop) : KD := fun ev ρ1 => match ev with
  | .ow (.fz (.lst ds)) => Ki ds ρ1
  | .ow (.fz (.tup ds)) => Ki ds ρ1
  | .ow (.fz (.kt ds)) => Ki ds ρ1
  | .ow (.ls ds) => Ki ds ρ1
  | .ow (.fz (.str z)) => Ki (z.cps.toList.map fun c => .str ⟨#[c]⟩) ρ1
  | _ => False
theorem i_seq (q : wE X W l ρ (itK Ki) Ed) : wI X W tg l ρ Ki Ed := wI.of (ai_seq ewE) q
theorem itk_ {z : D} {R : List D → Prop} (h : asIt z R) (k : ∀ xs, R xs → Ki xs ρ) : itK Ki (.ow (.fz z)) ρ := by
  cases z <;> first | exact k _ h | exact h.elim
def rng1 (d : D) (k : List D → Prop) : Prop := match d with
  | .int j => -(2 ^ 62) ≤ j ∧ j < 2 ^ 62 ∧ k (rngD 0 j.toNat)
  | _ => False
def r1K (Ki : List D → Env → Prop) (evs : List EV) (ρ1 : Env) : Prop := match dsOf ρ1 evs with
  | some [.int j] => -(2 ^ 62) ≤ j ∧ j < 2 ^ 62 ∧ Ki (rngD 0 j.toNat) ρ1
  | _ => False
theorem i_range1 (hg : Gl X "range") (hm : X.mg "range" = none) (q : wA X W [a] ρ (r1K Ki) Ed) (hs : starEach [a] X.env = [(false, eval a X.env)] := by rfl) : wI X W tg (.Call (.Name "range" p) [a] [] pos) ρ Ki Ed := wI.of (ai_range1 hg hm ewA hs) q
theorem r1k {z : D} {R : List D → Prop} {ev : EV} (v : VwE ρ ev z) (h : rng1 z R) (k : ∀ xs, R xs → Ki xs ρ) : r1K Ki [ev] ρ := by
  unfold r1K
  rw [(VwEs.cons v .nil).dsOf]
  cases z <;> first | exact h.elim | exact ⟨h.1, h.2.1, k _ h.2.2⟩
def asEn (d : D) (k : List D → Prop) : Prop := match d with
  | .lst ds => k (enumD ds)
  | .tup ds => k (enumD ds)
  | _ => False
def enK (Ki : List D → Env → Prop) (evs : List EV) (ρ1 : Env) : Prop := match evs with
  | [.ow (.fz (.lst ds))] => Ki (enumD ds) ρ1
  | [.ow (.fz (.tup ds))] => Ki (enumD ds) ρ1
  | [.ow (.ls ds)] => Ki (enumD ds) ρ1
  | _ => False
theorem i_enum {elts : List Expr} {kk : Nat} {tpos : Pos} (hg : Gl X "enumerate") (hm : X.mg "enumerate" = none) (q : wA X W [a] ρ (enK Ki) Ed) (hs : starEach [a] X.env = [(false, eval a X.env)] := by rfl) : wI X W (.Tuple elts kk tpos) (.Call (.Name "enumerate" p) [a] [] pos) ρ Ki Ed := wI.of (ai_enum hg hm ewA hs) q
theorem enk {z : D} {R : List D → Prop} (h : asEn z R) (k : ∀ xs, R xs → Ki xs ρ) : enK Ki [.ow (.fz z)] ρ := by
  cases z <;> first | exact k _ h | exact h.elim
end
section
variable {X : Cx} {W : WX} {P : Prot} {ρ : Env} {E : EndsD} {Ed : XC} {tg iter c : Expr} {body : List Stmt} {pos : Pos}
def LoopR (X : Cx) (W : WX) (P : Prot) (tg : Expr) (body : List Stmt) (E : EndsD) (Ed : XC) (items : List D) (ρ1 : Env) : Prop := ∃ I : Nat → Env → Prop, I 0 ρ1 ∧
  (∀ i d ρ, items[i]? = some d → I i ρ → wG X P tg (.fz d) ρ (fun ρ2 => wB X W P body { E with nx := I (i + 1), ct := I (i + 1), bk := E.nx } Ed ρ2)) ∧ ∀ ρ, I items.length ρ → E.nx ρ
theorem s_for (hp : PassesOwn (model X.prog X.w) X.A X.env X.xe) (hc : X.calm = true) (q : wI X W tg iter ρ (LoopR X W P tg body E Ed) Ed) (hs : ∀ x, foldedSetIterable iter X.env x = pure x := by intro _; rfl) : wS X W P (.For tg iter body [] pos) E Ed ρ := wS.of (as_for hp hc ewI ewG ewB hs) q
end
def for0 (items : List D) (body : D → (Prop) → Prop) (k : Prop) : Prop := ∃ I : Nat → Prop, I 0  ∧ (∀ i d , items[i]? = some d → I i  → body d  (I (i + 1))) ∧ ( I items.length  → k)
theorem loop0 {X : Cx} {W : WX} {P : Prot} {ρ1 : Env} {E : EndsD} {Ed : XC} {tg : Expr} {body : List Stmt} {items : List D} {b : D → (Prop) → Prop} {k : Prop} (fam : Env) (h : for0 items b k) (le : Le ρ1 (fam)) (hb : ∀ d  (n : Prop), b d  n → wG X P tg (.fz d) (fam) (fun ρ2 => wB X W P body { E with nx := fun ρ => Le ρ (fam) ∧ n, ct := fun ρ => Le ρ (fam) ∧ n, bk := E.nx } Ed ρ2)) (hk : ∀  (ρ : Env), Le ρ (fam) → k → E.nx ρ) : LoopR X W P tg body E Ed items ρ1 := by
  obtain ⟨I, i0, st, fin⟩ := h
  refine ⟨fun i ρ => Le ρ (fam) ∧ I i , ⟨le, i0⟩, fun i d ρ hd hI => ?_, fun ρ hI => ?_⟩
  · obtain ⟨l, hI⟩ := hI
    exact wG.drop l (hb d  _ (st i d  hd hI))
  · obtain ⟨l, hI⟩ := hI
    exact hk  ρ l (fin  hI)
def for1 (items : List D) (body : D → D → (D → Prop) → Prop) (x0 : D) (k : D → Prop) : Prop := ∃ I : Nat → D → Prop, I 0 x0 ∧ (∀ i d x0, items[i]? = some d → I i x0 → body d x0 (I (i + 1))) ∧ (∀ x0,  I items.length x0 → k x0)
theorem loop1 {X : Cx} {W : WX} {P : Prot} {ρ1 : Env} {E : EndsD} {Ed : XC} {tg : Expr} {body : List Stmt} {items : List D} {b : D → D → (D → Prop) → Prop} {x0 : D} {k : D → Prop} (fam : D → Env) (h : for1 items b x0 k) (le : Le ρ1 (fam x0)) (hb : ∀ d x0 (n : D → Prop), b d x0 n → wG X P tg (.fz d) (fam x0) (fun ρ2 => wB X W P body { E with nx := fun ρ => ∃ x0, Le ρ (fam x0) ∧ n x0, ct := fun ρ => ∃ x0, Le ρ (fam x0) ∧ n x0, bk := E.nx } Ed ρ2)) (hk : ∀ x0 (ρ : Env), Le ρ (fam x0) → k x0 → E.nx ρ) : LoopR X W P tg body E Ed items ρ1 := by
  obtain ⟨I, i0, st, fin⟩ := h
  refine ⟨fun i ρ => ∃ x0, Le ρ (fam x0) ∧ I i x0, ⟨_, le, i0⟩, fun i d ρ hd hI => ?_, fun ρ hI => ?_⟩
  · obtain ⟨x0, l, hI⟩ := hI
    exact wG.drop l (hb d x0 _ (st i d x0 hd hI))
  · obtain ⟨x0, l, hI⟩ := hI
    exact hk x0 ρ l (fin x0 hI)
def for2 (items : List D) (body : D → D → D → (D → D → Prop) → Prop) (x0 x1 : D) (k : D → D → Prop) : Prop := ∃ I : Nat → D → D → Prop, I 0 x0 x1 ∧ (∀ i d x0 x1, items[i]? = some d → I i x0 x1 → body d x0 x1 (I (i + 1))) ∧ (∀ x0 x1,  I items.length x0 x1 → k x0 x1)
theorem loop2 {X : Cx} {W : WX} {P : Prot} {ρ1 : Env} {E : EndsD} {Ed : XC} {tg : Expr} {body : List Stmt} {items : List D} {b : D → D → D → (D → D → Prop) → Prop} {x0 x1 : D} {k : D → D → Prop} (fam : D → D → Env) (h : for2 items b x0 x1 k) (le : Le ρ1 (fam x0 x1)) (hb : ∀ d x0 x1 (n : D → D → Prop), b d x0 x1 n → wG X P tg (.fz d) (fam x0 x1) (fun ρ2 => wB X W P body { E with nx := fun ρ => ∃ x0 x1, Le ρ (fam x0 x1) ∧ n x0 x1, ct := fun ρ => ∃ x0 x1, Le ρ (fam x0 x1) ∧ n x0 x1, bk := E.nx } Ed ρ2)) (hk : ∀ x0 x1 (ρ : Env), Le ρ (fam x0 x1) → k x0 x1 → E.nx ρ) : LoopR X W P tg body E Ed items ρ1 := by
  obtain ⟨I, i0, st, fin⟩ := h
  refine ⟨fun i ρ => ∃ x0 x1, Le ρ (fam x0 x1) ∧ I i x0 x1, ⟨_, _, le, i0⟩, fun i d ρ hd hI => ?_, fun ρ hI => ?_⟩
  · obtain ⟨x0, x1, l, hI⟩ := hI
    exact wG.drop l (hb d x0 x1 _ (st i d x0 x1 hd hI))
  · obtain ⟨x0, x1, l, hI⟩ := hI
    exact hk x0 x1 ρ l (fin x0 x1 hI)
def for3 (items : List D) (body : D → D → D → D → (D → D → D → Prop) → Prop) (x0 x1 x2 : D) (k : D → D → D → Prop) : Prop := ∃ I : Nat → D → D → D → Prop, I 0 x0 x1 x2 ∧ (∀ i d x0 x1 x2, items[i]? = some d → I i x0 x1 x2 → body d x0 x1 x2 (I (i + 1))) ∧ (∀ x0 x1 x2,  I items.length x0 x1 x2 → k x0 x1 x2)
theorem loop3 {X : Cx} {W : WX} {P : Prot} {ρ1 : Env} {E : EndsD} {Ed : XC} {tg : Expr} {body : List Stmt} {items : List D} {b : D → D → D → D → (D → D → D → Prop) → Prop} {x0 x1 x2 : D} {k : D → D → D → Prop} (fam : D → D → D → Env) (h : for3 items b x0 x1 x2 k) (le : Le ρ1 (fam x0 x1 x2)) (hb : ∀ d x0 x1 x2 (n : D → D → D → Prop), b d x0 x1 x2 n → wG X P tg (.fz d) (fam x0 x1 x2) (fun ρ2 => wB X W P body { E with nx := fun ρ => ∃ x0 x1 x2, Le ρ (fam x0 x1 x2) ∧ n x0 x1 x2, ct := fun ρ => ∃ x0 x1 x2, Le ρ (fam x0 x1 x2) ∧ n x0 x1 x2, bk := E.nx } Ed ρ2)) (hk : ∀ x0 x1 x2 (ρ : Env), Le ρ (fam x0 x1 x2) → k x0 x1 x2 → E.nx ρ) : LoopR X W P tg body E Ed items ρ1 := by
  obtain ⟨I, i0, st, fin⟩ := h
  refine ⟨fun i ρ => ∃ x0 x1 x2, Le ρ (fam x0 x1 x2) ∧ I i x0 x1 x2, ⟨_, _, _, le, i0⟩, fun i d ρ hd hI => ?_, fun ρ hI => ?_⟩
  · obtain ⟨x0, x1, x2, l, hI⟩ := hI
    exact wG.drop l (hb d x0 x1 x2 _ (st i d x0 x1 x2 hd hI))
  · obtain ⟨x0, x1, x2, l, hI⟩ := hI
    exact hk x0 x1 x2 ρ l (fin x0 x1 x2 hI)
end AE
namespace AE
open PySem L2
theorem wG.imp {X : Cx} {P : Prot} {tg : Expr} {o : O} {ρ : Env} {N N' : Env → Prop} (q : wG X P tg o ρ N) (h : ∀ ρ', N ρ' → N' ρ') : wG X P tg o ρ N' := fun HF A B v σ H Q w en r k => q HF A B v σ H Q w en r fun ρ' z => k ρ' (h ρ' z)
theorem wTs.imp {X : Cx} {W : WX} {e : List Expr} {ρ : Env} {Kd Kd' : Bool → Env → Prop} {Ed : XC} (q : wTs X W e ρ Kd Ed) (h : ∀ b ρ', Kd b ρ' → Kd' b ρ') : wTs X W e ρ Kd' Ed := fun HF A σ H Q w en k x => q HF A σ H Q w en (fun b ρ' z => k b ρ' (h b ρ' z)) x
theorem ts_nil {X : Cx} {W : WX} {ρ : Env} {Kd : Bool → Env → Prop} {Ed : XC} (q : Kd true ρ) : wTs X W [] ρ Kd Ed := wTs.of ats_nil q
theorem ts_one {X : Cx} {W : WX} {c : Expr} {ρ : Env} {Kd : Bool → Env → Prop} {Ed : XC} (q : wT X W c ρ Kd Ed) : wTs X W [c] ρ Kd Ed := wTs.of (ats_one ewT) q
def asKey (d : D) (k : Key → Prop) : Prop := match keyD d with
  | some k' => k k'
  | none => False
section
variable (X : Cx) (scope : Scope)
def bG (P : Prot) (tg : Expr) : TGD := fun o ρ N => ∀ (s : Shared) (H : Hp) (C : Addr) (cl : List (Str × Addr)) (fp : List Addr), wG (X.blk s H scope (compEnvC scope cl C X.env) fp) P tg o ρ N
def bT (ifs : List Expr) : TDt := fun ρ Kd Ed => ∀ (s : Shared) (H : Hp) (C : Addr) (cl : List (Str × Addr)) (fp : List Addr), wTs (X.blk s H scope (compEnvC scope cl C X.env) fp) WF ifs ρ Kd Ed
def bE (e : Expr) : TD := fun ρ Kd Ed => ∀ (s : Shared) (H : Hp) (C : Addr) (cl : List (Str × Addr)) (fp : List Addr), wE (X.blk s H scope (compEnvC scope cl C X.env) fp) WF e ρ Kd Ed
def bI (tg e : Expr) : TId := fun ρ Kd Ed => ∀ (s : Shared) (H : Hp) (C : Addr) (cl : List (Str × Addr)) (fp : List Addr), wI (X.blk s H scope (compEnvC scope cl C X.env) fp) WF tg e ρ Kd Ed
def xG (P : Prot) (tg : Expr) : TGD := fun o ρ N => ∀ (s : Shared) (H : Hp) (C : Addr) (cl : List (Str × Addr)) (fp : List Addr) (xe : Value → Shared → Prop), wG (blkX X s H scope (compEnvC scope cl C X.env) fp xe) P tg o ρ N
def xT (ifs : List Expr) : TDt := fun ρ Kd Ed => ∀ (s : Shared) (H : Hp) (C : Addr) (cl : List (Str × Addr)) (fp : List Addr) (xe : Value → Shared → Prop), wTs (blkX X s H scope (compEnvC scope cl C X.env) fp xe) WF ifs ρ Kd Ed
def xE (e : Expr) : TD := fun ρ Kd Ed => ∀ (s : Shared) (H : Hp) (C : Addr) (cl : List (Str × Addr)) (fp : List Addr) (xe : Value → Shared → Prop) (V : WX), L2N.Takes (blkX X s H scope (compEnvC scope cl C X.env) fp xe) V → wE (blkX X s H scope (compEnvC scope cl C X.env) fp xe) V e ρ Kd Ed
end
section
variable {X : Cx} {scope : Scope}
theorem bG.of {P : Prot} {tg : Expr} (s : Shared) (H : Hp) (C : Addr) (cl : List (Str × Addr)) (fp : List Addr) : AG (X.blk s H scope (compEnvC scope cl C X.env) fp) P tg (bG X scope P tg) := PG.imp ewG fun v σ H' Q ⟨HF, ρ, A, o, B, N, w, en, r, g, k⟩ => ⟨HF, ρ, A, o, B, N, w, en, r, g s H C cl fp, k⟩
theorem bT.of {ifs : List Expr} (s : Shared) (H : Hp) (C : Addr) (cl : List (Str × Addr)) (fp : List Addr) : ATs (X.blk s H scope (compEnvC scope cl C X.env) fp) WF ifs (bT X scope ifs) := PTs.imp ewTs fun σ H' Q ⟨HF, ρ, A, Kd, Ed, w, en, t, k, x⟩ => ⟨HF, ρ, A, Kd, Ed, w, en, t s H C cl fp, k, x⟩
theorem bE.of {e : Expr} (s : Shared) (H : Hp) (C : Addr) (cl : List (Str × Addr)) (fp : List Addr) : AE (X.blk s H scope (compEnvC scope cl C X.env) fp) WF e (bE X scope e) := PE.imp ewE fun σ H' Q ⟨HF, ρ, A, Kd, Ed, w, en, t, k, x⟩ => ⟨HF, ρ, A, Kd, Ed, w, en, t s H C cl fp, k, x⟩
theorem bI.of {tg e : Expr} (s : Shared) (H : Hp) (C : Addr) (cl : List (Str × Addr)) (fp : List Addr) : AI (X.blk s H scope (compEnvC scope cl C X.env) fp) WF tg e (bI X scope tg e) := PI.imp ewI fun σ H' Q ⟨HF, ρ, A, Kd, Ed, w, en, t, k, x⟩ => ⟨HF, ρ, A, Kd, Ed, w, en, t s H C cl fp, k, x⟩
theorem xG.of {P : Prot} {tg : Expr} (s : Shared) (H : Hp) (C : Addr) (cl : List (Str × Addr)) (fp : List Addr) (xe : Value → Shared → Prop) : AG (blkX X s H scope (compEnvC scope cl C X.env) fp xe) P tg (xG X scope P tg) := PG.imp ewG fun v σ H' Q ⟨HF, ρ, A, o, B, N, w, en, r, g, k⟩ => ⟨HF, ρ, A, o, B, N, w, en, r, g s H C cl fp xe, k⟩
theorem xT.of {ifs : List Expr} (s : Shared) (H : Hp) (C : Addr) (cl : List (Str × Addr)) (fp : List Addr) (xe : Value → Shared → Prop) : ATs (blkX X s H scope (compEnvC scope cl C X.env) fp xe) WF ifs (xT X scope ifs) := PTs.imp ewTs fun σ H' Q ⟨HF, ρ, A, Kd, Ed, w, en, t, k, x⟩ => ⟨HF, ρ, A, Kd, Ed, w, en, t s H C cl fp xe, k, x⟩
theorem xE.of {e : Expr} (s : Shared) (H : Hp) (C : Addr) (cl : List (Str × Addr)) (fp : List Addr) (xe : Value → Shared → Prop) (V : WX) (tk : L2N.Takes (blkX X s H scope (compEnvC scope cl C X.env) fp xe) V) : AE (blkX X s H scope (compEnvC scope cl C X.env) fp xe) V e (xE X scope e) := PE.imp ewE fun σ H' Q ⟨HF, ρ, A, Kd, Ed, w, en, t, k, x⟩ => ⟨HF, ρ, A, Kd, Ed, w, en, t s H C cl fp xe V tk, k, x⟩
end
def LcR (g : TGD) (tt : TDt) (te : TD) (vs : List Nat) (ρ1 : Env) (Kd : KD) (Ex : XC) (items : List D) : Prop := ∃ I : Nat → List D → Env → Prop, I 0 [] (wipeD ρ1 vs) ∧
  (∀ i d acc ρ, items[i]? = some d → I i acc ρ → g (.fz d) ρ (fun ρ2 => tt ρ2 (fun b ρ3 => if b = true then te ρ3 (fun ev ρ4 => match ev with
    | .ow o => acc.length < sizeLine ∧ I (i + 1) (acc ++ [frz o]) (wipeD ρ4 vs)
    | .pt _ => False
    | .tk _ _ _ _ => False) Ex else I (i + 1) acc (wipeD ρ3 vs)) NoX)) ∧
  ∀ acc ρ, I items.length acc ρ → Kd (.ow (.ls acc)) (backL ρ1 ρ vs)
section
variable {X : Cx} {W : WX} {P : Prot} {ρ : Env} {Kd : KD} {Ed : XC} {E : EndsD} {elt tg iter kx vx : Expr} {ifs : List Expr} {scope : Scope} {own : List (Str × Nat)} {vs : List Nat} {pos spos py : Pos} {i : Nat} {y : Str}
theorem e_lc (hc : X.calm = true) (hN : X.N.Nodup) (ok : BlkOk X.N X.env.scope scope own) (hvs : own.map (·.2) = vs) (nd : vs.Nodup) (hlt : ∀ v ∈ vs, v < X.N.length)
    (q : wI X W tg iter ρ (fun items ρ1 => LcR (bG X scope (butP vs) tg) (bT X scope ifs) (bE X scope elt) vs ρ1 Kd NoX items) Ed) (hs : ∀ x, foldedSetIterable iter X.env x = pure x := by intro _; rfl) : wE X W (.ListComp elt [⟨tg, iter, ifs, 0⟩] scope pos) ρ Kd Ed := wE.of (ae_lc hc hN ewI ok hvs nd hlt bG.of bT.of bE.of hs) q
def lK (i : Nat) (N : Env → Prop) : KD := fun ev ρ1 => match ev with
  | .ow o => i < ρ1.length ∧ N (ρ1.set i (some o))
  | _ => False
theorem LcR.imp {g : TGD} {tt : TDt} {te : TD} {ρ1 : Env} {Kd Kd' : KD} {Ex : XC} {items : List D} (q : LcR g tt te vs ρ1 Kd Ex items) (h : ∀ ev ρ, Kd ev ρ → Kd' ev ρ) : LcR g tt te vs ρ1 Kd' Ex items := by
  obtain ⟨I, a, b, c⟩ := q
  exact ⟨I, a, b, fun acc ρ z => h _ _ (c acc ρ z)⟩
theorem wI.imp {ρ : Env} {Ki Ki' : List D → Env → Prop} (q : wI X W tg iter ρ Ki Ed) (h : ∀ xs ρ', Ki xs ρ' → Ki' xs ρ') : wI X W tg iter ρ Ki' Ed := fun HF A σ H R w en k x => q HF A σ H R w en (fun xs ρ' z => k xs ρ' (h xs ρ' z)) x
end
section
variable {X : Cx} {scope : Scope}
theorem bG.imp {P : Prot} {tg : Expr} {o : O} {ρ : Env} {N N' : Env → Prop} (q : bG X scope P tg o ρ N) (h : ∀ ρ', N ρ' → N' ρ') : bG X scope P tg o ρ N' := fun s H C cl fp => (q s H C cl fp).imp h
theorem bT.imp {ifs : List Expr} {ρ : Env} {Kd Kd' : Bool → Env → Prop} {Ed : XC} (q : bT X scope ifs ρ Kd Ed) (h : ∀ b ρ', Kd b ρ' → Kd' b ρ') : bT X scope ifs ρ Kd' Ed := fun s H C cl fp => (q s H C cl fp).imp h
theorem bE.imp {e : Expr} {ρ : Env} {Kd Kd' : KD} {Ed : XC} (q : bE X scope e ρ Kd Ed) (h : ∀ b ρ', Kd b ρ' → Kd' b ρ') : bE X scope e ρ Kd' Ed := fun s H C cl fp => (q s H C cl fp).imp h
theorem bI.imp {tg e : Expr} {ρ : Env} {Kd Kd' : List D → Env → Prop} {Ed : XC} (q : bI X scope tg e ρ Kd Ed) (h : ∀ b ρ', Kd b ρ' → Kd' b ρ') : bI X scope tg e ρ Kd' Ed := fun s H C cl fp => (q s H C cl fp).imp h
theorem xG.imp {P : Prot} {tg : Expr} {o : O} {ρ : Env} {N N' : Env → Prop} (q : xG X scope P tg o ρ N) (h : ∀ ρ', N ρ' → N' ρ') : xG X scope P tg o ρ N' := fun s H C cl fp xe => (q s H C cl fp xe).imp h
theorem xT.imp {ifs : List Expr} {ρ : Env} {Kd Kd' : Bool → Env → Prop} {Ed : XC} (q : xT X scope ifs ρ Kd Ed) (h : ∀ b ρ', Kd b ρ' → Kd' b ρ') : xT X scope ifs ρ Kd' Ed := fun s H C cl fp xe => (q s H C cl fp xe).imp h
theorem xE.imp {e : Expr} {ρ : Env} {Kd Kd' : KD} {Ed : XC} (q : xE X scope e ρ Kd Ed) (h : ∀ b ρ', Kd b ρ' → Kd' b ρ') : xE X scope e ρ Kd' Ed := fun s H C cl fp xe V tk => (q s H C cl fp xe V tk).imp h
theorem ite_imp {b : Bool} {A B A' B' : Prop} (h1 : A → A') (h2 : B → B') (h : if b = true then A else B) : if b = true then A' else B' := itk h h1 h2
end
def lc0 (items : List D) (body : D → (D → Prop) → (Prop) → Prop) (k : List D → Prop) : Prop := ∃ I : Nat → List D → Prop, I 0 []  ∧ (∀ i d acc , items[i]? = some d → I i acc  → body d  (fun v  => acc.length < sizeLine ∧ I (i + 1) (acc ++ [v]) ) (I (i + 1) acc)) ∧ ∀ acc , I items.length acc  → k acc
def eK0 (vs : List Nat) (fam : Env) (emit : D → Prop) : KD := fun ev ρ4 => match ev with
  | .ow o => wipeD ρ4 vs = (fam) ∧ emit (frz o)
  | _ => False
theorem blc0 {X : Cx} {scope : Scope} {tg elt : Expr} {ifs : List Expr} {vs : List Nat} {ρ1 : Env} {Kd : KD} {Ex : XC} {items : List D} {b : D → (D → Prop) → (Prop) → Prop} {k : List D → Prop} (fam : Env) (h : lc0 items b k) (e0 : wipeD ρ1 vs = (fam)) (hb : ∀ d  (emit : D → Prop) (skip : Prop), b d  emit skip → bG X scope (butP vs) tg (.fz d) (fam) (fun ρ2 => bT X scope ifs ρ2 (fun b ρ3 => if b = true then bE X scope elt ρ3 (eK0 vs fam emit) Ex else wipeD ρ3 vs = (fam) ∧ skip) NoX)) (hk : ∀ acc , k acc  → Kd (.ow (ownO (.lst acc))) (backL ρ1 (fam) vs)) : LcR (bG X scope (butP vs) tg) (bT X scope ifs) (bE X scope elt) vs ρ1 Kd Ex items := by
  obtain ⟨I, i0, st, fin⟩ := h
  refine ⟨fun i acc ρ => ρ = (fam) ∧ I i acc , ⟨e0, i0⟩, fun i d acc ρ hd hI => ?_, fun acc ρ hI => ?_⟩
  · obtain ⟨rfl, hI⟩ := hI
    refine (hb d  _ _ (st i d acc  hd hI)).imp fun ρ2 q2 => q2.imp fun b ρ3 q3 => ite_imp (fun q4 => q4.imp fun ev ρ4 q5 => ?ya) (fun q4 => ?yb) q3
    case ya =>
      unfold eK0 at q5
      split at q5
      · obtain ⟨e1, l, q6⟩ := q5
        exact ⟨l, e1, q6⟩
      · exact q5.elim
    case yb =>
      obtain ⟨e1, q6⟩ := q4
      exact ⟨e1, q6⟩
  · obtain ⟨rfl, hI⟩ := hI
    exact hk acc  (fin acc  hI)
def kyK (N : Key → Env → Prop) : KD := fun ev ρ4 => match ev with
  | .ow (.fz dk) => (match keyD dk with
    | some k => N k ρ4
    | none => False)
  | _ => False
section
variable {X : Cx} {W : WX} {ρ : Env} {Kd : KD} {Ed : XC} {tg iter kx vx : Expr} {ifs : List Expr} {scope : Scope} {own : List (Str × Nat)} {vs : List Nat} {pos : Pos}
def DcR (X : Cx) (scope : Scope) (tg : Expr) (ifs : List Expr) (kx vx : Expr) (vs : List Nat) (ρ1 : Env) (Kd : KD) (items : List D) : Prop := ∃ I : Nat → List (Key × D) → Env → Prop, I 0 [] (wipeD ρ1 vs) ∧
  (∀ i d acc ρ, items[i]? = some d → I i acc ρ → bG X scope (butP vs) tg (.fz d) ρ (fun ρ2 => bT X scope ifs ρ2 (fun b ρ3 => if b = true then bE X scope kx ρ3 (kyK fun k ρ4 => bE X scope vx ρ4 (fun ev ρ5 => match ev with
        | .ow o => acc.length < sizeLine ∧ I (i + 1) (putDk acc k (frz o)) (wipeD ρ5 vs)
        | .pt _ => False
        | .tk _ _ _ _ => False) NoX) NoX else I (i + 1) acc (wipeD ρ3 vs)) NoX)) ∧
  ∀ acc ρ, I items.length acc ρ → Kd (.ow (.dc acc)) (backL ρ1 ρ vs)
end
section
variable {X : Cx} {W : WX} {P : Prot} {ρ : Env} {Kd : KD} {Ed : XC} {E : EndsD} {elt tg iter tg1 iter1 : Expr} {ifs1 : List Expr} {scope : Scope} {own : List (Str × Nat)} {vs vs1 : List Nat} {pos spos py : Pos} {i : Nat} {y : Str}
def Lc2R (X : Cx) (scope : Scope) (tg tg1 iter1 : Expr) (ifs1 : List Expr) (elt : Expr) (vs vs1 : List Nat) (ρ1 : Env) (Kd : KD) (items : List D) : Prop := ∃ I : Nat → List D → Env → Prop, I 0 [] (wipeD ρ1 vs) ∧
  (∀ i d acc ρ, items[i]? = some d → I i acc ρ → bG X scope (butP vs) tg (.fz d) ρ (fun ρ2 => bT X scope [] ρ2 (fun b ρ3 => if b = true then bI X scope tg1 iter1 ρ3 (fun items1 ρ4 => ∃ I1 : Nat → List D → Env → Prop, I1 0 acc (wipeD ρ4 vs1) ∧
      (∀ j d acc ρ, items1[j]? = some d → I1 j acc ρ → bG X scope (butP vs1) tg1 (.fz d) ρ (fun ρ5 => bT X scope ifs1 ρ5 (fun b ρ6 => if b = true then bE X scope elt ρ6 (fun ev ρ7 => match ev with
        | .ow o => acc.length < sizeLine ∧ I1 (j + 1) (acc ++ [frz o]) (wipeD ρ7 vs1)
        | .pt _ => False
        | .tk _ _ _ _ => False) NoX else I1 (j + 1) acc (wipeD ρ6 vs1)) NoX)) ∧
      ∀ acc ρ, I1 items1.length acc ρ → I (i + 1) acc (wipeD ρ vs)) NoX
    else I (i + 1) acc (wipeD ρ3 vs)) NoX)) ∧
  ∀ acc ρ, I items.length acc ρ → Kd (.ow (.ls acc)) (backL ρ1 ρ vs)
theorem Lc2R.imp {ρ1 : Env} {Kd Kd' : KD} {items : List D} (q : Lc2R X scope tg tg1 iter1 ifs1 elt vs vs1 ρ1 Kd items) (h : ∀ ev ρ, Kd ev ρ → Kd' ev ρ) : Lc2R X scope tg tg1 iter1 ifs1 elt vs vs1 ρ1 Kd' items := by
  obtain ⟨I, a, b, c⟩ := q
  exact ⟨I, a, b, fun acc ρ z => h _ _ (c acc ρ z)⟩
end
end AE
namespace AE
open PySem L2
def lsP (d : D) (R : Prop) : Prop := match d with
  | .lst _ => R
  | _ => False
def pApp (d v : D) (R : D → Prop) : Prop := match d with
  | .lst xs => xs.length < sizeLine ∧ R (.lst (xs ++ [v]))
  | _ => False
def pPopAt (d i : D) (R : D → D → Prop) : Prop := match d, i with
  | .lst xs, .int k => (-(2 ^ 63) ≤ k ∧ k < 2 ^ 63) ∧ ∃ n z, ixN xs.length k = some n ∧ xs[n]? = some z ∧ R z (.lst (xs.eraseIdx n))
  | _, _ => False
def pSet (d i v : D) (R : D → Prop) : Prop := match d with
  | .lst xs => asI i fun k => ∃ n, ixN xs.length k = some n ∧ R (.lst (xs.set n v))
  | .dic kvs => asKey i fun k => kvs.length < sizeLine ∧ R (.dic (putDk kvs k v))
  | _ => False
section
variable {X : Cx} {W : WX} {ρ : Env} {Kd : KD} {Ed : XC} {e' o a : Expr} {es : List Expr}
theorem e_bN {g : GN} (h : AE X W e' (tN (pN g) (wA X W es))) (q : wA X W es ρ (fun es1 ρ1 => pN g ρ1 es1 (zK Kd)) Ed) : wE X W e' ρ Kd Ed := wE.frz (wE.of h q)
theorem e_mtL {f : Env → List EV → KD → Prop} (h : AE X W e' (tMtL f (wE X W o) (wA X W es))) (q : wE X W o ρ (fun e1 ρ1 => isL ρ1 e1 ∧ wA X W es ρ1 (fun es1 ρ2 => f ρ2 (e1 :: es1) Kd) Ed) Ed) : wE X W e' ρ Kd Ed := wE.of h q
theorem isl {i : Nat} {d : D} {R N : Prop} (hi : ρ[i]? = some (oo d)) (h : lsP d R) (k : R → N) : isL ρ (.pt i) ∧ N := by
  refine ⟨?_, ?_⟩
  · show (match (match ρ[i]? with | some (some o) => some o | _ => none : Option O) with | some (.ls _) => True | some (.nl _) => True | some (.fz (.lst _)) => True | _ => False)
    rw [hi]
    cases d <;> first | exact trivial | exact h.elim
  · cases d <;> first | exact k h | exact h.elim
theorem app {i : Nat} {d v : D} {R : D → Prop} (hi : ρ[i]? = some (oo d)) (h : pApp d v R) (k : ∀ d', R d' → Kd (.ow (.fz .non)) (ρ.set i (oo d'))) : fApp ρ [.pt i, .ow (.fz v)] Kd := by
  cases d <;> first | exact h.elim | skip
  show (match ρ[i]? with | some (some (.ls xs)) => xs.length < sizeLine ∧ Kd (.ow (.fz .non)) (ρ.set i (some (.ls (xs ++ [frz (.fz v)])))) | _ => False)
  rw [hi]
  exact ⟨h.1, k _ h.2⟩
theorem popAt {i : Nat} {d z : D} {R : D → D → Prop} {ev : EV} (hi : ρ[i]? = some (oo d)) (v : VwE ρ ev z) (h : pPopAt d z R) (k : ∀ r d', R r d' → Kd (.ow (.fz r)) (ρ.set i (oo d'))) : fPopAt ρ [.pt i, ev] Kd := by
  cases d <;> first | exact h.elim | skip
  cases z <;> first | exact h.elim | skip
  show (match ρ[i]? with | some (some (.ls xs)) => (match dOf ρ ev with | some (.int k) => (-(2 ^ 63) ≤ k ∧ k < 2 ^ 63) ∧ ∃ n d, ixN xs.length k = some n ∧ xs[n]? = some d ∧ Kd (.ow (.fz d)) (ρ.set i (some (.ls (xs.eraseIdx n)))) | _ => False) | _ => False)
  rw [hi, v.dOf]
  obtain ⟨a, n, w, b, c, q⟩ := h
  exact ⟨a, n, w, b, c, k _ _ q⟩
end
section
variable {X : Cx} {W : WX} {P : Prot} {ρ : Env} {E : EndsD} {Ed : XC} {o i e : Expr} {N : Env → Prop} {pos : Pos}
def suK (v : O) (N : Env → Prop) (e1 : EV) : KD := fun e2 ρ2 => match e1 with
  | .pt j => (match ρ2[j]? with
    | some (some (.ls xs)) => (match dOf ρ2 e2 with
      | some (.int k) => ∃ n, ixN xs.length k = some n ∧ N (ρ2.set j (some (.ls (xs.set n (frz v)))))
      | _ => False)
    | some (some (.dc kvs)) => (match dOf ρ2 e2 with
      | some d => (match keyD d with
        | some k => kvs.length < sizeLine ∧ N (ρ2.set j (some (.dc (putDk kvs k (frz v)))))
        | none => False)
      | none => False)
    | _ => False)
  | _ => False
theorem g_sub {v : O} (hu : X.A.units + 64 < cLine) (q : wE X WF o ρ (fun e1 ρ1 => wE X WF i ρ1 (suK v N e1) NoX) NoX)
    (ha : ∀ v, assign (.Subscript o i pos) X.env v = (do
      let ov ← holding [v] (eval o X.env)
      let iv ← holding [v, ov] (eval i X.env)
      standAt pos
      holding [v, ov, iv] (setItem ov iv v)
      release [v, ov, iv] []) := by intro _; rfl) : wG X P (.Subscript o i pos) v ρ N := wG.of (ag_sub hu ewE ewE ha) q
theorem suk {j : Nat} {d z v : D} {R : D → Prop} {ev : EV} (hi : ρ[j]? = some (oo d)) (vw : VwE ρ ev z) (h : pSet d z v R) (k : ∀ d', R d' → N (ρ.set j (oo d'))) : suK (.fz v) N (.pt j) ev ρ := by
  unfold suK
  dsimp only
  rw [hi]
  cases d <;> first | exact h.elim | skip
  · show (match dOf ρ ev with | some (.int k) => ∃ n, ixN _ k = some n ∧ N (ρ.set j (some (.ls (List.set _ n (frz (.fz v)))))) | _ => False)
    rw [vw.dOf]
    cases z <;> first | exact h.elim | skip
    obtain ⟨n, a, q⟩ := h
    exact ⟨n, a, k _ q⟩
  · show (match dOf ρ ev with | some d => (match keyD d with | some k => List.length _ < sizeLine ∧ N (ρ.set j (some (.dc (putDk _ k (frz (.fz v)))))) | none => False) | none => False)
    rw [vw.dOf]
    have h : asKey z _ := h
    unfold asKey at h
    dsimp only
    split at h
    · rename_i e; try rw [e]
      exact ⟨h.1, k _ h.2⟩
    · exact h.elim
variable {x : Str} {C : Addr} {f pn : Str} {p pos2 : Pos} {k : Nat}
def raK (C : Addr) (f : Str) (Ed : XC) : KD := fun ev ρ1 => match ev with
  | .ow o => Ed ⟨.ref C, [(f, frz o)]⟩ ρ1
  | .pt _ => False
  | .tk _ _ _ _ => False
theorem s_raise1 (hc : X.calm = true) (tk : L2N.Takes X W) (h : XOne X.prog X.w X.K X.mg X.base x C f pn) (hr : Room (k + 2) X.A) (hg : Gl X x) (q : wE X W e ρ (raK C f Ed) Ed) (hs : starEach [e] X.env = (false, eval e X.env) :: starEach [] X.env := by rfl) (hdb : (x == ("__debug__" : Str)) = false := by decide) :
    wS X W P (.Raise (some (.Call (.Name x p) [e] [] pos)) none pos2) E Ed ρ := wS.of (as_raise1 hc tk h hr hg ewE hs hdb) q
def flK (K : PySem.W.Frag) (f : Str) (j : Nat) (N : Env → Prop) : KD := fun ev ρ1 => match ev with
  | .ow o => (match ρ1[j]? with
    | some (some (.ob C fs)) => FldOk K C f ∧ fs.length < 1000 ∧ N (ρ1.set j (some (.ob C (putFO f o fs))))
    | _ => False)
  | .pt _ => False
  | .tk _ _ _ _ => False
theorem s_fld {j : Nat} {pos' : Pos} (ho : PE X o (tVar j)) (q : wE X W e ρ (flK X.K f j E.nx) Ed) (hs : swapsWith e (some (.Attribute o f pos')) pos.line X.env = pure false := by rfl) : wS X W P (.Assign [.Attribute o f pos'] e pos) E Ed ρ := wS.of (as_fld ho ewE hs) q
theorem flk {K : PySem.W.Frag} {j : Nat} {fs : List (Str × O)} {v : O} (hF : FldOk K C f) (hi : ρ[j]? = some (some (.ob C fs))) (hl : fs.length < 1000) (q : N (ρ.set j (some (.ob C (putFO f v fs))))) : flK K f j N (.ow v) ρ := by
  unfold flK
  dsimp only
  rw [hi]
  exact ⟨hF, hl, q⟩
end
section
variable {X : Cx} {W : WX} {ρ ρ' : Env} {Kd : KD} {Kb : Bool → Env → Prop} {Ed : XC} {e : Expr}
theorem e_j {b : (D → Prop) → Prop} {R : D → Prop} (h : jn b R) (hk : ∀ r, R r → Kd (.ow (.fz r)) ρ') (q : b R → (∀ r, R r → Kd (.ow (.fz r)) ρ') → wE X W e ρ Kd Ed) : wE X W e ρ Kd Ed := q h hk
theorem e_j1 {b : (D → D → Prop) → Prop} {R : D → D → Prop} (fam : D → Env) (h : jn2 b R) (hk : ∀ r x, R r x → Kd (.ow (.fz r)) (fam x)) (q : b R → (∀ r x, R r x → Kd (.ow (.fz r)) (fam x)) → wE X W e ρ Kd Ed) : wE X W e ρ Kd Ed := q h hk
theorem t_j {b : (Bool → Prop) → Prop} {R : Bool → Prop} (h : jn b R) (hk : ∀ r, R r → Kb r ρ') (q : b R → (∀ r, R r → Kb r ρ') → wT X W e ρ Kb Ed) : wT X W e ρ Kb Ed := q h hk
end
def jS1 (b : (D → Prop) → Prop) (k : D → Prop) : Prop := b k
theorem b_j1 {X : Cx} {W : WX} {P : Prot} {ρ : Env} {E : EndsD} {Ed : XC} {st : Stmt} {rest : List Stmt} {b : (D → Prop) → Prop} {R : D → Prop} (fam : D → Env) (h : jS1 b R) (hk : ∀ x0, R x0 → wB X W P rest E Ed (fam x0)) (q : b R → (∀ x0 (ρ' : Env), Le ρ' (fam x0) → R x0 → wB X W P rest E Ed ρ') → wS X W P st { E with nx := fun ρ1 => wB X W P rest E Ed ρ1 } Ed ρ) : wB X W P (st :: rest) E Ed ρ := b_cons (q h fun x0 ρ' l z => wB.drop l (hk x0 z))
end AE
namespace AE
open PySem L2
theorem zown {Kd : KD} {r : D} {ρ : Env} (q : Kd (.ow (.fz r)) ρ) : zK Kd (.ow (ownO r)) ρ := by
  show Kd (.ow (.fz (frz (ownO r)))) ρ
  rw [frz_own]
  exact q
theorem wB.frzo {X : Cx} {W : WX} {P : Prot} {ss : List Stmt} {ρ : Env} {i : Nat} {t : D} {E : EndsD} {Ed : XC} (hi : ρ[i]? = some (oo t)) (q : wB X W P ss E Ed (ρ.set i (zz t))) : wB X W P ss E Ed ρ := wB.frz hi (by rw [frz_own]; exact q)
theorem asT2.el {d : D} {k : D → D → Prop} {G : Prop} (h : asT2 d k) (f : ∀ a b, d = .tup [a, b] → k a b → G) : G := let ⟨a, b, e, q⟩ := h.get; f a b e q
theorem asT3.el {d : D} {k : D → D → D → Prop} {G : Prop} (h : asT3 d k) (f : ∀ a b c, d = .tup [a, b, c] → k a b c → G) : G := let ⟨a, b, c, e, q⟩ := h.get; f a b c e q
theorem asT4.el {d : D} {k : D → D → D → D → Prop} {G : Prop} (h : asT4 d k) (f : ∀ a b c e, d = .tup [a, b, c, e] → k a b c e → G) : G := let ⟨a, b, c, e, w, q⟩ := h.get; f a b c e w q
def leftOk (P : Prot) : Nat → List O → Env → Bool
  | _, [], _ => true
  | i, _ :: os, ρ => (!P i || (match ρ with | some _ :: _ => true | _ => false)) && leftOk P (i + 1) os ρ.tail
theorem leftD_le {P : Prot} : ∀ {os : List O} {i : Nat} {ρ ρ' : Env}, Le ρ ρ' → leftOk P i os ρ' = true → leftD P i os ρ = leftD P i os ρ'
  | [], i, ρ, ρ', l, h => rfl
  | o :: os, i, _, _, .nil, h => rfl
  | o :: os, i, _, _, .same l, h => by
    simp only [leftOk, Bool.and_eq_true] at h
    have z := leftD_le (os := os) (i := i + 1) l h.2
    unfold leftD
    simp only [List.tail_cons]
    rw [z]
  | o :: os, i, _, _, .drop l, h => by
    simp only [leftOk, Bool.and_eq_true, Bool.or_false, Bool.not_eq_true'] at h
    have z := leftD_le (os := os) (i := i + 1) l h.2
    unfold leftD
    simp only [List.tail_cons]
    rw [z, h.1]
    rfl
end AE
namespace AE
open PySem L2
def tyS : D → Option String
  | .non => some "NoneType"
  | .bl _ => some "bool"
  | .int _ => some "int"
  | .str _ => some "str"
  | .lst _ => some "list"
  | .tup _ => some "tuple"
  | .dic _ => some "dict"
  | _ => none
def isT (T : String) (d : D) (R : D → Prop) : Prop := match tyS d with
  | some n => R (.bl (n == T || (n == "bool" && T == "int")))
  | none => False
structure IsTy (K : PySem.W.Frag) (T : String) : Prop where
  ty : ∀ n ∈ tyNames, PySem.W.kitOne K (.type n) (.type T) = some (n == T || (n == "bool" && T == "int"))
structure IsOw (K : PySem.W.Frag) (cn : Str → Addr) (owns : List Str) (c0 : Str) : Prop where
  ty : ∀ n ∈ tyNames, PySem.W.kitOne K (.type n) (.ref (cn c0)) = some false
  ow : ∀ c ∈ owns, InsIs K (cn c) ∧ PySem.W.kitOne K (.ref (cn c)) (.ref (cn c0)) = some (c == c0)
theorem tyS_ok {K : PySem.W.Frag} {d : D} {n : String} (h : tyS d = some n) : tyD K d (.type n) ∧ n ∈ tyNames := by
  cases d <;> first | (cases h; exact ⟨rfl, by decide⟩) | cases h
section
variable {ρ : Env} {Kd : KD} {K : PySem.W.Frag}
theorem isTk {T : String} {x : D} {R : D → Prop} {e1 : EV} (f : IsTy K T) (v1 : VwE ρ e1 x) (h : isT T x R) (k : ∀ z, R z → Kd (.ow (.fz z)) ρ) : pN (gIsi K) ρ [e1, .ow (.fz (.ty T))] (zK Kd) := by
  have v : VwEs ρ [e1, .ow (.fz (.ty T))] [x, .ty T] := .cons v1 (.cons .z .nil)
  show (match dsOf ρ [e1, .ow (.fz (.ty T))] with | some ds => gIsi K ds (fun o => relP ρ (zK Kd (.ow o)) [e1, .ow (.fz (.ty T))]) | none => False)
  rw [v.dsOf]
  dsimp only
  unfold isT at h
  split at h
  · rename_i n e
    obtain ⟨a, b⟩ := tyS_ok (K := K) e
    exact ⟨.type n, .type T, _, a, rfl, f.ty n b, by dsimp only; rw [v.rel]; exact k _ h⟩
  · exact h.elim
end
def hx (cn : Str → Addr) (exs : List Str) (c : Str) (x : XD) (yes no : Prop) : Prop := ∃ n, n ∈ exs ∧ x.cls = .ref (cn n) ∧ if subX n c = true then yes else no
structure ExM (K : PySem.W.Frag) (cn : Str → Addr) (exs : List Str) (c : Str) (u : Value) : Prop where
  ok : ∀ n ∈ exs, PySem.W.exmOne K (.ref (cn n)) u = some (subX n c)
theorem Le.set : ∀ {ρ ρ' : Env} {i : Nat} {x : Option O}, Le ρ ρ' → Le (ρ.set i x) (ρ'.set i x)
  | _, _, i, x, .nil => .nil
  | _, _, 0, x, .same l => .same l
  | _, _, i + 1, x, .same l => .same (Le.set l)
  | _, _, 0, x, .drop l => .same l
  | _, _, i + 1, x, .drop l => .drop (Le.set l)
section
variable {X : Cx} {W : WX} {P : Prot} {ρ : Env} {E : EndsD} {Ed : XC} {body : List Stmt} {pos : Pos}
def suT (X : Cx) (P : Prot) (ss : List Stmt) (a : Addr) (cls : Value) (d : Option Addr) : TSD := fun E Ed ρ => ∀ (oe : Obj) (pn : List (Addr × Obj)), L2N.Zn cls d oe → (∃ vs, oe.data = .fields vs) → wB (X.suite a ((a, oe) :: pn)) WF P ss E Ed ρ
theorem suT.of {ss : List Stmt} (a : Addr) (oe : Obj) (cls : Value) (d : Option Addr) (pn : List (Addr × Obj)) (hz : L2N.Zn cls d oe) (hf : ∃ vs, oe.data = .fields vs) : ASs (X.suite a ((a, oe) :: pn)) WF P ss (suT X P ss a cls d) := PSs.imp ewB fun D σ H ⟨HF, ρ, A, E, Ed, w, en, t, k, x⟩ => ⟨HF, ρ, A, E, Ed, w, en, t oe pn hz hf, k, x⟩
def trT (X : Cx) (P : Prot) (ss : List Stmt) : TSD := fun E Ed ρ => ∀ (W' : WX) (pn : List (Addr × Obj)) (xe : Value → Shared → Prop), L2N.Takes (X.tr pn xe) W' → PassesOwn (model X.prog X.w) X.A X.env xe → wB (X.tr pn xe) W' P ss E Ed ρ
theorem trT.of {ss : List Stmt} (W' : WX) (pn : List (Addr × Obj)) (xe : Value → Shared → Prop) (tk : L2N.Takes (X.tr pn xe) W') (hp : PassesOwn (model X.prog X.w) X.A X.env xe) : ASs (X.tr pn xe) W' P ss (trT X P ss) := PSs.imp ewB fun D σ H ⟨HF, ρ, A, E, Ed, w, en, t, k, x⟩ => ⟨HF, ρ, A, E, Ed, w, en, t W' pn xe tk hp, k, x⟩
inductive Cls' (X : Cx) (P : Prot) : List ExceptHandler → List ClD → Prop
  | nil : Cls' X P [] []
  | cons {x n : Str} {c : Value} {i : Nat} {b₀ : Stmt} {su : List Stmt} {np pos : Pos} {hs : List ExceptHandler} {l : List ClD} (hx : Names X x c) (hi : X.N[i]? = some n) (hl : X.env.kindOf n = some .local) (hp : P i = false) (r : Cls' X P hs l) :
      Cls' X P (.ExceptHandler (some (.Name x np)) (some n) (b₀ :: su) pos :: hs) (⟨c, true, i, suT X P (b₀ :: su)⟩ :: l)
  | only {x : Str} {c : Value} {b₀ : Stmt} {su : List Stmt} {np pos : Pos} {hs : List ExceptHandler} {l : List ClD} (hx : Names X x c) (r : Cls' X P hs l) :
      Cls' X P (.ExceptHandler (some (.Name x np)) none (b₀ :: su) pos :: hs) (⟨c, false, 0, suT X P (b₀ :: su)⟩ :: l)
theorem Cls'.ac : ∀ {hs : List ExceptHandler} {l : List ClD}, Cls' X P hs l → AcOk X P hs l
  | _, _, .nil => .nil
  | _, _, .cons hx hi hl hp r => .cons rfl hx hi hl hp suT.of r.ac
  | _, _, .only hx r => .only rfl hx suT.of r.ac
def tryJ (EX : XD → Prop) (b : (XD → Prop) → Prop) : Prop := b EX
theorem s_try {h₀ : ExceptHandler} {hds : List ExceptHandler} {l : List ClD} {EX : XD → Prop} {b : (XD → Prop) → Prop} (h : tryJ EX b) (famX : Env) (hs : X.stack = X.env :: X.outer) (hf : X.env.frame = some X.env.locals) (hN : X.N.Nodup) (tk : L2N.Takes X W) (ok : Cls' X P (h₀ :: hds) l)
    (hX : ∀ x ρ, Le ρ famX → EX x → wClD X.K E Ed l x ρ)
    (q : b EX → (∀ x ρ, Le ρ famX → EX x → wClD X.K E Ed l x ρ) → ∀ (W' : WX) (pn : List (Addr × Obj)) (xe : Value → Shared → Prop), L2N.Takes (X.tr pn xe) W' → PassesOwn (model X.prog X.w) X.A X.env xe → wB (X.tr pn xe) W' P body E (wClD X.K E Ed l) ρ) : wS X W P (.Try body (h₀ :: hds) [] [] pos) E Ed ρ :=
  wS.of (as_try hs hf hN tk trT.of ok.ac) (q h hX)
theorem hEle {Ed : XD → Env → Prop} {P : Prot} {x : XD} {os : List O} {ρ ρ' : Env} (l : Le ρ ρ') (hs : leftOk P 0 os ρ' = true) (q : Ed x (leftD P 0 os ρ')) : Ed x (leftD P 0 os ρ) := by rw [leftD_le l hs]; exact q
theorem cl_as {cn : Str → Addr} {exs : List Str} {c : Str} {u : Value} {i : Nat} {ss : List Stmt} {l : List ClD} {x : XD} {yes no : Prop} {famX : Env} {ρ : Env} (m : ExM X.K cn exs c u) (h : hx cn exs c x yes no) (hi : i < famX.length) (le : Le ρ famX)
    (hy : yes → ∀ a d (oe : Obj) (pn : List (Addr × Obj)), L2N.Zn x.cls d oe → (∃ vs, oe.data = .fields vs) → wB (X.suite a ((a, oe) :: pn)) WF P ss (endsD true i E) NoX (famX.set i (zz (.exc a x.cls d x.fs)))) (hn : no → wClD X.K E Ed l x ρ) : wClD X.K E Ed (⟨u, true, i, suT X P ss⟩ :: l) x ρ := by
  obtain ⟨n, hm, e, q⟩ := h
  refine ⟨subX n c, by rw [e]; exact m.ok n hm, fun hb => ⟨fun _ => by rw [le.length]; exact hi, fun a d => ?_⟩, fun hb => hn ?_⟩
  · rw [hb] at q
    exact fun oe pn hz hf => wB.drop (Le.set le) (hy q a d oe pn hz hf)
  · rw [hb] at q; exact q
def xFld (C : Addr) (f : Str) (x : XD) (R : D → Prop) : Prop := x.cls = .ref C ∧ ∃ v, x.fs.lookup f = some v ∧ R v
theorem e_xf {a C : Addr} {oe : Obj} {x : XD} {d : Option Addr} {pn : List (Addr × Obj)} {e : Expr} {f : Str} {W' : WX} {Kd : KD} {Ed : XC} {R : D → Prop} {i : Nat} (T : XfD X.K C f) (hz : L2N.Zn x.cls d oe) (hf : ∃ vs, oe.data = .fields vs) (hv : PE (X.suite a ((a, oe) :: pn)) e (tVar i)) (hi : ρ[i]? = some (zz (.exc a x.cls d x.fs))) (h : xFld C f x R) (k : ∀ v, R v → Kd (.ow (.fz v)) ρ)
    (hb : attributeBase e f X.env (eval e X.env) = eval e X.env := by rfl) : wE (X.suite a ((a, oe) :: pn)) W' (.Attribute e f pos) ρ Kd Ed := by
  refine wE.of (ae_xf T hz hf ewE hb) (e_name hv hi ?_)
  obtain ⟨e1, v, hv, q⟩ := h
  exact ⟨rfl, e1, rfl, v, hv, k _ q⟩
def isX (cn : Str → Addr) (exs : List Str) (c : Str) (x : XD) (R : D → Prop) : Prop := ∃ n, n ∈ exs ∧ x.cls = .ref (cn n) ∧ R (.bl (subX n c))
end
structure OwO (P : Program) (w : World) (K : PySem.W.Frag) (mg : Str → Option Value) (base : Heap) (lv : Nat) (C : Addr) (m : Str) (n : Nat) (F : AFn) : Prop where
  ex : ∃ f fd ps, PySem.W.findIn K (.ref C) m = some (some (.ref f)) ∧ PySem.W.isFn K (.ref f) = true ∧ Binds K fd ps [] ∧ ps.length = n ∧ FnOk P w K mg base (L2N.CX P w) lv f fd ps (spA K ps.length F)
  len : ∀ os Kd Ed, F os Kd Ed → os.length = n
section
variable {X : Cx} {W : WX} {ρ : Env} {Kd : KD} {Kb : Bool → Env → Prop} {Ed : XC} {lv : Nat} {C : Addr} {F : AFn} {a b : Expr} {pos : Pos} {op : CmpOp} {m : Str}
def rLenO (K : PySem.W.Frag) (C : Addr) (F : AFn) : List V → Hp → VK → Prop := fun xs H Q => ∃ b dy gs, xs = [.ref b] ∧ H b = some (.ins C dy gs) ∧ spA K 1 F [.ref b] H (fun v H' => ∃ z : Int, v = .int z ∧ (0 ≤ z ∧ z < 2 ^ 63) ∧ Q (.int z) H') (fun _ _ _ => False)
theorem call_lenO (M : OwO X.prog X.w X.K X.mg X.base lv C "__len__" 1 F) (hr : Room (lv + 1) X.A) : CallR X (.builtin "len") (rLenO X.K C F) := by
  intro pins s σ H xs us Q I r h
  obtain ⟨b, dy, gs, rfl, hb', hsp⟩ := h
  obtain ⟨f, fd, ps, hs, hf, hb, hl2, G⟩ := M.ex
  rw [← hl2] at hsp
  obtain ⟨u, rfl, ru⟩ := vals1 r
  cases ru
  obtain ⟨mB, J', _⟩ := ins_get I.hok hb'
  obtain ⟨od', J', _⟩ := J'.look
  obtain ⟨m', hF⟩ := I.fr
  refine PySem.W.len_K hF I.ok.mod.kin J' hs hf ?_
  refine wpAny_call (codeAny_mono (G.run X.A.in1 X.stack s H ⟨[.ref b], []⟩ [.ref b] [.ref b] _ (fun _ _ _ => False) hr.in1 I.env0.in1 (hb s [.ref b] I.kIn (by rw [hl2]; rfl)) (.cons rfl .nil) hsp) fun r s' hq => ?_)
  cases r with
  | error e => exact passE0N pins σ _ _ e s' I hq
  | ok fl =>
    cases fl with
    | ret u =>
      obtain ⟨v, H', I', rv, z, rfl, hz, q⟩ := I.after hq
      obtain ⟨t, rfl⟩ := rv
      exact ⟨hz, .int z, H', I'.tok _, ⟨_, rfl⟩, q⟩
    | next => exact False.elim hq
    | brk => exact False.elim hq
    | cont => exact False.elim hq
end
end AE
namespace AE
open PySem L2
def argL {α : Type} (ix : List Nat) (us ws its : List α) : List α := us ++ selI ix (ws ++ its)
theorem Vals.argL {ix : List Nat} {vs zs ds : List V} {us ws its : List Value} (a : Vals vs us) (b : Vals zs ws) (c : Vals ds its) : Vals (AE.argL ix vs zs ds) (AE.argL ix us ws its) := a.append (Vals.selI (b.append c) ix)
theorem Reps.argL {K : PySem.W.Frag} {H : Hp} {ix : List Nat} {as bs cs : List D} {us ws its : List V} (a : Reps K H as us) (b : Reps K H bs ws) (c : Reps K H cs its) : Reps K H (AE.argL ix as bs cs) (AE.argL ix us ws its) := a.append (Reps.selI (b.append c) ix)
structure Bd (K : PySem.W.Frag) (fd : FuncData) (ps : List Str) (n : Nat) (ks : List Str) (ix : List Nat) (dfl : List D) : Prop where
  ex : ∃ (its : List Value) (dvs : List V), KBn K fd ps n ks (fun us ws => argL ix us ws its) (fun vs zs => argL ix vs zs dvs) ∧ ∀ H, Reps K H dfl dvs
section
variable {K : PySem.W.Frag} {x qual : Str} {params : Arguments} {body : List Stmt} {scope : Scope} {dvs : List V} {kws : List (Str × V)} {f : Addr} {fd : FuncData} {ps ks : List Str} {n : Nat} {ix : List Nat} {dfl : List D}
theorem Bd.of0 (F : FunD K x qual params body scope [] kws f fd)
    (h : ∀ (kV doc pm : Value) (an : Option Addr) (cdv ct : Value) (us ws : List Value), us.length = n → ws.length = ks.length → bindArgs (PySem.W.fnOf x qual params body scope .none kV doc pm an cdv ct) ⟨us, ks.zip ws⟩ = pure (ps.zip (argL ix us ws []))) : Bd K fd ps n ks ix [] := by
  obtain ⟨oc, od, dV, kV, doc, pm, an, cdv, ct, osl, rfl, lk, hcd, hD, hK⟩ := F.ex
  rcases hD with ⟨_, rfl⟩ | ⟨e, _⟩
  · exact ⟨[], [], ⟨fun s us ws _ h1 h2 => .of_eq (h kV doc pm an cdv ct us ws h1 h2), fun r1 r2 => Vals.argL r1 r2 .nil⟩, fun H => rfl⟩
  · exact absurd rfl e
end
section
variable {X : Cx} {CX : CXT} {k n : Nat} {f C : Addr} {fd : FuncData} {ps ks : List Str} {sp : Sp} {E : St → XK} {x : Str} {p pos : Pos} {e : Expr} {es : List Expr} {kws : List Keyword} {t tk : TA} {g : List Value → List Value → List Value} {gV : List V → List V → List V}
theorem makeNS {pins : List (Addr × Obj)} {σ : St} {H : Hp} {s : Shared} {Q : VK} {us ws : List Value} {vs zs : List V} (M : Mk X.K C f) (F : FnOk X.prog X.w X.K X.mg X.base CX k f fd ps sp) (hr : Room (k + 1) X.A) (hb : KBn X.K fd ps (n + 1) ks g gV)
    (hx : PassesAt CX X σ (E σ)) (I : Inv X pins σ H s) (r : Vals vs us) (rz : Vals zs ws) (l1 : vs.length = n) (l2 : zs.length = ks.length)
    (h : ∀ x dx, H x = none → H dx = none → dx ≠ x → sp (gV (.ref x :: vs) zs) (upd (upd H dx (.own x)) x (.ins C dx [])) (fun v H2 => v = .non ∧ Q (.ref x) H2) (E σ)) :
    wpAny (model X.prog X.w) X.A (call (.ref C) us (ks.zip ws)) (EP X pins σ Q) X.xe s := by
  have hq := h (s.heap.objs.size + 1) s.heap.objs.size (I.hok.fresh (Nat.le_succ _)) (I.hok.fresh (Nat.le_refl _)) (Nat.ne_of_lt (Nat.lt_succ_self _))
  have I2 := Inv.made (C := C) I
  have r1 : Vals (V.ref (s.heap.objs.size + 1) :: vs) (Value.ref (s.heap.objs.size + 1) :: us) := .cons rfl r
  have r2 := hb.rel r1 rz
  have e1 : (Value.ref (s.heap.objs.size + 1) :: us).length = n + 1 := r1.length.symm.trans (congrArg Nat.succ l1)
  have e2 : ws.length = ks.length := rz.length.symm.trans l2
  refine wpAny_call (make_map (f := f) I.kIn M.makes M.init (beq_iff_eq.mp M.fn) (codeAny_mono (F.run _ X.stack _ _ ⟨Value.ref (s.heap.objs.size + 1) :: us, ks.zip ws⟩ (g (Value.ref (s.heap.objs.size + 1) :: us) ws) _ _ (E σ) (hr.make C us (ks.zip ws))
    (I2.env0.make C us (ks.zip ws)) (hb.to _ (Value.ref (s.heap.objs.size + 1) :: us) ws I2.kIn e1 e2) r2 hq) fun r s' hq' => ?_))
  cases r with
  | error e => exact hx pins _ _ e s' I2 hq'
  | ok fl =>
    cases fl with
    | ret u =>
      obtain ⟨v, H', I3, rv, ev, q3⟩ := I2.after hq'
      subst ev
      exact ⟨rv, ⟨V.ref (s.heap.objs.size + 1), H', I3, rfl, q3⟩⟩
    | next => exact False.elim hq'
    | brk => exact False.elim hq'
    | cont => exact False.elim hq'
end
def mkwK (C : Addr) (F : AFn) (n : Nat) (ks : List Str) (ix : List Nat) (dfl : List D) (evs : List EV) (Kd : KD) (Ed : XC) (evs2 : List EV) (ρ : Env) : Prop := ∃ ds zs, Sto evs ds ∧ Sto evs2 zs ∧ ds.length = n ∧ zs.length = ks.length ∧ F (.ob C [] :: (argL ix ds zs dfl).map O.fz) (fun r ρx => match r, ρx with
    | .fz .non, some o :: _ => Kd (.ow o) ρ
    | _, _ => False) (fun x _ => Ed x ρ)
section
variable {K : PySem.W.Frag} {σ : St} {HF1 H1 : Hp} {ρ1 : Env} {A1 Av : List Addr} {Kd : KD} {Ed : XC} {Q : VK} {E : XK} {F : AFn} {n : Nat}
theorem make_spZ {C : Addr} {evs : List EV} {vs vs' : List V} {ds ds' : List D} (hF : ∀ os Kd Ed, F os Kd Ed → os.length = n) (w1 : WR HF1 H1 (A1 ++ Av)) (en1 : EnvR K HF1 H1 ρ1 σ A1) (r1 : EVRs K HF1 H1 σ evs vs Av) (e : storedD evs = some ds)
    (hsel : ∀ HG, Reps K HG ds vs → Reps K HG ds' vs') (h : F (.ob C [] :: ds'.map O.fz) (fun r ρx => match r, ρx with
    | .fz .non, some o :: _ => Kd (.ow o) ρ1
    | _, _ => False) (fun x _ => Ed x ρ1))
    (k : KOk K σ H1 HF1 (A1 ++ Av) Kd Q) (x : XOk K σ H1 HF1 (A1 ++ Av) Ed (fun c d _ H => E c d H)) :
    ∀ y dy, H1 y = none → H1 dy = none → dy ≠ y → spA K n F (.ref y :: vs') (upd (upd H1 dy (.own y)) y (.ins C dy [])) (fun v H2 => v = .non ∧ Q (.ref y) H2) E := by
  intro y dy hy hdy hne
  obtain ⟨s1, w2, f2⟩ := grow_ok (w1.perm List.perm_append_comm)
  have rs : Reps K (grow HF1 H1 Av) ds vs := stored_ok s1 r1 e fun p hp => grow_in hp
  have rs' := hsel _ rs
  have f3 : Fr H1 H1 HF1 (grow HF1 H1 Av) (A1 ++ Av) A1 := f2.mono (fun p hp => (List.mem_append.mp hp).elim (fun z => List.mem_append_right _ z) (fun z => List.mem_append_left _ z)) fun p hp => .inl hp
  have en2 := EnvR.keep (H' := H1) s1 _ en1 fun _ _ => rfl
  have tA1 := EnvR.there _ en2
  have sN : Same H1 (upd (upd H1 dy (.own y)) y (.ins C dy [])) := (Same.new hdy).trans (Same.new (by rw [upd_ne (Ne.symm hne)]; exact hy))
  have kp : ∀ p o, H1 p = some o → upd (upd H1 dy (.own y)) y (.ins C dy []) p = some o := fun p o e => sN p o e
  have ny : y ∉ A1 := fun z => by obtain ⟨o, ho⟩ := tA1 y z; rw [hy] at ho; cases ho
  have wB : WR (grow HF1 H1 Av) (upd (upd H1 dy (.own y)) y (.ins C dy [])) [y] := ⟨w2.same.trans sN, List.nodup_cons.mpr ⟨by simp, List.nodup_nil⟩, fun a ha => by rw [List.mem_singleton.mp ha]; exact w2.same.free hy⟩
  have ex : EnvR K (grow HF1 H1 Av) (upd (upd H1 dy (.own y)) y (.ins C dy [])) (ros (.ob C [] :: ds'.map O.fz)) (svs (.ref y :: vs')) [y] := ⟨.ref y, svs vs', [y], [], rfl, rfl, ⟨y, dy, [], [], rfl, rfl, upd_same, rfl, rfl⟩, envR_pure rs'⟩
  have hn : (V.ref y :: vs').length = n := by
    have := hF _ _ _ h
    simp at this ⊢
    rw [rs'.length]; exact this
  have base : Fr H1 (upd (upd H1 dy (.own y)) y (.ins C dy [])) HF1 (grow HF1 H1 Av) (A1 ++ Av) (A1 ++ [y]) := f3.trans ⟨.refl _, fun p o e _ => kp p o e, fun _ _ _ _ h => h, fun p hp => by
    rcases List.mem_append.mp hp with z | z
    · exact .inl z
    · rw [List.mem_singleton.mp z]; exact .inr hy⟩
  have back : ∀ {HF' H' : Hp} {A' : List Addr}, Fr (upd (upd H1 dy (.own y)) y (.ins C dy [])) H' (grow HF1 H1 Av) HF' [y] A' → (∀ p ∈ A1, H' p = H1 p) ∧ (∀ p ∈ A1, HF' p = none) ∧ (∀ p ∈ A1, p ∉ A') := fun {HF' H' A'} f => by
    have tt : ∀ p ∈ A1, ∃ o, upd (upd H1 dy (.own y)) y (.ins C dy []) p = some o := fun p hp => by obtain ⟨o, ho⟩ := tA1 p hp; exact ⟨o, kp p o ho⟩
    obtain ⟨k1, k2, k3⟩ := f.frame tt fun p hp z => ny ((List.mem_singleton.mp z) ▸ hp)
    refine ⟨fun p hp => ?_, fun p hp => k2 p hp (w2.out p hp), k3⟩
    obtain ⟨o, ho⟩ := tA1 p hp
    rw [k1 p hp, kp p o ho, ho]
  refine ⟨grow HF1 H1 Av, .ob C [] :: ds'.map O.fz, [y], _, _, hn, wB, ex, h, fun o ρx q HF' H' A' v Av' f w' en' ro => ?_, fun xd ρx q HF' H' A' cls d f w' en' rx => ?_⟩
  · split at q
    · rename_i o1 ρy
      obtain ⟨v1, r1', B1, B2, e3, rfl, ro1, en4⟩ := en'
      have e3 : some (V.ref y) :: svs vs' = some v1 :: r1' := e3
      injection e3 with e4 e5
      injection e4 with e4
      subst e4 e5
      obtain ⟨rfl, rfl⟩ := ro
      rw [List.append_nil] at f w'
      refine ⟨rfl, ?_⟩
      obtain ⟨k1, k2, k3⟩ := back f
      have k3' : ∀ p ∈ A1, p ∉ B1 := fun p hp z => k3 p hp (List.mem_append_left _ z)
      refine k _ _ q HF' H' A1 (.ref y) B1 ?_ ⟨w'.same, List.nodup_append.mpr ⟨w2.nodup, w'.left.nodup, fun a ha b hb e => k3' a ha (e ▸ hb)⟩, fun a ha => (List.mem_append.mp ha).elim (k2 a) (fun z => w'.out a (List.mem_append_left _ z))⟩ (EnvR.keep f.same _ en2 k1) ro1
      refine base.trans (f.mono (fun p hp => List.mem_append_right _ hp) fun p hp => ?_)
      rcases List.mem_append.mp hp with z | z
      · exact .inr (List.mem_append_left _ z)
      · exact .inl (List.mem_append_left _ z)
    · exact q.elim
  · obtain ⟨k1, k2, k3⟩ := back f
    refine x xd _ q HF' H' A1 cls d (base.trans (f.mono (fun p hp => List.mem_append_right _ hp) fun p hp => .inr (List.mem_append_left _ hp))) ⟨w'.same, w2.nodup, fun a ha => k2 a ha⟩ (EnvR.keep f.same _ en2 k1) rx
end
section
variable {X : Cx} {W : WX} {ρ : Env} {Kd : KD} {Ed : XC} {lv : Nat} {x : Str} {C : Addr} {m : Str} {ps ks : List Str} {F : AFn} {p pos apos : Pos} {o e : Expr} {es : List Expr} {kws : List Keyword} {n : Nat} {ix : List Nat} {dfl : List D}
structure CalB (P : Program) (w : World) (K : PySem.W.Frag) (mg : Str → Option Value) (base : Heap) (lv : Nat) (x : Str) (ps : List Str) (F : AFn) (n : Nat) (ks : List Str) (ix : List Nat) (dfl : List D) : Prop where
  ex : ∃ f fd, mg x = some (.ref f) ∧ PySem.W.keepIn K (.ref f) = true ∧ Bd K fd ps n ks ix dfl ∧ FnOk P w K mg base (L2N.CX P w) lv f fd ps (spA K ps.length F)
  len : ∀ os Kd Ed, F os Kd Ed → os.length = ps.length
structure MakB (P : Program) (w : World) (K : PySem.W.Frag) (mg : Str → Option Value) (base : Heap) (lv : Nat) (x : Str) (C : Addr) (ps : List Str) (F : AFn) (n : Nat) (ks : List Str) (ix : List Nat) (dfl : List D) : Prop where
  mgC : mg x = some (.ref C)
  ex : ∃ f fd, Mk K C f ∧ Bd K fd ps (n + 1) ks ix dfl ∧ FnOk P w K mg base (L2N.CX P w) lv f fd ps (spA K ps.length F)
  len : ∀ os Kd Ed, F os Kd Ed → os.length = ps.length
theorem sto_append : ∀ {es es' : List EV} {ds ds' : List D}, Sto es ds → Sto es' ds' → Sto (es ++ es') (ds ++ ds')
  | [], es', ds, ds', h, h' => by cases h; exact h'
  | .ow o :: es, es', ds, ds', h, h' => by
    have h : (match storedD es with | some ds => some (frz o :: ds) | none => none) = some ds := h
    split at h
    · rename_i ds2 e
      cases h
      have z : storedD (es ++ es') = some (ds2 ++ ds') := sto_append (show Sto es ds2 from e) h'
      show (match storedD (es ++ es') with | some ds => some (frz o :: ds) | none => none) = _
      rw [z]; rfl
    · cases h
  | .pt _ :: es, es', ds, ds', h, h' => by cases h
  | .tk _ _ _ _ :: es, es', ds, ds', h, h' => by cases h
theorem Reps.split {K : PySem.W.Frag} {H : Hp} : ∀ {ds ds' : List D} {vs zs : List V}, Reps K H (ds ++ ds') (vs ++ zs) → vs.length = ds.length → Reps K H ds vs ∧ Reps K H ds' zs
  | [], ds', [], zs, h, l => ⟨rfl, h⟩
  | [], ds', v :: vs, zs, h, l => by cases l
  | d :: ds, ds', [], zs, h, l => by cases l
  | d :: ds, ds', v :: vs, zs, h, l => by
    obtain ⟨v', ws, e, r, t⟩ := h
    have e : v :: (vs ++ zs) = v' :: ws := e
    injection e with e1 e2
    subst e1 e2
    obtain ⟨a, b⟩ := Reps.split t (by simpa using l)
    exact ⟨⟨v, vs, rfl, r, a⟩, b⟩
theorem sto_len : ∀ {es : List EV} {ds : List D}, Sto es ds → es.length = ds.length
  | [], ds, h => by cases h; rfl
  | .ow o :: es, ds, h => by
    have h : (match storedD es with | some ds => some (frz o :: ds) | none => none) = some ds := h
    split at h
    · rename_i ds2 e
      cases h
      simp [sto_len (show Sto es ds2 from e)]
    · cases h
  | .pt _ :: es, ds, h => by cases h
  | .tk _ _ _ _ :: es, ds, h => by cases h
theorem mkw_sp {HF H : Hp} {A Av : List Addr} {σ : St} {dvs : List V} {evs evs2 : List EV} {vs zs : List V} {Q : VK} (hF : ∀ os Kd Ed, F os Kd Ed → os.length = ps.length) (hd : ∀ H, Reps X.K H dfl dvs) (t : mkwK C F n ks ix dfl evs Kd Ed evs2 ρ) (w : WR HF H (A ++ Av)) (en : EnvR X.K HF H ρ σ A) (r : EVRs X.K HF H σ (evs ++ evs2) (vs ++ zs) Av) (hl : vs.length = evs.length)
    (k : KOk X.K σ H HF (A ++ Av) Kd Q) (x : XOk X.K σ H HF (A ++ Av) Ed W) : vs.length = n ∧ zs.length = ks.length ∧ ∀ y dy, H y = none → H dy = none → dy ≠ y → spA X.K ps.length F (argL ix (.ref y :: vs) zs dvs) (upd (upd H dy (.own y)) y (.ins C dy [])) (fun v H2 => v = .non ∧ Q (.ref y) H2) (WE W σ) := by
  obtain ⟨ds, zd, s1, s2, l1, l2, q⟩ := t
  have sA := sto_append s1 s2
  have hlv : vs.length = ds.length := by rw [hl, sto_len s1]
  have hz : zs.length = zd.length := by
    have := (stored_ok (HG := grow HF H Av) (grow_ok (w.perm List.perm_append_comm)).1 r sA fun p hp => grow_in hp).length
    simp at this; omega
  refine ⟨by omega, by omega, make_spZ (vs' := argL ix vs zs dvs) (E := WE W σ) hF w en r sA (fun HG rs => ?_) q k x⟩
  obtain ⟨a, b⟩ := Reps.split rs hlv
  exact Reps.argL a b (hd HG)
theorem e_makeB0 (M : MakB X.prog X.w X.K X.mg X.base lv x C ps F 0 ks ix dfl) (hr : Room (lv + 1) X.A) (tk : L2N.Takes X W) (hg : Gl X x) (q : wK X W kws ρ (fun evs2 ρ2 => mkwK C F 0 ks ix dfl [] (zK Kd) Ed evs2 ρ2) Ed)
    (hall : (backToKw pos (keywordEach kws X.env)).all (·.1.isSome) = true := by rfl) (hks : (backToKw pos (keywordEach kws X.env)).filterMap (·.1) = ks := by rfl) (hdb : (x == ("__debug__" : Str)) = false := by decide)
    (hpl : ((backTo pos (starEach [] X.env)).any (·.1) || (backToKw pos (keywordEach kws X.env)).any (·.1.isNone)) = false := by rfl) : wE X W (.Call (.Name x p) [] kws pos) ρ Kd Ed := wE.frz fun HF A σ H Q w en k xk => by
  obtain ⟨f, fd, mk, ⟨its, dvs, hb, hd⟩, G⟩ := M.ex
  refine ⟨fun pins s σ' H' Q' I ⟨e1, e2, e3⟩ => ?_⟩
  subst e1 e2 e3
  refine wpAny_Call_Name_kw (ld_glob I hg M.mgC ?_ hdb)
  have red : tAs X.K W (wK X W kws) _ _ (fun zs H2 => _) := ⟨HF, ρ, A, _, Ed, w, en, q, fun evs2 ρ2 t HF2 H2 A2 zs Av2 f2 w2 en2 r2 => mkw_sp (ps := ps) (vs := []) M.len hd t w2 en2 r2 rfl (k.step f2) (xk.step f2), xk⟩
  refine PySem.W.callWith_KW0 (h₀ := X.base) I.ok.mod.kin mk.kp hall (thn (ewK.run pos pins s _ _ _ I red) fun ws s2 ⟨zs, H2, I2, rz, l1, l2, q2⟩ => ⟨I2.kIn, ?_⟩) hpl
  rw [hks]
  exact makeNS (E := WE W) (us := []) (vs := []) mk G hr hb (L2N.passAt tk _) I2 .nil rz l1 l2 q2
variable {Ks : List EV → Env → Prop}
theorem ke_nil (q : Ks [] ρ) : wK X W [] ρ Ks Ed := wK.of ak_nil q
theorem ke_cons {nm : Option Str} {kp : Pos} (q : wE X W e ρ (fun e1 ρ1 => wK X W kws ρ1 (fun es1 ρ2 => Ks (e1 :: es1) ρ2) Ed) Ed) : wK X W (⟨nm, e, kp⟩ :: kws) ρ Ks Ed := wK.of (ak_cons ewE ewK) q
end
end AE
namespace AE
open PySem L2
section
variable {X : Cx} {W : WX} {ρ : Env} {Kd : KD} {Ed : XC} {lv : Nat} {C : Addr} {F : AFn} {a b e : Expr} {es : List Expr} {p pos : Pos}
def lenK (Kd : KD) : KD := fun ev ρ => match ev with
  | .ow (.fz (.int z)) => (0 ≤ z ∧ z < 2 ^ 63) ∧ Kd (.ow (.fz (.int z))) ρ
  | _ => False
def fLenO (C : Addr) (F : AFn) : Env → List EV → KD → Prop := fun ρ es Kd => match es with
  | [e1] => isIns ρ e1 C ∧ callK F [e1] ρ (lenK Kd) NoX
  | _ => False
theorem prim_lenO {K : PySem.W.Frag} (hlen : ∀ os Kd Ed, F os Kd Ed → os.length = 1) : Prim K (rLenO K C F) (fLenO C F) := fun σ HF H ρ A Av evs vs Kd Q w en r q k => by
  unfold fLenO at q
  split at q
  · rename_i e1
    obtain ⟨q2, q3⟩ := q
    have r0 := r
    obtain ⟨v, ws, A1, A2, rfl, rfl, r1, rfl, rfl⟩ := r
    obtain ⟨b, dy, gs, rfl, hb⟩ := isIns_ok w.same en r1 q2
    refine ⟨b, dy, gs, rfl, hb, call_sp hlen w en r0 q3 (fun ev ρ1 q4 HF1 H1 A1 v Av f1 w1 en1 r1 => ?_) (fun xd ρ3 q3 => q3.elim)⟩
    unfold lenK at q4
    split at q4
    · rename_i z
      obtain ⟨rfl, rfl⟩ := id r1
      exact ⟨z, rfl, q4.1, k _ _ q4.2 HF1 H1 A1 _ _ f1 w1 en1 r1⟩
    · exact q4.elim
  · exact q.elim
theorem e_lenO (M : OwO X.prog X.w X.K X.mg X.base lv C "__len__" 1 F) (hr : Room (lv + 1) X.A) (hg : Gl X "len") (hm : X.mg "len" = none) (q : wA X W (e :: es) ρ (fun es1 ρ1 => fLenO C F ρ1 es1 Kd) Ed)
    (he : starEach (e :: es) X.env = (false, eval e X.env) :: starEach es X.env := by rfl) (hpl : (backTo pos (starEach es X.env)).any (·.1) = false := by rfl) : wE X W (.Call (.Name "len" p) (e :: es) [] pos) ρ Kd Ed :=
  wE.of (ae_callB (call_lenO M hr) (prim_lenO M.len) hg hm (by decide +kernel) ewA (by decide) (by decide) he hpl) q
theorem isl1 {x : D} {R : Prop} (h : isP C x R) (k : R → callK F [.ow (.fz x)] ρ (lenK Kd) NoX) : fLenO C F ρ [.ow (.fz x)] Kd := by
  cases x <;> first | exact h.elim | exact ⟨h.1, k h.2⟩
def lenP (d : D) (R : Prop) : Prop := match d with
  | .int z => (0 ≤ z ∧ z < 2 ^ 63) ∧ R
  | _ => False
theorem lenk {r : D} {R : Prop} (h : lenP r R) (k : R → Kd (.ow (.fz r)) ρ) : lenK Kd (.ow (.fz r)) ρ := by
  cases r <;> first | exact h.elim | exact ⟨h.1, k h.2⟩
structure IsX (K : PySem.W.Frag) (cn : Str → Addr) (exs : List Str) (c : Str) (u : Value) : Prop where
  ok : ∀ n ∈ exs, XIs K (cn n) ∧ PySem.W.kitOne K (.ref (cn n)) u = some (subX n c)
theorem e_isX {aa : Addr} {oe : Obj} {x : XD} {d : Option Addr} {pn : List (Addr × Obj)} {W' : WX} {cn : Str → Addr} {exs : List Str} {c : Str} {u : Value} {uD : D} {R : D → Prop} {i : Nat} (f : IsX X.K cn exs c u) (hu : clsD uD = some u) (hz : L2N.Zn x.cls d oe) (hf : ∃ vs, oe.data = .fields vs) (hm : X.mg "isinstance" = none)
    (hg : Gl (X.suite aa ((aa, oe) :: pn)) "isinstance") (hv : PE (X.suite aa ((aa, oe) :: pn)) a (tVar i)) (hi : ρ[i]? = some (zz (.exc aa x.cls d x.fs))) (hb : ∀ (Kd' : KD), Kd' (.ow (.fz uD)) ρ → wE (X.suite aa ((aa, oe) :: pn)) W' b ρ Kd' Ed) (h : isX cn exs c x R) (k : ∀ z, R z → Kd (.ow (.fz z)) ρ)
    (he : starEach [a, b] X.env = (false, eval a X.env) :: starEach [b] X.env := by rfl) (he2 : starEach [b] X.env = [(false, eval b X.env)] := by rfl) (hpl : (backTo pos (starEach [b] X.env)).any (·.1) = false := by rfl) : wE (X.suite aa ((aa, oe) :: pn)) W' (.Call (.Name "isinstance" p) [a, b] [] pos) ρ Kd Ed := by
  refine wE.of (ae_isiX hz hf hg hm ewA he hpl) ?_
  show wA (X.suite aa ((aa, oe) :: pn)) W' [a, b] ρ (fun es ρ1 => fIsX X.K aa x.cls d ρ1 es Kd) Ed
  refine a_cons (e_name hv hi (a_cons (hb _ (a_nil ?_)) he2)) he
  obtain ⟨n, hn, e1, q⟩ := h
  obtain ⟨xi, ko⟩ := f.ok n hn
  exact ⟨rfl, rfl, cn n, u, subX n c, e1, xi, hu, by rw [e1]; exact ko, k _ q⟩
end
section
variable {X : Cx} {W : WX} {P : Prot} {ρ : Env} {E : EndsD} {Ed : XC} {e : Expr} {pos : Pos}
end
def gRev : G1
  | .lst xs, P => P (.ls xs.reverse)
  | _, _ => False
instance : Mo1 gRev := ⟨fun x P P' k h => by unfold gRev at h; split at h <;> first | exact k _ h | exact h.elim⟩
theorem Reps.reverse {K : PySem.W.Frag} {H : Hp} : ∀ {ds : List D} {vs : List V}, Reps K H ds vs → Reps K H ds.reverse vs.reverse
  | [], vs, h => by rw [show vs = [] from h]; exact rfl
  | d :: ds, vs, h => by
    obtain ⟨v, ws, rfl, r, t⟩ := h
    simp only [List.reverse_cons]
    exact (Reps.reverse t).append (Reps.one r)
end AE
namespace AE
open PySem L2
theorem mkQ {m : (D → Prop) → (XD → Prop) → Prop} {Q : D → Prop} {E : XD → Prop} {Kd : KD} {ρ : Env} {G : XD → Prop} (h : m Q E) (k : ∀ s, Q s → Kd (.ow (.fz s)) ρ) (x : ∀ x, E x → G x) : ∃ Q E, m Q E ∧ (∀ o, Q (frz o) → zK Kd (.ow o) ρ) ∧ (∀ x, E x → G x) := ⟨Q, E, h, fun o h => k (frz o) h, x⟩
theorem rm64 {k : Nat} {A B : Around} (r : Room k A) (e : B.units = A.units := by rfl) : B.units + 64 < cLine := by rw [e]; exact r.units
theorem rm65 {k : Nat} {A B : Around} (r : Room k A) (e : B.units = A.units := by rfl) : B.units + 65 < cLine := by rw [e]; exact room65 r
end AE
namespace AE
open PySem L2
mutual
def gnd : D → Bool
  | .non => true
  | .bl _ => true
  | .int _ => true
  | .str _ => true
  | .tup ds => gnds ds
  | .kt ds => gnds ds
  | _ => false
def gnds : List D → Bool
  | [] => true
  | d :: ds => gnd d && gnds ds
end
def Chg : HO → Prop
  | .lst _ => True
  | .dK _ => True
  | .dT _ => True
  | .ins _ _ _ => True
  | _ => False
section
variable {K : PySem.W.Frag} {HF H : Hp}
mutual
theorem RepO.chg : ∀ (o : O) {v : V} {A : List Addr}, RepO K HF H o v A → ∀ p ∈ A, ∃ u, H p = some u ∧ Chg u
  | .fz d, v, A, h, p, hp => by rw [h.1] at hp; cases hp
  | .ls os, v, A, h, p, hp => by
    obtain ⟨a, vs, e, rfl, q, r⟩ := h
    rcases List.mem_cons.mp hp with rfl | hp
    · exact ⟨_, q, trivial⟩
    · cases hp
  | .dc os, v, A, h, p, hp => by
    obtain ⟨a, vs, e, rfl, q, r⟩ := h
    rcases List.mem_cons.mp hp with rfl | hp
    · exact ⟨_, q, trivial⟩
    · cases hp
  | .dt os, v, A, h, p, hp => by
    obtain ⟨a, vs, e, rfl, q, r⟩ := h
    rcases List.mem_cons.mp hp with rfl | hp
    · exact ⟨_, q, trivial⟩
    · cases hp
  | .nl os, v, A, h, p, hp => by
    obtain ⟨a, vs, B, e, rfl, q, r⟩ := h
    rcases List.mem_cons.mp hp with rfl | hp
    · exact ⟨_, q, trivial⟩
    · exact RepOs.chg os r p hp
  | .nd os, v, A, h, p, hp => by
    obtain ⟨a, vs, B, e, rfl, q, r⟩ := h
    rcases List.mem_cons.mp hp with rfl | hp
    · exact ⟨_, q, trivial⟩
    · exact RepOKs.chg os r p hp
  | .ob C os, v, A, h, p, hp => by
    obtain ⟨a, dx, vs, B, e, rfl, q, r⟩ := h
    rcases List.mem_cons.mp hp with rfl | hp
    · exact ⟨_, q, trivial⟩
    · exact RepOFs.chg os r p hp
theorem RepOs.chg : ∀ (os : List O) {vs : List V} {A : List Addr}, RepOs K HF H os vs A → ∀ p ∈ A, ∃ u, H p = some u ∧ Chg u
  | [], vs, A, h, p, hp => by rw [h.2] at hp; cases hp
  | o :: os, vs, A, h, p, hp => by
    obtain ⟨v, ws, A1, A2, e, rfl, q, r⟩ := h
    exact (List.mem_append.mp hp).elim (RepO.chg o q p) (RepOs.chg os r p)
theorem RepOKs.chg : ∀ (os : List (Key × O)) {vs : List (Key × V)} {A : List Addr}, RepOKs K HF H os vs A → ∀ p ∈ A, ∃ u, H p = some u ∧ Chg u
  | [], vs, A, h, p, hp => by rw [h.2] at hp; cases hp
  | o :: os, vs, A, h, p, hp => by
    obtain ⟨v, ws, A1, A2, e, rfl, q, r⟩ := h
    exact (List.mem_append.mp hp).elim (RepOK.chg o q p) (RepOKs.chg os r p)
theorem RepOK.chg : ∀ (o : Key × O) {v : Key × V} {A : List Addr}, RepOK K HF H o v A → ∀ p ∈ A, ∃ u, H p = some u ∧ Chg u
  | (k, o), v, A, h, p, hp => RepO.chg o h.2 p hp
theorem RepOFs.chg : ∀ (os : List (Str × O)) {vs : List (Str × V)} {A : List Addr}, RepOFs K HF H os vs A → ∀ p ∈ A, ∃ u, H p = some u ∧ Chg u
  | [], vs, A, h, p, hp => by rw [h.2] at hp; cases hp
  | o :: os, vs, A, h, p, hp => by
    obtain ⟨v, ws, A1, A2, e, rfl, q, r⟩ := h
    exact (List.mem_append.mp hp).elim (RepOF.chg o q p) (RepOFs.chg os r p)
theorem RepOF.chg : ∀ (o : Str × O) {v : Str × V} {A : List Addr}, RepOF K HF H o v A → ∀ p ∈ A, ∃ u, H p = some u ∧ Chg u
  | (k, o), v, A, h, p, hp => RepO.chg o h.2 p hp
end
theorem EnvR.chg : ∀ (ρ : Env) {σ : St} {A : List Addr}, EnvR K HF H ρ σ A → ∀ p ∈ A, ∃ u, H p = some u ∧ Chg u
  | [], σ, A, h, p, hp => by rw [h.2] at hp; cases hp
  | none :: ρ, σ, A, h, p, hp => let ⟨s', r, e, q⟩ := h; EnvR.chg ρ q p hp
  | some o :: ρ, σ, A, h, p, hp => by
    obtain ⟨v, r, A1, A2, e, rfl, q, t⟩ := h
    exact (List.mem_append.mp hp).elim (RepO.chg o q p) (EnvR.chg ρ t p)
end
def less (H : Hp) (B : List Addr) : Hp := fun p => if p ∈ B then none else H p
theorem less_in {H : Hp} {B : List Addr} {p : Addr} (h : p ∈ B) : less H B p = none := if_pos h
theorem less_out {H : Hp} {B : List Addr} {p : Addr} (h : p ∉ B) : less H B p = H p := if_neg h
section
variable {K : PySem.W.Frag} {H : Hp} {B : List Addr}
theorem less_tup (c : ∀ p ∈ B, ∃ u, H p = some u ∧ Chg u) {a : Addr} {xs : List V} (h : Rd H a (.tup xs)) : Rd (less H B) a (.tup xs) := by
  have n : a ∉ B := fun z => by
    obtain ⟨u, e, q⟩ := c a z
    rcases h with h | ⟨o, h⟩
    · rw [h] at e; cases e; exact q
    · rw [h] at e; cases e; exact q
  unfold Rd
  rw [less_out n]
  exact h
mutual
theorem Rep.less (c : ∀ p ∈ B, ∃ u, H p = some u ∧ Chg u) : ∀ (d : D) {v : V}, gnd d = true → Rep K H d v → Rep K (less H B) d v
  | .non, v, g, h => h
  | .bl b, v, g, h => h
  | .int i, v, g, h => h
  | .str x, v, g, h => h
  | .tup ds, v, g, h => by
    obtain ⟨a, vs, e, q, r⟩ := h
    have n : a ∉ B := fun z => by
      obtain ⟨u, e, q'⟩ := c a z
      rw [q] at e; cases e; exact q'
    exact ⟨a, vs, e, by rw [less_out n]; exact q, Reps.less c ds g r⟩
  | .kt ds, v, g, h => by
    obtain ⟨a, vs, e, q, r⟩ := h
    refine ⟨a, vs, e, ?_, Reps.less c ds g r⟩
    rcases q with q | q
    · exact .inl (less_tup c q)
    · exact .inr q
  | .lst ds, v, g, h => by cases g
  | .dic ds, v, g, h => by cases g
  | .dit ds, v, g, h => by cases g
  | .ins C ds, v, g, h => by cases g
  | .cl a, v, g, h => by cases g
  | .ty n, v, g, h => by cases g
  | .raw w, v, g, h => by cases g
  | .hb φ, v, g, h => by cases g
  | .scr ns, v, g, h => by cases g
  | .exc a _ d fds, v, g, h => by cases g
  | .xo cls fds, v, g, h => by cases g
theorem Reps.less (c : ∀ p ∈ B, ∃ u, H p = some u ∧ Chg u) : ∀ (ds : List D) {vs : List V}, gnds ds = true → Reps K H ds vs → Reps K (less H B) ds vs
  | [], vs, g, h => h
  | d :: ds, vs, g, h => by
    have g : (gnd d && gnds ds) = true := g
    obtain ⟨v, ws, e, q, r⟩ := h
    exact ⟨v, ws, e, Rep.less c d (Bool.and_eq_true_iff.mp g).1 q, Reps.less c ds (Bool.and_eq_true_iff.mp g).2 r⟩
end
theorem RepFs.less (c : ∀ p ∈ B, ∃ u, H p = some u ∧ Chg u) : ∀ (fs : List (Str × D)) {vs : List (Str × V)}, (fs.all fun f => gnd f.2) = true → RepFs K H fs vs → RepFs K (less H B) fs vs
  | [], vs, g, h => h
  | (f, d) :: fs, vs, g, h => by
    obtain ⟨v, ws, e, q, r⟩ := h
    rw [List.all_cons] at g
    exact ⟨v, ws, e, ⟨q.1, Rep.less c d (Bool.and_eq_true_iff.mp g).1 q.2⟩, RepFs.less c fs (Bool.and_eq_true_iff.mp g).2 r⟩
end
inductive Lend : Env → Env → Prop
  | nil : Lend [] []
  | same {d : D} {a b : Env} : Lend a b → Lend (some (.fz d) :: a) (some (.fz d) :: b)
  | drop {x : Option O} {a b : Env} : Lend a b → Lend (x :: a) (none :: b)
  | lent {o : O} {a b : Env} : Lend a b → Lend (some o :: a) (some (.fz (frz o)) :: b)
section
variable {K : PySem.W.Frag} {HF HG H : Hp}
theorem Lend.envR (s : Same HF HG) : ∀ {ρ ρ0 : Env} {σ : St} {A : List Addr}, Lend ρ ρ0 → EnvR K HF H ρ σ A → (∀ p ∈ A, HG p = H p) → EnvR K HG H ρ0 σ []
  | _, _, σ, A, .nil, h, k => ⟨h.1, rfl⟩
  | _, _, σ, A, .same l, h, k => by
    obtain ⟨v, r, A1, A2, rfl, rfl, q, t⟩ := h
    exact ⟨v, r, [], [], rfl, rfl, ⟨rfl, Rep.mono s _ q.2⟩, l.envR s t fun p hp => k p (List.mem_append_right _ hp)⟩
  | none :: ρ, _, σ, A, .drop l, h, k => by
    obtain ⟨s', r, rfl, q⟩ := h
    exact ⟨s', r, rfl, l.envR s q k⟩
  | some o :: ρ, _, σ, A, .drop l, h, k => by
    obtain ⟨v, r, A1, A2, rfl, rfl, q, t⟩ := h
    exact ⟨some v, r, rfl, l.envR s t fun p hp => k p (List.mem_append_right _ hp)⟩
  | some o :: ρ, _, σ, A, .lent l, h, k => by
    obtain ⟨v, r, A1, A2, rfl, rfl, q, t⟩ := h
    exact ⟨v, r, [], [], rfl, rfl, ⟨rfl, RepO.frz s o q fun p hp => k p (List.mem_append_left _ hp)⟩, l.envR s t fun p hp => k p (List.mem_append_right _ hp)⟩
end
def gE : EV → Prop
  | .ow (.fz d) => gnd d = true
  | .ow (.ls ds) => gnds ds = true
  | _ => False
def gX (x : XD) : Prop := (x.fs.all fun f => gnd f.2) = true
section
variable {X : Cx} {W : WX}
theorem wE.lend {e : Expr} {ρ ρ0 : Env} {Kd : KD} {Ed : XC} (l : Lend ρ ρ0) (q : wE X W e ρ0 (fun ev _ => gE ev ∧ Kd ev ρ) (fun x _ => gX x ∧ Ed x ρ)) : wE X W e ρ Kd Ed := fun HF A σ H Q w en k x => by
  obtain ⟨s1, w1, f1⟩ := grow_ok (C := []) (by rw [List.append_nil]; exact w)
  have c1 := EnvR.chg _ en
  have key : ∀ {HF' H' : Hp} {A' : List Addr}, Fr H H' (grow HF H A) HF' [] A' → WR HF' H' A' → (∀ p ∈ A, ∃ u, HF' p = some u ∧ Chg u) ∧ Fr H H' HF (AE.less HF' A) A (A ++ A') ∧ WR (AE.less HF' A) H' (A ++ A') ∧ EnvR X.K (AE.less HF' A) H' ρ σ A := fun {HF' H' A'} f w' => by
    have at1 : ∀ p ∈ A, ∀ u, H p = some u → HF' p = some u := fun p hp u e => f.same p u (by rw [grow_in hp]; exact e)
    have c2 : ∀ p ∈ A, ∃ u, HF' p = some u ∧ Chg u := fun p hp => by
      obtain ⟨u, e, z⟩ := c1 p hp
      exact ⟨u, at1 p hp u e, z⟩
    have sA : Same HF (AE.less HF' A) := fun p u e => by
      have n : p ∉ A := fun z => by rw [w.out p z] at e; cases e
      rw [less_out n]
      exact f.same p u (by rw [grow_out n]; exact e)
    have keepA : ∀ p ∈ A, H' p = H p := fun p hp => by
      obtain ⟨u, e, z⟩ := c1 p hp
      rw [e]
      exact w'.same p u (at1 p hp u e)
    refine ⟨c2, ⟨sA, fun p o e n => f.keep p o e (by simp), fun p o e n fr => ?_, fun p hp => ?_⟩, ⟨fun p u e => ?_, ?_, fun p hp => ?_⟩, EnvR.keep sA ρ en keepA⟩
    · rw [less_out n]
      exact f.free p o e (by simp) (by rw [grow_out n]; exact fr)
    · rcases List.mem_append.mp hp with z | z
      · exact .inl z
      · rcases f.new p z with y | y
        · cases y
        · exact .inr y
    · by_cases hp : p ∈ A
      · rw [less_in hp] at e; cases e
      · rw [less_out hp] at e; exact w'.same p u e
    · refine List.nodup_append.mpr ⟨w.nodup, w'.nodup, fun a ha b hb e => ?_⟩
      subst e
      obtain ⟨u, e, _⟩ := c2 a ha
      rw [w'.out a hb] at e; cases e
    · by_cases hA : p ∈ A
      · exact less_in hA
      · rw [less_out hA]
        exact w'.out p ((List.mem_append.mp hp).elim (fun z => absurd z hA) id)
  refine q (grow HF H A) [] σ H Q w1 (l.envR s1 en fun p hp => grow_in hp) (fun ev ρ1 ⟨g, z⟩ HF' H' A' v Av f w' en' r => ?_) (fun xx ρ1 ⟨g, z⟩ HF' H' A' cls d f w' en' r => ?_)
  · obtain ⟨c2, f2, w2, en2⟩ := key f w'
    have sub : ∀ p ∈ A ++ Av, p ∈ A ++ (A' ++ Av) := fun p hp => (List.mem_append.mp hp).elim (fun z => List.mem_append_left _ z) fun z => List.mem_append_right _ (List.mem_append_right _ z)
    refine k ev ρ z (AE.less HF' A) H' A v Av (f2.mono (fun _ h => h) fun p hp => .inl (sub p hp)) (w2.sub (List.Sublist.append_left (List.sublist_append_right _ _) A)) en2 ?_
    cases ev with
    | pt i => exact g.elim
    | tk _ _ _ _ => exact g.elim
    | ow o =>
      cases o with
      | fz d => exact ⟨r.1, Rep.less c2 d g r.2⟩
      | ls ds =>
        obtain ⟨a, vs, e1, e2, h1, rs⟩ := r
        exact ⟨a, vs, e1, e2, h1, Reps.less c2 ds g rs⟩
      | _ => exact g.elim
  · obtain ⟨c2, f2, w2, en2⟩ := key f w'
    refine x xx ρ z (AE.less HF' A) H' A cls d (f2.mono (fun _ h => h) fun p hp => .inl (List.mem_append_left _ hp)) w2.left en2 ⟨r.1, ?_⟩
    have r2 := r.2
    cases d with
    | none => exact r2
    | some p =>
      obtain ⟨fvs, h1, h2⟩ := r2
      refine ⟨fvs, ?_, RepFs.less c2 _ g h2⟩
      have n : p ∉ A := fun zz => by
        obtain ⟨u, e, q'⟩ := c2 p zz
        rw [h1] at e; cases e; exact q'
      rw [less_out n]; exact h1
end
end AE
namespace PySem.W
open PySem PySem.Calls PyProof.Rows
section
variable {prog : Program} {w : World} {A : Around} {E : Value → Shared → Prop} {s : Shared} {K : Frag} {x y C L f : Addr} {h₀ : Heap} {m : Str → Option Value} {ox oy : Obj} {od od' : Option Obj}
end
end PySem.W
namespace AE
open PySem L2
section
variable {X : Cx} {W : WX} {ρ : Env} {Kd : KD} {Ed : XC} {lv : Nat} {C : Addr} {F : AFn} {a b e : Expr} {es : List Expr} {p pos : Pos}
structure NeO (K : PySem.W.Frag) (C : Addr) : Prop where
  ne : PySem.W.findIn K (.ref C) "__ne__" = some (some (.builtin "object.__ne__"))
  ob : PySem.W.subIn K (.ref C) (.type "object") = some true
structure ItO (K : PySem.W.Frag) (C : Addr) : Prop where
  fn : ∀ f, PySem.W.findIn K (.ref C) "__getitem__" = some (some (.ref f)) → PySem.W.fnIn K f = true
end
end AE
namespace L2
open PySem PySem.Spec PyProof.Rows
section
variable {X : Cx}
end
section
variable {prog : Program} {w : World} {A : Around} {E : Value → Shared → Prop} {s : Shared}
end
section
variable {X : Cx}
end
end L2
namespace AE
open PySem L2
section
variable {X : Cx} {W : WX} {ρ : Env} {Kd : KD} {Ed : XC} {a b e : Expr} {pos : Pos}
theorem Reps.rep {K : PySem.W.Frag} {H : Hp} {ds : List D} {vs : List V} (r : Reps K H ds vs) : ∀ (n : Nat), Reps K H (List.replicate n ds).flatten (List.replicate n vs).flatten
  | 0 => rfl
  | n + 1 => by
    rw [List.replicate_succ, List.replicate_succ, List.flatten_cons, List.flatten_cons]
    exact r.append (Reps.rep r n)
def gMulL : G2 := fun d d' P => match d, d' with
  | .lst ds, .int k => -(2 ^ 63) ≤ k ∧ k < 2 ^ 63 ∧ ds.length * k.toNat ≤ sizeLine ∧ P (.ls (List.replicate k.toNat ds).flatten)
  | _, _ => False
instance : Mo2 gMulL := ⟨fun x y P P' k h => by unfold gMulL at h; split at h <;> first | exact ⟨h.1, h.2.1, h.2.2.1, k _ h.2.2.2⟩ | exact h.elim⟩
def gMulT : G2 := fun d d' P => match d, d' with
  | .tup ds, .int k => -1000000 ≤ k ∧ k ≤ 1000 ∧ ds.length ≤ 1000 ∧ P (.fz (.tup (List.replicate k.toNat ds).flatten))
  | _, _ => False
instance : Mo2 gMulT := ⟨fun x y P P' k h => by unfold gMulT at h; split at h <;> first | exact ⟨h.1, h.2.1, h.2.2.1, k _ h.2.2.2⟩ | exact h.elim⟩
def gRevT : G1
  | .tup xs, P => P (.fz (.tup xs.reverse))
  | _, _ => False
instance : Mo1 gRevT := ⟨fun x P P' k h => by unfold gRevT at h; split at h <;> first | exact k _ h | exact h.elim⟩
end
end AE
namespace AE
open PySem L2
section
variable {X : Cx} {W : WX} {ρ : Env} {Kd : KD} {Ed : XC} {lv : Nat} {x : Str} {C : Addr} {m : Str} {ps ks : List Str} {F : AFn} {p pos apos : Pos} {o e : Expr} {es : List Expr} {kws : List Keyword} {n : Nat} {ix : List Nat} {dfl : List D}
structure MetB (P : Program) (w : World) (K : PySem.W.Frag) (mg : Str → Option Value) (base : Heap) (lv : Nat) (C : Addr) (m : Str) (ps : List Str) (F : AFn) (n : Nat) (ks : List Str) (ix : List Nat) (dfl : List D) : Prop where
  cl : Cls K C
  ex : ∃ f fd, Meth K C m f ∧ Bd K fd ps n ks ix dfl ∧ FnOk P w K mg base (L2N.CX P w) lv f fd ps (spA K ps.length F)
  len : ∀ os Kd Ed, F os Kd Ed → os.length = ps.length
end
end AE
namespace AE
open PySem L2
section
variable {X : Cx} {W : WX} {P : Prot} {ρ : Env} {Kd : KD} {Ed : XC} {a b o e : Expr} {pos apos cpos : Pos} {i : Nat}
end
section
variable {K : PySem.W.Frag} {HF HG H : Hp} {ρ : Env} {σ : St} {A : List Addr} {i : Nat} {π : List Stp} {t o' : O} {a : Addr} {u : HO}
theorem tk_put (en : EnvR K HF H ρ σ A) (et : ρ[i]? = some (some t)) (eg : getAt t π = some (.fz (.raw (.ref a)))) (s : Same HF HG) (w : WR HG H (A ++ [a])) (r' : RepO K HG (upd H a u) o' (.ref a) [a]) :
    ∃ A', WR HG (upd H a u) A' ∧ Fr H (upd H a u) HG HG (A ++ [a]) A' ∧ EnvR K HG (upd H a u) (ρ.set i (some (putAt t π o'))) σ A' := by
  obtain ⟨w2, f2, k2⟩ := putD (K := K) (u := u) w
  have en2 := k2 _ _ (EnvR.keep s _ en fun _ _ => rfl)
  obtain ⟨wv, B, C, s1, ro, pm, en3⟩ := en2.get et
  obtain ⟨C1, pm1, r1⟩ := RepO.putBack ro eg r'
  have hl : i < ρ.length := (List.getElem?_eq_some_iff.mp et).1
  obtain ⟨A', pm', en'⟩ := EnvR.put en3 hl r1
  rw [set_get s1] at en'
  have pmA : (A ++ [a]).Perm A' := by
    refine (List.Perm.append_right [a] pm).trans ?_
    refine List.Perm.trans ?_ pm'.symm
    refine List.Perm.trans ?_ (List.Perm.append_right C pm1.symm)
    rw [List.append_assoc, List.append_assoc]
    exact List.Perm.append_left B List.perm_append_comm
  exact ⟨A', w2.perm pmA, f2.mono (fun _ h => h) fun p hp => .inl (pmA.mem_iff.mpr hp), en'⟩
end
section
variable {X : Cx} {W : WX} {P : Prot} {ρ : Env} {Kd : KD} {Ed : XC} {a b o e i : Expr} {pos apos cpos : Pos} {N : Env → Prop}
end
section
variable {X : Cx} {W : WX} {P : Prot} {ρ : Env} {E : EndsD} {Ed : XC} {e : Expr} {rest : List Stmt} {pos py : Pos} {r : Nat} {y : Str}
end
end AE
namespace AE
open PySem L2
section
variable {K : PySem.W.Frag} {HF H : Hp}
theorem RepOKs.snoc {k : Key} {o : O} {v : V} {B : List Addr} (r : RepO K HF H o v B) : ∀ {os : List (Key × O)} {vs : List (Key × V)} {A : List Addr}, RepOKs K HF H os vs A → RepOKs K HF H (os ++ [(k, o)]) (vs ++ [(k, v)]) (A ++ B)
  | [], vs, A, h => by rw [h.1, h.2]; exact ⟨(k, v), [], B, [], rfl, by simp, ⟨rfl, r⟩, rfl, rfl⟩
  | p :: os, vs, A, h => by
    obtain ⟨v', ws, A1, A2, rfl, rfl, q, t⟩ := h
    exact ⟨v', _, A1, A2 ++ B, rfl, by rw [List.append_assoc], q, RepOKs.snoc r t⟩
theorem RepOs.snoc {o : O} {v : V} {B : List Addr} (r : RepO K HF H o v B) : ∀ {os : List O} {vs : List V} {A : List Addr}, RepOs K HF H os vs A → RepOs K HF H (os ++ [o]) (vs ++ [v]) (A ++ B)
  | [], vs, A, h => by rw [h.1, h.2]; exact ⟨v, [], B, [], rfl, by simp, r, rfl, rfl⟩
  | p :: os, vs, A, h => by
    obtain ⟨v', ws, A1, A2, rfl, rfl, q, t⟩ := h
    exact ⟨v', _, A1, A2 ++ B, rfl, by rw [List.append_assoc], q, RepOs.snoc r t⟩
theorem RepOKs.any {k : Key} : ∀ {os : List (Key × O)} {vs : List (Key × V)} {A : List Addr}, RepOKs K HF H os vs A → (vs.any fun kv => decide (kv.1 = k)) = (os.any fun kv => decide (kv.1 = k))
  | [], vs, A, h => by rw [h.1]; rfl
  | (k', p) :: os, vs, A, h => by
    obtain ⟨⟨k2, v⟩, ws, A1, A2, rfl, rfl, ⟨hk, r⟩, t⟩ := h
    have hk : k2 = k' := hk
    subst hk
    rw [List.any_cons, List.any_cons, RepOKs.any t]
theorem RepOKs.len : ∀ {os : List (Key × O)} {vs : List (Key × V)} {A : List Addr}, RepOKs K HF H os vs A → vs.length = os.length
  | [], vs, A, h => by rw [h.1]; rfl
  | p :: os, vs, A, h => by
    obtain ⟨v', ws, A1, A2, rfl, rfl, q, t⟩ := h
    simp [RepOKs.len t]
theorem RepOs.len : ∀ {os : List O} {vs : List V} {A : List Addr}, RepOs K HF H os vs A → vs.length = os.length
  | [], vs, A, h => by rw [h.1]; rfl
  | p :: os, vs, A, h => by
    obtain ⟨v', ws, A1, A2, rfl, rfl, q, t⟩ := h
    simp [RepOs.len t]
variable {ρ : Env} {σ : St} {A B : List Addr} {i : Nat} {t t' : O} {u : HO}
end
section
variable {X : Cx} {W : WX} {P : Prot} {ρ : Env} {Kd : KD} {Ed : XC} {a b o e i : Expr} {pos apos cpos : Pos} {N : Env → Prop}
end
def nstO : D → O
  | .dic kvs => .nd (kvs.map fun kv => (kv.1, ownO kv.2))
  | .lst ds => .nl (ds.map ownO)
  | d => .fz d
theorem frz_nst (t : D) : frz (nstO t) = t := by
  have h1 : ∀ kvs : List (Key × D), frzKs (kvs.map fun kv => (kv.1, ownO kv.2)) = kvs := fun kvs => by
    induction kvs with
    | nil => rfl
    | cons kv kvs ih =>
      show (kv.1, frz (ownO kv.2)) :: frzKs (kvs.map fun kv => (kv.1, ownO kv.2)) = _
      rw [frz_own, ih]
  have h2 : ∀ ds : List D, frzs (ds.map ownO) = ds := fun ds => by
    induction ds with
    | nil => rfl
    | cons d ds ih =>
      show frz (ownO d) :: frzs (ds.map ownO) = _
      rw [frz_own, ih]
  cases t with
  | dic kvs => show D.dic (frzKs _) = _; rw [h1]
  | lst ds => show D.lst (frzs _) = _; rw [h2]
  | _ => rfl
abbrev nO (t : D) : Option O := some (nstO t)
def setDk (k : Key) (u : D) : List (Key × D) → List (Key × D)
  | [] => []
  | (k', d) :: r => if k' = k then (k', u) :: r else (k', d) :: setDk k u r
def nPut (t : D) (s : Stp) (u : D) : D := match t, s with
  | .dic kvs, .ky k => .dic (setDk k u kvs)
  | .lst ds, .ix n => .lst (ds.set n u)
  | t, _ => t
theorem get_nst {kvs : List (Key × D)} {k : Key} {u : D} (h : valD kvs k = some u) : get1 (nstO (.dic kvs)) (.ky k) = some (ownO u) := by
  show ((kvs.map fun kv => (kv.1, ownO kv.2)).find? fun kv => decide (kv.1 = k)).map (·.2) = some (ownO u)
  unfold valD at h
  induction kvs with
  | nil => cases h
  | cons kv kvs ih =>
    by_cases e : kv.1 = k
    · simp [e] at h ⊢; rw [h]
    · simp [e] at h ⊢
      obtain ⟨a, b⟩ := h
      simpa using ih (by simpa using ⟨a, b⟩)
theorem set_nst {t : D} {s : Stp} {u : D} : set1 (ownO u) (nstO t) s = nstO (nPut t s u) := by
  have h1 : ∀ (k : Key) (kvs : List (Key × D)), setK k (ownO u) (kvs.map fun kv => (kv.1, ownO kv.2)) = (setDk k u kvs).map fun kv => (kv.1, ownO kv.2) := fun k kvs => by
    induction kvs with
    | nil => rfl
    | cons kv kvs ih =>
      obtain ⟨k', d⟩ := kv
      by_cases e : k' = k
      · simp [setK, setDk, e]
      · simp only [List.map_cons, setK, setDk, e, if_false, ih]
  cases t <;> cases s <;> first | rfl | skip
  · show O.nl ((List.map ownO _).set _ (ownO u)) = O.nl (List.map ownO (List.set _ _ u))
    rw [List.map_set]
  · show O.nd (setK _ _ _) = O.nd _
    rw [h1]
section
variable {X : Cx} {W : WX} {P : Prot} {ρ : Env} {Kd : KD} {E : EndsD} {Ed : XC} {N : Env → Prop} {i : Nat}
theorem wB.nest {ss : List Stmt} {t : D} (hi : ρ[i]? = some (oo t)) (he : t = .dic [] ∨ t = .lst []) (q : wB X W P ss E Ed (ρ.set i (nO t))) : wB X W P ss E Ed ρ := by
  refine wB.step (fun HF A σ H w en => ?_) q
  obtain ⟨wv, B, C, pm, s1, ro, back⟩ := EnvR.swap (t' := nstO t) en hi
  have r2 : RepO X.K HF H (nstO t) wv B := by
    rcases he with rfl | rfl
    · obtain ⟨a, vs, rfl, rfl, h1, h2⟩ := ro
      obtain rfl : vs = [] := h2
      exact ⟨a, [], [], rfl, rfl, h1, rfl, rfl⟩
    · obtain ⟨a, vs, rfl, rfl, h1, h2⟩ := ro
      obtain rfl : vs = [] := h2
      exact ⟨a, [], [], rfl, rfl, h1, rfl, rfl⟩
  obtain ⟨A', pm', en'⟩ := back B r2
  have pmA : A.Perm A' := pm.trans pm'.symm
  exact ⟨HF, A', Fr.drop fun p hp => pmA.mem_iff.mpr hp, w.perm pmA, en'⟩
end
end AE
namespace AE
open PySem L2
def nHole (t : D) (s : Stp) (v : V) : Prop := match t, s with
  | .dic kvs, .ky k => valD kvs k = some (.raw v)
  | .lst ds, .ix n => ds[n]? = some (.raw v)
  | _, _ => False
theorem nHole.get {t : D} {s : Stp} {v : V} (h : nHole t s v) : getAt (nstO t) [s] = some (.fz (.raw v)) := by
  show (match get1 (nstO t) s with | some u => getAt u [] | none => none) = _
  cases t <;> cases s <;> first | exact h.elim | skip
  · rename_i ds n
    have e : get1 (nstO (.lst ds)) (.ix n) = some (.fz (.raw v)) := by
      show (List.map ownO ds)[n]? = _
      rw [List.getElem?_map, (show ds[n]? = some (.raw v) from h)]; rfl
    rw [e]; rfl
  · rename_i kvs k
    have e : get1 (nstO (.dic kvs)) (.ky k) = some (.fz (.raw v)) := get_nst (u := .raw v) h
    rw [e]; rfl
theorem nHole.put {t : D} {s : Stp} {v : V} {u : D} (h : nHole t s v) : putAt (nstO t) [s] (ownO u) = nstO (nPut t s u) := by
  have hg : (match get1 (nstO t) s with | some u => getAt u [] | none => none) = some (O.fz (.raw v)) := h.get
  show (match get1 (nstO t) s with | some w => set1 (putAt w [] (ownO u)) (nstO t) s | none => nstO t) = _
  cases e : get1 (nstO t) s with
  | none => rw [e] at hg; cases hg
  | some w => exact set_nst
section
variable {X : Cx} {W : WX} {P : Prot} {ρ : Env} {Kd : KD} {E : EndsD} {Ed : XC} {N : Env → Prop} {i r : Nat}
theorem Lend.own {t : D} {a b : Env} (l : Lend a b) : Lend (oo t :: a) (zz t :: b) := by
  have := Lend.lent (o := ownO t) l
  rw [frz_own] at this
  exact this
theorem Lend.view {o : O} {t : D} {a b : Env} (h : flat o = some t) (l : Lend a b) : Lend (some o :: a) (zz t :: b) := by
  have := Lend.lent (o := o) l
  rw [frz_flat h] at this
  exact this
end
end AE
namespace AE
open PySem L2
section
variable {X : Cx} {W : WX} {ρ : Env} {Ki : List D → Env → Prop} {Ed : XC} {tg a b c e : Expr} {es : List Expr} {ts : TDs} {p pos : Pos}
def gMax : GN := fun ds P => match ds with
  | [.int i, .int j] => P (.fz (.int (if j > i then j else i)))
  | _ => False
def gMin : GN := fun ds P => match ds with
  | [.int i, .int j] => P (.fz (.int (if j < i then j else i)))
  | _ => False
instance : MoN gMax := ⟨fun x P P' k h => by unfold gMax at h ⊢; split at h <;> first | exact k _ h | exact h.elim⟩
instance : MoN gMin := ⟨fun x P P' k h => by unfold gMin at h ⊢; split at h <;> first | exact k _ h | exact h.elim⟩
def gStr : GN := fun ds P => match ds with
  | [.int i] => i.natAbs.log2 < 1920 ∧ P (.fz (.str (toString i)))
  | [.str z] => P (.fz (.str z))
  | _ => False
instance : MoN gStr := ⟨fun x P P' k h => by unfold gStr at h ⊢; split at h <;> first | exact k _ h | exact ⟨h.1, k _ h.2⟩ | exact h.elim⟩
theorem ae_str1 (hg : Gl X "str") (hm : X.mg "str" = none) (ha : AA X W (e :: es) ts) (he : starEach (e :: es) X.env = (false, eval e X.env) :: starEach es X.env := by rfl) (hpl : (backTo pos (starEach es X.env)).any (·.1) = false := by rfl) :
    AE X W (.Call (.Name "str" p) (e :: es) [] pos) (tN (pN gStr) ts) := ae_callTy (CallR.or call_str_int SkE.call_str_str) (primN fun HF H vs ds P Q s r g k => by
      unfold gStr at g
      split at g
      · obtain ⟨v, rfl, rv⟩ := r.one
        cases (show v = .int _ from rv)
        exact .inl ⟨_, rfl, g.1, k _ _ _ _ _ g.2 (New.imm s rfl)⟩
      · obtain ⟨v, rfl, rv⟩ := r.one
        cases (show v = .str _ from rv)
        exact .inr ⟨_, rfl, k _ _ _ _ _ g (New.imm s rfl)⟩
      · exact g.elim) hg hm (by decide +kernel) ha (by decide) (by decide) he hpl
def gIntS : GN := fun ds P => match ds with
  | [.str z] => ∃ n, PySem.intText? z = some n ∧ z.length ≤ 640 ∧ P (.fz (.int n))
  | ds => gInt ds P
instance : MoN gIntS := ⟨fun x P P' k h => by
  unfold gIntS at h ⊢
  split at h
  · obtain ⟨n, h1, h2, h3⟩ := h; exact ⟨n, h1, h2, k _ h3⟩
  · exact MoN.mo _ _ _ k h⟩
theorem ae_intS (hg : Gl X "int") (hm : X.mg "int" = none) (ha : AA X W (e :: es) ts) (he : starEach (e :: es) X.env = (false, eval e X.env) :: starEach es X.env := by rfl) (hpl : (backTo pos (starEach es X.env)).any (·.1) = false := by rfl) :
    AE X W (.Call (.Name "int" p) (e :: es) [] pos) (tN (pN gIntS) ts) := ae_callTy (CallR.or call_int_str call_int1) (primN fun HF H vs ds P Q s r g k => by
      unfold gIntS at g
      split at g
      · obtain ⟨v, rfl, rv⟩ := r.one
        cases (show v = .str _ from rv)
        obtain ⟨n, h1, h2, h3⟩ := g
        exact .inl ⟨_, n, rfl, h1, h2, k _ _ _ _ _ h3 (New.imm s rfl)⟩
      · unfold gInt at g
        split at g
        · obtain ⟨v, rfl, rv⟩ := r.one
          cases (show v = .int _ from rv)
          exact .inr (.inl ⟨_, rfl, k _ _ _ _ _ g (New.imm s rfl)⟩)
        · obtain ⟨v, rfl, rv⟩ := r.one
          cases (show v = .bl _ from rv)
          exact .inr (.inr ⟨_, rfl, k _ _ _ _ _ g (New.imm s rfl)⟩)
        · exact g.elim) hg hm (by decide +kernel) ha (by decide) (by decide) he hpl
end
end AE
namespace AE
open PySem L2
section
variable {ρ : Env} {E : EndsD} {i r : Nat}
end
section
variable {X : Cx} {W : WX} {ρ : Env} {Kd : KD} {Ed : XC} {lv : Nat} {x : Str} {C : Addr} {m : Str} {ps ks : List Str} {F : AFn} {p pos apos : Pos} {o e : Expr} {es : List Expr} {kws : List Keyword} {n : Nat} {ix : List Nat} {dfl : List D}
structure CMtB (P : Program) (w : World) (K : PySem.W.Frag) (mg : Str → Option Value) (base : Heap) (lv : Nat) (C : Addr) (m : Str) (ps : List Str) (F : AFn) (n : Nat) (ks : List Str) (ix : List Nat) (dfl : List D) : Prop where
  ex : ∃ mc p g fd, ClX.CRead K C mc ∧ ClX.CMet K C mc m p g ∧ Bd K fd ps n ks ix dfl ∧ FnOk P w K mg base (L2N.CX P w) lv g fd ps (spA K ps.length F)
  len : ∀ os Kd Ed, F os Kd Ed → os.length = ps.length
end
end AE
namespace AE
open PySem L2
inductive All2 (R : EV → V → Prop) : List EV → List V → Prop
  | nil : All2 R [] []
  | cons {e : EV} {v : V} {es : List EV} {vs : List V} : R e v → All2 R es vs → All2 R (e :: es) (v :: vs)
theorem All2.len {R : EV → V → Prop} : ∀ {es : List EV} {vs : List V}, All2 R es vs → es.length = vs.length
  | _, _, .nil => rfl
  | _, _, .cons _ t => by simp [t.len]
section
variable {K : PySem.W.Frag} {HF H : Hp} {σ : St}
end
section
variable {X : Cx} {W : WX} {ρ : Env} {Kd : KD} {Ed : XC} {lv : Nat} {x : Str} {C : Addr} {ps ks : List Str} {F : AFn} {p pos : Pos} {kws : List Keyword} {ix : List Nat} {dfl : List D}
end
theorem zls {Kd : KD} {ds : List D} {ρ : Env} (q : Kd (.ow (.fz (.lst ds))) ρ) : zK Kd (.ow (.ls ds)) ρ := q
end AE
namespace AE
open PySem L2
def cmpOk (d e : D) : Prop := Shp d ∧ Shp e ∧ PySem.W.alike (toPy d) (toPy e) = true ∧ toPy d ≠ .none
def dlt (d e : D) : Bool := PySem.W.dataLt (toPy d) (toPy e)
def gLtD : G2 := fun d e P => cmpOk d e ∧ P (.fz (.bl (dlt d e)))
def gGtD : G2 := fun d e P => cmpOk d e ∧ P (.fz (.bl (dlt e d)))
def gLeD : G2 := fun d e P => cmpOk d e ∧ P (.fz (.bl (!dlt e d)))
def gGeD : G2 := fun d e P => cmpOk d e ∧ P (.fz (.bl (!dlt d e)))
instance : Mo2 gLtD := ⟨fun x y P P' k h => ⟨h.1, k _ h.2⟩⟩
instance : Mo2 gGtD := ⟨fun x y P P' k h => ⟨h.1, k _ h.2⟩⟩
instance : Mo2 gLeD := ⟨fun x y P P' k h => ⟨h.1, k _ h.2⟩⟩
instance : Mo2 gGeD := ⟨fun x y P P' k h => ⟨h.1, k _ h.2⟩⟩
section
variable {X : Cx}
end
end AE
namespace AE
open PySem L2
def gLstD (n : Nat) (gs : TGDs) : TGD := fun o ρ N => match o with
  | .fz (.lst ds) => ds.length = n ∧ gs ds ρ N
  | _ => False
section
variable {X : Cx} {W : WX} {P : Prot} {ρ : Env} {pos : Pos}
theorem ag_lst {es : List Expr} {k : Nat} {gs : TGDs} {n : Nat} (hc : X.calm = true) (h : AGs X P es gs) (hn : (assignEach es X.env).length = n := by rfl) (hst : (assignEach es X.env).findIdx? (·.1) = none := by rfl) : AG X P (.Tuple es k pos) (gLstD n gs) :=
  PG.imp (pg_unl hc h hn hst) fun v σ H Q q => by
    obtain ⟨HF, ρ, A, o, B, N, w, en, r, g, k⟩ := q
    cases o with
    | fz d =>
      cases d with
      | lst ds =>
        obtain ⟨rfl, a, vs, rfl, sq, rs⟩ := r
        rw [List.append_nil] at w k
        exact ⟨a, vs, rfl, SqL.of (w.same _ _ sq), rs.length.trans g.1, HF, ρ, A, ds, N, w, en, rs, g.2, k⟩
      | _ => exact g.elim
    | _ => exact g.elim
theorem g_lst {es : List Expr} {k : Nat} {n : Nat} {ds : List D} {N : Env → Prop} (hc : X.calm = true) (hl : ds.length = n) (q : wGs X P es ds ρ N) (hn : (assignEach es X.env).length = n := by rfl) (hst : (assignEach es X.env).findIdx? (·.1) = none := by rfl) : wG X P (.Tuple es k pos) (.fz (.lst ds)) ρ N := wG.of (ag_lst hc ewGs hn hst) ⟨hl, q⟩
end
def asL2 (d : D) (k : D → D → Prop) : Prop := match d with
  | .lst [a, b] => k a b
  | _ => False
def asL3 (d : D) (k : D → D → D → Prop) : Prop := match d with
  | .lst [a, b, c] => k a b c
  | _ => False
def asL4 (d : D) (k : D → D → D → D → Prop) : Prop := match d with
  | .lst [a, b, c, e] => k a b c e
  | _ => False
section
variable {X : Cx} {W : WX} {P : Prot} {ρ : Env} {pos : Pos} {es : List Expr} {k : Nat} {N : Env → Prop} {d : D}
theorem asL2.g {R : D → D → Prop} (hc : X.calm = true) (h : asL2 d R) (q : ∀ a b, R a b → wGs X P es [a, b] ρ N) (hn : (assignEach es X.env).length = 2 := by rfl) (hst : (assignEach es X.env).findIdx? (·.1) = none := by rfl) : wG X P (.Tuple es k pos) (.fz d) ρ N := by
  unfold asL2 at h
  split at h
  · exact g_lst hc rfl (q _ _ h) hn hst
  · exact h.elim
theorem asL3.g {R : D → D → D → Prop} (hc : X.calm = true) (h : asL3 d R) (q : ∀ a b c, R a b c → wGs X P es [a, b, c] ρ N) (hn : (assignEach es X.env).length = 3 := by rfl) (hst : (assignEach es X.env).findIdx? (·.1) = none := by rfl) : wG X P (.Tuple es k pos) (.fz d) ρ N := by
  unfold asL3 at h
  split at h
  · exact g_lst hc rfl (q _ _ _ h) hn hst
  · exact h.elim
theorem asL4.g {R : D → D → D → D → Prop} (hc : X.calm = true) (h : asL4 d R) (q : ∀ a b c e, R a b c e → wGs X P es [a, b, c, e] ρ N) (hn : (assignEach es X.env).length = 4 := by rfl) (hst : (assignEach es X.env).findIdx? (·.1) = none := by rfl) : wG X P (.Tuple es k pos) (.fz d) ρ N := by
  unfold asL4 at h
  split at h
  · exact g_lst hc rfl (q _ _ _ _ h) hn hst
  · exact h.elim
end
end AE
namespace AE
open PySem L2 PyProof.Rows
def gCount : GS1 := fun a d P => match d with
  | .str b => P (.fz (.int (Txt.count a b)))
  | _ => False
instance : MoS gCount := ⟨fun a x P P' k h => by unfold gCount at h; split at h <;> first | exact h.elim | exact k _ h⟩
section
variable {X : Cx} {W : WX} {o e : Expr} {to te : TD} {pos apos : Pos}
end
section
variable {X : Cx}
end
def gRvt : G1
  | .lst xs, P => P (.ls (xs.drop 1).reverse)
  | _, _ => False
instance : Mo1 gRvt := ⟨fun x P P' k h => by unfold gRvt at h; split at h <;> first | exact k _ h | exact h.elim⟩
end AE
namespace AE
open PySem L2
section
variable {X : Cx} {W : WX} {P : Prot} {ρ : Env} {E : EndsD} {Ed : XC} {e : Expr} {pos : Pos}
def pExt (x y : D) (R : D → Prop) : Prop := match x, y with
  | .lst xs, .lst zs => xs.length + zs.length ≤ sizeLine ∧ R (.lst (xs ++ zs))
  | _, _ => False
end
section
variable {X : Cx} {W : WX} {P : Prot} {ρ : Env} {pos : Pos} {es : List Expr} {k : Nat} {N : Env → Prop} {d : D}
theorem asT2.g {R : D → D → Prop} (hc : X.calm = true) (h : asT2 d R) (q : ∀ a b, R a b → wGs X P es [a, b] ρ N) (hn : (assignEach es X.env).length = 2 := by rfl) (hst : (assignEach es X.env).findIdx? (·.1) = none := by rfl) : wG X P (.Tuple es k pos) (.fz d) ρ N := by
  unfold asT2 at h
  split at h
  · exact g_tup hc rfl (q _ _ h) hn hst
  · exact h.elim
theorem asT3.g {R : D → D → D → Prop} (hc : X.calm = true) (h : asT3 d R) (q : ∀ a b c, R a b c → wGs X P es [a, b, c] ρ N) (hn : (assignEach es X.env).length = 3 := by rfl) (hst : (assignEach es X.env).findIdx? (·.1) = none := by rfl) : wG X P (.Tuple es k pos) (.fz d) ρ N := by
  unfold asT3 at h
  split at h
  · exact g_tup hc rfl (q _ _ _ h) hn hst
  · exact h.elim
end
end AE
namespace AE
open PySem L2
section
variable {X : Cx} {W : WX} {ρ : Env} {Kd : KD} {Ed : XC} {es : List Expr} {pos : Pos}
end
end AE
namespace AE
open PySem L2
section
variable {X : Cx} {W : WX} {ρ : Env} {Kd : KD} {Ed : XC} {a b c : Expr} {pos : Pos} {op op' : CmpOp}
def isIE (e : EV) : Prop := ∃ n, e = .ow (.fz (.int n))
def chK (X : Cx) (W : WX) (c : Expr) (f' : Env → List EV → KD → Prop) (Kd : KD) (Ed : XC) (e2 : EV) : KD := fun ev ρ3 => ∃ k, ev = .ow (.fz (.bl k)) ∧ (if k = true then wE X W c ρ3 (fun e3 ρ4 => isIE e3 ∧ f' ρ4 [e2, e3] Kd) Ed else Kd (.ow (.fz (.bl false))) ρ3)
theorem e_chain {f f' : Env → List EV → KD → Prop} (h : CR X op f) (h' : CR X op' f') (q : wE X W a ρ (fun e1 ρ1 => isIE e1 ∧ wE X W b ρ1 (fun e2 ρ2 => isIE e2 ∧ f ρ2 [e1, e2] (chK X W c f' Kd Ed e2)) Ed) Ed)
    (hm : lastMarks [op, op'] [b, c] = false := by with_unfolding_all rfl) : wE X W (.Compare a [op, op'] [b, c] pos) ρ Kd Ed := fun HF A σ H Q w en k x => by
  obtain ⟨r, ho, hp⟩ := h
  obtain ⟨r', ho', hp'⟩ := h'
  refine PE.imp (pe_chain ho ho' (ewE (X := X) (W := W) (e := a)) (ewE (X := X) (W := W) (e := b)) (ewE (X := X) (W := W) (e := c)) hm) fun σ' H' Q' ⟨e1, e2, e3⟩ => ?_
  subst e1 e2 e3
  refine ⟨HF, ρ, A, _, Ed, w, en, q, fun e1 ρ1 q1 HF1 H1 A1 v1 Av1 f1 w1 en1 r1 => ?_, x⟩
  obtain ⟨⟨n1, rfl⟩, q1⟩ := q1
  obtain ⟨rfl, rd1⟩ := r1
  rw [List.append_nil] at f1 w1
  refine ⟨HF1, ρ1, A1, _, Ed, w1, en1, q1, fun e2 ρ2 q2 HF2 H2 A2 v2 Av2 f2 w2 en2 r2 => ?_, x.step f1⟩
  obtain ⟨⟨n2, rfl⟩, q2⟩ := q2
  obtain ⟨rfl, rd2⟩ := r2
  rw [List.append_nil] at f2 w2
  have f12 := f1.trans f2
  cases rd1
  cases rd2
  refine hp σ' HF2 H2 ρ2 A2 [] [.ow (.fz (.int n1)), .ow (.fz (.int n2))] [.int n1, .int n2] _ _ (by rw [List.append_nil]; exact w2) en2 ⟨_, _, [], [], rfl, rfl, ⟨rfl, rfl⟩, _, _, [], [], rfl, rfl, ⟨rfl, rfl⟩, rfl, rfl⟩ q2 ?_
  intro ev ρ3 q3 HF3 H3 A3 v3 Av3 f3 w3 en3 r3
  rw [List.append_nil] at f3
  obtain ⟨kb, rfl, q3⟩ := q3
  obtain ⟨rfl, rd3⟩ := r3
  cases rd3
  rw [List.append_nil] at f3 w3
  have f13 := f12.trans f3
  refine ⟨kb, rfl, ?_⟩
  cases kb with
  | false => exact (k.step f13) _ _ q3 HF3 H3 A3 _ [] (by rw [List.append_nil]; exact .refl) (by rw [List.append_nil]; exact w3) en3 ⟨rfl, rfl⟩
  | true =>
    refine ⟨HF3, ρ3, A3, _, Ed, w3, en3, q3, fun e3 ρ4 q4 HF4 H4 A4 v4 Av4 f4 w4 en4 r4 => ?_, x.step f13⟩
    obtain ⟨⟨n3, rfl⟩, q4⟩ := q4
    obtain ⟨rfl, rd4⟩ := r4
    cases rd4
    rw [List.append_nil] at f4 w4
    exact hp' σ' HF4 H4 ρ4 A4 [] [.ow (.fz (.int n2)), .ow (.fz (.int n3))] [.int n2, .int n3] _ _ (by rw [List.append_nil]; exact w4) en4 ⟨_, _, [], [], rfl, rfl, ⟨rfl, rfl⟩, _, _, [], [], rfl, rfl, ⟨rfl, rfl⟩, rfl, rfl⟩ q4 (by rw [List.append_nil]; exact k.step (f13.trans f4))
end
end AE
namespace AE
open PySem L2
def leS (a b : Str) : Bool := decide (a.cps.toList ≤ b.cps.toList)
def leL (a b : Str) : Bool := decide ((a.length : Int) ≤ (b.length : Int))
theorem each_str : ∀ {ss : List Str} {us : List Value}, Vals (ss.map V.str) us → PySem.W.EachIs (fun v b => ∃ t, v = Value.str b t) us ss
  | [], _, .nil => .nil
  | _ :: _, _, .cons r t => .cons r (each_str t)
theorem str_each : ∀ {ss : List Str} {us : List Value}, PySem.W.EachIs (fun v b => ∃ t, v = Value.str b t) us ss → Vals (ss.map V.str) us
  | [], _, .nil => .nil
  | _ :: _, _, .cons r t => .cons r (str_each t)
section
variable {X : Cx}
theorem cr_sortedStr (hu : X.A.units + 64 < cLine) : CallR X (.builtin "sorted") (fun vs H Q => ∃ (a : Addr) (ss : List Str), vs = [V.ref a] ∧ SqL X.K H a (ss.map V.str) ∧ ∀ p, H p = none → Q (.ref p) (upd H p (.lst ((ss.mergeSort leS).map V.str)))) := by
  intro pins s σ H vs us Q I r h
  obtain ⟨a, ss, rfl, hs, q⟩ := h
  obtain ⟨its, rv, hl, hz⟩ := I.list hs
  rw [Vals.ref1 r]
  have e := each_str rv
  have hz2 : ss.length ≤ sizeLine := by simpa using hz
  refine PySem.W.sorted_data (enc := fun b => PyData.str b) (bs := ss) hl.isList e (e.mono fun v b ⟨t, h⟩ => ⟨[], by rw [h]; exact .str b t⟩) (PySem.W.AllAlike.of fun _ _ => rfl) (PySem.W.Sortable.others fun _ => ⟨by simp, by simp⟩) hz2 (fun _ _ => by show X.A.units + 2 + 0 < cLine; omega) fun out hlen ho => ?_
  rw [show PySem.W.dataLe false (fun b : Str => PyData.str b) = leS from PySem.W.dataLe_str (fun b => b)] at ho
  obtain ⟨ep, he'⟩ := PyProof.Rows.sortedAll_at s.heap its out.toArray
  exact ⟨.ref _, upd H (s.heap.objs.size + 1) (.lst ((ss.mergeSort leS).map V.str)), I.laid (t' := s.toks) (fun _ _ => PyProof.Rows.sortedAll_old) (Nat.le_succ _) ⟨by rw [List.length_map, List.length_mergeSort]; exact hz2, out, ep, str_each ho, he'⟩, rfl, q _ (I.hok.fresh (Nat.le_succ _))⟩
end
def strsOf : List D → Option (List Str)
  | [] => some []
  | .str z :: r => (strsOf r).map (z :: ·)
  | _ :: _ => none
theorem strsOf_eq : ∀ {xs : List D} {ss : List Str}, strsOf xs = some ss → xs = ss.map D.str
  | [], _, h => by cases h; rfl
  | x :: r, ss, h => by
    cases x with
    | str z =>
      obtain ⟨l, h1, h2⟩ := Option.map_eq_some_iff.mp (show (strsOf r).map (z :: ·) = some ss from h)
      rw [← h2, strsOf_eq h1]; rfl
    | _ => cases h
theorem Reps.strs {K : PySem.W.Frag} {H : Hp} : ∀ {ss : List Str} {vs : List V}, Reps K H (ss.map D.str) vs → vs = ss.map V.str
  | [], vs, h => h
  | z :: r, vs, h => by
    obtain ⟨v, ws, rfl, r1, t⟩ := h
    cases (show v = .str z from r1)
    rw [Reps.strs t]; rfl
theorem strs_reps {K : PySem.W.Frag} {H : Hp} : ∀ (ss : List Str), Reps K H (ss.map D.str) (ss.map V.str)
  | [] => rfl
  | z :: r => ⟨.str z, r.map V.str, rfl, rfl, strs_reps r⟩
def gSort : GN := fun ds P => match ds with
  | [.lst xs] => ∃ ss, strsOf xs = some ss ∧ P (.ls ((ss.mergeSort leS).map D.str))
  | _ => False
def gSortL : GN := fun ds P => match ds with
  | [.lst xs] => ∃ ss, strsOf xs = some ss ∧ (∀ z ∈ ss, z.length ≤ sizeLine) ∧ P (.ls ((ss.mergeSort leL).map D.str))
  | _ => False
instance : MoN gSort := ⟨fun x P P' k h => by unfold gSort at h ⊢; split at h <;> first | exact h.elim | (obtain ⟨ss, e, q⟩ := h; exact ⟨ss, e, k _ q⟩)⟩
instance : MoN gSortL := ⟨fun x P P' k h => by unfold gSortL at h ⊢; split at h <;> first | exact h.elim | (obtain ⟨ss, e, e2, q⟩ := h; exact ⟨ss, e, e2, k _ q⟩)⟩
section
variable {X : Cx} {W : WX} {ρ : Env} {Kd : KD} {Ed : XC} {e : Expr} {es : List Expr} {ts : TDs} {p p2 kp pos : Pos}
theorem vw_lst {K : PySem.W.Frag} {HF H : Hp} {xs : List D} {v : V} (s : Same HF H) (h : Vw K HF H (.lst xs) v) : ∃ a vs, v = .ref a ∧ H a = some (.lst vs) ∧ Reps K HF xs vs := by
  obtain ⟨a, vs, rfl, h1, r⟩ := h
  first
  | exact ⟨a, vs, rfl, h1, r⟩
  | exact ⟨a, vs, rfl, s _ _ h1, r⟩
theorem ae_sorted (hu : X.A.units + 64 < cLine) (hg : Gl X "sorted") (hm : X.mg "sorted" = none) (ha : AA X W (e :: es) ts) (he : starEach (e :: es) X.env = (false, eval e X.env) :: starEach es X.env := by rfl) (hpl : (backTo pos (starEach es X.env)).any (·.1) = false := by rfl) :
    AE X W (.Call (.Name "sorted" p) (e :: es) [] pos) (tN (pN gSort) ts) := ae_callB (cr_sortedStr hu) (primN fun HF H vs ds P Q s r g k => by
      unfold gSort at g
      split at g
      · obtain ⟨v, rfl, r1⟩ := r.one
        obtain ⟨a, ws, rfl, h1, rs⟩ := vw_lst s r1
        obtain ⟨ss, ess, q⟩ := g
        rw [strsOf_eq ess] at rs
        rw [Reps.strs rs] at h1
        exact ⟨a, ss, rfl, SqL.of h1, fun p hp => k _ _ _ _ _ q (New.lst s hp (strs_reps _))⟩
      · exact g.elim) hg hm (by decide +kernel) ha (by decide) (by decide) he hpl
end
end AE
namespace AE
open PySem L2
def fExt : Env → List EV → KD → Prop := fun ρ es Kd => match es with
  | [.pt i, ev] => (match ρ[i]?, dOf ρ ev with
    | some (some (.ls xs)), some (.lst zs) => xs.length + zs.length ≤ sizeLine ∧ Kd (.ow (.fz .non)) (ρ.set i (some (.ls (xs ++ zs))))
    | _, _ => False)
  | _ => False
section
variable {X : Cx} {W : WX} {ρ : Env} {Kd : KD} {Ed : XC} {o e a b c : Expr} {es : List Expr} {to : TD} {ts : TDs} {p pos apos cpos : Pos}
theorem ext {i : Nat} {x y : D} {R : D → Prop} {ev : EV} (hi : ρ[i]? = some (oo x)) (v : VwE ρ ev y) (h : pExt x y R) (k : ∀ d', R d' → Kd (.ow (.fz .non)) (ρ.set i (oo d'))) : fExt ρ [.pt i, ev] Kd := by
  cases x <;> first | exact h.elim | skip
  cases y <;> first | exact h.elim | skip
  rename_i xs zs
  show (match ρ[i]?, dOf ρ ev with | some (some (O.ls xs)), some (D.lst zs) => xs.length + zs.length ≤ sizeLine ∧ Kd (EV.ow (O.fz D.non)) (List.set ρ i (some (O.ls (xs ++ zs)))) | _, _ => False)
  rw [hi, v.dOf]
  exact ⟨h.1, k _ h.2⟩
def gGet : G2 := fun d d' P => match d with
  | .dic kvs => (match keyD d' with
    | some k => P (.fz (match valD kvs k with | some v => v | none => .non))
    | none => False)
  | _ => False
instance : Mo2 gGet := ⟨fun x y P P' k h => by
  unfold gGet at h ⊢
  split at h
  · split at h
    · exact k _ h
    · exact h.elim
  · exact h.elim⟩
def zI (ev : EV) (k : Int → Prop) : Prop := match ev with
  | .ow (.fz (.int i)) => k i
  | _ => False
theorem zik {z : D} {R k : Int → Prop} (h : asI z R) (q : ∀ i, R i → k i) : zI (.ow (.fz z)) k := by
  cases z <;> first | exact q _ h | exact h.elim
theorem e_chD {op op' : CmpOp} {f f' : Int → Int → Bool} (h : CR X op (p2 (gI0 fun i j => .bl (f i j)))) (h' : CR X op' (p2 (gI0 fun i j => .bl (f' i j))))
    (q : wE X W a ρ (fun e1 ρ1 => zI e1 fun i => wE X W b ρ1 (fun e2 ρ2 => zI e2 fun j => if f i j = true then wE X W c ρ2 (fun e3 ρ3 => zI e3 fun l => Kd (.ow (.fz (.bl (f' j l)))) ρ3) Ed else Kd (.ow (.fz (.bl false))) ρ2) Ed) Ed)
    (hm : lastMarks [op, op'] [b, c] = false := by with_unfolding_all rfl) : wE X W (.Compare a [op, op'] [b, c] pos) ρ Kd Ed := by
  have dOfI : ∀ (ρ : Env) (n : Int), dOf ρ (.ow (.fz (.int n))) = some (.int n) := fun _ _ => rfl
  refine e_chain h h' (wE.imp q fun e1 ρ1 z => ?_) hm
  unfold zI at z
  split at z
  · rename_i i
    refine ⟨⟨i, rfl⟩, wE.imp z fun e2 ρ2 z => ?_⟩
    unfold zI at z
    split at z
    · rename_i j
      refine ⟨⟨j, rfl⟩, ?_⟩
      show (match dOf ρ2 (.ow (.fz (.int i))) with | some d => (match dOf ρ2 (.ow (.fz (.int j))) with | some d' => gI0 (fun i j => .bl (f i j)) d d' (fun o => relP ρ2 (chK X W c _ Kd Ed (.ow (.fz (.int j))) (.ow o)) [.ow (.fz (.int i)), .ow (.fz (.int j))]) | none => False) | none => False)
      rw [dOfI, dOfI]
      show chK X W c _ Kd Ed (.ow (.fz (.int j))) (.ow (.fz (.bl (f i j)))) ρ2
      refine ⟨f i j, rfl, ?_⟩
      cases hf : f i j with
      | false => rw [hf] at z; simpa using z
      | true =>
        rw [hf] at z
        refine (if_pos rfl).mpr (wE.imp ((if_pos rfl).mp z) fun e3 ρ3 z => ?_)
        unfold zI at z
        split at z
        · rename_i l
          refine ⟨⟨l, rfl⟩, ?_⟩
          show (match dOf ρ3 (.ow (.fz (.int j))) with | some d => (match dOf ρ3 (.ow (.fz (.int l))) with | some d' => gI0 (fun i j => .bl (f' i j)) d d' (fun o => relP ρ3 (Kd (.ow o)) [.ow (.fz (.int j)), .ow (.fz (.int l))]) | none => False) | none => False)
          rw [dOfI, dOfI]
          exact z
        · exact z.elim
    · exact z.elim
  · exact z.elim
def isT2 (T U : String) (d : D) (R : D → Prop) : Prop := match tyS d with
  | some n => R (.bl ((n == T || (n == "bool" && T == "int")) || (n == U || (n == "bool" && U == "int"))))
  | none => False
theorem isT2k {K : PySem.W.Frag} {T U : String} {x : D} {R : D → Prop} {e1 : EV} (f : IsTy K T) (g : IsTy K U) (v1 : VwE ρ e1 x) (h : isT2 T U x R) (k : ∀ z, R z → Kd (.ow (.fz z)) ρ) : pN (gIsi K) ρ [e1, .ow (.fz (.tup [.ty T, .ty U]))] (zK Kd) := by
  have v : VwEs ρ [e1, .ow (.fz (.tup [.ty T, .ty U]))] [x, .tup [.ty T, .ty U]] := .cons v1 (.cons .z .nil)
  show (match dsOf ρ [e1, .ow (.fz (.tup [.ty T, .ty U]))] with | some ds => gIsi K ds (fun o => relP ρ (zK Kd (.ow o)) [e1, .ow (.fz (.tup [.ty T, .ty U]))]) | none => False)
  rw [v.dsOf]
  dsimp only
  unfold isT2 at h
  split at h
  · rename_i n e
    obtain ⟨a, b⟩ := tyS_ok (K := K) e
    refine ⟨.type n, [.type T, .type U], _, a, rfl, ?_, by dsimp only; rw [v.rel]; exact k _ h⟩
    show (match PySem.W.kitOne K (.type n) (.type T) with | some true => some true | some false => (match PySem.W.kitOne K (.type n) (.type U) with | some true => some true | some false => some false | none => none) | none => none) = _
    rw [f.ty n b, g.ty n b]
    generalize (n == T || (n == "bool" && T == "int")) = u1
    generalize (n == U || (n == "bool" && U == "int")) = u2
    cases u1 <;> cases u2 <;> rfl
  · exact h.elim
def intsOf : List D → Option (List Int)
  | [] => some []
  | .int i :: r => (intsOf r).map (i :: ·)
  | _ :: _ => none
theorem Reps.ints {K : PySem.W.Frag} {H : Hp} : ∀ {xs : List D} {ns : List Int} {vs : List V}, intsOf xs = some ns → Reps K H xs vs → vs = ns.map V.int
  | [], ns, vs, h, r => by cases h; exact r
  | x :: xs, ns, vs, h, r => by
    cases x with
    | int z =>
      obtain ⟨l, h1, rfl⟩ := Option.map_eq_some_iff.mp (show (intsOf xs).map (z :: ·) = some ns from h)
      obtain ⟨v, ws, rfl, r1, t⟩ := r
      cases (show v = .int z from r1)
      rw [Reps.ints h1 t]; rfl
    | _ => cases h
def gMaxL : GN := fun ds P => match ds with
  | [.lst xs] => ∃ ns m, intsOf xs = some ns ∧ m ∈ ns ∧ (∀ y ∈ ns, y ≤ m) ∧ P (.fz (.int m))
  | _ => False
instance : MoN gMaxL := ⟨fun x P P' k h => by unfold gMaxL at h ⊢; split at h <;> first | exact h.elim | (obtain ⟨ss, m, e, e2, e3, q⟩ := h; exact ⟨ss, m, e, e2, e3, k _ q⟩)⟩
end
section
variable {X : Cx}
theorem cr_range1 : CallR X (.type "range") (fun vs H Q => ∃ j, vs = [V.int j] ∧ ∀ p, H p = none → Q (.ref p) (upd H p (.rng 0 j))) := by
  intro pins s σ H vs us Q I r h
  obtain ⟨j, rfl, q⟩ := h
  obtain ⟨u1, rfl, rj⟩ := vals1 r
  obtain ⟨t, rfl⟩ := rj
  refine call_range_1 ⟨.ref _, upd H s.heap.objs.size (.rng 0 j), I.laid (fun b o e => Heap.get?_push_of_some _ e) (Nat.le_refl _) ?_, rfl, q _ (I.hok.fresh (Nat.le_refl _))⟩
  exact ⟨_, _, _, Heap.get?_push_size _ rfl⟩
def rngV (j : Int) : List V := (List.range j.toNat).map fun i => V.int (i : Nat)
theorem cr_listR (hc : X.calm = true) : CallR X (.type "list") (fun vs H Q => ∃ r j, vs = [V.ref r] ∧ H r = some (.rng 0 j) ∧ (-(2 ^ 62) ≤ j ∧ j ≤ 2 ^ 24) ∧ ∀ p, H p = none → Q (.ref p) (upd H p (.lst (rngV j)))) := by
  intro pins s σ H vs us Q I r h
  obtain ⟨a, j, rfl, hr, ⟨hj0, hj⟩, q⟩ := h
  obtain ⟨t, u, v, hob⟩ := I.hok a _ hr
  rw [Vals.ref1 r]
  refine call_list_range (n := j.toNat) (I.ok.hd hc) hob (small_one (by omega) (by omega) hj0 (by omega)) (by rw [rangeSize_one]; split <;> omega) (by omega) fun h' tk acc' c' hk hS hacc => ?_
  have hlen : (rngV j).length ≤ sizeLine := by unfold rngV; rw [List.length_map, List.length_range, sizeLine_eq]; omega
  refine ⟨.ref _, upd H s.heap.objs.size (.lst (rngV j)), I.laid (t' := tk) hk (Nat.le_refl _) ⟨hlen, acc'.toList, c', ?_, by rw [Array.toArray_toList]; exact hS⟩, rfl, q _ (I.hok.fresh (Nat.le_refl _))⟩
  have el : acc'.toList.length = acc'.size := by simp
  refine L2.vals_of_at (by unfold rngV; rw [List.length_map, List.length_range, el, hacc.1]) fun k x w h1 h2 => ?_
  obtain ⟨tt, rfl⟩ := hacc.2 k w (by rw [← Array.getElem?_toList]; exact h2)
  unfold rngV at h1
  rw [List.getElem?_map] at h1
  obtain ⟨i, hi, rfl⟩ := Option.map_eq_some_iff.mp h1
  obtain ⟨hk2, e2⟩ := List.getElem?_eq_some_iff.mp hi
  rw [List.getElem_range] at e2
  subst e2
  exact ⟨tt, by simp⟩
end
end AE
namespace AE
open PySem L2
def gRngL : GN := fun ds P => match ds with
  | [.int j] => (-(2 ^ 62) ≤ j ∧ j ≤ 2 ^ 24) ∧ P (.ls (rngD 0 j.toNat))
  | _ => False
instance : MoN gRngL := ⟨fun x P P' k h => by unfold gRngL at h ⊢; split at h <;> first | exact h.elim | exact ⟨h.1, k _ h.2⟩⟩
theorem reps_rng {K : PySem.W.Frag} {H : Hp} (j : Int) : Reps K H (rngD 0 j.toNat) (rngV j) := by
  unfold rngD rngV
  induction (List.range j.toNat) with
  | nil => exact rfl
  | cons i l ih => exact ⟨.int (0 + (i : Nat)), l.map (fun i => V.int (i : Nat)), by simp, by simp [Rep], ih⟩
theorem New.two {K : PySem.W.Frag} {HF H : Hp} {p q : Addr} {u : HO} {ds : List D} {vs : List V} (s : Same HF H) (hp : H p = none) (hq : upd H p u q = none) (r : Reps K HF ds vs) : New K HF H HF (upd (upd H p u) q (.lst vs)) (.ls ds) (.ref q) [q] := by
  have hq0 : H q = none := by
    by_cases e : q = p
    · rw [e]; exact hp
    · rw [upd_ne e] at hq; exact hq
  refine ⟨⟨.refl _, fun b o e _ => upd_eq hq (upd_eq hp e), fun _ _ _ _ f => f, fun b hb => .inr (by rw [List.mem_singleton.mp hb]; exact hq0)⟩, ⟨(s.trans (Same.new hp)).trans (Same.new hq), by simp, fun a ha => by rw [List.mem_singleton.mp ha]; exact s.free hq0⟩, ⟨q, vs, rfl, rfl, upd_same, r⟩⟩
section
variable {X : Cx} {W : WX} {ρ : Env} {Kd : KD} {Ed : XC} {e : Expr} {p pb pc pos : Pos}
def rRngL : List V → Hp → VK → Prop := fun vs H Q => ∃ j, vs = [V.int j] ∧ ∀ p, H p = none → (-(2 ^ 62) ≤ j ∧ j ≤ 2 ^ 24) ∧ ∀ q, upd H p (.rng 0 j) q = none → Q (.ref q) (upd (upd H p (.rng 0 j)) q (.lst (rngV j)))
theorem e_listRange (hc : X.calm = true) (hg : Gl X "list") (hm : X.mg "list" = none) (hg2 : Gl X "range") (hm2 : X.mg "range" = none) (q : wA X W [e] ρ (fun evs ρ1 => pN gRngL ρ1 evs Kd) Ed)
    (he : starEach [.Call (.Name "range" pb) [e] [] pc] X.env = (false, eval (.Call (.Name "range" pb) [e] [] pc) X.env) :: starEach [] X.env := by rfl) (he2 : starEach [e] X.env = (false, eval e X.env) :: starEach [] X.env := by rfl) :
    wE X W (.Call (.Name "list" p) [.Call (.Name "range" pb) [e] [] pc] [] pos) ρ Kd Ed := by
  have h0 : PE X (.Call (.Name "range" pb) [e] [] pc) _ := pe_callTy cr_range1 hg2 hm2 (by decide +kernel) (ewA (W := W) (e := [e])) (by decide) (by decide) he2 rfl
  have h1 : PE X (.Call (.Name "list" p) [.Call (.Name "range" pb) [e] [] pc] [] pos) _ := pe_callTy (cr_listR hc) hg hm (by decide +kernel) (pa_cons h0 pa_nil he) (by decide) (by decide) he rfl
  refine wE.of (t := tN (pN gRngL) (wA X W [e])) (PE.imp h1 fun σ H Q qq => ?_) q
  have := callN (r := rRngL) (f := pN gRngL) (ts := wA X W [e]) (X := X) (W := W) (primN fun HF H vs ds P Q s r g k => by
    unfold gRngL at g
    split at g
    · obtain ⟨v, rfl, r1⟩ := r.one
      rename_i j
      cases (show v = .int j from r1)
      exact ⟨j, rfl, fun p hp => ⟨g.1, fun q hq => k _ _ _ _ _ g.2 (New.two s hp hq (reps_rng j))⟩⟩
    · exact g.elim) σ H Q qq
  obtain ⟨HF, ρ, A, Kd, Ed, w, en, t, k, x⟩ := this
  refine ⟨HF, ρ, A, Kd, Ed, w, en, t, fun evs ρ1 q1 HF1 H1 A1 vs Av f1 w1 en1 r1 => ?_, x⟩
  obtain ⟨j, rfl, z⟩ := k evs ρ1 q1 HF1 H1 A1 vs Av f1 w1 en1 r1
  exact ⟨j, rfl, fun p hp => ⟨p, j, rfl, upd_same, (z p hp).1, (z p hp).2⟩⟩
end
end AE
namespace AE
open PySem L2
section
variable (X : Cx) (W : WX)
end
section
variable {X : Cx} {W : WX} {ρ : Env} {Kd : KD} {Ed : XC} {pos : Pos}
end
end AE
namespace AE
open PySem L2
def Lk2 (HF HF' : Hp) : Prop := ∀ a x, HF a = some x → HF' a = some x ∨ ∃ o vs, (x = .dK vs ∧ HF' a = some (.frz o (.dK vs))) ∨ (x = .frz o (.dK vs) ∧ HF' a = some (.dK vs))
section
variable {K : PySem.W.Frag} {HF HF' H H' : Hp}
theorem Lk2.at {a : Addr} {x : HO} (s : Lk2 HF HF') (h : HF a = some x) (h1 : ∀ vs, x ≠ .dK vs := by intro _ z; cases z) (h2 : ∀ o vs, x ≠ .frz o (.dK vs) := by intro _ _ z; cases z) : HF' a = some x := by
  rcases s a x h with z | ⟨o, vs, ⟨e, _⟩ | ⟨e, _⟩⟩
  · exact z
  · exact (h1 vs e).elim
  · exact (h2 o vs e).elim
theorem Lk2.rd {a : Addr} {x : HO} (s : Lk2 HF HF') (h : Rd HF a x) (h1 : ∀ vs, x ≠ .dK vs := by intro _ z; cases z) (h2 : ∀ o vs, x ≠ .frz o (.dK vs) := by intro _ _ z; cases z) : Rd HF' a x := by
  rcases h with h | ⟨o, h⟩
  · exact .inl (s.at h h1 h2)
  · refine .inr ⟨o, s.at h (fun vs z => by cases z) (fun o' vs z => ?_)⟩
    injection z with _ z
    exact h1 vs z
theorem Lk2.dk {a : Addr} {vs : List (Key × V)} (s : Lk2 HF HF') (h : Rd HF a (.dK vs)) : Rd HF' a (.dK vs) := by
  rcases h with h | ⟨o, h⟩
  · rcases s a _ h with z | ⟨o, us, ⟨e, z⟩ | ⟨e, z⟩⟩
    · exact .inl z
    · cases e; exact .inr ⟨o, z⟩
    · cases e
  · rcases s a _ h with z | ⟨o', us, ⟨e, z⟩ | ⟨e, z⟩⟩
    · exact .inr ⟨o, z⟩
    · cases e
    · injection e with _ e; injection e with e; subst e; exact .inl z
theorem Lk2.sqT {a : Addr} {xs : List V} (s : Lk2 HF HF') (h : SqT K HF a xs) : SqT K HF' a xs := by
  rcases h with h | h
  · exact .inl (s.rd h)
  · exact .inr h
theorem Lk2.sqL {a : Addr} {xs : List V} (s : Lk2 HF HF') (h : SqL K HF a xs) : SqL K HF' a xs := by
  rcases h with h | h
  · exact .inl (s.rd h)
  · exact .inr h
mutual
theorem Rep.lk (s : Lk2 HF HF') : ∀ (d : D) {v : V}, Rep K HF d v → Rep K HF' d v
  | .non, v, h => h
  | .bl b, v, h => h
  | .int i, v, h => h
  | .str x, v, h => h
  | .lst ds, v, h => let ⟨a, vs, e, q, r⟩ := h; ⟨a, vs, e, s.at q, Reps.lk s ds r⟩
  | .tup ds, v, h => let ⟨a, vs, e, q, r⟩ := h; ⟨a, vs, e, s.at q, Reps.lk s ds r⟩
  | .kt ds, v, h => let ⟨a, vs, e, q, r⟩ := h; ⟨a, vs, e, s.sqT q, Reps.lk s ds r⟩
  | .dic ds, v, h => let ⟨a, vs, e, q, r⟩ := h; ⟨a, vs, e, s.dk q, RepKs.lk s ds r⟩
  | .dit ds, v, h => let ⟨a, vs, e, q, r⟩ := h; ⟨a, vs, e, s.rd q, RepTs.lk s ds r⟩
  | .ins C ds, v, h => let ⟨a, dx, vs, e, q, r⟩ := h; ⟨a, dx, vs, e, s.at q, RepFs.lk s ds r⟩
  | .cl a, v, h => h
  | .ty n, v, h => h
  | .raw w, v, h => h
  | .hb φ, v, h => let ⟨a, e, q⟩ := h; ⟨a, e, s.at q⟩
  | .scr ns, v, h => let ⟨a, e, q⟩ := h; ⟨a, e, s.sqL q⟩
  | .exc a _ d fds, v, h => ⟨h.1, h.2.elim .inl fun ⟨p, fvs, e, q, r⟩ => .inr ⟨p, fvs, e, s.at q, RepFs.lk s fds r⟩⟩
  | .xo cls fds, v, h => let ⟨a, e, z⟩ := h; ⟨a, e, z.elim (fun y => .inl ⟨y.1, s.at y.2⟩) fun ⟨p, fvs, q, q2, r⟩ => .inr ⟨p, fvs, s.at q, s.at q2, RepFs.lk s fds r⟩⟩
theorem Reps.lk (s : Lk2 HF HF') : ∀ (ds : List D) {vs : List V}, Reps K HF ds vs → Reps K HF' ds vs
  | [], vs, h => h
  | d :: ds, vs, h => let ⟨v, ws, e, q, r⟩ := h; ⟨v, ws, e, Rep.lk s d q, Reps.lk s ds r⟩
theorem RepKs.lk (s : Lk2 HF HF') : ∀ (ds : List (Key × D)) {vs : List (Key × V)}, RepKs K HF ds vs → RepKs K HF' ds vs
  | [], vs, h => h
  | d :: ds, vs, h => let ⟨v, ws, e, q, r⟩ := h; ⟨v, ws, e, RepK.lk s d q, RepKs.lk s ds r⟩
theorem RepK.lk (s : Lk2 HF HF') : ∀ (d : Key × D) {v : Key × V}, RepK K HF d v → RepK K HF' d v
  | (k, d), v, h => ⟨h.1, Rep.lk s d h.2⟩
theorem RepTs.lk (s : Lk2 HF HF') : ∀ (ds : List (List Key × D)) {vs : List (List Key × V)}, RepTs K HF ds vs → RepTs K HF' ds vs
  | [], vs, h => h
  | d :: ds, vs, h => let ⟨v, ws, e, q, r⟩ := h; ⟨v, ws, e, RepT.lk s d q, RepTs.lk s ds r⟩
theorem RepT.lk (s : Lk2 HF HF') : ∀ (d : List Key × D) {v : List Key × V}, RepT K HF d v → RepT K HF' d v
  | (k, d), v, h => ⟨h.1, Rep.lk s d h.2⟩
theorem RepFs.lk (s : Lk2 HF HF') : ∀ (ds : List (Str × D)) {vs : List (Str × V)}, RepFs K HF ds vs → RepFs K HF' ds vs
  | [], vs, h => h
  | d :: ds, vs, h => let ⟨v, ws, e, q, r⟩ := h; ⟨v, ws, e, RepF.lk s d q, RepFs.lk s ds r⟩
theorem RepF.lk (s : Lk2 HF HF') : ∀ (d : Str × D) {v : Str × V}, RepF K HF d v → RepF K HF' d v
  | (k, d), v, h => ⟨h.1, Rep.lk s d h.2⟩
end
mutual
theorem RepO.lk (s : Lk2 HF HF') : ∀ (o : O) {v : V} {A : List Addr}, RepO K HF H o v A → (∀ p ∈ A, H' p = H p) → RepO K HF' H' o v A
  | .fz d, v, A, h, k => ⟨h.1, Rep.lk s d h.2⟩
  | .ls os, v, A, h, k => let ⟨a, vs, e, ea, q, r⟩ := h; ⟨a, vs, e, ea, (k a (by rw [ea]; exact List.mem_cons_self)).trans q, Reps.lk s os r⟩
  | .dc os, v, A, h, k => let ⟨a, vs, e, ea, q, r⟩ := h; ⟨a, vs, e, ea, (k a (by rw [ea]; exact List.mem_cons_self)).trans q, RepKs.lk s os r⟩
  | .dt os, v, A, h, k => let ⟨a, vs, e, ea, q, r⟩ := h; ⟨a, vs, e, ea, (k a (by rw [ea]; exact List.mem_cons_self)).trans q, RepTs.lk s os r⟩
  | .nl os, v, A, h, k => let ⟨a, vs, B, e, ea, q, r⟩ := h; ⟨a, vs, B, e, ea, (k a (by rw [ea]; exact List.mem_cons_self)).trans q, RepOs.lk s os r fun p hp => k p (by rw [ea]; exact List.mem_cons_of_mem _ hp)⟩
  | .nd os, v, A, h, k => let ⟨a, vs, B, e, ea, q, r⟩ := h; ⟨a, vs, B, e, ea, (k a (by rw [ea]; exact List.mem_cons_self)).trans q, RepOKs.lk s os r fun p hp => k p (by rw [ea]; exact List.mem_cons_of_mem _ hp)⟩
  | .ob C os, v, A, h, k => let ⟨a, dx, vs, B, e, ea, q, r⟩ := h; ⟨a, dx, vs, B, e, ea, (k a (by rw [ea]; exact List.mem_cons_self)).trans q, RepOFs.lk s os r fun p hp => k p (by rw [ea]; exact List.mem_cons_of_mem _ hp)⟩
theorem RepOs.lk (s : Lk2 HF HF') : ∀ (os : List O) {vs : List V} {A : List Addr}, RepOs K HF H os vs A → (∀ p ∈ A, H' p = H p) → RepOs K HF' H' os vs A
  | [], vs, A, h, k => h
  | o :: os, vs, A, h, k => let ⟨v, ws, A1, A2, e, ea, q, r⟩ := h; ⟨v, ws, A1, A2, e, ea, RepO.lk s o q fun p hp => k p (by rw [ea]; exact List.mem_append_left _ hp), RepOs.lk s os r fun p hp => k p (by rw [ea]; exact List.mem_append_right _ hp)⟩
theorem RepOKs.lk (s : Lk2 HF HF') : ∀ (os : List (Key × O)) {vs : List (Key × V)} {A : List Addr}, RepOKs K HF H os vs A → (∀ p ∈ A, H' p = H p) → RepOKs K HF' H' os vs A
  | [], vs, A, h, k => h
  | o :: os, vs, A, h, k => let ⟨v, ws, A1, A2, e, ea, q, r⟩ := h; ⟨v, ws, A1, A2, e, ea, RepOK.lk s o q fun p hp => k p (by rw [ea]; exact List.mem_append_left _ hp), RepOKs.lk s os r fun p hp => k p (by rw [ea]; exact List.mem_append_right _ hp)⟩
theorem RepOK.lk (s : Lk2 HF HF') : ∀ (o : Key × O) {v : Key × V} {A : List Addr}, RepOK K HF H o v A → (∀ p ∈ A, H' p = H p) → RepOK K HF' H' o v A
  | (k, o), v, A, h, kp => ⟨h.1, RepO.lk s o h.2 kp⟩
theorem RepOFs.lk (s : Lk2 HF HF') : ∀ (os : List (Str × O)) {vs : List (Str × V)} {A : List Addr}, RepOFs K HF H os vs A → (∀ p ∈ A, H' p = H p) → RepOFs K HF' H' os vs A
  | [], vs, A, h, k => h
  | o :: os, vs, A, h, k => let ⟨v, ws, A1, A2, e, ea, q, r⟩ := h; ⟨v, ws, A1, A2, e, ea, RepOF.lk s o q fun p hp => k p (by rw [ea]; exact List.mem_append_left _ hp), RepOFs.lk s os r fun p hp => k p (by rw [ea]; exact List.mem_append_right _ hp)⟩
theorem RepOF.lk (s : Lk2 HF HF') : ∀ (o : Str × O) {v : Str × V} {A : List Addr}, RepOF K HF H o v A → (∀ p ∈ A, H' p = H p) → RepOF K HF' H' o v A
  | (k, o), v, A, h, kp => ⟨h.1, RepO.lk s o h.2 kp⟩
end
theorem EnvR.lk (s : Lk2 HF HF') : ∀ (ρ : Env) {σ : St} {A : List Addr}, EnvR K HF H ρ σ A → (∀ p ∈ A, H' p = H p) → EnvR K HF' H' ρ σ A
  | [], σ, A, h, k => h
  | none :: ρ, σ, A, h, k => let ⟨s', r, e, q⟩ := h; ⟨s', r, e, EnvR.lk s ρ q k⟩
  | some o :: ρ, σ, A, h, k => let ⟨v, r, A1, A2, e, ea, q, t⟩ := h; ⟨v, r, A1, A2, e, ea, RepO.lk s o q fun p hp => k p (by rw [ea]; exact List.mem_append_left _ hp), EnvR.lk s ρ t fun p hp => k p (by rw [ea]; exact List.mem_append_right _ hp)⟩
theorem EVR.lk (s : Lk2 HF HF') {σ : St} {e : EV} {v : V} {A : List Addr} (h : EVR K HF H σ e v A) (k : ∀ p ∈ A, H' p = H p) : EVR K HF' H' σ e v A := by
  cases e with
  | ow o => exact RepO.lk s o h k
  | pt i => exact h
  | tk i π w o => exact ⟨h.1, RepO.lk s o h.2 k⟩
end
section
variable {HF H HF' H' : Hp} {A A' : List Addr} {d : Addr} {o : Obj} {vs : List (Key × V)}
theorem lk_on (h : HF d = some (.dK vs)) : Lk2 HF (upd HF d (.frz o (.dK vs))) := fun a x e => by
  by_cases z : a = d
  · subst z; rw [h] at e; cases e; exact .inr ⟨o, vs, .inl ⟨rfl, upd_same⟩⟩
  · exact .inl (by rw [upd_ne z]; exact e)
theorem lk_off (h : HF d = some (.frz o (.dK vs))) : Lk2 HF (upd HF d (.dK vs)) := fun a x e => by
  by_cases z : a = d
  · subst z; rw [h] at e; cases e; exact .inr ⟨o, vs, .inr ⟨rfl, upd_same⟩⟩
  · exact .inl (by rw [upd_ne z]; exact e)
theorem wr_on (w : WR HF H A) (h : HF d = some (.dK vs)) : WR (upd HF d (.frz o (.dK vs))) (upd H d (.frz o (.dK vs))) A :=
  ⟨fun b u e => by
    by_cases z : b = d
    · subst z; rw [upd_same] at e ⊢; exact e
    · rw [upd_ne z] at e ⊢; exact w.same b u e, w.nodup, fun a ha => by
    rw [upd_ne (fun z => by have := w.out a ha; rw [z, h] at this; cases this)]; exact w.out a ha⟩
theorem wr_off (w : WR HF H A) (h : HF d = some (.dK vs)) (f : Fr (upd H d (.frz o (.dK vs))) H' (upd HF d (.frz o (.dK vs))) HF' A A') (w' : WR HF' H' A') :
    HF' d = some (.frz o (.dK vs)) ∧ H' d = some (.frz o (.dK vs)) ∧ WR (upd HF' d (.dK vs)) (upd H' d (.dK vs)) A' ∧ Fr H (upd H' d (.dK vs)) HF (upd HF' d (.dK vs)) A A' ∧ ∀ p ∈ A', upd H' d (.dK vs) p = H' p := by
  have h1 : HF' d = some (.frz o (.dK vs)) := f.same _ _ upd_same
  have h2 : H' d = some (.frz o (.dK vs)) := w'.same _ _ h1
  have nd : ∀ p ∈ A', p ≠ d := fun p hp z => by have := w'.out p hp; rw [z, h1] at this; cases this
  refine ⟨h1, h2, ⟨fun b u e => ?_, w'.nodup, fun a ha => ?_⟩, ⟨fun b u e => ?_, fun p u e n => ?_, fun p u e n fr => ?_, fun p hp => ?_⟩, fun p hp => by rw [upd_ne (nd p hp)]⟩
  · by_cases z : b = d
    · subst z; rw [upd_same] at e ⊢; exact e
    · rw [upd_ne z] at e ⊢; exact w'.same b u e
  · rw [upd_ne (nd a ha)]; exact w'.out a ha
  · by_cases z : b = d
    · subst z; rw [upd_same]; rw [h] at e; exact e
    · rw [upd_ne z]; exact f.same b u (by rw [upd_ne z]; exact e)
  · by_cases z : p = d
    · subst z; rw [upd_same, ← e]; exact (w.same _ _ h).symm
    · rw [upd_ne z]; exact f.keep p u (by rw [upd_ne z]; exact e) n
  · have z : p ≠ d := fun z => by rw [z, h] at fr; cases fr
    rw [upd_ne z]
    exact f.free p u (by rw [upd_ne z]; exact e) n (by rw [upd_ne z]; exact fr)
  · refine (f.new p hp).elim .inl fun q => .inr ?_
    rw [upd_ne (nd p hp)] at q; exact q
section
variable {K : PySem.W.Frag} {σ : St} {P : Prot}
theorem KOk.lk {Kd : KD} {Q : VK} (w : WR HF H A) (h : HF d = some (.dK vs)) (k : KOk K σ H HF A Kd Q) : KOk K σ (upd H d (.frz o (.dK vs))) (upd HF d (.frz o (.dK vs))) A Kd (fun v H' => H' d = some (.frz o (.dK vs)) ∧ Q v (upd H' d (.dK vs))) := fun ev ρ q HF' H' A' v Av f w' en r => by
  obtain ⟨h1, h2, w2, f2, kp⟩ := wr_off w h f w'
  exact ⟨h2, k ev ρ q _ _ A' v Av f2 w2 (EnvR.lk (lk_off h1) _ en fun p hp => kp p (List.mem_append_left _ hp)) (EVR.lk (lk_off h1) r fun p hp => kp p (List.mem_append_right _ hp))⟩
theorem NOk.lk {N : Env → Prop} {Q : St → Hp → Prop} (w : WR HF H A) (h : HF d = some (.dK vs)) (k : NOk K P σ H HF A N Q) : NOk K P σ (upd H d (.frz o (.dK vs))) (upd HF d (.frz o (.dK vs))) A N (fun σ' H' => H' d = some (.frz o (.dK vs)) ∧ Q σ' (upd H' d (.dK vs))) := fun ρ n HF' H' σ' A' p f w' en => by
  obtain ⟨h1, h2, w2, f2, kp⟩ := wr_off w h f w'
  exact ⟨h2, k ρ n _ _ σ' A' p f2 w2 (EnvR.lk (lk_off h1) _ en kp)⟩
theorem ROk.lk {R : O → Env → Prop} {Q : VK} (w : WR HF H A) (h : HF d = some (.dK vs)) (k : ROk K P σ H HF A R Q) : ROk K P σ (upd H d (.frz o (.dK vs))) (upd HF d (.frz o (.dK vs))) A R (fun v H' => H' d = some (.frz o (.dK vs)) ∧ Q v (upd H' d (.dK vs))) := fun oo ρ n HF' H' σ' A' v Av p f w' en r => by
  obtain ⟨h1, h2, w2, f2, kp⟩ := wr_off w h f w'
  exact ⟨h2, k oo ρ n _ _ σ' A' v Av p f2 w2 (EnvR.lk (lk_off h1) _ en fun p hp => kp p (List.mem_append_left _ hp)) (RepO.lk (lk_off h1) _ r fun p hp => kp p (List.mem_append_right _ hp))⟩
end
end
end AE
namespace AE
open PySem L2
def keyV : Key → D
  | .inl i => .int i
  | .inr x => .str x
theorem keyV_ok {K : PySem.W.Frag} {HF : Hp} (k : Key) : Rep K HF (keyV k) (kV k) := by cases k <;> exact rfl
def keysD (kvs : List (Key × D)) : List D := kvs.map fun kv => keyV kv.1
theorem RepKs.at {K : PySem.W.Frag} {HF : Hp} : ∀ {kvs : List (Key × D)} {vs : List (Key × V)} {i : Nat} {k : Key} {v : V}, RepKs K HF kvs vs → vs[i]? = some (k, v) → ∃ d, kvs[i]? = some (k, d) ∧ Rep K HF d v
  | [], vs, i, k, v, h, e => by rw [show vs = [] from h] at e; simp at e
  | (k', d) :: kvs, vs, i, k, v, h, e => by
    obtain ⟨⟨k2, v2⟩, ws, rfl, ⟨hk, r⟩, t⟩ := h
    have hk : k2 = k' := hk
    subst hk
    cases i with
    | zero => simp at e; obtain ⟨rfl, rfl⟩ := e; exact ⟨d, by simp, r⟩
    | succ i =>
      obtain ⟨d', h1, h2⟩ := RepKs.at (i := i) t (by simpa using e)
      exact ⟨d', by simpa using h1, h2⟩
structure Pl (X : Cx) (e : Expr) (L : St → Hp → Addr → Prop) : Prop where
  pe : PE X e (fun σ H Q => ∃ d, L σ H d ∧ Q (.ref d) H)
  keep : ∀ σ H d b u o, L σ H d → H b = some (.dK u) → L σ (upd H b (.frz o (.dK u))) d
  uniq : ∀ σ H d d', L σ H d → L σ H d' → d = d'
def HasZ (K : PySem.W.Frag) (L : St → Hp → Addr → Prop) (ρ : Env) (z : D) : Prop := ∀ HF A σ H, WR HF H A → EnvR K HF H ρ σ A → ∃ d, L σ H d ∧ Rep K HF z (.ref d)
structure Lw (X : Cx) (tg e : Expr) (L : St → Hp → Addr → Prop) (J : Addr → Obj → List (Key × V) → It) (f : List (Key × D) → List D) : Prop where
  pi : PI X tg e (fun σ H R => ∃ d o vs, L σ H d ∧ H d = some (.frz o (.dK vs)) ∧ R (J d o vs) H)
  keep : ∀ σ H d b u o, L σ H d → H b = some (.dK u) → L σ (upd H b (.frz o (.dK u))) d
  uniq : ∀ σ H d d', L σ H d → L σ H d' → d = d'
  src : ∀ (HF H : Hp) d o kvs vs, HF d = some (.frz o (.dK vs)) → RepKs X.K HF kvs vs → SrcR X.K HF H (f kvs) [] (J d o vs)
def Lkd (L : St → Hp → Addr → Prop) (σ : St) (H : Hp) : Prop := ∃ d o vs, L σ H d ∧ H d = some (.frz o (.dK vs))
def tIz (K : PySem.W.Frag) (L : St → Hp → Addr → Prop) (f : List (Key × D) → List D) : TId := fun ρ Kd _ => ∃ kvs, HasZ K L ρ (.dic kvs) ∧ Kd (f kvs) ρ
section
variable {X : Cx} {W : WX} {P : Prot} {ρ : Env} {tg e e0 : Expr} {L : St → Hp → Addr → Prop} {J : Addr → Obj → List (Key × V) → It} {f : List (Key × D) → List D} {pos : Pos}
theorem pi_lw (u : ∀ σ H d d', L σ H d → L σ H d' → d = d') (lw : Lw X tg e L J f) : PI X tg e (fun σ H R => Lkd L σ H ∧ tAI X.K W (tIz X.K L f) σ H R) := PI.imp lw.pi fun σ H R ⟨⟨d, o, vs, l, hd⟩, HF, ρ, A, Kd, Ed, w, en, ⟨kvs, has, q⟩, k, x⟩ => by
  refine ⟨d, o, vs, l, hd, ?_⟩
  obtain ⟨d', l', a, vs', ea, rd, rr⟩ := has HF A σ H w en
  cases ea
  obtain rfl := u σ H _ _ l' l
  have hF : HF d' = some (.frz o (.dK vs)) ∧ vs' = vs := by
    rcases rd with z | ⟨o', z⟩
    · have := w.same _ _ z; rw [hd] at this; cases this
    · have := w.same _ _ z; rw [hd] at this; cases this; exact ⟨z, rfl⟩
  obtain ⟨hF, rfl⟩ := hF
  exact k _ ρ q HF H A [] _ (by rw [List.append_nil]; exact .refl) (by rw [List.append_nil]; exact w) (fun _ h => by cases h) en (lw.src HF H d' o kvs vs' hF rr)
theorem wE.locked {t : TD} {Kd : KD} {Ed : XC} {kvs : List (Key × D)} (keep : ∀ σ H d b u o, L σ H d → H b = some (.dK u) → L σ (upd H b (.frz o (.dK u))) d) (has : HasZ X.K L ρ (.dic kvs)) (h : PE X e (fun σ H Q => Lkd L σ H ∧ tA X.K W t σ H Q)) (q : t ρ Kd NoX) : wE X W e ρ Kd Ed := fun HF A σ H Q w en k x => by
  obtain ⟨d, l, a, vs, ea, rd, rr⟩ := has HF A σ H w en
  cases ea
  rcases rd with z | ⟨o, z⟩
  · refine PE.imp (pe_lock h) fun σ' H' Q' ⟨e1, e2, e3⟩ => ?_
    subst e1 e2 e3
    have hH := w.same _ _ z
    refine ⟨d, .dK vs, hH, trivial, fun od => ⟨⟨d, od, vs, keep _ _ _ _ _ _ l hH, upd_same⟩, _, ρ, A, Kd, NoX, wr_on w z, EnvR.lk (lk_on z) _ en fun p hp => ?_, q, k.lk w z, fun _ _ z => z.elim⟩⟩
    rw [upd_ne fun e => by have := w.out p hp; rw [e, z] at this; cases this]
  · refine PE.imp h fun σ' H' Q' ⟨e1, e2, e3⟩ => ?_
    subst e1 e2 e3
    exact ⟨⟨d, o, vs, l, w.same _ _ z⟩, HF, ρ, A, Kd, NoX, w, en, q, k, fun _ _ z => z.elim⟩
theorem wS.locked {st : Stmt} {t : TSD} {E : EndsD} {Ed : XC} {kvs : List (Key × D)} (keep : ∀ σ H d b u o, L σ H d → H b = some (.dK u) → L σ (upd H b (.frz o (.dK u))) d) (has : HasZ X.K L ρ (.dic kvs)) (h : PS X st (fun D σ H => Lkd L σ H ∧ tS X.K W P t D σ H)) (q : t E NoX ρ) : wS X W P st E Ed ρ := fun HF A σ H D w en k x => by
  obtain ⟨d, l, a, vs, ea, rd, rr⟩ := has HF A σ H w en
  cases ea
  rcases rd with z | ⟨o, z⟩
  · refine PS.imp (ps_lock h) fun D' σ' H' ⟨e1, e2, e3⟩ => ?_
    subst e1 e2 e3
    have hH := w.same _ _ z
    refine ⟨d, .dK vs, hH, trivial, fun od => ⟨⟨d, od, vs, keep _ _ _ _ _ _ l hH, upd_same⟩, _, ρ, A, E, NoX, wr_on w z, EnvR.lk (lk_on z) _ en fun p hp => ?_, q, ⟨k.nx.lk w z, k.rt.lk w z, k.bk.lk w z, k.ct.lk w z⟩, fun _ _ z => z.elim⟩⟩
    rw [upd_ne fun e => by have := w.out p hp; rw [e, z] at this; cases this]
  · refine PS.imp h fun D' σ' H' ⟨e1, e2, e3⟩ => ?_
    subst e1 e2 e3
    exact ⟨⟨d, o, vs, l, w.same _ _ z⟩, HF, ρ, A, E, NoX, w, en, q, k, fun _ _ z => z.elim⟩
def asDk (f : List (Key × D) → List D) (d : D) (R : List D → Prop) : Prop := match d with
  | .dic kvs => R (f kvs)
  | _ => False
section
variable {Kd : KD} {Ed : XC} {E : EndsD} {elt kx vx : Expr} {ifs : List Expr} {scope : Scope} {own : List (Str × Nat)} {vs : List Nat} {spos py : Pos} {i : Nat} {y : Str} {z : D} {R : List D → Prop} {body : List Stmt}
theorem e_lcK (lw : Lw X tg e L J f) (has : HasZ X.K L ρ z) (hc : X.calm = true) (hN : X.N.Nodup) (ok : BlkOk X.N X.env.scope scope own) (hvs : own.map (·.2) = vs) (nd : vs.Nodup) (hlt : ∀ v ∈ vs, v < X.N.length)
    (h : asDk f z R) (q : ∀ items, R items → LcR (bG X scope (butP vs) tg) (bT X scope ifs) (bE X scope elt) vs ρ Kd NoX items) (hs : ∀ x, foldedSetIterable e X.env x = pure x := by intro _; rfl) : wE X W (.ListComp elt [⟨tg, e, ifs, 0⟩] scope pos) ρ Kd Ed := by
  cases z <;> first | exact h.elim | skip
  rename_i kvs
  have q := q _ h
  subst hvs
  generalize hvs : own.map (·.2) = vs at nd hlt q
  have base : PE X (.ListComp elt [⟨tg, e, ifs, 0⟩] scope pos) (tLc (fun σ H R => Lkd L σ H ∧ tAI X.K W (tIz X.K L f) σ H R) (tG X.K (butP vs) (bG X scope (butP vs) tg)) (tAt X.K WF (bT X scope ifs)) (tA X.K WF (bE X scope elt)) vs) := by
    have := pe_lc (own := own) (pos := pos) (g := tG X.K (butP vs) (bG X scope (butP vs) tg)) (tt := tAt X.K WF (bT X scope ifs)) (te := tA X.K WF (bE X scope elt)) hc hN (pi_lw (W := W) lw.uniq lw) ok bG.of bT.of bE.of hs
    rw [hvs] at this
    exact this
  exact wE.locked (t := tLcD (tIz X.K L f) vs (bG X scope (butP vs) tg) (bT X scope ifs) (bE X scope elt)) lw.keep has (PE.impL base fun σ H Q hσ qq => ⟨qq.1, lc_red nd hlt σ H Q hσ qq.2⟩) ⟨kvs, has, q⟩
end
def Ln (i : Nat) : St → Hp → Addr → Prop := fun σ _ d => σ[i]? = some (some (.ref d))
theorem pl_n {i : Nat} (h : PE X e (tVar i)) : Pl X e (Ln i) where
  pe := PE.imp h fun σ H Q ⟨d, l, q⟩ => ⟨_, l, q⟩
  keep := fun _ _ _ _ _ _ l _ => l
  uniq := fun _ _ _ _ l l' => by unfold Ln at l l'; rw [l] at l'; cases l'; rfl
theorem asDk.dic {z : D} {R : List D → Prop} (h : asDk f z R) : ∃ kvs, z = .dic kvs := by
  cases z <;> first | exact h.elim | exact ⟨_, rfl⟩
theorem has_n {K : PySem.W.Frag} {i : Nat} {z : D} {R : List D → Prop} (h : asDk f z R) (hi : ρ[i]? = some (zz z)) : HasZ K (Ln i) ρ z := fun HF A σ H w en => by
  obtain ⟨v, B, C, h1, h2, h3, _⟩ := en.get hi
  obtain ⟨kvs, rfl⟩ := h.dic
  obtain ⟨_, r⟩ := h2
  obtain ⟨a, vs, rfl, r⟩ := r
  exact ⟨a, h1, a, vs, rfl, r⟩
theorem pFld.ins {C : Addr} {fl : Str} {x : D} {S : D → Prop} (h : pFld C fl x S) : ∃ z, (∃ fs, x = .ins C fs ∧ fs.lookup fl = some z) ∧ S z := by
  cases x <;> first | exact h.elim | (obtain ⟨rfl, d, hl, q⟩ := h; exact ⟨d, ⟨_, rfl, hl⟩, q⟩)
theorem lw_k (pl : Pl X e L) : Lw X tg e L Itk keysD where
  keep := pl.keep
  uniq := pl.uniq
  pi := PI.imp (pi_keys pl.pe) fun σ H R ⟨d, o, vs, l, hd, q⟩ => ⟨d, l, d, o, rfl, .inl ⟨vs, hd, q⟩⟩
  src := fun HF H d o kvs vs hF r => ⟨_, _, (by unfold keysD; rw [List.length_map, ← r.length]; exact walk_keys), fun HF2 H2 s1 s2 _ => s2 _ _ (s1 _ _ hF), fun i HF2 H2 x H3 s1 s2 _ hi y => by
    obtain ⟨rfl, k, v, hk, rfl⟩ := y
    obtain ⟨dd, h1, h2⟩ := r.at hk
    exact ⟨keyV k, HF2, by unfold keysD; rw [List.getElem?_map, h1]; rfl, .refl, s2, keyV_ok k⟩⟩
end
end AE
namespace AE
open PySem L2
def gList2 : GN := fun ds P => match ds with
  | [.dic kvs] => P (.ls (keysD kvs))
  | ds => gList ds P
instance : MoN gList2 := ⟨fun x P P' k h => by
  unfold gList2 at h ⊢
  split at h
  · exact k _ h
  · exact MoN.mo _ _ _ k h⟩
section
variable {X : Cx} {W : WX} {e : Expr} {es : List Expr} {ts : TDs} {p pos : Pos}
end
end AE
namespace AE
open PySem L2
section
variable {X : Cx} {W : WX} {P : Prot} {ρ : Env} {tg e e0 : Expr} {L : St → Hp → Addr → Prop}
def refD (d : D) : Bool := match d with
  | .tup _ => true
  | .dic _ => true
  | .ins _ _ => true
  | _ => false
theorem refD.at {K : PySem.W.Frag} {HF : Hp} {d : D} {v : V} (h : refD d = true) (r : Rep K HF d v) : ∃ a, v = .ref a := by
  cases d <;> first | exact absurd h Bool.false_ne_true | exact let ⟨a, _, e, _⟩ := r; ⟨a, e⟩ | exact let ⟨a, _, _, e, _⟩ := r; ⟨a, e⟩
end
end AE
namespace AE
open PySem L2
section
variable {X : Cx} {W : WX} {P : Prot} {ρ : Env} {Kd : KD} {Ed : XC} {a o e i : Expr} {pos apos : Pos} {f : Str} {j : Nat} {N : Env → Prop}
theorem e_ftake {C : Addr} {fs : List (Str × O)} {u : O} (hF : FldOk X.K C f) (hv : PE X a (tVar j)) (hi : ρ[j]? = some (some (.ob C fs))) (hl : fs.lookup f = some u) (q : ∀ v, Kd (.tk j [.fld f] v u) (ρ.set j (some (.ob C (setF f (.fz (.raw v)) fs)))))
    (hb : attributeBase a f X.env (eval a X.env) = eval a X.env := by rfl) : wE X W (.Attribute a f pos) ρ Kd Ed := fun HF A σ H Q w en k x => PE.imp (pe_fld hv hb) fun σ' H' Q' ⟨e1, e2, e3⟩ => by
  subst e1 e2 e3
  obtain ⟨wv, B, R, h1, ro, pm, en3⟩ := en.get hi
  obtain ⟨a', dx, vs, B', rfl, rfl, hH, rs⟩ := ro
  obtain ⟨vp, Bp, Cp, ev, pm1, rp, back⟩ := rs.part hl
  obtain ⟨A1, pm2, rh⟩ := back (.fz (.raw vp)) [] ⟨rfl, rfl⟩
  refine ⟨_, h1, a', C, dx, vs, vp, rfl, hH, hF.cl, hF.no, ev, ?_⟩
  have hl2 : j < ρ.length := (List.getElem?_eq_some_iff.mp hi).1
  have rep : RepO X.K HF H' (.ob C (setF f (.fz (.raw vp)) fs)) (.ref a') (a' :: A1) := ⟨a', dx, vs, A1, rfl, rfl, hH, rh⟩
  obtain ⟨A', pm', en'⟩ := EnvR.put en3 hl2 rep
  rw [set_get h1] at en'
  have pmA : A.Perm (A' ++ Bp) := by
    refine pm.trans ?_
    have p1 : (a' :: B').Perm (Bp ++ (a' :: A1)) := (List.Perm.cons a' pm1).trans (List.perm_middle.symm.trans (List.Perm.append_left Bp (List.Perm.cons a' (by simpa using pm2.symm))))
    refine (List.Perm.append_right R p1).trans ?_
    refine List.Perm.trans ?_ (List.Perm.append_right Bp pm'.symm)
    rw [List.append_assoc]
    exact List.perm_append_comm
  exact k _ _ (q vp) HF H' A' vp Bp (Fr.drop fun p hp => pmA.mem_iff.mpr hp) (w.perm pmA) en' ⟨rfl, rp⟩
def suKTD (v : O) (N : Env → Prop) (e1 : EV) : KD := fun e2 ρ2 => match e1 with
  | .tk j π v0 (.dc kvs) => (match ρ2[j]? with
    | some (some t) => (match dOf ρ2 e2 with
      | some d => (match keyD d with
        | some k => getAt t π = some (.fz (.raw v0)) ∧ kvs.length < sizeLine ∧ N (ρ2.set j (some (putAt t π (.dc (putDk kvs k (frz v))))))
        | none => False)
      | none => False)
    | _ => False)
  | _ => False
theorem g_subTD {v : O} (hu : X.A.units + 64 < cLine) (q : wE X WF o ρ (fun e1 ρ1 => wE X WF i ρ1 (suKTD v N e1) NoX) NoX)
    (ha : ∀ v, assign (.Subscript o i pos) X.env v = (do
      let ov ← holding [v] (eval o X.env)
      let iv ← holding [v, ov] (eval i X.env)
      standAt pos
      holding [v, ov, iv] (setItem ov iv v)
      release [v, ov, iv] []) := by intro _; rfl) : wG X P (.Subscript o i pos) v ρ N := fun HF A B vv σ H Q w en r k => PG.imp (pg_sub (ewE (W := WF)) (ewE (W := WF)) (set_dict hu) ha) fun v' σ' H' Q' ⟨e0, e1, e2, e3⟩ => by
    subst e0 e1 e2 e3
    have tB := RepO.there v r
    refine ⟨HF, ρ, A, _, NoX, w.left, en, q, fun e1 ρ1 q1 HF1 H1 A1 v1 Av1 f1 w1 en1 r1 => ?_, fun _ _ z => z.elim⟩
    obtain ⟨w1B, f1B, k1B⟩ := join w tB f1 w1
    refine ⟨HF1, ρ1, A1, _, NoX, w1.left, en1, q1, fun e2 ρ2 q2 HF2 H2 A2 v2 Av2 f2 w2 en2 r2 => ?_, fun _ _ z => z.elim⟩
    obtain ⟨w2B, f2B, k2B⟩ := join w1B (fun p hp => (List.mem_append.mp hp).elim (fun z => by rw [k1B p z]; exact tB p z) (EVR.there r1 p)) f2 w2
    have rB1 : RepO X.K HF1 H1 v v' B := RepO.keep f1.same v r k1B
    have rB2 : RepO X.K HF2 H2 v v' B := RepO.keep f2.same v rB1 fun p hp => k2B p (List.mem_append_left _ hp)
    have r1' := EVR.keep f2.same r1 fun p hp => k2B p (List.mem_append_right _ hp)
    unfold suKTD at q2
    split at q2
    · rename_i j π v0 kvs
      split at q2
      · rename_i t et
        split at q2
        · rename_i d ed
          split at q2
          · rename_i key ek
            obtain ⟨eg, hlen, q⟩ := q2
            obtain rfl := keyD_ok ek (Vw.ev w2.same en2 r2 ed)
            obtain ⟨rfl, a, us, rfl, rfl, hH, rs⟩ := r1'
            have pm : (A2 ++ ((B ++ [a]) ++ Av2)).Perm ((B ++ (A2 ++ [a])) ++ Av2) := by
              rw [← List.append_assoc, ← List.append_assoc]
              refine List.Perm.append_right Av2 ?_
              rw [← List.append_assoc]
              exact List.Perm.append_right [a] List.perm_append_comm
            obtain ⟨sg, wg, fg⟩ := grow_ok (w2B.perm pm).left
            have rg : Rep X.K (grow HF2 H2 B) (frz v) v' := RepO.frz sg v rB2 fun p hp => grow_in hp
            obtain ⟨A', w', f', en'⟩ := tk_put (u := .dK (putK us key v')) (o' := .dc (putDk kvs key (frz v))) en2 et eg sg wg ⟨a, _, rfl, rfl, upd_same, RepKs.put rg (RepKs.mono sg kvs rs)⟩
            have f02 : Fr H' H2 HF HF2 (A ++ B) (B ++ (A2 ++ [a])) := (f1B.trans f2B).mono (fun _ h => h) fun p hp => .inl (pm.mem_iff.mpr (List.mem_append_left _ hp))
            exact ⟨a, _, rfl, DPut.k hH (by rw [rs.length]; exact hlen), k _ q _ _ σ' A' .refl ((f02.trans fg).trans f') w' en'⟩
          · exact q2.elim
        · exact q2.elim
      · exact q2.elim
    · exact q2.elim
theorem lookup_mid {f : Str} {o : O} : ∀ {fs gs : List (Str × O)}, fs.lookup f = none → (fs ++ (f, o) :: gs).lookup f = some o
  | [], gs, _ => by simp
  | (g, p) :: fs, gs, h => by
    cases e : f == g with
    | true => rw [List.lookup_cons, e] at h; cases h
    | false =>
      rw [List.lookup_cons, e] at h
      rw [List.cons_append, List.lookup_cons, e]
      exact lookup_mid h
theorem setF_mid {f : Str} {o o' : O} : ∀ {fs gs : List (Str × O)}, fs.lookup f = none → setF f o' (fs ++ (f, o) :: gs) = fs ++ (f, o') :: gs
  | [], gs, _ => by simp [setF]
  | (g, p) :: fs, gs, h => by
    cases e : f == g with
    | true => rw [List.lookup_cons, e] at h; cases h
    | false =>
      rw [List.lookup_cons, e] at h
      show setF f o' ((g, p) :: (fs ++ (f, o) :: gs)) = _
      unfold setF
      rw [e]
      simp only [Bool.false_eq_true, if_false]
      rw [setF_mid h]; rfl
def pSetDk (t d x : D) (R : D → Prop) : Prop := match t with
  | .dic kvs => asKey d fun k => kvs.length < sizeLine ∧ R (.dic (putDk kvs k x))
  | _ => False
theorem sukTD {C : Addr} {fs gs : List (Str × O)} {v : V} {t d x : D} {R : D → Prop} {ev : EV} (hn : fs.lookup f = none) (hi : ρ[j]? = some (some (.ob C (fs ++ (f, O.fz (.raw v)) :: gs)))) (vw : VwE ρ ev d) (h : pSetDk t d x R) (k : ∀ t', R t' → N (ρ.set j (some (.ob C (fs ++ (f, ownO t') :: gs))))) : suKTD (.fz x) N (.tk j [.fld f] v (ownO t)) ev ρ := by
  cases t <;> first | exact h.elim | skip
  rename_i t'
  have h : asKey d _ := h
  unfold asKey at h
  show (match ρ[j]? with
    | some (some t) => (match dOf ρ ev with
      | some d => (match keyD d with
        | some k => getAt t [.fld f] = some (O.fz (.raw v)) ∧ t'.length < sizeLine ∧ N (ρ.set j (some (putAt t [.fld f] (.dc (putDk t' k x)))))
        | none => False)
      | none => False)
    | _ => False)
  rw [hi, vw.dOf]
  split at h
  · rename_i key ek
    obtain ⟨h1, h2⟩ := h
    have eg : get1 (.ob C (fs ++ (f, O.fz (.raw v)) :: gs)) (.fld f) = some (.fz (.raw v)) := lookup_mid hn
    have e1 : getAt (.ob C (fs ++ (f, O.fz (.raw v)) :: gs)) [.fld f] = some (.fz (.raw v)) := by
      show (match get1 (.ob C (fs ++ (f, O.fz (.raw v)) :: gs)) (.fld f) with | some u => getAt u [] | none => none) = _
      rw [eg]; rfl
    have e2 : putAt (.ob C (fs ++ (f, O.fz (.raw v)) :: gs)) [.fld f] (.dc (putDk t' key x)) = .ob C (fs ++ (f, .dc (putDk t' key x)) :: gs) := by
      show (match get1 (.ob C (fs ++ (f, O.fz (.raw v)) :: gs)) (.fld f) with | some u => set1 (putAt u [] (.dc (putDk t' key x))) (.ob C (fs ++ (f, O.fz (.raw v)) :: gs)) (.fld f) | none => _) = _
      rw [eg]
      show O.ob C (setF f _ _) = _
      rw [setF_mid hn]
      rfl
    dsimp only
    rw [ek]
    refine ⟨e1, h1, ?_⟩
    rw [e2]
    exact k _ h2
  · exact h.elim
end
end AE
namespace AE
open PySem L2
def fCount : Env → List EV → KD → Prop := fun ρ es Kd => match es with
  | [e1, e2] => (match dOf ρ e1 with
    | some (.lst ys) => (match dOf ρ e2 with
      | some d => flatD d = true ∧ ys.all flatD = true ∧ Kd (.ow (.fz (.int ((ys.countP fun z => dEq z d : Nat) : Int)))) ρ
      | none => False)
    | _ => False)
  | _ => False
section
variable {X : Cx} {W : WX} {ρ : Env} {Kd : KD} {Ed : XC} {o e : Expr} {to : TD} {ts : TDs} {apos cpos : Pos}
def pCnt (d v : D) (R : D → Prop) : Prop := match d with
  | .lst ys => flatD v = true ∧ ys.all flatD = true ∧ R (.int ((ys.countP fun z => dEq z v : Nat) : Int))
  | _ => False
theorem cnt {d v : D} {R : D → Prop} {e1 e2 : EV} (v1 : VwE ρ e1 d) (v2 : VwE ρ e2 v) (h : pCnt d v R) (k : ∀ z, R z → Kd (.ow (.fz z)) ρ) : fCount ρ [e1, e2] Kd := by
  cases d <;> first | exact h.elim | skip
  obtain ⟨h1, h2, h3⟩ := h
  unfold fCount
  dsimp only
  rw [v1.dOf, v2.dOf]
  exact ⟨h1, h2, k _ h3⟩
end
end AE
namespace AE
open PySem PySem.Spec PyProof.Rows L2
abbrev NK := Option Key
def nV : NK → V
  | none => .non
  | some k => kV k
def ndk (P : Program) (w : World) (kvs : List (NK × V)) (a : Addr) : Heap → Prop := fun h => kvs.length ≤ sizeLine ∧ (a == sysModules) = false ∧ ∃ vs, KV kvs vs ∧ h.DictOf (noneKind P w) a vs
def ndO (P : Program) (w : World) (kvs : List (NK × V)) (a : Addr) : HO := .ext (ndk P w kvs a)
theorem nV_is {P : Program} {w : World} {k : NK} {u : Value} (r : RelV (nV k) u) : (noneKind P w).is k u = true := by
  cases k with
  | none =>
    obtain rfl : u = Value.none := r
    rfl
  | some k => exact kV_is (P := P) (w := w) (k := k) r
theorem ndk_stay {P : Program} {w : World} {kvs : List (NK × V)} {a : Addr} (h1 h2 : Heap) (q : ndk P w kvs a h1) (k : ∀ o, h1.get? a = some o → h2.get? a = some o) : ndk P w kvs a h2 := by
  obtain ⟨z, y, vs, r, o, es, ep, e, c⟩ := q
  exact ⟨z, y, vs, r, o, es, ep, k _ e, c⟩
theorem nd_new {P : Program} {w : World} {H : Hp} {h : Heap} {kvs : List (NK × V)} {vs : List (NK × Value)} {a : Addr} (z : kvs.length ≤ sizeLine) (hd : (a == sysModules) = false) (rel : KV kvs vs) (dd : h.DictOf (noneKind P w) a vs) :
    ObjOk P w H h a (ndO P w kvs a) := by
  have he : ∃ o, h.get? a = some o := let ⟨o, _, _, e, _⟩ := dd; ⟨o, e⟩
  exact ⟨⟨z, hd, vs, rel, dd⟩, he, ndk_stay⟩
theorem nd_empty {P : Program} {w : World} {H : Hp} (h : Heap) (hb : sysModules < h.objs.size) : ObjOk P w H (h.push { cls := .type "dict", data := .dict #[] }) h.objs.size (ndO P w [] h.objs.size) :=
  nd_new (Nat.zero_le _) (beq_eq_false_iff_ne.mpr (Ne.symm (Nat.ne_of_lt hb))) .nil (Heap.DictOf.new h)
theorem nd_at {X : Cx} {pins : List (Addr × Obj)} {σ : L2.St} {H : Hp} {s : Shared} {kvs : List (NK × V)} {a : Addr} (I : Inv X pins σ H s) (e : H a = some (ndO X.prog X.w kvs a)) : ndk X.prog X.w kvs a s.heap := (I.hok a _ e).1
theorem nd_dictSet {X : Cx} {pins : List (Addr × Obj)} {σ : L2.St} {H : Hp} {s : Shared} {E : Value → Shared → Prop} {D : Addr} {kvs : List (NK × V)} {k : NK} {v : V} {u r : Value} {Q : Unit → Shared → Prop} (I : Inv X pins σ H s) (hD : H D = some (ndO X.prog X.w kvs D)) (hz : kvs.length < sizeLine)
    (ry : RelV (nV k) u) (rv : RelV v r) (h : ∀ s', Inv X pins σ (upd H D (ndO X.prog X.w (putK kvs k v) D)) s' → Q () s') : wpAny (model X.prog X.w) X.A (dictSet D u r) Q E s := by
  obtain ⟨z, hd, vs, rel, dd⟩ := nd_at I hD
  have hzv : vs.length ≤ sizeLine := by rw [← rel.length]; exact z
  have hl : (putK kvs k v).length ≤ sizeLine := by have := length_putK kvs k v; omega
  refine wpAny_dictSet_pairs (hsz := hzv) (nV_is ry) dd fun h' dd' hs => h _ ?_
  have he : ∃ q, h'.get? D = some q := let ⟨q, _, _, hq, _⟩ := dd'; ⟨q, hq⟩
  exact d_write I (by rw [hD]; exact True.intro) hs he (nd_new hl hd (rel.put k rv) dd')
theorem nd_get {X : Cx} {pins : List (Addr × Obj)} {σ : L2.St} {H : Hp} {s : Shared} {A : Around} {E : Value → Shared → Prop} {a : Addr} {kvs : List (NK × V)} {k : NK} {u : Value} {Q : Value → Shared → Prop} (I : Inv X pins σ H s) (e : H a = some (ndO X.prog X.w kvs a))
    (ry : RelV (nV k) u) (h : ∀ w' s', Inv X pins σ H s' → RelV ((valV kvs k).getD .non) w' → Q w' s') : wpAny (model X.prog X.w) A (call (.builtin "dict.get") [.ref a, u]) Q E s := by
  obtain ⟨z, hd, vs, rel, dd⟩ := nd_at I e
  refine call_meetsIn PySem.F.slot_dict_get dd.typeIs PySem.F.entry_dict_get (PySem.F.args_dict_get_2 _ _) (meets_dict_get (noneKind X.prog X.w) a (nV_is ry) hd) ⟨_, dd.mapOf, h _ _ (I.tok _) ?_⟩
  exact (rel.val k).getD rfl
section
variable {X : Cx}
def tDcN (P : Program) (w : World) (wi : TI) (g : TG) (tt : TT) (tk tv : TE) (vs : List Nat) : TE := fun σ H Q => wi σ H fun J H1 => ∀ D, H1 D = none → ∃ S : Nat → Nat → Hp → Prop, (∃ m, S 0 m (upd H1 D (ndO P w [] D))) ∧ ∀ i m H, S i m H →
  (J.stop i H ∧ Q (.ref D) H) ∨ (J.go i H ∧ ∃ Nx : Hp → Prop, (∀ H', Nx H' → ∃ m', m' < m ∧ S (i + 1) m' H') ∧ ∀ x H', J.yld i H x H' → g x (wipe σ vs) H' fun σ2 H2 => wipe σ2 vs = wipe σ vs ∧ tt σ2 H2 fun b H3 =>
    if b = true then tk σ2 H3 fun y H4 => tv σ2 H4 fun z H5 => ∃ kvs k, y = nV k ∧ H5 D = some (ndO P w kvs D) ∧ kvs.length < sizeLine ∧ Nx (upd H5 D (ndO P w (putK kvs k z) D)) else Nx H3)
theorem pe_dcN {kx vx tg iter : Expr} {ifs : List Expr} {scope : Scope} {own : List (Str × Nat)} {pos : Pos} {wi : TI} {g : TG} {tt : TT} {tk tv : TE} (hc : X.calm = true) (hN : X.N.Nodup) (hi : PI X tg iter wi) (ok : BlkOk X.N X.env.scope scope own)
    (hg : ∀ (s : Shared) (H : Hp) (C : Addr) (cl : List (Str × Addr)) (fp : List Addr), PG (X.blk s H scope (compEnvC scope cl C X.env) fp) tg g) (ht : ∀ (s : Shared) (H : Hp) (C : Addr) (cl : List (Str × Addr)) (fp : List Addr), PTs (X.blk s H scope (compEnvC scope cl C X.env) fp) ifs tt)
    (hk : ∀ (s : Shared) (H : Hp) (C : Addr) (cl : List (Str × Addr)) (fp : List Addr), PE (X.blk s H scope (compEnvC scope cl C X.env) fp) kx tk)
    (he : ∀ (s : Shared) (H : Hp) (C : Addr) (cl : List (Str × Addr)) (fp : List Addr), PE (X.blk s H scope (compEnvC scope cl C X.env) fp) vx tv) (hs : ∀ x, foldedSetIterable iter X.env x = pure x := by intro _; rfl) :
    PE X (.DictComp kx vx [⟨tg, iter, ifs, 0⟩] scope pos) (tDcN X.prog X.w wi g tt tk tv (own.map (·.2))) := by
  refine ⟨fun pins s σ H Q I h => ?_⟩
  rw [arm_eval_DictComp]
  have hfree : ∀ y ∈ scope.names, y.2 = .free → ∃ c, X.env.cells.lookup y.1 = some c := fun y hy e => (ok.free y hy e).elim (fun k => I.ok.has _ (.inl k)) fun k => I.ok.has _ (.inr k)
  refine wpAny_comprehension_free rfl hs (closure_ok hfree) ok.kind (fun y hy e => by rw [ok.uniq y hy, e])
    (thn (hi.run pins s σ H _ I h) fun xv s1 hx => thn hx fun itv s2 ⟨it, fp, tn, J, H2, e, I2, T, st2, f2, q⟩ => ?_)
  subst e
  refine wpAny_newObj_type (newEnv_comp ?_)
  generalize hD : s2.heap.objs.size = D
  have hDn : H2 D = none := I2.hok.fresh (Nat.le_of_eq hD)
  obtain ⟨S, ⟨m0, w0⟩, turn⟩ := q D hDn
  generalize hs3 : ({ s2 with heap := s2.heap.push { cls := .type "dict", data := .dict #[] } } : Shared) = s3
  have I3 : Inv X pins σ (upd H2 D (ndO X.prog X.w [] D)) s3 := by
    rw [← hs3]
    refine I2.laid (t' := s2.toks) (fun b o e => Heap.get?_push_of_some _ e) (Nat.le_of_eq hD) ?_
    rw [← hD]
    exact nd_empty s2.heap I2.big
  have h3 : s3.heap = s2.heap.push { cls := .type "dict", data := .dict #[] } := by rw [← hs3]
  have sz : ∀ b ∈ fp, b < s2.heap.objs.size := fun b hb => let ⟨_, e, _⟩ := T.obj _ _ st2 b hb; Heap.lt_size e
  have f3 : ∀ b ∈ fp, FpOk X pins (upd H2 D (ndO X.prog X.w [] D)) b ∧ b < s3.heap.objs.size := fun b hb => by
    have hlt := sz b hb
    refine ⟨⟨?_, (f2 b hb).2⟩, by rw [h3, Heap.size_push]; exact Nat.lt_succ_of_lt hlt⟩
    rw [upd_ne (by rw [← hD]; exact Nat.ne_of_lt hlt)]
    exact (f2 b hb).1
  have st3 : tn 0 s3.heap := T.keep _ _ _ st2 fun b _ o e => by rw [h3]; exact Heap.get?_push_of_some _ e
  have I4 := block_start I3 ok hN f3
  have pg := hg s3 (upd H2 D (ndO X.prog X.w [] D)) s3.heap.objs.size (cellsFrom (s3.heap.objs.size + 1) scope.names (cloFrom X.env.cells scope.names [])) fp
  have pt := ht s3 (upd H2 D (ndO X.prog X.w [] D)) s3.heap.objs.size (cellsFrom (s3.heap.objs.size + 1) scope.names (cloFrom X.env.cells scope.names [])) fp
  have pk := hk s3 (upd H2 D (ndO X.prog X.w [] D)) s3.heap.objs.size (cellsFrom (s3.heap.objs.size + 1) scope.names (cloFrom X.env.cells scope.names [])) fp
  have pe := he s3 (upd H2 D (ndO X.prog X.w [] D)) s3.heap.objs.size (cellsFrom (s3.heap.objs.size + 1) scope.names (cloFrom X.env.cells scope.names [])) fp
  show codeAny _ _ (.compStart (.DictComp kx vx [⟨tg, iter, ifs, 0⟩] scope pos) 0 (.ref it) (.ref D) (compEnvC scope (cellsFrom (s3.heap.objs.size + 1) scope.names (cloFrom X.env.cells scope.names [])) s3.heap.objs.size X.env)) _ { s3 with heap := pushCells (s3.heap.push { cls := .type "dict", data := .dict #[] }) scope.names }
  have nfp : ∀ b ∈ fp, (upd H2 D (ndO X.prog X.w [] D)) b = none := fun b hb => (f3 b hb).1.1
  generalize hce : compEnvC scope (cellsFrom (s3.heap.objs.size + 1) scope.names (cloFrom X.env.cells scope.names [])) s3.heap.objs.size X.env = ce at I4 pg pt pk pe ⊢
  have cL : ce.locals = s3.heap.objs.size := by subst hce; rfl
  generalize hH3 : upd H2 D (ndO X.prog X.w [] D) = H3 at I3 I4 pg pt pk pe w0 nfp f3
  generalize hs4 : ({ s3 with heap := pushCells (s3.heap.push { cls := .type "dict", data := .dict #[] }) scope.names } : Shared) = s4 at I4 ⊢
  have st4 : tn 0 s4.heap := T.keep _ _ _ st3 fun b _ o e => by rw [← hs4]; exact pushCells_keeps _ _ _ _ (Heap.get?_push_of_some _ e)
  have stat : ∀ {σ' : L2.St} {H' : Hp} {s' : Shared}, Inv (X.blk s3 H3 scope ce fp) [] σ' H' s' → (∀ b ∈ fp, H' b = none) → ∀ b ∈ fp, FpOk (X.blk s3 H3 scope ce fp) [] H' b := fun {σ' H' s'} I' hn b hb =>
    ⟨hn b hb, (I'.ok.exf b hb).1, I'.ok.exfs b hb, .inl hb, fun x c e => (I'.ok.exf b hb).2 x c e, fun p hp => absurd (show p ∈ ([] : List (Addr × Obj)) ++ [] from hp) (by simp)⟩
  have loop : codeAny (model X.prog X.w) X.A (.compLoop (.DictComp kx vx [⟨tg, iter, ifs, 0⟩] scope pos) 0 (.ref it) (.ref D) ce) (compPost (model X.prog X.w) X.A X.xe none (fun u s' => ∃ v H', Inv X pins σ H' s' ∧ RelV v u ∧ Q v H') (.ref D) s3.heap.objs.size) s4 := by
    refine compLoop_anyD (fun n s' => ∃ i H', Inv (X.blk s3 H3 scope ce fp) [] (wipe σ (own.map (·.2))) H' s' ∧ tn i s'.heap ∧ (∀ b ∈ fp, H' b = none) ∧ S i n H') ?_ m0 ⟨0, H3, I4, st4, nfp, w0⟩
    rintro n s5 ⟨i, H5, I5, st5, n5, w5⟩
    rcases turn i n H5 w5 with ⟨stop, qq⟩ | ⟨go, Nx, hNx, step⟩
    · refine thnF (T.done (X.blk s3 H3 scope ce fp) rfl rfl rfl hc i [] s5 _ H5 (fun _ _ => False) I5 (stat I5 n5) st5 stop) fun r s6 ⟨hr, I6⟩ => ?_
      subst hr
      have I7 : Inv X pins σ H5 s6 := I3.call' (ch := fp) I6.os I6.base I6.hok I6.bare fun b hb => ⟨(f3 b hb).1.2.2.2.1, (f3 b hb).1.2.1, (f3 b hb).1.2.2.2.2.1, (f3 b hb).1.2.2.2.2.2⟩
      have nC : H5 s3.heap.objs.size = none := by
        have z : H5 ce.locals = none := I6.free
        rwa [cL] at z
      obtain ⟨m, hn, _⟩ := I6.loc
      have hn : s6.heap.Ns ce.locals m := hn
      rw [cL] at hn
      obtain ⟨f0, f1, f2', f3', f4, f5⟩ := I3.fpOk (Nat.le_refl _) nC
      exact ⟨m, hn, fun h'' sb => ⟨.ref D, H5, I7.turned (t' := s6.toks) (fun b o hb e => (sb.2 b hb).trans e) f0 f1 f3' f4 f5, rfl, qq⟩⟩
    · refine thnF (T.item (X.blk s3 H3 scope ce fp) rfl rfl rfl hc i [] s5 _ H5 (fun _ _ => False) I5 (stat I5 n5) st5 go) fun r s6 ⟨u, hr, h6⟩ => ?_
      subst hr
      refine thnF h6 fun _ s7 ⟨x, H7, I7, r7, y7, st7, n7⟩ => ?_
      have I7' := I7.pinned (stat I7 n7) (T.obj _ _ st7)
      refine thnF (pg.run _ s7 _ H7 x u _ I7' r7 (step x H7 y7)) fun _ s8 ⟨σ8, H8, I8, hw8, q8⟩ => ?_
      refine thnF (pt.run _ s8 σ8 H8 _ I8 q8) fun b s9 ⟨H9, I9, q9⟩ => ?_
      have fin : ∀ {s' : Shared} {H' : Hp}, Inv (X.blk s3 H3 scope ce fp) ([] ++ pinsAt fp s7.heap) σ8 H' s' → Nx H' → ∃ m, m < n ∧ ∃ i H', Inv (X.blk s3 H3 scope ce fp) [] (wipe σ (own.map (·.2))) H' s' ∧ tn i s'.heap ∧ (∀ b ∈ fp, H' b = none) ∧ S i m H' := fun {s' H'} I' nx => by
        obtain ⟨m', hm, w'⟩ := hNx H' nx
        have pin' : ∀ b ∈ fp, ∀ o, s7.heap.get? b = some o → s'.heap.get? b = some o ∧ H' b = none := fun b hb o e =>
          let z := I'.pin (b, o) (List.mem_append_right _ (List.mem_append_right _ (mem_pinsAt hb e)))
          ⟨z.1, z.2.1⟩
        have hl : (wipe σ (own.map (·.2))).length = σ8.length := by rw [← hw8, wipe_length]
        refine ⟨m', hm, i + 1, H', (I'.unpinned (pins := [])).weak hl (fun j v e => ?_), T.keep _ _ _ st7 fun b hb o e => (pin' b hb o e).1, fun b hb => ?_, w'⟩
        · rw [← hw8] at e
          exact (wipe_some e).1
        · obtain ⟨o, e, _⟩ := T.obj _ _ st7 b hb
          exact (pin' b hb o e).2
      cases b with
      | false =>
        simp only [Bool.false_eq_true, if_false] at q9 ⊢
        exact fin I9 q9
      | true =>
        simp only [if_true] at q9 ⊢
        refine thnF (pk.run _ s9 σ8 H9 _ I9 q9) fun z s10 ⟨yk, H10, I10, r10, q10⟩ => ?_
        refine thnF (pe.run _ s10 σ8 H10 _ I10 q10) fun z2 s11 ⟨yv, H11, I11, r11, kvs, k, ek, hD11, hz11, nx⟩ => ?_
        subst ek
        exact nd_dictSet (X := X.blk s3 H3 scope ce fp) I11 hD11 hz11 r10 r11 fun s12 I12 => fin I12 nx
  exact codeAny_compStart_dict loop (T.self X.A 0 _ _ _ st4 loop)
end
def nkv (kvs : List (NK × Int)) : List (NK × V) := kvs.map fun p => (p.1, V.int p.2)
def dnD (P : Program) (w : World) (kvs : List (NK × Int)) : D := .hb (ndk P w (nkv kvs))
def putN (kvs : List (NK × Int)) (k : NK) (i : Int) : List (NK × Int) := if (kvs.any fun p => decide (p.1 = k)) = true then kvs.map (fun p => if p.1 = k then (p.1, i) else p) else kvs ++ [(k, i)]
def getN (kvs : List (NK × Int)) (k : NK) : Option Int := (kvs.find? fun p => decide (p.1 = k)).map (·.2)
def gotN (kvs : List (NK × Int)) (k : NK) : D := match getN kvs k with
  | some i => .int i
  | none => .non
theorem nkv_put (k : NK) (i : Int) (kvs : List (NK × Int)) : nkv (putN kvs k i) = putK (nkv kvs) k (.int i) := by
  have e : ((nkv kvs).any fun kv => decide (kv.1 = k)) = kvs.any fun p => decide (p.1 = k) := by
    unfold nkv; rw [List.any_map]; rfl
  unfold putN putK
  rw [e]
  split
  · unfold nkv
    rw [List.map_map, List.map_map]
    refine List.map_congr_left fun p _ => ?_
    show (_ : NK × V) = _
    by_cases h : p.1 = k
    · simp only [Function.comp, if_pos h]
    · simp only [Function.comp, if_neg h]
  · unfold nkv
    rw [List.map_append]; rfl
theorem nkv_length (kvs : List (NK × Int)) : (nkv kvs).length = kvs.length := List.length_map ..
theorem nkv_val (k : NK) : ∀ kvs : List (NK × Int), valV (nkv kvs) k = (getN kvs k).map V.int
  | [] => rfl
  | p :: r => by
    have ih := nkv_val k r
    unfold getN at ih ⊢
    show valV ((p.1, V.int p.2) :: nkv r) k = _
    by_cases h : p.1 = k
    · rw [valV_pos (p := (p.1, V.int p.2)) h, List.find?_cons, decide_eq_true h]; rfl
    · rw [valV_neg (p := (p.1, V.int p.2)) h, ih, List.find?_cons, decide_eq_false h]
def keyN : D → Option NK
  | .non => some none
  | .int i => some (some (.inl i))
  | .str x => some (some (.inr x))
  | _ => none
theorem keyN_ok {K : PySem.W.Frag} {HF H : Hp} {d : D} {k : NK} {v : V} (h : keyN d = some k) (r : Vw K HF H d v) : v = nV k := by
  cases d <;> first | cases h; done | (cases h; exact r)
def kyN (N : NK → Env → Prop) : KD := fun ev ρ => match ev with
  | .ow (.fz d) => (match keyN d with
    | some k => N k ρ
    | none => False)
  | _ => False
def ivN (N : Int → Env → Prop) : KD := fun ev ρ => match ev with
  | .ow (.fz (.int z)) => N z ρ
  | _ => False
def tDcND (P : Program) (w : World) (ti : TId) (vs : List Nat) (g : TGD) (tt : TDt) (tk tv : TD) : TD := fun ρ Kd Ed => ti ρ (fun items ρ1 => ∃ I : Nat → List (NK × Int) → Env → Prop, I 0 [] (wipeD ρ1 vs) ∧
  (∀ i d acc ρ, items[i]? = some d → I i acc ρ → g (.fz d) ρ (fun ρ2 => tt ρ2 (fun b ρ3 => if b = true then tk ρ3 (kyN fun k ρ4 => tv ρ4 (ivN fun z ρ5 => acc.length < sizeLine ∧ I (i + 1) (putN acc k z) (wipeD ρ5 vs)) NoX) NoX else I (i + 1) acc (wipeD ρ3 vs)) NoX)) ∧
  ∀ acc ρ, I items.length acc ρ → Kd (.ow (.fz (dnD P w acc))) (backL ρ1 ρ vs)) Ed
theorem dcN_red {P : Program} {wd : World} {K : PySem.W.Frag} {W : WX} {vs : List Nat} {ti : TId} {g : TGD} {tt : TDt} {tk tv : TD} {n : Nat} (nd : vs.Nodup) (hlt : ∀ v ∈ vs, v < n) (σ : L2.St) (H : Hp) (Q : VK) (hσ : σ.length = n) (q : tA K W (tDcND P wd ti vs g tt tk tv) σ H Q) :
    tDcN P wd (tAI K W ti) (tG K (butP vs) g) (tAt K WF tt) (tA K WF tk) (tA K WF tv) vs σ H Q := by
  obtain ⟨HF, ρ, A, Kd, Ed, w, en, t, k, x⟩ := q
  refine ⟨HF, ρ, A, _, Ed, w, en, t, fun items ρ1 q1 HF1 H1 A1 Av J f1 w1 tv1 en1 src => fun D hD => ?_, x⟩
  obtain ⟨I, i0, turn, fin⟩ := q1
  obtain ⟨G, Y, wk, hG, hY⟩ := src
  have hl1 : σ.length = ρ1.length := en1.length
  have hlt1 : ∀ v ∈ vs, v < ρ1.length := fun v hv => by rw [← hl1, hσ]; exact hlt v hv
  obtain ⟨C, c0, side, fin1⟩ := comp_frame w1 tv1 en1 hD (ndO P wd [] D) nd hlt1
  refine ⟨fun i m H2 => m = items.length - i ∧ i ≤ items.length ∧ ∃ HF2 ρ' A2 acc, Cp K (upd H1 D (ndO P wd [] D)) HF1 C D (ndO P wd (nkv acc) D) (wipe σ vs) (wipeD ρ' vs) H2 HF2 A2 ∧ I i acc (wipeD ρ' vs) ∧ ρ'.length = ρ1.length, ⟨items.length, by simp, Nat.zero_le _, HF1, ρ1, C, [], c0, i0, rfl⟩, ?_⟩
  rintro i m H2 ⟨rfl, hi, HF2, ρ', A2, acc, c2, i2, hl2⟩
  have hG2 : G H2 := hG HF2 H2 c2.fr.same c2.wr.same (side c2)
  by_cases hlt2 : i < items.length
  · refine .inr ⟨wk.goes i H2 hlt2 hG2, fun H' => ∃ HF2 ρ' A2 acc, Cp K (upd H1 D (ndO P wd [] D)) HF1 C D (ndO P wd (nkv acc) D) (wipe σ vs) (wipeD ρ' vs) H' HF2 A2 ∧ I (i + 1) acc (wipeD ρ' vs) ∧ ρ'.length = ρ1.length, fun H' h => ⟨items.length - (i + 1), by omega, rfl, hlt2, h⟩, fun y H3 yy => ?_⟩
    obtain ⟨d, HF3, hd, f3, s3, rd⟩ := hY i HF2 H2 y H3 c2.fr.same c2.wr.same (side c2) hlt2 (wk.yields i H2 y H3 hlt2 hG2 yy)
    have c3 := c2.item f3 s3
    refine c3.tgt rd (turn i d acc _ hd i2) fun ρ4 σ4 H4 HF4 A4 q4 p4 sm4 c4 => ?_
    obtain ⟨e4, l4⟩ := wipe_pr p4
    refine ⟨e4, c4.test q4 fun b ρ5 H5 HF5 A5 q5 sm5 c5 => ?_⟩
    have lr : ∀ {ρ : Env} {H HF : Hp} {A : List Addr}, Cp K (upd H1 D (ndO P wd [] D)) HF1 C D (ndO P wd (nkv acc) D) σ4 ρ H HF A → ρ.length = ρ1.length := fun c => by rw [← c.en.length, l4, hl1]
    cases b with
    | false =>
      simp only [Bool.false_eq_true, ↓reduceIte] at q5 ⊢
      obtain ⟨A7, c7⟩ := c5.wipe vs nd fun v hv => by rw [lr c5]; exact hlt1 v hv
      rw [e4] at c7
      exact ⟨HF5, ρ5, A7, acc, c7, q5, lr c5⟩
    | true =>
      simp only [↓reduceIte] at q5 ⊢
      refine c5.elt q5 ⟨fun _ _ z => z, fun _ _ _ _ _ z => z⟩ fun ok ρ6 H6 HF6 A6 yk q6 sm6 rk c6 => ?_
      cases ok with
      | fz dk =>
        unfold kyN at q6
        dsimp only at q6
        split at q6
        · rename_i key ek
          obtain rfl := keyN_ok ek (Vw.of (H := H6) c6.wr.same rk)
          refine c6.elt q6 ⟨fun _ _ z => z, fun _ _ _ _ _ z => z⟩ fun o ρ7 H7 HF7 A7 y7 q7 sm7 r7 c7 => ?_
          unfold ivN at q7
          split at q7
          · rename_i z eo
            cases eo
            obtain rfl : y7 = V.int z := r7
            obtain ⟨A8, c8⟩ := c7.wipe vs nd fun v hv => by rw [lr c7]; exact hlt1 v hv
            rw [e4] at c8
            refine ⟨nkv acc, key, rfl, c7.at_, by rw [nkv_length]; exact q7.1, HF7, ρ7, A8, _, ?_, q7.2, lr c7⟩
            rw [nkv_put]
            exact c8.put _
          · exact q7.elim
        · exact q6.elim
      | _ => exact q6.elim
  · have e : i = items.length := by omega
    subst e
    refine .inl ⟨wk.stops H2 hG2, ?_⟩
    obtain ⟨A3, ff, w4, en3⟩ := fin1 c2 hl2
    obtain ⟨s1, w5, f5⟩ := grow_ok (w4.perm List.perm_append_comm)
    refine k _ _ (fin acc _ i2) (grow HF2 H2 [D]) H2 A3 (.ref D) [] ?_ (by rw [List.append_nil]; exact w5) (EnvR.keep s1 _ en3 fun _ _ => rfl) ⟨rfl, D, rfl, (grow_in (List.mem_singleton.mpr rfl)).trans c2.at_⟩
    rw [List.append_nil]
    exact (f1.trans ff).trans (f5.mono (fun p hp => (List.mem_append.mp hp).elim (fun z => List.mem_append_right _ z) fun z => List.mem_append_left _ z) fun p hp => .inl hp)
section
variable {X : Cx} {W : WX}
theorem ae_dcN {kx vx tg iter : Expr} {ifs : List Expr} {scope : Scope} {own : List (Str × Nat)} {vs : List Nat} {pos : Pos} {ti : TId} {g : TGD} {tt : TDt} {tk tv : TD} (hc : X.calm = true) (hN : X.N.Nodup) (hi : AI X W tg iter ti) (ok : BlkOk X.N X.env.scope scope own) (hvs : own.map (·.2) = vs) (nd : vs.Nodup) (hlt : ∀ v ∈ vs, v < X.N.length)
    (hg : ∀ (s : Shared) (H : Hp) (C : Addr) (cl : List (Str × Addr)) (fp : List Addr), AG (X.blk s H scope (compEnvC scope cl C X.env) fp) (butP vs) tg g) (ht : ∀ (s : Shared) (H : Hp) (C : Addr) (cl : List (Str × Addr)) (fp : List Addr), ATs (X.blk s H scope (compEnvC scope cl C X.env) fp) WF ifs tt)
    (hk : ∀ (s : Shared) (H : Hp) (C : Addr) (cl : List (Str × Addr)) (fp : List Addr), AE (X.blk s H scope (compEnvC scope cl C X.env) fp) WF kx tk)
    (he : ∀ (s : Shared) (H : Hp) (C : Addr) (cl : List (Str × Addr)) (fp : List Addr), AE (X.blk s H scope (compEnvC scope cl C X.env) fp) WF vx tv) (hs : ∀ x, foldedSetIterable iter X.env x = pure x := by intro _; rfl) :
    AE X W (.DictComp kx vx [⟨tg, iter, ifs, 0⟩] scope pos) (tDcND X.prog X.w ti vs g tt tk tv) := by
  have base : PE X (.DictComp kx vx [⟨tg, iter, ifs, 0⟩] scope pos) (tDcN X.prog X.w (tAI X.K W ti) (tG X.K (butP vs) g) (tAt X.K WF tt) (tA X.K WF tk) (tA X.K WF tv) vs) := by
    subst hvs
    exact pe_dcN (own := own) (pos := pos) (g := tG X.K _ g) (tt := tAt X.K WF tt) (tk := tA X.K WF tk) (tv := tA X.K WF tv) hc hN hi ok hg ht hk he hs
  exact PE.impL base fun σ H Q hσ q => dcN_red nd hlt σ H Q hσ q
end
def asKeyN (d : D) (k : NK → Prop) : Prop := match keyN d with
  | some k' => k k'
  | none => False
def asIntN (d : D) (k : Int → Prop) : Prop := match d with
  | .int i => k i
  | _ => False
theorem kynk {N : NK → Env → Prop} {ρ : Env} {z : D} {R : NK → Prop} (h : asKeyN z R) (k : ∀ k', R k' → N k' ρ) : kyN N (.ow (.fz z)) ρ := by
  unfold asKeyN at h
  show (match keyN z with | some k => N k ρ | none => False)
  split at h
  · exact k _ h
  · exact h.elim
theorem ivnk {N : Int → Env → Prop} {ρ : Env} {z : D} {R : Int → Prop} (h : asIntN z R) (k : ∀ k', R k' → N k' ρ) : ivN N (.ow (.fz z)) ρ := by
  unfold asIntN at h
  split at h
  · exact k _ h
  · exact h.elim
def dcN0 (items : List D) (body : D → (NK → Int → Prop) → Prop → Prop) (k : List (NK × Int) → Prop) : Prop := ∃ I : Nat → List (NK × Int) → Prop, I 0 [] ∧ (∀ i d acc, items[i]? = some d → I i acc → body d (fun k v => acc.length < sizeLine ∧ I (i + 1) (putN acc k v)) (I (i + 1) acc)) ∧ ∀ acc, I items.length acc → k acc
section
variable {X : Cx} {W : WX} {ρ : Env} {Kd : KD} {Ed : XC} {tg iter kx vx o e : Expr} {ifs : List Expr} {scope : Scope} {own : List (Str × Nat)} {vs : List Nat} {pos apos cpos : Pos}
def DcNR (X : Cx) (scope : Scope) (tg : Expr) (ifs : List Expr) (kx vx : Expr) (vs : List Nat) (ρ1 : Env) (Kd : KD) (items : List D) : Prop := ∃ I : Nat → List (NK × Int) → Env → Prop, I 0 [] (wipeD ρ1 vs) ∧
  (∀ i d acc ρ, items[i]? = some d → I i acc ρ → bG X scope (butP vs) tg (.fz d) ρ (fun ρ2 => bT X scope ifs ρ2 (fun b ρ3 => if b = true then bE X scope kx ρ3 (kyN fun k ρ4 => bE X scope vx ρ4 (ivN fun z ρ5 => acc.length < sizeLine ∧ I (i + 1) (putN acc k z) (wipeD ρ5 vs)) NoX) NoX else I (i + 1) acc (wipeD ρ3 vs)) NoX)) ∧
  ∀ acc ρ, I items.length acc ρ → Kd (.ow (.fz (dnD X.prog X.w acc))) (backL ρ1 ρ vs)
theorem e_dcN (hc : X.calm = true) (hN : X.N.Nodup) (ok : BlkOk X.N X.env.scope scope own) (hvs : own.map (·.2) = vs) (nd : vs.Nodup) (hlt : ∀ v ∈ vs, v < X.N.length)
    (q : wI X W tg iter ρ (fun items ρ1 => DcNR X scope tg ifs kx vx vs ρ1 Kd items) Ed) (hs : ∀ x, foldedSetIterable iter X.env x = pure x := by intro _; rfl) : wE X W (.DictComp kx vx [⟨tg, iter, ifs, 0⟩] scope pos) ρ Kd Ed := wE.of (ae_dcN hc hN ewI ok hvs nd hlt bG.of bT.of bE.of bE.of hs) q
theorem bdcN {ρ1 : Env} {items : List D} {b : D → (NK → Int → Prop) → Prop → Prop} {k : List (NK × Int) → Prop} (fam : Env) (h : dcN0 items b k) (e0 : wipeD ρ1 vs = fam) (hb : ∀ d (emit : NK → Int → Prop) (skip : Prop), b d emit skip → bG X scope (butP vs) tg (.fz d) fam (fun ρ2 => bT X scope ifs ρ2 (fun b ρ3 => if b = true then bE X scope kx ρ3 (kyN fun k ρ4 => bE X scope vx ρ4 (ivN fun z ρ5 => wipeD ρ5 vs = fam ∧ emit k z) NoX) NoX else wipeD ρ3 vs = fam ∧ skip) NoX)) (hk : ∀ acc, k acc → Kd (.ow (.fz (dnD X.prog X.w acc))) (backL ρ1 fam vs)) : DcNR X scope tg ifs kx vx vs ρ1 Kd items := by
  obtain ⟨I, i0, st, fin⟩ := h
  refine ⟨fun i acc ρ => ρ = fam ∧ I i acc, ⟨e0, i0⟩, fun i d acc ρ hd hI => ?_, fun acc ρ hI => ?_⟩
  · obtain ⟨rfl, hI⟩ := hI
    refine (hb d _ _ (st i d acc hd hI)).imp fun ρ2 q2 => q2.imp fun b ρ3 q3 => ite_imp (fun q4 => q4.imp fun ev ρ4 q5 => ?_) (fun q4 => ⟨q4.1, q4.2⟩) q3
    unfold kyN at q5 ⊢
    split at q5
    · split at q5
      · refine q5.imp fun ev ρ5 q6 => ?_
        unfold ivN at q6 ⊢
        split at q6
        · exact ⟨q6.2.1, q6.1, q6.2.2⟩
        · exact q6.elim
      · exact q5.elim
    · exact q5.elim
  · obtain ⟨rfl, hI⟩ := hI
    exact hk acc (fin acc hI)
def tNGet (P : Program) (w : World) (kvs : List (NK × V)) (td ty : TE) : TE := fun σ H Q => td σ H fun x H1 => ∃ a, x = .ref a ∧ H1 a = some (ndO P w kvs a) ∧ ty σ H1 fun y H2 => ∃ k, H2 a = some (ndO P w kvs a) ∧ y = nV k ∧ Q ((valV kvs k).getD .non) H2
theorem pe_ngetN {kvs : List (NK × V)} {td ty : TE} (ho : PE X o td) (he : PE X e ty) (m : M1 X o "get" apos e cpos) : PE X (.Call (.Attribute o "get" apos) [e] [] cpos) (tNGet X.prog X.w kvs td ty) := by
  refine ⟨fun pins s σ H Q I h => ?_⟩
  refine wpAny_Call_method m.base m.few m.line PySem.F.plainAttrs_dict PySem.F.slot_dict_get PySem.F.type_dict_get (thn (ho.run pins s σ H _ I h) fun u s1 ⟨x, H1, I1, rx, a, ex, d, q1⟩ => ?_)
  subst ex
  obtain rfl : u = Value.ref a := rx
  obtain ⟨_, _, _, _, dd⟩ := nd_at I1 d
  refine ⟨dd.typeIs, fun b q => ?_, ?_⟩
  · cases q
    obtain ⟨ob, _, _, h1, h2, _⟩ := dd
    exact ⟨ob, h1, h2.2.1⟩
  rw [m.trees]
  refine Calls.callWith_builtin rfl (Calls.evalArgs_plain (Calls.spliced_cons (thn (he.run pins s1 σ H1 _ I1 q1) fun iv s2 ⟨y, H2, I2, ry, k, g, ey, q2⟩ => Calls.spliced_nil ?_)))
  subst ey
  exact nd_get I2 g ry fun w' s3 I3 rw' => ⟨_, H2, I3, rw', q2⟩
def askN (kvs : List (NK × Int)) (d : D) (Q : D → Prop) : Prop := match keyN d with
  | some k => Q (gotN kvs k)
  | none => False
def nkK (kvs : List (NK × Int)) (Kd : KD) : KD := fun ev ρ => match dOf ρ ev with
  | some d => (match keyN d with
    | some k => Kd (.ow (.fz (gotN kvs k))) ρ
    | none => False)
  | none => False
theorem nkk {kvs : List (NK × Int)} {ev : EV} {z : D} {R : D → Prop} (v : VwE ρ ev z) (h : askN kvs z R) (k : ∀ t, R t → Kd (.ow (.fz t)) ρ) : nkK kvs Kd ev ρ := by
  unfold nkK
  rw [v.dOf]
  unfold askN at h
  dsimp only
  split at h
  · exact k _ h
  · exact h.elim
theorem e_getN (kvs : List (NK × Int)) (q : wE X W o ρ (fun e1 ρ1 => e1 = .ow (.fz (dnD X.prog X.w kvs)) ∧ wE X W e ρ1 (nkK kvs Kd) Ed) Ed) (m : M1 X o "get" apos e cpos := by exact ⟨rfl, rfl, rfl, rfl⟩) :
    wE X W (.Call (.Attribute o "get" apos) [e] [] cpos) ρ Kd Ed := fun HF A σ H Q w en k x => PE.imp (pe_ngetN (kvs := nkv kvs) (ewE (W := W)) (ewE (W := W)) m) fun σ' H' Q' ⟨e1, e2, e3⟩ => by
  subst e1 e2 e3
  refine ⟨HF, ρ, A, _, Ed, w, en, q, fun e1 ρ1 q1 HF1 H1 A1 v1 Av1 f1 w1 en1 r1 => ?_, x⟩
  obtain ⟨rfl, q1⟩ := q1
  obtain ⟨rfl, a, rfl, ha⟩ := r1
  rw [List.append_nil] at w1 f1
  have x1 : XOk X.K σ' H1 HF1 A1 Ed W := x.step f1
  refine ⟨a, rfl, w1.same _ _ ha, HF1, ρ1, A1, _, Ed, w1, en1, q1, fun e2 ρ2 q2 HF2 H2 A2 v2 Av2 f2 w2 en2 r2 => ?_, x1⟩
  unfold nkK at q2
  split at q2
  · rename_i d ed
    split at q2
    · rename_i key ek
      have vw := Vw.ev w2.same en2 r2 ed
      have hv := keyN_ok ek vw
      have h2 : HF2 a = some (ndO X.prog X.w (nkv kvs) a) := f2.same _ _ ha
      refine ⟨key, w2.same _ _ h2, hv, ?_⟩
      have hn : (valV (nkv kvs) key).getD .non = (match getN kvs key with | some i => V.int i | none => V.non) := by
        rw [nkv_val]; cases getN kvs key <;> rfl
      refine k _ ρ2 q2 HF2 H2 A2 _ [] ?_ (by rw [List.append_nil]; exact w2.left) en2 ⟨rfl, ?_⟩
      · rw [List.append_nil]
        exact (f1.trans f2).trans (Fr.drop fun p hp => List.mem_append_left _ hp)
      · rw [hn]
        unfold gotN
        cases getN kvs key <;> rfl
    · exact q2.elim
  · exact q2.elim
end
end AE
namespace AE
open PySem PySem.Spec PyProof.Rows L2
section
variable {prog : Program} {w : World} {A : Around} {E : Value → Shared → Prop} {s : Shared}
end
end AE
namespace L2
open PySem PySem.Spec PyProof.Rows
section
variable {prog : Program} {w : World} {A : Around} {R : Result → Shared → Prop} {s : Shared} {kx vx t0 i0 t1 i1 : Expr} {ifs0 ifs1 : List Expr} {scope : Scope} {pos : Pos} {it : Value} {D : Addr} {env : Env}
end
section
variable {X : Cx}
end
end L2
namespace AE
open PySem L2
section
variable {X : Cx} {W : WX} {P : Prot}
end
section
variable {X : Cx} {W : WX} {P : Prot} {ρ : Env} {Kd : KD} {Ed : XC} {E : EndsD} {kx vx tg iter tg1 iter1 : Expr} {ifs1 : List Expr} {scope : Scope} {own : List (Str × Nat)} {vs vs1 : List Nat} {pos spos py : Pos} {i : Nat} {y : Str}
def Dc2R (X : Cx) (scope : Scope) (tg tg1 iter1 : Expr) (ifs1 : List Expr) (kx vx : Expr) (vs vs1 : List Nat) (ρ1 : Env) (Kd : KD) (items : List D) : Prop := ∃ I : Nat → List (Key × D) → Env → Prop, I 0 [] (wipeD ρ1 vs) ∧
  (∀ i d acc ρ, items[i]? = some d → I i acc ρ → bG X scope (butP vs) tg (.fz d) ρ (fun ρ2 => bT X scope [] ρ2 (fun b ρ3 => if b = true then bI X scope tg1 iter1 ρ3 (fun items1 ρ4 => ∃ I1 : Nat → List (Key × D) → Env → Prop, I1 0 acc (wipeD ρ4 vs1) ∧
      (∀ j d acc ρ, items1[j]? = some d → I1 j acc ρ → bG X scope (butP vs1) tg1 (.fz d) ρ (fun ρ5 => bT X scope ifs1 ρ5 (fun b ρ6 => if b = true then bE X scope kx ρ6 (kyK fun k ρ7 => bE X scope vx ρ7 (fun ev ρ8 => match ev with
            | .ow o => acc.length < sizeLine ∧ I1 (j + 1) (putDk acc k (frz o)) (wipeD ρ8 vs1)
            | .pt _ => False
            | .tk _ _ _ _ => False) NoX) NoX else I1 (j + 1) acc (wipeD ρ6 vs1)) NoX)) ∧
      ∀ acc ρ, I1 items1.length acc ρ → I (i + 1) acc (wipeD ρ vs)) NoX
    else I (i + 1) acc (wipeD ρ3 vs)) NoX)) ∧
  ∀ acc ρ, I items.length acc ρ → Kd (.ow (.dc acc)) (backL ρ1 ρ vs)
theorem Dc2R.imp {ρ1 : Env} {Kd Kd' : KD} {items : List D} (q : Dc2R X scope tg tg1 iter1 ifs1 kx vx vs vs1 ρ1 Kd items) (h : ∀ ev ρ, Kd ev ρ → Kd' ev ρ) : Dc2R X scope tg tg1 iter1 ifs1 kx vx vs vs1 ρ1 Kd' items := by
  obtain ⟨I, a, b, c⟩ := q
  exact ⟨I, a, b, fun acc ρ z => h _ _ (c acc ρ z)⟩
theorem DcR.imp {ifs : List Expr} {ρ1 : Env} {Kd Kd' : KD} {items : List D} (q : DcR X scope tg ifs kx vx vs ρ1 Kd items) (h : ∀ ev ρ, Kd ev ρ → Kd' ev ρ) : DcR X scope tg ifs kx vx vs ρ1 Kd' items := by
  obtain ⟨I, a, b, c⟩ := q
  exact ⟨I, a, b, fun acc ρ z => h _ _ (c acc ρ z)⟩
end
end AE
namespace PySem.SeqAt
open AutoSeq1 (wpAny_loadPart')
open MeetsSeq MeetsSeq2 MeetsSeq3 SeqRoads2
section
variable {prog : Program} {w : World}
end
end PySem.SeqAt
namespace L2
open PySem PySem.Spec PyProof.Rows
end L2
namespace AE
open PySem L2
def gEqE : G2 := fun d d' P => match d, d' with
  | .lst xs, .lst [] => P (.fz (.bl xs.isEmpty))
  | _, _ => False
instance : Mo2 gEqE := ⟨fun x y P P' k h => by
  unfold gEqE at h ⊢
  split at h <;> first | exact k _ h | exact h.elim⟩
end AE
namespace L2
open PySem PySem.Spec PyProof.Rows
end L2
namespace AE
open PySem L2
def isNonD : D → Bool
  | .non => true
  | _ => false
def noTD : D → Bool
  | .non => true
  | .tup _ => true
  | _ => false
def gNin : G2 := fun d d' P => match d, d' with
  | .non, .lst ys => ys.all noTD = true ∧ P (.fz (.bl (ys.any isNonD)))
  | _, _ => False
instance : Mo2 gNin := ⟨fun x y P P' k h => by
  unfold gNin at h ⊢
  split at h
  · exact ⟨h.1, k _ h.2⟩
  · exact h.elim⟩
end AE
namespace AE
open PySem L2
section
variable {X : Cx} {W : WX} {ρ : Env} {Ki : List D → Env → Prop} {Ed : XC} {a b : Expr} {p pos tpos : Pos}
end
end AE
namespace AE
open PySem L2
def gListK : GN := fun ds P => match ds with
  | [.kt xs] => P (.ls xs)
  | ds => gList ds P
instance : MoN gListK := ⟨fun x P P' k h => by
  unfold gListK at h ⊢
  split at h
  · exact k _ h
  · exact MoN.mo _ _ _ k h⟩
section
variable {X : Cx} {W : WX} {e : Expr} {es : List Expr} {ts : TDs} {p pos : Pos}
end
end AE
namespace AE
open PySem L2
def gSlK (lo hi : Option Int) : G1 := fun d P => match d with
  | .kt ds => (cutD ds lo hi).length ≠ ds.length ∧ P (.fz (.tup (cutD ds lo hi)))
  | d => gSl lo hi d P
instance {lo hi : Option Int} : Mo1 (gSlK lo hi) := ⟨fun x P P' k h => by
  unfold gSlK at h ⊢
  split at h
  · exact ⟨h.1, k _ h.2⟩
  · exact Mo1.mo _ _ _ k h⟩
section
variable {X : Cx} {W : WX} {a : Expr} {ta : TD} {pos : Pos} {ρ : Env} {Kd : KD} {Ed : XC}
end
end AE
namespace AE
open PySem L2
section
variable {X : Cx} {W : WX} {ρ : Env} {Kd : KD} {Ed : XC} {lv : Nat} {x : Str} {C : Addr} {m : Str} {ps ks : List Str} {F : AFn} {p pos apos : Pos} {o e : Expr} {es : List Expr} {kws : List Keyword} {n : Nat} {ix : List Nat} {dfl : List D}
end
end AE
namespace AE
open PySem L2
section
variable {K : PySem.W.Frag} {H : Hp} {B : List Addr} {L : List D}
end
def partsD : D → List D
  | .lst ds => ds
  | .dic kvs => kvs.map (·.2)
  | _ => []
def vV (o : O) (p : D) : Prop := o = .fz p ∨ o = ownO p ∨ o = nstO p
theorem vV.frz {o : O} {p : D} (h : vV o p) : frz o = p := by
  rcases h with rfl | rfl | rfl
  · rfl
  · exact frz_own p
  · exact frz_nst p
inductive Lents : Env → List D → Prop
  | nil : Lents [] []
  | none {ρ : Env} {L : List D} : Lents ρ L → Lents (none :: ρ) L
  | pure {d : D} {ρ : Env} {L : List D} : Lents ρ L → Lents (some (.fz d) :: ρ) L
  | own {d : D} {ρ : Env} {L : List D} : Lents ρ L → Lents (oo d :: ρ) (d :: L)
  | nst {t : D} {ρ : Env} {L : List D} : Lents ρ L → Lents (nO t :: ρ) (t :: (partsD t ++ L))
  | vw {o : O} {p : D} {ρ : Env} {L : List D} : vV o p → Lents ρ L → Lents (some o :: ρ) (p :: (partsD p ++ L))
theorem own_at {K : PySem.W.Frag} {HF H : Hp} {d : D} {v : V} {A : List Addr} (r : RepO K HF H (ownO d) v A) : ∀ p ∈ A, v = .ref p := by
  intro p hp
  cases d with
  | lst ds => obtain ⟨a, vs, e, rfl, _⟩ := r; rw [List.mem_singleton.mp hp]; exact e
  | dic ds => obtain ⟨a, vs, e, rfl, _⟩ := r; rw [List.mem_singleton.mp hp]; exact e
  | dit ds => obtain ⟨a, vs, e, rfl, _⟩ := r; rw [List.mem_singleton.mp hp]; exact e
  | _ => rw [r.1] at hp; cases hp
theorem owns_at {K : PySem.W.Frag} {HF HG H : Hp} (s : Same HF HG) : ∀ {ds : List D} {vs : List V} {A : List Addr}, RepOs K HF H (ds.map ownO) vs A → (∀ p ∈ A, HG p = H p) → ∀ p ∈ A, ∃ e ∈ ds, Rep K HG e (.ref p)
  | [], vs, A, r, k, p, hp => by rw [r.2] at hp; cases hp
  | d :: ds, vs, A, r, k, p, hp => by
    obtain ⟨v, ws, A1, A2, rfl, rfl, r1, r2⟩ := r
    rcases List.mem_append.mp hp with z | z
    · refine ⟨d, by simp, ?_⟩
      have e := own_at r1 p z
      have := RepO.frz (HG := HG) s (ownO d) r1 fun p hp => k p (List.mem_append_left _ hp)
      rw [frz_own, e] at this
      exact this
    · obtain ⟨e, he, re⟩ := owns_at s r2 (fun p hp => k p (List.mem_append_right _ hp)) p z
      exact ⟨e, List.mem_cons_of_mem _ he, re⟩
theorem ownsK_at {K : PySem.W.Frag} {HF HG H : Hp} (s : Same HF HG) : ∀ {ds : List (Key × D)} {vs : List (Key × V)} {A : List Addr}, RepOKs K HF H (ds.map fun kv => (kv.1, ownO kv.2)) vs A → (∀ p ∈ A, HG p = H p) → ∀ p ∈ A, ∃ e ∈ ds.map (·.2), Rep K HG e (.ref p)
  | [], vs, A, r, k, p, hp => by rw [r.2] at hp; cases hp
  | (q, d) :: ds, vs, A, r, k, p, hp => by
    obtain ⟨v, ws, A1, A2, rfl, rfl, r1, r2⟩ := r
    rcases List.mem_append.mp hp with z | z
    · refine ⟨d, by simp, ?_⟩
      have r1 : v.1 = q ∧ RepO K HF H (ownO d) v.2 A1 := r1
      have e := own_at r1.2 p z
      have := RepO.frz (HG := HG) s (ownO d) r1.2 fun p hp => k p (List.mem_append_left _ hp)
      rw [frz_own, e] at this
      exact this
    · obtain ⟨e, he, re⟩ := ownsK_at s r2 (fun p hp => k p (List.mem_append_right _ hp)) p z
      exact ⟨e, List.mem_cons_of_mem _ he, re⟩
theorem nst_at {K : PySem.W.Frag} {HF HG H : Hp} (s : Same HF HG) {t : D} {v : V} {A : List Addr} (q : RepO K HF H (nstO t) v A) (k : ∀ p ∈ A, HG p = H p) : ∀ p ∈ A, ∃ e ∈ t :: partsD t, Rep K HG e (.ref p) := fun p z => by
  have fr := RepO.frz (HG := HG) s (nstO t) q k
  rw [frz_nst] at fr
  cases t with
  | lst ds =>
    obtain ⟨a, vs, B, rfl, rfl, q1, q2⟩ := q
    rcases List.mem_cons.mp z with rfl | z
    · exact ⟨.lst ds, by simp, fr⟩
    · obtain ⟨e, he, re⟩ := owns_at s q2 (fun p hp => k p (List.mem_cons_of_mem _ hp)) p z
      exact ⟨e, List.mem_cons_of_mem _ he, re⟩
  | dic kvs =>
    obtain ⟨a, vs, B, rfl, rfl, q1, q2⟩ := q
    rcases List.mem_cons.mp z with rfl | z
    · exact ⟨.dic kvs, by simp, fr⟩
    · obtain ⟨e, he, re⟩ := ownsK_at s q2 (fun p hp => k p (List.mem_cons_of_mem _ hp)) p z
      exact ⟨e, List.mem_cons_of_mem _ he, re⟩
  | _ => rw [q.1] at z; cases z
theorem Lents.at {K : PySem.W.Frag} {HF HG H : Hp} (s : Same HF HG) : ∀ {ρ : Env} {L : List D} {σ : St} {A : List Addr}, Lents ρ L → EnvR K HF H ρ σ A → (∀ p ∈ A, HG p = H p) → ∀ p ∈ A, ∃ e ∈ L, Rep K HG e (.ref p)
  | _, _, σ, A, .nil, h, k, p, hp => by rw [h.2] at hp; cases hp
  | _, _, σ, A, .none l, h, k, p, hp => let ⟨s', r, e, q⟩ := h; l.at s q k p hp
  | _, _, σ, A, .pure l, h, k, p, hp => by
    obtain ⟨v, r, A1, A2, rfl, rfl, q, t⟩ := h
    rcases List.mem_append.mp hp with z | z
    · rw [q.1] at z; cases z
    · exact l.at s t (fun p hp => k p (List.mem_append_right _ hp)) p z
  | _, _, σ, A, .own (d := d) l, h, k, p, hp => by
    obtain ⟨v, r, A1, A2, rfl, rfl, q, t⟩ := h
    rcases List.mem_append.mp hp with z | z
    · refine ⟨d, by simp, ?_⟩
      have e := own_at q p z
      have := RepO.frz (HG := HG) s (ownO d) q fun p hp => k p (List.mem_append_left _ hp)
      rw [frz_own, e] at this
      exact this
    · obtain ⟨e, he, re⟩ := l.at s t (fun p hp => k p (List.mem_append_right _ hp)) p z
      exact ⟨e, List.mem_cons_of_mem _ he, re⟩
  | _, _, σ, A, .nst (t := t) l, h, k, p, hp => by
    obtain ⟨v, r, A1, A2, rfl, rfl, q, t'⟩ := h
    rcases List.mem_append.mp hp with z | z
    · obtain ⟨e, he, re⟩ := nst_at s q (fun p hp => k p (List.mem_append_left _ hp)) p z
      exact ⟨e, by rw [← List.cons_append]; exact List.mem_append_left _ he, re⟩
    · obtain ⟨e, he, re⟩ := l.at s t' (fun p hp => k p (List.mem_append_right _ hp)) p z
      exact ⟨e, List.mem_cons_of_mem _ (List.mem_append_right _ he), re⟩
  | _, _, σ, A, .vw (p := t) hv l, h, k, p, hp => by
    obtain ⟨v, r, A1, A2, rfl, rfl, q, t'⟩ := h
    rcases List.mem_append.mp hp with z | z
    · have kk : ∀ p ∈ A1, HG p = H p := fun p hp => k p (List.mem_append_left _ hp)
      rcases hv with rfl | rfl | rfl
      · rw [q.1] at z; cases z
      · refine ⟨t, by simp, ?_⟩
        have e := own_at q p z
        have := RepO.frz (HG := HG) s (ownO t) q kk
        rw [frz_own, e] at this
        exact this
      · obtain ⟨e, he, re⟩ := nst_at s q kk p z
        exact ⟨e, by rw [← List.cons_append]; exact List.mem_append_left _ he, re⟩
    · obtain ⟨e, he, re⟩ := l.at s t' (fun p hp => k p (List.mem_append_right _ hp)) p z
      exact ⟨e, List.mem_cons_of_mem _ (List.mem_append_right _ he), re⟩
theorem Lend.nest {t : D} {a b : Env} (l : Lend a b) : Lend (nO t :: a) (zz t :: b) := by
  have := Lend.lent (o := nstO t) l
  rw [frz_nst] at this
  exact this
section
variable {X : Cx} {W : WX}
end
end AE
namespace AE
open PySem L2
section
variable {X : Cx} {W : WX} {ρ : Env} {Kd : KD} {Ed : XC} {o : Expr} {e : Expr} {apos cpos : Pos}
end
theorem lendZG {z : D} {R G : Prop} (h : gnd z = true ∧ R) (k : R → G) : gE (.ow (.fz z)) ∧ G := ⟨h.1, k h.2⟩
end AE
namespace GQ
open PySem PySem.SeqAt
open AutoSeq1 (wpAny_loadPart')
open MeetsSeq MeetsSeq2 MeetsSeq3 SeqRoads2
section
variable {prog : Program} {w : World} {A : Around} {R : Result → Shared → Prop}
end
section
variable {prog : Program} {w : World} {A : Around} {E : Value → Shared → Prop} {s : Shared}
end
end GQ
namespace AE
open PySem L2
section
variable {X : Cx} {W : WX} {ρ : Env} {Kd : KD} {lv : Nat} {C : Addr} {F : AFn}
end
end AE
namespace AE
open PySem L2
section
variable {X : Cx} {W : WX} {P : Prot} {ρ ρ0 : Env} {E : EndsD} {Ed : XC} {i : Nat} {y : Str} {py : Pos} {elt tg iter : Expr} {ifs : List Expr} {scope : Scope} {own : List (Str × Nat)} {vs : List Nat} {pos spos : Pos} {L : List D}
end
end AE
namespace AE
open PySem L2
section
variable {X : Cx}
end
def gIsB (neg : Bool) : G2 := fun d d' P => match d, d' with
  | .bl m, .bl n => P (.fz (.bl (if neg = true then !decide (m = n) else decide (m = n))))
  | _, _ => False
instance {neg : Bool} : Mo2 (gIsB neg) := ⟨fun x y P P' k h => by
  unfold gIsB at h ⊢
  split at h
  · exact k _ h
  · exact h.elim⟩
end AE
namespace AE
open PySem L2
section
variable {X : Cx} {W : WX}
theorem wT.lend {e : Expr} {ρ ρ0 : Env} {Kd : Bool → Env → Prop} {Ed : XC} (l : Lend ρ ρ0) (q : wT X W e ρ0 (fun b _ => Kd b ρ) (fun x _ => gX x ∧ Ed x ρ)) : wT X W e ρ Kd Ed := fun HF A σ H Q w en k x => by
  obtain ⟨s1, w1, f1⟩ := grow_ok (C := []) (by rw [List.append_nil]; exact w)
  have c1 := EnvR.chg _ en
  have key : ∀ {HF' H' : Hp} {A' : List Addr}, Fr H H' (grow HF H A) HF' [] A' → WR HF' H' A' → (∀ p ∈ A, ∃ u, HF' p = some u ∧ Chg u) ∧ Fr H H' HF (AE.less HF' A) A (A ++ A') ∧ WR (AE.less HF' A) H' (A ++ A') ∧ EnvR X.K (AE.less HF' A) H' ρ σ A := fun {HF' H' A'} f w' => by
    have at1 : ∀ p ∈ A, ∀ u, H p = some u → HF' p = some u := fun p hp u e => f.same p u (by rw [grow_in hp]; exact e)
    have c2 : ∀ p ∈ A, ∃ u, HF' p = some u ∧ Chg u := fun p hp => by
      obtain ⟨u, e, z⟩ := c1 p hp
      exact ⟨u, at1 p hp u e, z⟩
    have sA : Same HF (AE.less HF' A) := fun p u e => by
      have n : p ∉ A := fun z => by rw [w.out p z] at e; cases e
      rw [less_out n]
      exact f.same p u (by rw [grow_out n]; exact e)
    have keepA : ∀ p ∈ A, H' p = H p := fun p hp => by
      obtain ⟨u, e, z⟩ := c1 p hp
      rw [e]
      exact w'.same p u (at1 p hp u e)
    refine ⟨c2, ⟨sA, fun p o e n => f.keep p o e (by simp), fun p o e n fr => ?_, fun p hp => ?_⟩, ⟨fun p u e => ?_, ?_, fun p hp => ?_⟩, EnvR.keep sA ρ en keepA⟩
    · rw [less_out n]
      exact f.free p o e (by simp) (by rw [grow_out n]; exact fr)
    · rcases List.mem_append.mp hp with z | z
      · exact .inl z
      · rcases f.new p z with y | y
        · cases y
        · exact .inr y
    · by_cases hp : p ∈ A
      · rw [less_in hp] at e; cases e
      · rw [less_out hp] at e; exact w'.same p u e
    · refine List.nodup_append.mpr ⟨w.nodup, w'.nodup, fun a ha b hb e => ?_⟩
      subst e
      obtain ⟨u, e, _⟩ := c2 a ha
      rw [w'.out a hb] at e; cases e
    · by_cases hA : p ∈ A
      · exact less_in hA
      · rw [less_out hA]
        exact w'.out p ((List.mem_append.mp hp).elim (fun z => absurd z hA) id)
  refine q (grow HF H A) [] σ H Q w1 (l.envR s1 en fun p hp => grow_in hp) (fun b ρ1 z HF' H' A' f w' en' => ?_) (fun xx ρ1 ⟨g, z⟩ HF' H' A' cls d f w' en' r => ?_)
  · obtain ⟨c2, f2, w2, en2⟩ := key f w'
    exact k b ρ z (AE.less HF' A) H' A (f2.mono (fun _ h => h) fun p hp => .inl (List.mem_append_left _ hp)) w2.left en2
  · obtain ⟨c2, f2, w2, en2⟩ := key f w'
    refine x xx ρ z (AE.less HF' A) H' A cls d (f2.mono (fun _ h => h) fun p hp => .inl (List.mem_append_left _ hp)) w2.left en2 ⟨r.1, ?_⟩
    have r2 := r.2
    cases d with
    | none => exact r2
    | some p =>
      obtain ⟨fvs, h1, h2⟩ := r2
      refine ⟨fvs, ?_, RepFs.less c2 _ g h2⟩
      have n : p ∉ A := fun zz => by
        obtain ⟨u, e, q'⟩ := c2 p zz
        rw [h1] at e; cases e; exact q'
      rw [less_out n]; exact h1
end
end AE
namespace AE
open PySem L2
section
variable {X : Cx} {W : WX}
end
section
variable {X : Cx} {W : WX} {P : Prot} {tg iter : Expr} {body : List Stmt} {te : TD} {g : TGD} {tb : TSD} {pos : Pos}
theorem RepOs.atI {K : PySem.W.Frag} {HF H : Hp} : ∀ {os : List O} {vs : List V} {B : List Addr} {i : Nat} {x : V}, RepOs K HF H os vs B → vs[i]? = some x → ∃ o, os[i]? = some o
  | [], vs, B, i, x, h, e => by rw [h.1] at e; cases e
  | o :: os, vs, B, 0, x, h, e => ⟨o, rfl⟩
  | o :: os, vs, B, i + 1, x, h, e => by
    obtain ⟨v, ws, A1, A2, rfl, rfl, q, t⟩ := h
    have z := RepOs.atI (os := os) (i := i) (x := x) t (by simpa using e)
    simpa using z
end
end AE
namespace AE
open PySem L2
def LcRN (g : TGD) (tt : TDt) (te : TD) (vs : List Nat) (ρ1 : Env) (Kd : KD) (items : List D) : Prop := ∃ I : Nat → List O → Env → Prop, I 0 [] (wipeD ρ1 vs) ∧
  (∀ i d acc ρ, items[i]? = some d → I i acc ρ → g (.fz d) ρ (fun ρ2 => tt ρ2 (fun b ρ3 => if b = true then te ρ3 (fun ev ρ4 => match ev with
    | .ow o => acc.length < sizeLine ∧ I (i + 1) (acc ++ [o]) (wipeD ρ4 vs)
    | _ => False) NoX else I (i + 1) acc (wipeD ρ3 vs)) NoX)) ∧
  ∀ acc ρ, I items.length acc ρ → Kd (.ow (.nl acc)) (backL ρ1 ρ vs)
section
variable {X : Cx} {W : WX} {P : Prot} {ρ : Env} {Kd : KD} {Ed : XC} {E : EndsD} {elt tg iter : Expr} {ifs : List Expr} {scope : Scope} {own : List (Str × Nat)} {vs : List Nat} {pos spos py : Pos} {i : Nat} {y : Str} {body : List Stmt}
theorem LcRN.imp {g : TGD} {tt : TDt} {te : TD} {ρ1 : Env} {Kd Kd' : KD} {items : List D} (q : LcRN g tt te vs ρ1 Kd items) (h : ∀ ev ρ, Kd ev ρ → Kd' ev ρ) : LcRN g tt te vs ρ1 Kd' items := by
  obtain ⟨I, a, b, c⟩ := q
  exact ⟨I, a, b, fun acc ρ z => h _ _ (c acc ρ z)⟩
end
end AE
namespace AE
open PySem L2
@[irreducible] def tkb (r : Nat) (N : O → Env → Prop) (ρ : Env) : Prop := match ρ[r]? with
  | some (some o) => N o (ρ.set r none)
  | _ => False
section
variable {X : Cx} {W : WX} {P : Prot} {ρ : Env} {iter : Expr} {body : List Stmt} {pos py : Pos} {E : EndsD} {Ed : XC} {i r : Nat} {y : Str}
end
end AE
namespace AE
open PySem L2
theorem tkb.imp {r : Nat} {N N' : O → Env → Prop} {ρ : Env} (h : tkb r N ρ) (i : ∀ o ρ, N o ρ → N' o ρ) : tkb r N' ρ := by
  unfold tkb at h ⊢
  split at h
  · exact i _ _ h
  · exact h.elim
end AE
namespace AE
open PySem L2
section
variable {X : Cx} {W : WX} {ρ : Env} {Kd : KD} {Ed : XC} {e : Expr}
end
section
variable {X : Cx} {W : WX} {ρ : Env} {Kd : KD} {Ed : XC} {lv n : Nat} {x : Str} {C : Addr} {ps ks : List Str} {F : AFn} {p pos : Pos} {kws : List Keyword} {ix : List Nat} {dfl : List D} {e : Expr} {es : List Expr}
end
end AE
namespace AE
open PySem L2
end AE
namespace AE
open PySem L2
theorem lb_ {a b : Nat} (h : Nat.ble a b = true) : a ≤ b := Nat.le_of_ble_eq_true h
section
variable {X : Cx} {W : WX} {P : Prot} {ρ : Env} {Kd : KD} {Ed : XC} {a b o e i : Expr} {pos apos cpos : Pos} {N : Env → Prop}
end
theorem RepOKs.join {K : PySem.W.Frag} {HF H : Hp} : ∀ {p q : List (Key × O)} {vs1 vs2 : List (Key × V)} {A1 A2 : List Addr}, RepOKs K HF H p vs1 A1 → RepOKs K HF H q vs2 A2 → RepOKs K HF H (p ++ q) (vs1 ++ vs2) (A1 ++ A2)
  | [], q, vs1, vs2, A1, A2, h1, h2 => by rw [h1.1, h1.2]; exact h2
  | x :: p, q, vs1, vs2, A1, A2, h1, h2 => by
    obtain ⟨v, ws, B1, B2, rfl, rfl, r1, r2⟩ := h1
    exact ⟨v, ws ++ vs2, B1, B2 ++ A2, rfl, by rw [List.append_assoc], r1, RepOKs.join r2 h2⟩
section
variable {X : Cx} {W : WX} {P : Prot} {ρ : Env} {Kd : KD} {Ed : XC} {a b o e i : Expr} {pos apos cpos : Pos} {N : Env → Prop}
end
end AE
namespace AE
open PySem L2
section
variable {X : Cx} {W : WX} {P : Prot} {ρ : Env} {E : EndsD} {Ed : XC} {e : Expr} {rest : List Stmt} {pos py : Pos} {r i : Nat} {y : Str} {N : Env → Prop}
end
end AE
namespace AE
open PySem
open Sem (wp)
def Pz (x y : GenState) : Prop := ∃ k l c p fs cl, x = .suspended k l c p fs cl ∧ y = .suspended (fun _ => .unsupported "") l c p fs cl
def Ng (x : GenState) : Prop := ∀ k l c p fs cl, x = .suspended k l c p fs cl → splitAtGen fs = none
def Tw (x y : GenState) : Prop := (x = y ∧ Ng x) ∨ Pz x y
structure RlG (G G3 : Array GenState) : Prop where
  size : G.size = G3.size
  tw : ∀ (i : Nat) (x y : GenState), G[i]? = some x → G3[i]? = some y → Tw x y
def KpG (G G3 G' G3' : Array GenState) : Prop := ∀ (i : Nat) (x y : GenState), Pz x y → G[i]? = some x → G3[i]? = some y → G'[i]? = some x ∧ G3'[i]? = some y
theorem KpG.refl {G G3 : Array GenState} : KpG G G3 G G3 := fun _ _ _ _ a b => ⟨a, b⟩
theorem KpG.trans {A A3 B B3 C C3 : Array GenState} (a : KpG A A3 B B3) (b : KpG B B3 C C3) : KpG A A3 C C3 := fun i x y z p q => let ⟨p1, q1⟩ := a i x y z p q; b i x y z p1 q1
theorem Tw.seen {x y : GenState} (h : Tw x y) : x.seen = y.seen := by
  rcases h with ⟨rfl, _⟩ | ⟨k, l, c, p, fs, cl, rfl, rfl⟩ <;> rfl
theorem RlG.at {G G3 : Array GenState} (r : RlG G G3) {i : Nat} {y : GenState} (h : G3[i]? = some y) : ∃ x, G[i]? = some x ∧ Tw x y := by
  have hi : i < G3.size := (Array.getElem?_eq_some_iff.mp h).1
  have hi' : i < G.size := by rw [r.size]; exact hi
  exact ⟨G[i], Array.getElem?_eq_getElem hi', r.tw i _ _ (Array.getElem?_eq_getElem hi') h⟩
theorem RlG.set {G G3 : Array GenState} (r : RlG G G3) {g : Nat} {z : GenState} (hz : Ng z) : RlG (G.setIfInBounds g z) (G3.setIfInBounds g z) where
  size := by simp [r.size]
  tw := fun i x y hx hy => by
    by_cases hi : g = i
    · subst hi
      rw [Array.getElem?_setIfInBounds] at hx hy
      simp only [if_true] at hx hy
      split at hx
      · split at hy
        · cases hx; cases hy; exact .inl ⟨rfl, hz⟩
        · cases hy
      · cases hx
    · rw [Array.getElem?_setIfInBounds_ne hi] at hx hy
      exact r.tw i x y hx hy
theorem KpG.set {G G3 : Array GenState} {g : Nat} {z : GenState} (h : ∀ x y, Pz x y → G[g]? = some x → G3[g]? = some y → False) : KpG G G3 (G.setIfInBounds g z) (G3.setIfInBounds g z) := fun i x y p hx hy => by
  by_cases hi : g = i
  · subst hi; exact (h x y p hx hy).elim
  · rw [Array.getElem?_setIfInBounds_ne hi, Array.getElem?_setIfInBounds_ne hi]; exact ⟨hx, hy⟩
theorem RlG.push {G G3 : Array GenState} (r : RlG G G3) {z : GenState} (hz : Ng z) : RlG (G.push z) (G3.push z) where
  size := by simp [r.size]
  tw := fun i x y hx hy => by
    rw [Array.getElem?_push] at hx hy
    rw [r.size] at hx
    split at hx
    · rename_i e
      rw [if_pos e] at hy
      cases hx; cases hy; exact .inl ⟨rfl, hz⟩
    · rename_i e
      rw [if_neg e] at hy
      exact r.tw i x y hx hy
theorem KpG.push {G G3 : Array GenState} (r : RlG G G3) {z : GenState} : KpG G G3 (G.push z) (G3.push z) := fun i x y p hx hy => by
  have h1 : i < G.size := (Array.getElem?_eq_some_iff.mp hx).1
  have h2 : i < G3.size := (Array.getElem?_eq_some_iff.mp hy).1
  rw [Array.getElem?_push, Array.getElem?_push, if_neg (Nat.ne_of_lt h1), if_neg (Nat.ne_of_lt h2)]
  exact ⟨hx, hy⟩
theorem ng_fresh {c : Code} : Ng (.fresh c) := fun _ _ _ _ _ _ h => by cases h
theorem ng_running : Ng .running := fun _ _ _ _ _ _ h => by cases h
theorem ng_finished : Ng .finished := fun _ _ _ _ _ _ h => by cases h
theorem no_runs {M : Model} {Γ : Ctx} {p : Pos} {what : String} {fs : List Frame} {s s' : Shared} {e : End} (h : Runs M Γ p (.unsupported what) fs s e s') : False := by
  generalize ht : (Sem.unsupported what : Sem PySem.Fin) = t at h
  induction h <;> first
    | (subst ht; rename_i ih; exact ih rfl)
    | (subst ht; rename_i ih _; exact ih rfl)
    | (subst ht; rename_i ih1 _ _ ; exact ih1 rfl)
    | (subst ht; rename_i ih1 _ _ _ ; exact ih1 rfl)
    | (exact ((by cases ht) : False))
theorem split_append {a b : List Frame} (ha : splitAtGen a = none) (hb : splitAtGen b = none) : splitAtGen (a ++ b) = none := by
  induction a with
  | nil => exact hb
  | cons f a ih =>
    cases f with
    | gen => cases ha
    | ret =>
      have : splitAtGen a = none := by
        cases h : splitAtGen a with
        | none => rfl
        | some x => simp [splitAtGen, h] at ha
      simp [splitAtGen, ih this]
def NgE (e : End) : Prop := ∀ v g l k c p fs, e = .susp v g l k c p fs → splitAtGen fs = none
theorem NgE.ng {e : End} (h : NgE e) : Ng e.genState := by
  cases e with
  | ret r => exact ng_finished
  | susp v g l k c p fs =>
    intro k' l' c' p' fs' cl' e
    have e' : GenState.suspended k l c p fs (g || fs.any Frame.guarded) = _ := e
    cases e'
    exact h _ _ _ _ _ _ _ rfl
theorem runs_tw {M : Model} {Γ : Ctx} {p : Pos} {t : Sem PySem.Fin} {fs : List Frame} {s s' : Shared} {e : End} (h : Runs M Γ p t fs s e s') : splitAtGen fs = none → ∀ G : Array GenState, RlG G s.gens →
    ∃ G', Runs M Γ p t fs { s with gens := G } e { s' with gens := G' } ∧ RlG G' s'.gens ∧ KpG G s.gens G' s'.gens ∧ NgE e := by
  induction h with
  | done => intro _ G r; exact ⟨G, .done, r, .refl, fun _ _ _ _ _ _ _ z => by cases z⟩
  | raise => intro _ G r; exact ⟨G, .raise, r, .refl, fun _ _ _ _ _ _ _ z => by cases z⟩
  | again hq _ ih => intro hf G r; obtain ⟨G', h1, h2⟩ := ih hf G r; exact ⟨G', .again hq h1, h2⟩
  | rule _ ih => intro hf G r; obtain ⟨G', h1, h2⟩ := ih hf G r; exact ⟨G', .rule h1, h2⟩
  | «at» _ ih => intro hf G r; obtain ⟨G', h1, h2⟩ := ih hf G r; exact ⟨G', .at h1, h2⟩
  | load e _ ih => intro hf G r; obtain ⟨G', h1, h2⟩ := ih hf G r; exact ⟨G', .load e h1, h2⟩
  | update e _ ih => intro hf G r; obtain ⟨G', h1, h2⟩ := ih hf G r; exact ⟨G', .update e h1, h2⟩
  | loadIfAlive _ ih => intro hf G r; obtain ⟨G', h1, h2⟩ := ih hf G r; exact ⟨G', .loadIfAlive h1, h2⟩
  | point _ ih => intro hf G r; obtain ⟨G', h1, h2⟩ := ih hf G r; exact ⟨G', .point h1, h2⟩
  | alloc _ ih => intro hf G r; obtain ⟨G', h1, h2⟩ := ih hf G r; exact ⟨G', .alloc h1, h2⟩
  | fresh _ ih => intro hf G r; obtain ⟨G', h1, h2⟩ := ih hf G r; exact ⟨G', .fresh h1, h2⟩
  | ask _ ih => intro hf G r; obtain ⟨G', h1, h2⟩ := ih hf G r; exact ⟨G', .ask h1, h2⟩
  | choose hn _ ih => intro hf G r; obtain ⟨G', h1, h2⟩ := ih hf G r; exact ⟨G', .choose hn h1, h2⟩
  | os _ ih => intro hf G r; obtain ⟨G', h1, h2⟩ := ih hf G r; exact ⟨G', .os h1, h2⟩
  | handled _ ih => intro hf G r; obtain ⟨G', h1, h2⟩ := ih hf G r; exact ⟨G', .handled h1, h2⟩
  | genState e _ ih =>
    intro hf G r
    obtain ⟨x, hx, tw⟩ := r.at e
    obtain ⟨G', h1, h2⟩ := ih hf G r
    exact ⟨G', .genState hx (by rw [tw.seen]; exact h1), h2⟩
  | stack _ ih => intro hf G r; obtain ⟨G', h1, h2⟩ := ih hf G r; exact ⟨G', .stack h1, h2⟩
  | thread _ ih => intro hf G r; obtain ⟨G', h1, h2⟩ := ih hf G r; exact ⟨G', .thread h1, h2⟩
  | newGen _ ih =>
    intro hf G r
    obtain ⟨G', h1, h2, h3, h4⟩ := ih hf (G.push _) (r.push ng_fresh)
    exact ⟨G', .newGen (by simp only [r.size]; exact h1), h2, (KpG.push r).trans h3, h4⟩
  | call _ _ ih1 ih2 =>
    intro hf G r
    obtain ⟨G1, a1, a2, a3, a4⟩ := ih1 rfl G r
    obtain ⟨G2, b1, b2, b3, b4⟩ := ih2 hf G1 a2
    exact ⟨G2, .call a1 b1, b2, a3.trans b3, b4⟩
  | callSusp _ ih1 =>
    intro hf G r
    obtain ⟨G1, a1, a2, a3, a4⟩ := ih1 rfl G r
    refine ⟨G1, .callSusp a1, a2, a3, fun v g l k c p fs z => ?_⟩
    cases z
    exact split_append (a4 _ _ _ _ _ _ _ rfl) rfl
  | yield => intro _ G r; exact ⟨G, .yield, r, .refl, fun _ _ _ _ _ _ _ z => by cases z; rfl⟩
  | @resumeFresh Γ p g l k s c e₁ s₁ e s' e1 _ q _ ih1 ih2 =>
    intro hf G r
    obtain ⟨x, hx, tw⟩ := r.at e1
    have ex : x = .fresh c := by
      rcases tw with ⟨h, _⟩ | ⟨_, _, _, _, _, _, _, h⟩
      · exact h
      · cases h
    subst ex
    have np : ∀ x y, Pz x y → G[g]? = some x → s.gens[g]? = some y → False := fun x y ⟨_, _, _, _, _, _, h, _⟩ h1 h2 => by rw [hx] at h1; cases h1; cases h
    obtain ⟨G1, a1, a2, a3, a4⟩ := ih1 rfl (G.setIfInBounds g .running) (r.set ng_running)
    have hs1 : ∀ x y, Pz x y → G1[g]? = some x → s₁.gens[g]? = some y → False ∨ True := fun _ _ _ _ _ => .inr trivial
    obtain ⟨G2, b1, b2, b3, b4⟩ := ih2 hf (G1.setIfInBounds g e₁.genState) (a2.set a4.ng)
    refine ⟨G2, .resumeFresh hx a1 q b1, b2, fun i x y pz h1 h2 => ?_, b4⟩
    have hi : g ≠ i := fun z => by subst z; exact np x y pz h1 h2
    obtain ⟨c1, c2⟩ := a3 i x y pz (by rw [Array.getElem?_setIfInBounds_ne hi]; exact h1) (by show (s.gens.setIfInBounds g _)[i]? = _; rw [Array.getElem?_setIfInBounds_ne hi]; exact h2)
    exact b3 i x y pz (by rw [Array.getElem?_setIfInBounds_ne hi]; exact c1) (by show (s₁.gens.setIfInBounds g _)[i]? = _; rw [Array.getElem?_setIfInBounds_ne hi]; exact c2)
  | @resumeSuspended Γ p g r' l k s k₀ l₀ c₀ p₀ fs cl e₁ s₁ e s' e1 hr q _ ih1 ih2 =>
    intro hf G r
    obtain ⟨x, hx, tw⟩ := r.at e1
    rcases tw with ⟨ex, ng⟩ | ⟨_, _, _, _, _, _, _, h⟩
    · subst ex
      have np : ∀ x y, Pz x y → G[g]? = some x → s.gens[g]? = some y → False := fun x y ⟨_, _, _, _, _, _, h, h'⟩ h1 h2 => by
        rw [e1] at h2; cases h2; cases h'
        exact no_runs hr
      obtain ⟨G1, a1, a2, a3, a4⟩ := ih1 (ng _ _ _ _ _ _ rfl) (G.setIfInBounds g .running) (r.set ng_running)
      obtain ⟨G2, b1, b2, b3, b4⟩ := ih2 hf (G1.setIfInBounds g e₁.genState) (a2.set a4.ng)
      refine ⟨G2, .resumeSuspended hx a1 q b1, b2, fun i x y pz h1 h2 => ?_, b4⟩
      have hi : g ≠ i := fun z => by subst z; exact np x y pz h1 h2
      obtain ⟨c1, c2⟩ := a3 i x y pz (by rw [Array.getElem?_setIfInBounds_ne hi]; exact h1) (by show (s.gens.setIfInBounds g _)[i]? = _; rw [Array.getElem?_setIfInBounds_ne hi]; exact h2)
      exact b3 i x y pz (by rw [Array.getElem?_setIfInBounds_ne hi]; exact c1) (by show (s₁.gens.setIfInBounds g _)[i]? = _; rw [Array.getElem?_setIfInBounds_ne hi]; exact c2)
    · cases h
      exact (no_runs hr).elim
  | resumeJustStarted e1 hv _ ih =>
    intro hf G r
    obtain ⟨x, hx, tw⟩ := r.at e1
    rcases tw with ⟨ex, _⟩ | ⟨_, _, _, _, _, _, _, h⟩
    case inr => cases h
    subst ex
    obtain ⟨G', h1, h2⟩ := ih hf G r
    exact ⟨G', .resumeJustStarted hx hv h1, h2⟩
  | resumeThrowFresh e1 _ ih =>
    intro hf G r
    obtain ⟨x, hx, tw⟩ := r.at e1
    rcases tw with ⟨ex, _⟩ | ⟨_, _, _, _, _, _, _, h⟩
    case inr => cases h
    subst ex
    obtain ⟨G', h1, h2, h3, h4⟩ := ih hf (G.setIfInBounds _ .finished) (r.set ng_finished)
    exact ⟨G', .resumeThrowFresh hx h1, h2, (KpG.set fun x y ⟨_, _, _, _, _, _, h, _⟩ q1 q2 => by rw [hx] at q1; cases q1; cases h).trans h3, h4⟩
  | resumeRunning e1 _ ih =>
    intro hf G r
    obtain ⟨x, hx, tw⟩ := r.at e1
    rcases tw with ⟨ex, _⟩ | ⟨_, _, _, _, _, _, _, h⟩
    case inr => cases h
    subst ex
    obtain ⟨G', h1, h2⟩ := ih hf G r
    exact ⟨G', .resumeRunning hx h1, h2⟩
  | resumeFinished e1 _ ih =>
    intro hf G r
    obtain ⟨x, hx, tw⟩ := r.at e1
    rcases tw with ⟨ex, _⟩ | ⟨_, _, _, _, _, _, _, h⟩
    case inr => cases h
    subst ex
    obtain ⟨G', h1, h2⟩ := ih hf G r
    exact ⟨G', .resumeFinished hx h1, h2⟩
  | @segRet Γ p t k h g l c₁ p₁ kp fs s r' s₁ e s' _ _ ih1 ih2 =>
    intro hf G r
    have hf' : splitAtGen fs = none := by
      cases q : splitAtGen fs with
      | none => rfl
      | some x => simp [splitAtGen, q] at hf
    obtain ⟨G1, a1, a2, a3, a4⟩ := ih1 rfl G r
    obtain ⟨G2, b1, b2, b3, b4⟩ := ih2 hf' G1 a2
    exact ⟨G2, .segRet a1 b1, b2, a3.trans b3, b4⟩
  | segGen _ _ _ _ => intro hf; cases hf
  | @segSuspOut Γ p t F fs s v g₀ l₀ k₀ c₀ p₀ fs₀ s' hs _ ih =>
    intro hf G r
    obtain ⟨G1, a1, a2, a3, a4⟩ := ih rfl G r
    refine ⟨G1, .segSuspOut hs a1, a2, a3, fun v g l k c p fs z => ?_⟩
    cases z
    exact split_append (a4 _ _ _ _ _ _ _ rfl) hf
  | segSuspGen hs _ _ _ _ _ => intro hf; rw [hf] at hs; cases hs
theorem wakes_tw {M : Model} {Γ : Ctx} {p : Pos} {g : Nat} {r : Resume} {s s' : Shared} {res : GenResult} (h : Wakes M Γ p g r s res s') (G : Array GenState) (rl : RlG G s.gens) :
    ∃ G', Wakes M Γ p g r { s with gens := G } res { s' with gens := G' } ∧ RlG G' s'.gens ∧ KpG G s.gens G' s'.gens := by
  unfold Wakes at h
  split at h
  · exact h.elim
  · rename_i c e1
    obtain ⟨x, hx, tw⟩ := rl.at e1
    rcases tw with ⟨ex, _⟩ | ⟨_, _, _, _, _, _, _, h⟩
    case inr => cases h
    subst ex
    have np : ∀ x y, Pz x y → G[g]? = some x → s.gens[g]? = some y → False := fun x y ⟨_, _, _, _, _, _, h, _⟩ h1 h2 => by rw [hx] at h1; cases h1; cases h
    split at h
    · obtain ⟨e₁, s₁, hr, hq, rfl, rfl⟩ := h
      obtain ⟨G1, a1, a2, a3, a4⟩ := runs_tw hr rfl (G.setIfInBounds g .running) (rl.set ng_running)
      refine ⟨G1.setIfInBounds g e₁.genState, ?_, a2.set a4.ng, fun i x y pz h1 h2 => ?_⟩
      · unfold Wakes
        simp only [hx]
        exact ⟨e₁, _, a1, hq, rfl, rfl⟩
      · have hi : g ≠ i := fun z => by subst z; exact np x y pz h1 h2
        obtain ⟨c1, c2⟩ := a3 i x y pz (by rw [Array.getElem?_setIfInBounds_ne hi]; exact h1) (by show (s.gens.setIfInBounds g _)[i]? = _; rw [Array.getElem?_setIfInBounds_ne hi]; exact h2)
        exact ⟨by rw [Array.getElem?_setIfInBounds_ne hi]; exact c1, by show (s₁.gens.setIfInBounds g _)[i]? = _; rw [Array.getElem?_setIfInBounds_ne hi]; exact c2⟩
    · obtain ⟨rfl, rfl⟩ := h
      exact ⟨G, by unfold Wakes; simp [hx], rl, .refl⟩
    · obtain ⟨rfl, rfl⟩ := h
      exact ⟨G.setIfInBounds g .finished, by unfold Wakes; simp [hx]; rfl, rl.set ng_finished, KpG.set np⟩
  · rename_i k₀ l₀ c₀ p₀ fs cl e1
    obtain ⟨e₁, s₁, hr, hq, rfl, rfl⟩ := h
    obtain ⟨x, hx, tw⟩ := rl.at e1
    rcases tw with ⟨ex, ng⟩ | ⟨_, _, _, _, _, _, _, h⟩
    case inr => cases h; exact (no_runs hr).elim
    subst ex
    have np : ∀ x y, Pz x y → G[g]? = some x → s.gens[g]? = some y → False := fun x y ⟨_, _, _, _, _, _, h, h'⟩ h1 h2 => by
      rw [e1] at h2; cases h2; cases h'
      exact no_runs hr
    obtain ⟨G1, a1, a2, a3, a4⟩ := runs_tw hr (ng _ _ _ _ _ _ rfl) (G.setIfInBounds g .running) (rl.set ng_running)
    refine ⟨G1.setIfInBounds g e₁.genState, ?_, a2.set a4.ng, fun i x y pz h1 h2 => ?_⟩
    · unfold Wakes
      simp only [hx]
      exact ⟨e₁, _, a1, hq, rfl, rfl⟩
    · have hi : g ≠ i := fun z => by subst z; exact np x y pz h1 h2
      obtain ⟨c1, c2⟩ := a3 i x y pz (by rw [Array.getElem?_setIfInBounds_ne hi]; exact h1) (by show (s.gens.setIfInBounds g _)[i]? = _; rw [Array.getElem?_setIfInBounds_ne hi]; exact h2)
      exact ⟨by rw [Array.getElem?_setIfInBounds_ne hi]; exact c1, by show (s₁.gens.setIfInBounds g _)[i]? = _; rw [Array.getElem?_setIfInBounds_ne hi]; exact c2⟩
  · rename_i e1
    obtain ⟨rfl, rfl⟩ := h
    obtain ⟨x, hx, tw⟩ := rl.at e1
    rcases tw with ⟨ex, _⟩ | ⟨_, _, _, _, _, _, _, h⟩
    case inr => cases h
    subst ex
    exact ⟨G, by unfold Wakes; simp [hx], rl, .refl⟩
  · rename_i e1
    obtain ⟨rfl, rfl⟩ := h
    obtain ⟨x, hx, tw⟩ := rl.at e1
    rcases tw with ⟨ex, _⟩ | ⟨_, _, _, _, _, _, _, h⟩
    case inr => cases h
    subst ex
    exact ⟨G, by unfold Wakes; simp [hx], rl, .refl⟩
def TwQ {α : Type} (G G3 : Array GenState) (Q : α → Shared → Prop) (a : α) (s' : Shared) : Prop := ∃ G3', RlG s'.gens G3' ∧ KpG G G3 s'.gens G3' ∧ Q a { s' with gens := G3' }
theorem wp_tw {α : Type} (M : Model) (Γ : Ctx) (t : Sem α) : ∀ (Q : α → Pos → Shared → Prop) (E : Value → Pos → Shared → Prop) (p : Pos) (s : Shared), wp M Γ t Q E p s → ∀ G : Array GenState, RlG G s.gens →
    ∀ (G0 G03 : Array GenState), KpG G0 G03 G s.gens →
    wp M Γ t (fun a p' s' => TwQ G0 G03 (fun a s'' => Q a p' s'') a s') (fun a p' s' => TwQ G0 G03 (fun a s'' => E a p' s'') a s') p { s with gens := G } := by
  induction t with
  | pure a => intro Q E p s h G r G0 G03 k; exact ⟨s.gens, r, k, h⟩
  | raise e => intro Q E p s h G r G0 G03 k; exact ⟨s.gens, r, k, h⟩
  | unsupported _ => intro Q E p s h; exact h.elim
  | finish _ => intro Q E p s h; exact h.elim
  | rule _ k ih => intro Q E p s h G r G0 G03 kp; exact ih () Q E p s h G r G0 G03 kp
  | «at» p' k ih => intro Q E p s h G r G0 G03 kp; exact ih () Q E p' s h G r G0 G03 kp
  | load a _ k ih => intro Q E p s h G r G0 G03 kp; obtain ⟨o, ho, h⟩ := h; exact ⟨o, ho, ih o Q E p s h G r G0 G03 kp⟩
  | update a _ f k ih => intro Q E p s h G r G0 G03 kp; exact ⟨h.1, ih () Q E p _ h.2 G r G0 G03 kp⟩
  | loadIfAlive a k ih => intro Q E p s h G r G0 G03 kp; exact ih _ Q E p s h G r G0 G03 kp
  | point _ k ih => intro Q E p s h G r G0 G03 kp; exact ih () Q E p s h G r G0 G03 kp
  | register _ _ => intro Q E p s h; exact h.elim
  | alloc o k ih => intro Q E p s h G r G0 G03 kp; exact ih _ Q E p _ h G r G0 G03 kp
  | fresh k ih => intro Q E p s h G r G0 G03 kp; exact ih _ Q E p _ h G r G0 G03 kp
  | ask k ih => intro Q E p s h G r G0 G03 kp; exact ih _ Q E p s h G r G0 G03 kp
  | choose src m k ih => intro Q E p s h G r G0 G03 kp; exact ⟨h.1, ih _ Q E p _ h.2 G r G0 G03 kp⟩
  | os q _ k ih => intro Q E p s h G r G0 G03 kp; exact ih _ Q E p _ h G r G0 G03 kp
  | call c hd _ _ k ih =>
    intro Q E p s h G r G0 G03 kp
    obtain ⟨res, s', hr, h⟩ := h
    obtain ⟨G1, a1, a2, a3, _⟩ := runs_tw hr rfl G r
    exact ⟨res, _, a1, ih res Q E p s' h G1 a2 G0 G03 (kp.trans a3)⟩
  | handled own k ih => intro Q E p s h G r G0 G03 kp; exact ih _ Q E p s h G r G0 G03 kp
  | genState g k ih =>
    intro Q E p s h G r G0 G03 kp
    obtain ⟨st, hs, h⟩ := h
    obtain ⟨x, hx, tw⟩ := r.at hs
    exact ⟨x, hx, by rw [tw.seen]; exact ih _ Q E p s h G r G0 G03 kp⟩
  | newGen c k ih =>
    intro Q E p s h G r G0 G03 kp
    show wp M Γ (k G.size) _ _ p { s with gens := G.push (.fresh c) }
    rw [r.size]
    exact ih _ Q E p _ h (G.push (.fresh c)) (r.push ng_fresh) G0 G03 (kp.trans (KpG.push r))
  | resume g r' _ k ih =>
    intro Q E p s h G r G0 G03 kp
    obtain ⟨res, s', hw, h⟩ := h
    obtain ⟨G1, a1, a2, a3⟩ := wakes_tw hw G r
    exact ⟨res, _, a1, ih res Q E p s' h G1 a2 G0 G03 (kp.trans a3)⟩
  | yield _ _ _ _ => intro Q E p s h; exact h.elim
  | stack k ih => intro Q E p s h G r G0 G03 kp; exact ih _ Q E p s h G r G0 G03 kp
  | fork _ _ => intro Q E p s h; exact h.elim
  | thread k ih => intro Q E p s h G r G0 G03 kp; exact ih _ Q E p s h G r G0 G03 kp
  | await _ _ _ _ _ => intro Q E p s h; exact h.elim
def poison : GenState → GenState
  | .suspended _ l c p fs cl => .suspended (fun _ => .unsupported "") l c p fs cl
  | x => x
theorem tw_poison (x : GenState) : Tw x (poison x) := by
  cases x with
  | suspended k l c p fs cl => exact .inr ⟨k, l, c, p, fs, cl, rfl, rfl⟩
  | fresh c => exact .inl ⟨rfl, ng_fresh⟩
  | running => exact .inl ⟨rfl, ng_running⟩
  | finished => exact .inl ⟨rfl, ng_finished⟩
theorem rlG_poison (G : Array GenState) : RlG G (G.map poison) where
  size := by simp
  tw := fun i x y hx hy => by
    rw [Array.getElem?_map, hx] at hy
    cases hy
    exact tw_poison x
theorem RlG.bare {G G3 : Array GenState} (r : RlG G G3) (h : ∀ x ∈ G3, x.bare = true) : ∀ x ∈ G, x.bare = true := by
  intro x hx
  obtain ⟨i, hi, e⟩ := Array.mem_iff_getElem.mp hx
  have hi' : i < G3.size := by rw [← r.size]; exact hi
  have tw := r.tw i x G3[i] (by rw [← e]; exact Array.getElem?_eq_getElem hi) (Array.getElem?_eq_getElem hi')
  have hb := h G3[i] (Array.getElem_mem hi')
  rcases tw with ⟨e1, _⟩ | ⟨k, l, c, p, fs, cl, e1, e2⟩
  · rw [e1]; exact hb
  · rw [e2] at hb; rw [e1]; exact hb
theorem sleepers {α : Type} {M : Model} {A : Around} {t : Sem α} {Q : α → Shared → Prop} {E : Value → Shared → Prop} {s : Shared} (h : wpAny M A t Q E { s with gens := s.gens.map poison }) :
    wpAny M A t (fun a s' => ∃ G3, RlG s'.gens G3 ∧ Q a { s' with gens := G3 } ∧ ∀ (i : Nat) k l c p fs cl, s.gens[i]? = some (GenState.suspended k l c p fs cl) → s'.gens[i]? = some (GenState.suspended k l c p fs cl))
      (fun a s' => ∃ G3, RlG s'.gens G3 ∧ E a { s' with gens := G3 } ∧ ∀ (i : Nat) k l c p fs cl, s.gens[i]? = some (GenState.suspended k l c p fs cl) → s'.gens[i]? = some (GenState.suspended k l c p fs cl)) s := by
  intro Γ p hΓ
  have key := wp_tw M Γ t _ _ p _ (h Γ p hΓ) s.gens (rlG_poison s.gens) s.gens (s.gens.map poison) .refl
  refine Sem.wp_mono M Γ t ?_ ?_ _ _ key
  all_goals
    rintro a p' s' ⟨G3, r, k, q⟩
    refine ⟨G3, r, q, fun i kk l c p fs cl e => (k i _ _ ⟨kk, l, c, p, fs, cl, rfl, rfl⟩ e (by rw [Array.getElem?_map, e]; rfl)).1⟩
end AE
namespace AE
open PySem L2 GenW
open PyProof.Rows (AllBare)
def trH (h : Heap) (n : Nat) : Heap := ⟨h.objs.extract 0 n, h.life⟩
def trS (s : Shared) (n : Nat) : Shared := { s with heap := trH s.heap n }
structure GFr where
  P : Program
  w : World
  K : PySem.W.Frag
  mg : Str → Option Value
  base : Heap
  N : List Str
  env : PySem.Env
  A : Around
  outer : List PySem.Env
  n0 : Nat
def gnX (G : GFr) (s : Shared) (H : Hp) : Cx where
  prog := G.P
  w := G.w
  K := G.K
  mg := G.mg
  base := G.base
  A := G.A.deeper G.env
  N := G.N
  s_0 := trS s G.n0
  H_0 := H
  env := G.env
  outer := G.outer
  stack := G.env :: G.outer
  ex := []
  calm := true
  fn := fun _ => true
  pn := []
  xe := fun _ _ => False
structure GOk (G : GFr) : Prop where
  kind : G.env.scope.kind = .function
  co : G.env.scope.isCoroutine = false
  glob : G.env.globals = mainGlobals
  blt : G.env.builtins = builtinsNs
  loc : G.n0 ≤ G.env.locals
  frame : G.env.frame = some G.env.locals
  inj : ∀ x y c, G.env.cells.lookup x = some c → G.env.cells.lookup y = some c → x = y
  has : ∀ x, (G.env.kindOf x = some .cell ∨ G.env.kindOf x = some .free) → ∃ c, G.env.cells.lookup x = some c
  cab : ∀ x c, G.env.cells.lookup x = some c → G.n0 ≤ c
  hd : G.A.handled = none
  bsz : G.base.objs.size ≤ G.n0
  frs : ∀ b ∈ frs G.outer, b < G.n0
structure Wk (G : GFr) (pv : List (Addr × Obj)) (H : Hp) (s : Shared) : Prop where
  e0 : Env0 G.P G.w G.K G.mg G.base G.A G.outer s H
  sz : G.n0 ≤ s.heap.objs.size
  pv : ∀ p ∈ pv, s.heap.get? p.1 = some p.2 ∧ H p.1 = none
section
variable {G : GFr}
def GFr.own (G : GFr) : List Addr := G.env.locals :: G.env.cells.filterMap fun p => G.env.cells.lookup p.1
def chG (G : GFr) (s : Shared) : List Addr := (List.range s.heap.objs.size).filter fun b => decide (G.n0 ≤ b)
end
def pureE : Env → Bool
  | [] => true
  | none :: r => pureE r
  | some (.fz _) :: r => pureE r
  | some _ :: _ => false
structure Csm (T : Type) where
  CI : Hp → Hp → T → Shared → Prop
  cnt : T → Nat
  S : T → O → (T → Prop) → Prop
  lt : ∀ c o nx, S c o nx → cnt c < sizeLine
  mono : ∀ c o (nx nx' : T → Prop), (∀ c, nx c → nx' c) → S c o nx → S c o nx'
section
variable {T : Type} (G : GFr) (C : Csm T)
def Gi (HFb : Hp) (ip : List (Addr × Obj)) (Φ : Hp → Hp → Shared → Prop) (ρ : Env) (c : T) (s₀ s : Shared) : Prop :=
  ∃ HF₀ H₀ HF H σ A, C.CI HF₀ H₀ c s₀ ∧ Wk G [] H₀ s₀ ∧ Inv (gnX G s₀ H₀) ip σ H s ∧ WR HF H A ∧ EnvR G.K HF H ρ σ A ∧ Fr H₀ H HF₀ HF [] A ∧ Same HFb HF ∧ Φ HF H s
def Tt : Hp → Hp → Shared → Prop := fun _ _ _ => True
structure Dn (H₀ HF₀ H₁ HF₁ : Hp) (Av : List Addr) (s₀ s₁ : Shared) : Prop where
  os : s₁.os = s₀.os
  bare : AllBare s₁.gens
  un : Un (frs G.outer) (chG G s₀) H₀ H₁ s₀.heap s₁.heap
  hok : HOk G.P G.w H₁ s₁.heap
  fr : Fr H₀ H₁ HF₀ HF₁ [] Av
  wr : WR HF₁ H₁ Av
def Yg (ago : Addr × Obj) : Protocol := fun n s₀ v s₁ kap =>
  ∃ HF₀ H₀ HF₁ H₁ c o x Av pv, C.CI HF₀ H₀ c s₀ ∧ Wk G [] H₀ s₀ ∧ Dn G H₀ HF₀ H₁ HF₁ Av s₀ s₁ ∧ RepO G.K HF₁ H₁ o x Av ∧ RelV x v ∧ ago ∈ pv ∧ (∀ p ∈ pv, s₁.heap.get? p.1 = some p.2 ∧ H₁ p.1 = none ∧ G.n0 ≤ p.1) ∧ n + 1 + C.cnt c = sizeLine + 1 ∧
    ∃ Nx : T → Prop, C.S c o Nx ∧ ∀ c' HF₂ H₂ s₂, Nx c' → C.cnt c' = C.cnt c + 1 → C.CI HF₂ H₂ c' s₂ → Wk G pv H₂ s₂ → Same HF₁ HF₂ → Same HF₂ H₂ → kap (.send .none) s₂
def Rg (ago : Addr × Obj) (Q : T → Prop) : GenEnd := fun n s₀ r s₁ =>
  ((r = .ok (.ret .none) ∨ r = .ok .next) ∧ ∃ HF₀ H₀ HF₁ H₁ c, C.CI HF₀ H₀ c s₀ ∧ Wk G [] H₀ s₀ ∧ Dn G H₀ HF₀ H₁ HF₁ [] s₀ s₁ ∧ s₁.heap.get? ago.1 = some ago.2 ∧ Q c) ∨ ∃ e, r = .error e ∧ False
structure GE (T : Type) where
  nx : T → Env → Prop
  ct : T → Env → Prop := fun _ _ => False
  bk : T → Env → Prop := fun _ _ => False
variable (ago : Addr × Obj) (Q : T → Prop)
structure GCo (c : Code) (fs : List Frame) (gd : Bool → Bool) : Prop where
  over : G.A.over c fs = G.A.deeper G.env
  split : splitAtGen fs = none
  guard : fs.any Frame.guarded = false
  gd : gd false = false
def GKo (HFb : Hp) (ip : List (Addr × Obj)) (c : Code) (fs : List Frame) (Kf : Flow → Sem PySem.Fin) (E : GE T) : Prop :=
  ∀ n s₀ s f cc ρ, n + C.cnt cc = sizeLine + 1 → Gi G C HFb ip Tt ρ cc s₀ s → (match f with | .next => E.nx cc ρ | .cont => E.ct cc ρ | .brk => E.bk cc ρ | .ret _ => False) →
    Seg (model G.P G.w) G.A (Rg G C ago Q) (Yg G C ago) n s₀ c (Kf f) fs s
def ipOk (ip : List (Addr × Obj)) : Prop := ago ∈ ip ∧ ∀ p ∈ ip, G.n0 ≤ p.1
def gB (st : List Stmt) (E : GE T) (cc : T) (ρ : Env) : Prop := ∀ HFb ip c fs Kf J gd lv n s₀ s, GCo G c fs gd → ipOk G ago ip → n + C.cnt cc = sizeLine + 1 → GKo G C ago Q HFb ip c fs Kf E → Gi G C HFb ip Tt ρ cc s₀ s →
  Seg (model G.P G.w) G.A (Rg G C ago Q) (Yg G C ago) n s₀ c ((execs st G.env).wrap Kf J gd lv) fs s
end
section
variable {T : Type} {G : GFr} {C : Csm T} {ago : Addr × Obj} {Q : T → Prop} {E : GE T} {cc : T} {ρ : Env}
def yK (C : Csm T) (E : GE T) (cc : T) : KD := fun ev ρ' => match ev with
  | .ow o => pureE ρ' = true ∧ C.S cc o (fun c' => E.nx c' ρ')
  | _ => False
end
end AE
namespace AE
open PySem L2 GenW
open PyProof.Rows (AllBare)
section
variable {prog : Program} {w : World} {A : Around} {R : GenEnd} {Y : Protocol} {n : Nat} {s₀ : Shared} {fs : List Frame} {s : Shared} {env : PySem.Env}
end
section
variable {T : Type} {G : GFr} {C : Csm T} {ago : Addr × Obj} {Q : T → Prop} {E : GE T} {cc : T} {ρ : Env}
end
end AE
namespace AE
open PySem L2 GenW
open PyProof.Rows (AllBare envOfC)
abbrev GDF := List D → (T : Type) → (T → O → (T → Prop) → Prop) → (T → Prop) → T → Prop
def GMk (P : Program) (w : World) (K : PySem.W.Frag) (mg : Str → Option Value) (base : Heap) (k : Nat) (outer : List PySem.Env) (HF H : Hp) (s : Shared) (ds : List D) (F : GDF) (u : Value) (s' : Shared) : Prop :=
  ∃ (a : Addr) (g : Nat) (go : Obj) (c : Code) (N : List Str) (env : PySem.Env) (pv : List (Addr × Obj)), u = .ref a ∧ s'.gens[g]? = some (.fresh c) ∧ (∀ h : Heap, h.get? a = some go → h.IsGen a g) ∧ s'.os = s.os ∧ AllBare s'.gens ∧
    (∀ b o, s.heap.get? b = some o → s'.heap.get? b = some o) ∧ (a, go) ∈ pv ∧ (∀ p ∈ pv, s'.heap.get? p.1 = some p.2 ∧ s.heap.objs.size ≤ p.1) ∧
    ∀ (A : Around) (T : Type) (C : Csm T) (Q : T → Prop) (c0 : T) (HF2 H2 : Hp) (s2 : Shared), Room k A → A.frames = some outer → C.cnt c0 = 0 → C.CI HF2 H2 c0 s2 → Wk ⟨P, w, K, mg, base, N, env, A, outer, s.heap.objs.size⟩ pv H2 s2 → Same HF HF2 → Same HF2 H2 → F ds T C.S Q c0 →
      Seg (model P w) A (Rg ⟨P, w, K, mg, base, N, env, A, outer, s.heap.objs.size⟩ C (a, go) Q) (Yg ⟨P, w, K, mg, base, N, env, A, outer, s.heap.objs.size⟩ C (a, go)) (sizeLine + 1) s2 c ((model P w).den c) [] s2
structure GFnOk (P : Program) (w : World) (K : PySem.W.Frag) (mg : Str → Option Value) (base : Heap) (k : Nat) (f : Addr) (fd : FuncData) (ps : List Str) (F : GDF) : Prop where
  run : ∀ (A : Around) (outer : List PySem.Env) (s : Shared) (HF H : Hp) (args : PySem.Args) (us : List Value) (vs : List V) (ds : List D), Room k A → Env0 P w K mg base A outer s H → BindsTo s fd args (ps.zip us) → Vals vs us → Reps K HF ds vs → Same HF H → ds.length = ps.length →
    codeAny (model P w) A (.call (.ref f) args) (fun r s' => match r with | .ok (.ret u) => GMk P w K mg base k outer HF H s ds F u s' | _ => False) s
end AE
namespace AE
open PySem L2 GenW
open PyProof.Rows (AllBare envOfC)
section
variable {H : Hp} {pv : List (Addr × Obj)} {b : Addr}
end
structure Far (X : Cx) (pins : List (Addr × Obj)) (n0 : Nat) : Prop where
  s0 : X.s_0.heap.objs.size ≤ n0
  loc : X.env.locals < n0
  cell : ∀ x c, X.env.cells.lookup x = some c → c < n0
  pin : ∀ p ∈ X.pn ++ pins, p.1 < n0
section
variable {X : Cx} {pins pv : List (Addr × Obj)} {σ : L2.St} {H : Hp} {s : Shared} {n0 : Nat}
theorem Inv.gens (I : L2.Inv X pins σ H s) {G : Array GenState} (h : AllBare G) : L2.Inv X pins σ H { s with gens := G } := ⟨I.ok, I.os, h, I.base, I.loc, I.cell, I.free, I.freeC, I.pin, I.hok, I.len⟩
theorem Inv.far (I : L2.Inv X pins σ H s) : Far X pins s.heap.objs.size := ⟨I.sz, I.lt, fun x c e => let ⟨_, q⟩ := I.cell x c e; q.lt, fun p hp => Heap.lt_size (I.pin p hp).1⟩
end
end AE
namespace AE
open PySem L2 GenW
open PyProof.Rows (AllBare envOfC)
structure GMet (P : Program) (w : World) (K : PySem.W.Frag) (mg : Str → Option Value) (base : Heap) (lv : Nat) (C : Addr) (m : Str) (ps : List Str) (F : GDF) : Prop where
  cl : Cls K C
  ex : ∃ f fd, Meth K C m f ∧ Binds K fd ps [] ∧ GFnOk P w K mg base lv f fd ps F
section
variable {X : Cx} {W : WX} {P : Prot} {ρ : Env} {Ed : XC}
end
end AE
namespace AE
open PySem L2 GenW
abbrev GenT := (T' : Type) → (T' → D → (T' → Prop) → Prop) → (T' → Prop) → T' → Prop
section
variable {X : Cx} {W : WX} {P : Prot} {ρ1 : Env} {E : EndsD} {Ed : XC} {tg : Expr} {body : List Stmt} {ds : List D} {F : GDF} {G : GenT}
end
section
variable {T : Type} {G : GFr} {C : Csm T} {ago : Addr × Obj} {Q : T → Prop} {E : GE T} {cc : T} {ρ ρ' ρ1 : Env}
theorem gB.drop {st : List Stmt} (l : Le ρ ρ') (q : gB G C ago Q st E cc ρ') : gB G C ago Q st E cc ρ := fun HFb ip c fs Kf J gd lv n s₀ s g hip hn k ⟨HF₀, H₀, HF, H, σ, A, hCI, wk, I, w, en, f, sb, t⟩ => by
  obtain ⟨B, hs, e⟩ := l.envR en
  exact q HFb ip c fs Kf J gd lv n s₀ s g hip hn k ⟨HF₀, H₀, HF, H, σ, B, hCI, wk, I, w.sub hs, e, f.trans (Fr.drop fun p hp => hs.subset hp), sb, t⟩
theorem yk {d : D} {n : T → Prop} (h : C.S cc (.fz d) n) (hp : pureE ρ' = true) (k : ∀ c', n c' → E.nx c' ρ') : yK C E cc (.ow (.fz d)) ρ' := ⟨hp, C.mono _ _ _ _ k h⟩
end
end AE
namespace L2
open PySem PySem.Spec PyProof.Rows
inductive HitV (K : PySem.W.Frag) (H : Hp) (ls : List (Key × V)) : List (Key × V) → Bool → Prop
  | nil : HitV K H ls [] true
  | miss {k : Key} {v : V} {r : List (Key × V)} : valV ls k = none → HitV K H ls ((k, v) :: r) false
  | hit {k : Key} {v y : V} {r : List (Key × V)} {d e : PyData} {b : Bool} : valV ls k = some y → Dp K H v d → Dp K H y e → SeqAt.shaped d = true → SeqAt.shaped e = true → HitV K H ls r b → HitV K H ls ((k, v) :: r) (PyData.eqv d e && b)
theorem HitV.run {X : Cx} {pins : List (Addr × Obj)} {σ : St} {H : Hp} {s : Shared} (I : Inv X pins σ H s) {A : Around} (hu : A.units + 64 < cLine) {ls : List (Key × V)} {vb : List (Key × Value)} (rb : KV ls vb) {ks : List (Key × V)} {b : Bool} (h : HitV X.K H ls ks b) :
    ∀ {va : List (Key × Value)}, KV ks va → PySem.W.KeqHitsP X.prog X.w A s vb va b := by
  induction h with
  | nil =>
    intro va ra
    unfold KV at ra
    cases ra
    exact .nil
  | @miss k v r hm =>
    intro va ra
    unfold KV at ra
    cases ra with
    | @cons _ q _ qs h t =>
      obtain ⟨h1, h2⟩ := h
      obtain ⟨key, u⟩ := q
      have h1' : k = key := h1
      subst h1'
      have rr : RelO none (valueAt vb k) := by rw [← hm]; exact rb.val k
      exact .miss rr.none_of
  | @hit k v y r d e b hy hd he sd se _ ih =>
    intro va ra
    unfold KV at ra
    cases ra with
    | @cons _ q _ qs h t =>
      obtain ⟨h1, h2⟩ := h
      obtain ⟨key, u⟩ := q
      have h1' : k = key := h1
      subst h1'
      have rr : RelO (some y) (valueAt vb k) := by rw [← hy]; exact rb.val k
      obtain ⟨z, hz, rz⟩ := rr.some_of
      obtain ⟨as, r1⟩ := Dp.reads I d v u hd h2
      obtain ⟨bs, r2⟩ := Dp.reads I e y z he rz
      exact .hit hz (SeqAt.eqAt_reads d e A s u z as bs r1 r2 (SeqAt.canLay_of_shaped sd) (SeqAt.canLay_of_shaped se) (SeqAt.room_of_shaped sd hu)).eqP (ih t)
end L2
namespace AE
open PySem L2
def dcHit (ls ks : List (Key × D)) : Bool := ks.all fun kv => match valD ls kv.1 with | some y => dEq kv.2 y | none => false
def gEqDc : G2 := fun d d' P => match d, d' with
  | .dic ks, .dic ls => ((∀ p ∈ ks, Shp p.2) ∧ (∀ p ∈ ls, Shp p.2)) ∧ P (.fz (.bl (ks.length == ls.length && dcHit ls ks)))
  | _, _ => False
instance : Mo2 gEqDc := ⟨fun x y P P' k h => by
  unfold gEqDc at h ⊢
  split at h <;> first | exact ⟨h.1, k _ h.2⟩ | exact h.elim⟩
theorem RepKs.len {K : PySem.W.Frag} {H : Hp} : ∀ (ds : List (Key × D)) {vs : List (Key × V)}, RepKs K H ds vs → vs.length = ds.length
  | [], vs, r => by have e : vs = [] := r; subst e; rfl
  | d :: ds, vs, r => by
    obtain ⟨v, ws, rfl, _, r2⟩ := r
    simp [RepKs.len ds r2]
end AE
namespace L2
open PySem PySem.Spec PyProof.Rows
end L2
namespace AE
open PySem L2
def keyTs : List D → Option (List Key)
  | [] => some []
  | d :: ds => match keyD d with
    | some k => (match keyTs ds with
      | some ks => some (k :: ks)
      | none => none)
    | none => none
def keyT : D → Option (List Key)
  | .tup ds => keyTs ds
  | _ => none
section
variable {K : PySem.W.Frag} {HF : Hp}
theorem RepTs.val {k : List Key} : ∀ {ds : List (List Key × D)} {vs : List (List Key × V)}, RepTs K HF ds vs → (valD ds k = none ∧ valV vs k = none) ∨ ∃ d v, valD ds k = some d ∧ valV vs k = some v ∧ Rep K HF d v
  | [], vs, h => by rw [show vs = [] from h]; exact .inl ⟨rfl, rfl⟩
  | (k', d) :: ds, vs, h => by
    obtain ⟨⟨k2, v⟩, ws, rfl, ⟨hk, r⟩, t⟩ := h
    have hk : k2 = k' := hk
    subst hk
    by_cases e : k2 = k
    · subst e
      exact .inr ⟨d, v, by simp [valD], by simp [valV], r⟩
    · have e1 : valD ((k2, d) :: ds) k = valD ds k := by simp [valD, e]
      have e2 : valV ((k2, v) :: ws) k = valV ws k := by simp [valV, e]
      rw [e1, e2]
      exact RepTs.val t
theorem RepTs.any {k : List Key} : ∀ {ds : List (List Key × D)} {vs : List (List Key × V)}, RepTs K HF ds vs → (vs.any fun kv => decide (kv.1 = k)) = (ds.any fun kv => decide (kv.1 = k))
  | [], vs, h => by rw [show vs = [] from h]; rfl
  | (k', d) :: ds, vs, h => by
    obtain ⟨⟨k2, v⟩, ws, rfl, ⟨hk, r⟩, t⟩ := h
    have hk : k2 = k' := hk
    subst hk
    simp only [List.any_cons, RepTs.any t]
theorem RepTs.mapPut {k : List Key} {d : D} {v : V} (r : Rep K HF d v) : ∀ {ds : List (List Key × D)} {vs : List (List Key × V)}, RepTs K HF ds vs → RepTs K HF (ds.map fun kv => if kv.1 = k then (kv.1, d) else kv) (vs.map fun kv => if kv.1 = k then (kv.1, v) else kv)
  | [], vs, h => by rw [show vs = [] from h]; exact rfl
  | (k', d') :: ds, vs, h => by
    obtain ⟨⟨k2, v2⟩, ws, rfl, ⟨hk, r2⟩, t⟩ := h
    have hk : k2 = k' := hk
    subst hk
    refine ⟨_, _, rfl, ?_, RepTs.mapPut r t⟩
    by_cases e : k2 = k
    · simp only [e, if_true]; exact ⟨rfl, r⟩
    · simp only [e, if_false]; exact ⟨rfl, r2⟩
theorem RepTs.append : ∀ {ds es : List (List Key × D)} {vs ws : List (List Key × V)}, RepTs K HF ds vs → RepTs K HF es ws → RepTs K HF (ds ++ es) (vs ++ ws)
  | [], es, vs, ws, h, q => by rw [show vs = [] from h]; exact q
  | d :: ds, es, vs, ws, h, q => by obtain ⟨v, us, rfl, r, t⟩ := h; exact ⟨v, us ++ ws, rfl, r, RepTs.append t q⟩
theorem RepTs.put {k : List Key} {d : D} {v : V} (r : Rep K HF d v) {ds : List (List Key × D)} {vs : List (List Key × V)} (h : RepTs K HF ds vs) : RepTs K HF (putDk ds k d) (putK vs k v) := by
  unfold putDk putK
  rw [h.any]
  split
  · exact RepTs.mapPut r h
  · exact h.append ⟨(k, v), [], rfl, ⟨rfl, r⟩, rfl⟩
theorem RepTs.length : ∀ {ds : List (List Key × D)} {vs : List (List Key × V)}, RepTs K HF ds vs → vs.length = ds.length
  | [], vs, h => by rw [show vs = [] from h]; rfl
  | d :: ds, vs, h => by obtain ⟨v, ws, rfl, _, t⟩ := h; simp [RepTs.length t]
end
def gInT (neg : Bool) : G2 := fun d d' P => match keyT d, d' with
  | some k, .dit kvs => P (.fz (.bl (xorB neg (valD kvs k).isSome)))
  | _, _ => False
instance {neg : Bool} : Mo2 (gInT neg) := ⟨fun x y P P' k h => by
  unfold gInT at h ⊢
  split at h <;> first | exact k _ h | exact h.elim⟩
section
variable {X : Cx} {W : WX} {P : Prot} {ρ : Env} {E : EndsD} {Ed : XC} {Kd : KD} {o i e : Expr} {N : Env → Prop} {pos : Pos}
end
end AE
namespace L2
open PySem PySem.Spec PyProof.Rows
def keyPy : Key → PyData
  | .inl i => .int i
  | .inr x => .str x
theorem reads_keys {P : Program} {w : World} {hp : Heap} : ∀ {es : List DictEntry} {vs : List (Key × Value)}, Pairs (mixKind P w) es vs → ReadsAll hp (es.map (·.key)) ((vs.map (·.1)).map keyPy) [] := by
  intro es vs q
  induction q with
  | nil => exact ReadsAll.nil
  | @cons e kv es vs hk hv t ih =>
    have one : Reads hp e.key (keyPy kv.1) [] := by
      obtain ⟨k, v⟩ := kv
      rcases keyIs_shape (show keyIs k e.key = true from hk) with ⟨i, t, rfl, e2⟩ | ⟨x, t, rfl, e2⟩
      · rw [e2]; exact Reads.int i t
      · rw [e2]; exact Reads.str x t
    exact ReadsAll.cons (as := []) (bs := []) one ih
theorem pairs_vals {P : Program} {w : World} : ∀ {es : List DictEntry} {vs : List (Key × Value)}, Pairs (mixKind P w) es vs → es.map (·.val) = vs.map (·.2) := by
  intro es vs q
  induction q with
  | nil => rfl
  | @cons e kv es vs hk hv t ih => rw [List.map_cons, List.map_cons, ih, hv]
theorem kv_vals {kvs : List (Key × V)} {vs : List (Key × Value)} (r : KV kvs vs) : Vals (kvs.map (·.2)) (vs.map (·.2)) ∧ vs.map (·.1) = kvs.map (·.1) := by
  unfold KV at r
  induction r with
  | nil => exact ⟨.nil, rfl⟩
  | @cons p q ps qs h t ih => exact ⟨.cons h.2 ih.1, by rw [List.map_cons, List.map_cons, ih.2, h.1]⟩
section
variable {X : Cx}
theorem call_reprD (hg : X.A.guards = some []) (hu : X.A.units + 64 < cLine) : CallR X (.builtin "repr") (fun xs H Q => ∃ a d, xs = [.ref a] ∧ Dp X.K H (.ref a) d ∧ d.showable = true ∧ d.hasDict = false ∧ d.depth ≤ 60 ∧ d.shown.length ≤ sizeLine ∧ Q (.str d.shown) H) := by
  intro pins s σ H xs us Q I r h
  obtain ⟨a, d, rfl, dp, sh, nd, dd, sz, q⟩ := h
  obtain ⟨u, rfl, ru⟩ := vals1 r
  cases ru
  obtain ⟨as, rd⟩ := Dp.reads I d (.ref a) (.ref a) dp rfl
  exact repr_of_reads' rd sh (fun z => by rw [nd] at z; cases z) hg (by omega) (fun _ _ z => z) (fun h' t tk keep => ⟨.str d.shown, H, I.kept keep, ⟨t, rfl⟩, q⟩) sz
def dkText (ks : List Key) (ds : List PyData) : Str := dictText (PyData.shownKv ((ks.map keyPy).zip ds))
theorem call_reprK (hg : X.A.guards = some []) (hu : X.A.units + 64 < cLine) : CallR X (.builtin "repr") (fun xs H Q => ∃ a kvs ds, xs = [.ref a] ∧ Rd H a (.dK kvs) ∧ DpAll X.K H (kvs.map (·.2)) ds ∧ kvs.length = ds.length ∧
    PyData.showableKv (((kvs.map (·.1)).map keyPy).zip ds) = true ∧ PyData.hasDictAll ds = false ∧ PyData.depthKv (((kvs.map (·.1)).map keyPy).zip ds) ≤ 50 ∧ (dkText (kvs.map (·.1)) ds).length ≤ sizeLine ∧ Q (.str (dkText (kvs.map (·.1)) ds)) H) := by
  intro pins s σ H xs us Q I r h
  obtain ⟨a, kvs, ds, rfl, hr, dp, ln, sh, nd, dd, sz, q⟩ := h
  obtain ⟨u, rfl, ru⟩ := vals1 r
  cases ru
  obtain ⟨_, nsys, vs, rel, o, es, ep, ho, hx, hd, _, prs, _⟩ := dk_rd I.hok hr
  obtain ⟨rv, ek⟩ := kv_vals rel
  have rk : ReadsAll s.heap (es.toList.map (·.key)) ((kvs.map (·.1)).map keyPy) [] := by rw [← ek]; exact reads_keys prs
  obtain ⟨as, ra⟩ := Dp.readsAll I ds _ _ dp rv
  rw [← pairs_vals prs] at ra
  have e1 : (((kvs.map (·.1)).map keyPy).zip ds).map (·.1) = (kvs.map (·.1)).map keyPy := List.map_fst_zip (by rw [List.length_map, List.length_map, ln]; exact Nat.le_refl _)
  have e2 : (((kvs.map (·.1)).map keyPy).zip ds).map (·.2) = ds := List.map_snd_zip (by rw [List.length_map, List.length_map, ln]; exact Nat.le_refl _)
  unfold dkText at sz q
  generalize hz : ((kvs.map (·.1)).map keyPy).zip ds = pd at e1 e2 sh dd sz q
  have rk2 : ReadsAll s.heap (es.toList.map (·.key)) (pd.map (·.1)) [] := by rw [e1]; exact rk
  have ra2 : ReadsAll s.heap (es.toList.map (·.val)) (pd.map (·.2)) as := by rw [e2]; exact ra
  obtain ⟨s1, s2⟩ := PyData.showableKv_split pd sh
  have nk : PyData.hasDictAll (pd.map (·.1)) = false := by
    rw [e1]
    generalize kvs.map (·.1) = ks
    induction ks with
    | nil => rfl
    | cons k ks ih =>
      rw [List.map_cons]
      cases k <;> (show (false || PyData.hasDictAll (ks.map keyPy)) = false; rw [ih]; rfl)
  have nv : PyData.hasDictAll (pd.map (·.2)) = false := by rw [e2]; exact nd
  obtain ⟨b1, m1, t1⟩ := ReprAllK.of_readsAll (prog := X.prog) (w := X.w) rk2 s1 (fun z => by rw [nk] at z; cases z) fun t ht => by
    obtain ⟨p, hp, hl⟩ := PyData.shownKv_key_le pd t ht
    exact Nat.le_trans (Nat.le_trans hl (dictText_mem_le hp)) sz
  obtain ⟨b2, m2, t2⟩ := ReprAllK.of_readsAll (prog := X.prog) (w := X.w) ra2 s2 (fun z => by rw [nv] at z; cases z) fun t ht => by
    obtain ⟨p, hp, hl⟩ := PyData.shownKv_val_le pd t ht
    exact Nat.le_trans (Nat.le_trans hl (dictText_mem_le hp)) sz
  have whole := Reads.dict ho hx.1 hd rk2 ra2
  have far : a ∉ b1 ++ b2 := not_mem_of_deeper whole (by simp only [PyData.depth]; omega) ((m1.mono (PyData.depthAll_keys_le pd)).append (m2.mono (PyData.depthAll_vals_le pd)))
  have ents := ReprEntriesK.of_two (prog := X.prog) (w := X.w) es.toList _ _ (t1.more_le (as' := b1 ++ b2) (fun b hb => List.mem_append_left _ hb) (PyData.depthAll_keys_le pd)) (t2.more_le (as' := b1 ++ b2) (fun b hb => List.mem_append_right _ hb) (PyData.depthAll_vals_le pd))
  rw [← PyData.shownKv_eq] at ents
  refine call_repr_slot (by omega) ⟨o, ho, hx.1⟩ F.slot_dict_repr ?_
  refine call_dict_reprK ho hx.1 hd nsys far ents (g := []) hg (fun b _ => Clear.nil b) (by show X.A.units + 1 + _ < cLine; omega) (fun _ _ z => z) (fun h' t tk keep => ⟨_, _, rfl, .str _, H, I.kept keep, ⟨t, rfl⟩, q⟩) sz
end
end L2
namespace AE
open PySem L2
theorem noDict {d : D} (h : pyOk d = true) : (toPy d).hasDict = false := PyData.hasDict_of_canLay _ (canLay_toPy d h)
theorem noDicts : ∀ {ds : List D}, pyOks ds = true → PyData.hasDictAll (toPys ds) = false
  | [], _ => rfl
  | d :: ds, h => by
    have h := Bool.and_eq_true_iff.mp h
    show ((toPy d).hasDict || PyData.hasDictAll (toPys ds)) = false
    rw [noDict h.1, noDicts h.2]; rfl
def gRepr : GN := fun ds P => match ds with
  | [.lst xs] => Shp (.lst xs) ∧ (toPy (.lst xs)).showable = true ∧ (toPy (.lst xs)).shown.length ≤ sizeLine ∧ P (.fz (.str (toPy (.lst xs)).shown))
  | [.tup xs] => Shp (.tup xs) ∧ (toPy (.tup xs)).showable = true ∧ (toPy (.tup xs)).shown.length ≤ sizeLine ∧ P (.fz (.str (toPy (.tup xs)).shown))
  | [.dic kvs] => pyOks (kvs.map (·.2)) = true ∧ PyData.showableKv (((kvs.map (·.1)).map keyPy).zip (toPys (kvs.map (·.2)))) = true ∧ PyData.depthKv (((kvs.map (·.1)).map keyPy).zip (toPys (kvs.map (·.2)))) ≤ 50 ∧
      (dkText (kvs.map (·.1)) (toPys (kvs.map (·.2)))).length ≤ sizeLine ∧ P (.fz (.str (dkText (kvs.map (·.1)) (toPys (kvs.map (·.2))))))
  | _ => False
instance : MoN gRepr := ⟨fun x P P' k h => by
  unfold gRepr at h ⊢
  split at h <;> first | exact ⟨h.1, h.2.1, h.2.2.1, k _ h.2.2.2⟩ | exact ⟨h.1, h.2.1, h.2.2.1, h.2.2.2.1, k _ h.2.2.2.2⟩ | exact h.elim⟩
theorem toPys_len : ∀ (ds : List D), (toPys ds).length = ds.length
  | [] => rfl
  | d :: ds => by show (toPys ds).length + 1 = _; rw [toPys_len ds]; rfl
theorem rks_dp {K : PySem.W.Frag} {H : Hp} : ∀ {ds : List (Key × D)} {vs : List (Key × V)}, RepKs K H ds vs → pyOks (ds.map (·.2)) = true → DpAll K H (vs.map (·.2)) (toPys (ds.map (·.2))) ∧ vs.map (·.1) = ds.map (·.1)
  | [], vs, r, _ => by rw [show vs = [] from r]; exact ⟨.nil, rfl⟩
  | (k, d) :: ds, vs, r, h => by
    obtain ⟨⟨k2, v⟩, ws, rfl, ⟨hk, rd⟩, t⟩ := r
    have h := Bool.and_eq_true_iff.mp h
    obtain ⟨q1, q2⟩ := rks_dp t h.2
    have hk : k2 = k := hk
    exact ⟨.cons (Rep.dp d h.1 rd) q1, by rw [List.map_cons, List.map_cons, q2, hk]⟩
theorem RepKs.len2 {K : PySem.W.Frag} {H : Hp} : ∀ {ds : List (Key × D)} {vs : List (Key × V)}, RepKs K H ds vs → vs.length = ds.length
  | [], vs, r => by rw [show vs = [] from r]; rfl
  | d :: ds, vs, r => by obtain ⟨v, ws, rfl, _, t⟩ := r; simp [RepKs.len2 t]
section
variable {X : Cx} {W : WX} {e : Expr} {es : List Expr} {ts : TDs} {p pos : Pos}
theorem do_repr : DoN X.K (fun xs H Q => (∃ a d, xs = [V.ref a] ∧ Dp X.K H (.ref a) d ∧ d.showable = true ∧ d.hasDict = false ∧ d.depth ≤ 60 ∧ d.shown.length ≤ sizeLine ∧ Q (.str d.shown) H) ∨ ∃ a kvs ds, xs = [V.ref a] ∧ Rd H a (.dK kvs) ∧ DpAll X.K H (kvs.map (·.2)) ds ∧ kvs.length = ds.length ∧
    PyData.showableKv (((kvs.map (·.1)).map keyPy).zip ds) = true ∧ PyData.hasDictAll ds = false ∧ PyData.depthKv (((kvs.map (·.1)).map keyPy).zip ds) ≤ 50 ∧ (dkText (kvs.map (·.1)) ds).length ≤ sizeLine ∧ Q (.str (dkText (kvs.map (·.1)) ds)) H) gRepr := fun HF H vs ds P Q s r g k => by
  unfold gRepr at g
  split at g
  · obtain ⟨v, rfl, rv⟩ := r.one
    obtain ⟨h1, h2, h3, h4⟩ := g
    have r1 := rv.rep s
    have dp := Rep.dp _ h1.1 r1
    obtain ⟨a, vs, rfl, _⟩ := r1
    exact .inl ⟨a, _, rfl, dp, h2, noDict h1.1, Nat.le_trans (depth_toPy _) h1.2, h3, k _ _ _ _ _ h4 (New.imm s rfl)⟩
  · obtain ⟨v, rfl, rv⟩ := r.one
    obtain ⟨h1, h2, h3, h4⟩ := g
    have r1 := rv.rep s
    have dp := Rep.dp _ h1.1 r1
    obtain ⟨a, vs, rfl, _⟩ := r1
    exact .inl ⟨a, _, rfl, dp, h2, noDict h1.1, Nat.le_trans (depth_toPy _) h1.2, h3, k _ _ _ _ _ h4 (New.imm s rfl)⟩
  · obtain ⟨v, rfl, rv⟩ := r.one
    obtain ⟨h1, h2, h3, h4, h5⟩ := g
    obtain ⟨a, ws, rfl, hr, rs⟩ := rv.rep s
    obtain ⟨q1, q2⟩ := rks_dp rs h1
    refine .inr ⟨a, ws, _, rfl, hr, q1, by rw [rs.len2, toPys_len, List.length_map], ?_, noDicts h1, ?_, ?_, ?_⟩
    · rw [q2]; exact h2
    · rw [q2]; exact h3
    · rw [q2]; exact h4
    · rw [q2]; exact k _ _ _ _ _ h5 (New.imm s rfl)
  · exact g.elim
theorem boot_repr : bootBuiltins "repr" = some (.builtin "repr") := by rfl
theorem ae_repr (gd : X.A.guards = some []) (hu : X.A.units + 64 < cLine) (hg : Gl X "repr") (hm : X.mg "repr" = none) (ha : AA X W (e :: es) ts) (he : starEach (e :: es) X.env = (false, eval e X.env) :: starEach es X.env := by rfl) (hpl : (backTo pos (starEach es X.env)).any (·.1) = false := by rfl) :
    AE X W (.Call (.Name "repr" p) (e :: es) [] pos) (tN (pN gRepr) ts) := ae_callB (CallR.or (call_reprD gd hu) (call_reprK gd hu)) (primN do_repr) hg hm boot_repr ha (by decide) (by decide) he hpl
end
end AE
namespace L2
open PySem PySem.Spec PyProof.Rows
theorem cr_range1 {X : Cx} : CallR X (.type "range") (fun vs H Q => ∃ j, vs = [V.int j] ∧ ∀ p, H p = none → Q (.ref p) (upd H p (.rng 0 j))) := fun pins s σ H vs us Q I r h => by
  obtain ⟨j, rfl, q⟩ := h
  obtain ⟨u, rfl, t, rfl⟩ := vals1 r
  exact call_range_1 ⟨.ref s.heap.objs.size, upd H s.heap.objs.size (.rng 0 j), I.laid (t' := s.toks + 1 + 1) (fun b o e => Heap.get?_push_of_some _ e) (Nat.le_refl _) ⟨_, _, _, Heap.get?_push_size _ rfl⟩, rfl, q _ (I.hok.fresh (Nat.le_refl _))⟩
theorem op_notin_rng {X : Cx} : OpR X (compareOp .NotIn) (fun x y H Q => ∃ i a lo hi, x = V.int i ∧ y = V.ref a ∧ H a = some (.rng lo hi) ∧ Q (.bl (!decide (lo ≤ i ∧ i < hi))) H) := fun pins s σ H x y v u Q I rx ry h => by
  obtain ⟨i, a, lo, hi, rfl, rfl, ha, q⟩ := h
  obtain ⟨k, rfl⟩ := rx
  obtain rfl : u = Value.ref a := ry
  obtain ⟨t1, t2, t3, ho⟩ := I.hok a _ ha
  show wpAny _ _ (do return Value.bool (!(← contains (Value.ref a) (Value.int i k)))) _ _ s
  refine wpAny_bind (wpAny_contains_slot (T := "range") ⟨_, ho, rfl⟩ F.slot_range_contains (call_meets F.slot_range_contains ⟨_, ho, rfl⟩ F.entry_range_contains (F.args_range_contains_2 _ _) (q_contains a lo hi i t1 t2 t3 k) ⟨ho, wpAny_truthy_bool (wpAny_pure ⟨.bl _, H, I, rfl, ?_⟩)⟩))
  rw [place1]; exact q
end L2
namespace AE
open PySem L2
def intK (f : Int → Env → Prop) : KD := fun e ρ => match dOf ρ e with
  | some (.int i) => f i ρ
  | _ => False
def intsK (f : Int → Env → Prop) : List EV → Env → Prop := fun es ρ => match es with
  | [e] => intK f e ρ
  | _ => False
section
variable {X : Cx} {W : WX} {ρ : Env} {Kd : KD} {Kb : Bool → Env → Prop} {Ed : XC} {a b : Expr} {p1 p2 pos : Pos}
theorem ink {z : D} {f : Int → Env → Prop} {R : Int → Prop} {ev : EV} (v : VwE ρ ev z) (h : asI z R) (k : ∀ i, R i → f i ρ) : intK f ev ρ := by
  unfold intK
  rw [v.dOf]
  cases z <;> first | exact k _ h | exact h.elim
theorem inks {z : D} {f : Int → Env → Prop} {R : Int → Prop} {ev : EV} (v : VwE ρ ev z) (h : asI z R) (k : ∀ i, R i → f i ρ) : intsK f [ev] ρ := ink v h k
theorem boot_range : bootBuiltins "range" = some (.type "range") := by rfl
theorem inT_run {op : CmpOp} {neg : Bool} (ho : OpR X (compareOp op) (fun x y H Q => ∃ i a lo hi, x = V.int i ∧ y = V.ref a ∧ H a = some (.rng lo hi) ∧ Q (.bl (xorB neg (decide (lo ≤ i ∧ i < hi)))) H)) (hg : Gl X "range") (hm : X.mg "range" = none) (hn : behindInMarks op (.Call (.Name "range" p1) [b] [] p2) = false)
    (he : starEach [b] X.env = [(false, eval b X.env)]) (hpl : (backTo p2 (starEach [] X.env)).any (·.1) = false)
    (q : wE X W a ρ (intK fun i ρ1 => wA X W [b] ρ1 (intsK fun j ρ2 => tK' Kb (.ow (.fz (.bl (xorB neg (decide (0 ≤ i ∧ i < j)))))) ρ2) Ed) Ed) : wT X W (.Compare a [op] [.Call (.Name "range" p1) [b] [] p2] pos) ρ Kb Ed := fun HF A σ H Q w en k0 x => PT.imp (pt_cmpR ho (ewE (X := X) (W := W)) (pe_callTy cr_range1 hg hm boot_range (ewA (X := X) (W := W)) (by decide) (by decide) he hpl) hn) fun σ' H' Q' ⟨e1, e2, e3⟩ => by
  subst e1 e2 e3
  have k : KOk X.K σ' H' HF A (tK' Kb) (fun x H => ∃ k, x = .bl k ∧ Q' k H) := fun e1 ρ1 q1 HF1 H1 A1 v1 Av1 f1 w1 en1 r1 => by
    unfold tK' at q1
    split at q1
    · rename_i b e2
      have r2 : Vw X.K HF1 H1 (.bl b) v1 := Vw.ev w1.same en1 r1 e2
      exact ⟨b, r2, k0 b ρ1 q1 HF1 H1 A1 (f1.mono (fun _ hp => hp) fun p hp => .inl (List.mem_append_left _ hp)) w1.left en1⟩
    · exact q1.elim
  refine ⟨HF, ρ, A, _, Ed, w, en, q, fun ev1 ρ1 q1 HF1 H1 A1 v1 Av1 f1 w1 en1 r1 => ?_, x⟩
  unfold intK at q1
  split at q1
  · rename_i i ed
    obtain rfl : v1 = .int i := Vw.ev w1.same en1 r1 ed
    have w1' := w1.left
    have f1' : Fr H' H1 HF HF1 A A1 := f1.mono (fun _ h => h) fun p hp => .inl (List.mem_append_left _ hp)
    refine ⟨HF1, ρ1, A1, _, Ed, w1', en1, q1, fun es2 ρ2 q2 HF2 H2 A2 vs2 Av2 f2 w2 en2 r2 => ?_, x.step f1'⟩
    unfold intsK at q2
    split at q2
    · rename_i e2
      unfold intK at q2
      split at q2
      · rename_i j ed2
        obtain ⟨v2, us, B1, B2, rfl, rfl, r3, r4⟩ := r2
        obtain ⟨rfl, rfl⟩ := r4
        obtain rfl : v2 = .int j := Vw.ev w2.same en2 r3 ed2
        refine ⟨j, rfl, fun p hp => ⟨i, p, 0, j, rfl, rfl, upd_same, ?_⟩⟩
        have w2' := w2.left
        have np : p ∉ A2 := fun z => by obtain ⟨u, e⟩ := EnvR.there _ en2 p z; rw [hp] at e; cases e
        have f3 : Fr H2 (upd H2 p (.rng 0 j)) HF2 HF2 A2 A2 := ⟨.refl _, fun c o e _ => upd_eq hp e, fun _ _ _ _ f => f, fun c hc => .inl hc⟩
        have w3 : WR HF2 (upd H2 p (.rng 0 j)) A2 := ⟨w2'.same.trans (Same.new hp), w2'.nodup, w2'.out⟩
        have en3 : EnvR X.K HF2 (upd H2 p (.rng 0 j)) ρ2 σ' A2 := EnvR.keep (.refl _) _ en2 fun c hc => by rw [upd_ne (fun z => np (by rw [← z]; exact hc))]
        have f2' : Fr H1 H2 HF1 HF2 A1 A2 := f2.mono (fun _ h => h) fun c hc => .inl (List.mem_append_left _ hc)
        exact k _ _ q2 HF2 _ A2 _ [] (by rw [List.append_nil]; exact (f1'.trans f2').trans f3) (by rw [List.append_nil]; exact w3) en3 ⟨rfl, rfl⟩
      · exact q2.elim
    · exact q2.elim
  · exact q1.elim
theorem t_notinR (hg : Gl X "range") (hm : X.mg "range" = none) (q : wE X W a ρ (intK fun i ρ1 => wA X W [b] ρ1 (intsK fun j ρ2 => tK' Kb (.ow (.fz (.bl (!decide (0 ≤ i ∧ i < j))))) ρ2) Ed) Ed) (hn : behindInMarks .NotIn (.Call (.Name "range" p1) [b] [] p2) = false := by rfl) (he : starEach [b] X.env = [(false, eval b X.env)] := by rfl) (hpl : (backTo p2 (starEach [] X.env)).any (·.1) = false := by rfl) : wT X W (.Compare a [.NotIn] [.Call (.Name "range" p1) [b] [] p2] pos) ρ Kb Ed :=
  inT_run (neg := true) op_notin_rng hg hm hn he hpl q
end
end AE
namespace AH
open PySem L2 AE
theorem isTyB_ok {K : PySem.W.Frag} {T : String} (h : isTyB K T = true) : IsTy K T := ⟨fun n hn => of_decide_eq_true (List.all_eq_true.mp h n hn)⟩
theorem exMB_ok {K : PySem.W.Frag} {exs : List Str} {c : Str} {u : Value} (h : exMB K exs c u = true) : ExM K (C K) exs c u := ⟨fun n hn => of_decide_eq_true (List.all_eq_true.mp h n hn)⟩
theorem isXB_ok {K : PySem.W.Frag} {exs : List Str} {c : Str} {u : Value} (i : ∀ n ∈ exs, XIs K (C K n)) (h : isXB K exs c u = true) : IsX K (C K) exs c u := ⟨fun n hn => ⟨i n hn, of_decide_eq_true (List.all_eq_true.mp h n hn)⟩⟩
end AH
namespace AH
open PySem L2 AE
end AH
namespace AH
open PySem L2 AE
theorem forceK_eq {β : Type} : ∀ (K : PySem.W.Frag) (f : PySem.W.Frag → β), forceK K f = f K
  | [], f => rfl
  | (a, o) :: r, f => by
    show forceK r (fun ys => f ((a, o) :: ys)) = _
    rw [forceK_eq r]
end AH
namespace AH
open PySem L2 AE
end AH
namespace AH
open PySem L2 AE
theorem seeR_eq {chk : PySem.W.Frag → Bool} {fn : List He5.DefA} (s : PySem.W.SharedT) : seeR chk fn s = (hookR chk fn).obs s.abs := by
  have e : HandSHeadRun.getT s = s.abs.heap.get? := funext (HandSHeadRun.getT_eq s)
  have n : s.n = s.abs.heap.objs.size := (PySem.W.absHeap_size s.tree s.n s.life).symm
  unfold seeR
  rw [forceK_eq, e, n]
  rfl
end AH
namespace AH
open PySem L2 AE
end AH
namespace AE
open PySem L2
section
variable {K : PySem.W.Frag} {x qual : Str} {params : Arguments} {body : List Stmt} {scope : Scope} {kws : List (Str × V)} {f : Addr} {fd : FuncData} {ps ks : List Str} {n : Nat} {ix : List Nat} {dfl : List D}
end
end AE
namespace AH
open PySem L2 AE
end AH
namespace AH
open PySem PySem.Spec PyProof.Rows L2
structure FnOkG (P : Program) (w : World) (K : PySem.W.Frag) (mg : Str → Option Value) (base : Heap) (CX : CXT) (k : Nat) (f : Addr) (fd : FuncData) (ps : List Str) (sp : Sp) : Prop where
  len : ∀ vs H Q E, sp vs H Q E → vs.length = ps.length
  go : ∀ (A : Around) (outer : List PySem.Env) (s : Shared) (H : Hp) (args : PySem.Args) (us : List Value) (vs : List V) (Q : VK) (E : XK), A.guards = some [] → Room k A → Env0 P w K mg base A outer s H → BindsTo s fd args (ps.zip us) → Vals vs us → sp vs H Q E → codeAny (model P w) A (.call (.ref f) args) (CR CX outer P w H s Q E) s
theorem fnG_of {CX : CXT} {P : Program} {w : World} {K : PySem.W.Frag} {mg : Str → Option Value} {base : Heap} {k : Nat} {f : Addr} {nm qn : Str} {pms : Arguments} {body : List Stmt} {sc : Scope} {dV kV doc pm cdv ct oc : Value} {an od : Option Addr} {osl : Array (Option Value)} {N ps : List Str} {sp : Sp}
    (lk : K.lookup f = some ⟨oc, od, .func (PySem.W.fnOf nm qn pms body sc dV kV doc pm an cdv ct), osl⟩) (hcd : PySem.W.codeIn K cdv qn = true) (S : FnScope N ps sc) (len : ∀ vs H Q E, sp vs H Q E → vs.length = ps.length)
    (hb : ∀ (A : Around) (outer : List PySem.Env) (s : Shared) (H : Hp) (vs : List V) (Q : VK) (E : XK), (A.deeper (envOfC qn sc s.heap.objs.size f cdv)).guards = some [] → Room k (A.deeper (envOfC qn sc s.heap.objs.size f cdv)) → sp vs H Q E →
      ∃ t, PSs (cxOf CX P w K mg base N qn sc f cdv A outer s H E) body t ∧ t { nx := fun _ H' => Q .non H', rt := Q } (L2.start N vs) H) : FnOkG P w K mg base CX (k + 1) f (PySem.W.fnOf nm qn pms body sc dV kV doc pm an cdv ct) ps sp where
  len := len
  go A outer s H args us vs Q E gd hr e0 bnd r hs := by
    have ln := len _ _ _ _ hs
    have kin : K.In s.heap := e0.mod.kin.keeps fun b o e => (e0.bs b o e).1
    refine codeAny_call_function hr.depth (kin _ _ lk) rfl S.co S.gen rfl (PySem.W.codeRec_of kin hcd) (bnd _ _ _ _ (wpAny_newFunctionEnv_cells S.kind (fun y hy => ?_) fun env he s1 x => ?_))
    · obtain ⟨n, v⟩ := y
      rcases S.par n (List.of_mem_zip hy).1 with z | z
      · exact .inl z
      · exact .inr ⟨z, PySem.W.cellsFrom_some _ _ _ (.inl z)⟩
    · subst he
      obtain ⟨t, ht, hq⟩ := hb A outer s H vs Q E gd (hr.deeper _) hs
      have J : Inv (cxOf CX P w K mg base N qn sc f cdv A outer s H E) [] (L2.start N vs) H s1 := inv_start S hr.hd e0 ln r x
      have lim : s.heap.NoLimit := e0.mod.nolimit.keeps fun b o e => (e0.bs b o e).1
      refine ⟨lim.keeps x.toInCall.keep, codeAny_func (wpAny_mono (ht.run [] s1 (L2.start N vs) H _ J hq) (fun fl s' hf => ?_) fun e s' z => z)⟩
      cases fl with
      | brk => obtain ⟨_, _, _, z⟩ := hf; exact z.elim
      | cont => obtain ⟨_, _, _, z⟩ := hf; exact z.elim
      | next => obtain ⟨σ', H', I', q⟩ := hf; exact ⟨V.non, H', I'.os, I'.bare, I'.base, I'.hok, rfl, q⟩
      | ret u => obtain ⟨v, σ', H', I', rv, q⟩ := hf; exact ⟨v, H', I'.os, I'.bare, I'.base, I'.hok, rv, q⟩
open AE in
theorem okAG {P : Program} {w : World} {K : PySem.W.Frag} {mg : Str → Option Value} {base : Heap} {x qn : Str} {pms : Arguments} {body : List Stmt} {sc : Scope} {dvs : List V} {kws : List (Str × V)} {f : Addr} {fd : FuncData} {N ps : List Str} {k : Nat} {F : AFn} (Fn : FunD K x qn pms body sc dvs kws f fd) (S : FnScope N ps sc) (pr : Prot)
    (hbody : ∀ (cdv : Value) (A : Around) (outer : List PySem.Env) (s : Shared) (H : Hp) (E : XK), Room k (A.deeper (envOfC qn sc s.heap.objs.size f cdv)) → (A.deeper (envOfC qn sc s.heap.objs.size f cdv)).guards = some [] →
      ∃ t, ASs (cxOf (L2N.CX P w) P w K mg base N qn sc f cdv A outer s H E) (fun cls d _ H => E cls d H) pr body t ∧
        ∀ os Kd Ed, os.length = ps.length → F os Kd Ed → t { nx := fun ρ => Kd (.fz .non) (leftD pr 0 os ρ), rt := fun o ρ => Kd o (leftD pr 0 os ρ) } (fun x ρ => Ed x (leftD pr 0 os ρ)) (startD N.length os)) :
    FnOkG P w K mg base (L2N.CX P w) (k + 1) f fd ps (spA K ps.length F) := by
  obtain ⟨oc, od, dV, kV, doc, pm, an, cdv, ct, osl, rfl, lk, hcd, _, _⟩ := Fn.ex
  refine fnG_of lk hcd S (fun vs H Q E h => let ⟨_, _, _, _, _, hl, _⟩ := h; hl) fun A outer s H vs Q E gd hr h => ?_
  obtain ⟨HF, os, Af, Kd, Ed, hl, wr, en, hF, hK, hE⟩ := h
  have hol : os.length = ps.length := by
    have := en.length
    simp [ros, svs] at this
    omega
  have hpl : ps.length ≤ N.length := by
    have := congrArg List.length S.pre
    rw [List.length_take] at this
    omega
  have hst : (L2.start N vs).length = N.length := by
    unfold L2.start
    rw [List.length_append, List.length_map, List.length_replicate]
    omega
  have slot : ∀ j, j < os.length → (L2.start N vs)[j]? = (svs vs)[j]? := fun j hj => by
    unfold L2.start svs
    rw [List.getElem?_append_left (by rw [List.length_map]; omega)]
  obtain ⟨t, h1, h2⟩ := hbody cdv A outer s H E hr gd
  have fin : ∀ {ρ : AE.Env} {HF' H' : Hp} {σ' : L2.St} {A' : List Addr}, Pr pr (L2.start N vs) σ' → Same HF HF' → EnvR K HF' H' ρ σ' A' → ∃ B, B.Sublist A' ∧ EnvR K HF' H' (leftD pr 0 os ρ) (svs vs) B := fun {ρ HF' H' σ' A'} p s' en' => by
    refine leftD_ok s' en en' ?_ fun j hj hP => ?_
    · rw [← en'.length, p.1, hst]; omega
    · rw [Nat.zero_add] at hP
      rw [p.2 j hP, slot j hj]
  refine ⟨_, h1, HF, startD N.length os, Af, _, _, wr, ?_, h2 os Kd Ed hol hF, ⟨fun ρ n HF' H' σ' A' p f w' en' => ?_, fun o ρ n HF' H' σ' A' v Av p f w' en' r => ?_, fun ρ n => n.elim, fun ρ n => n.elim⟩, fun x ρ n HF' H' σ' A' cls d p f w' en' r => ?_⟩
  · show EnvR K HF H (ros os ++ List.replicate (N.length - os.length) none) (L2.start N vs) Af
    unfold L2.start
    rw [show N.length - vs.length = N.length - os.length by omega]
    exact EnvR.pad _ en
  · obtain ⟨B, hs, en2⟩ := fin p f.same en'
    exact hK _ _ n HF' H' B .non [] (by rw [List.append_nil]; exact f.mono (fun _ h => h) fun p hp => .inl (hs.subset hp)) (by rw [List.append_nil]; exact w'.sub hs) en2 ⟨rfl, rfl⟩
  · obtain ⟨B, hs, en2⟩ := fin p f.same en'
    have hs2 : (B ++ Av).Sublist (A' ++ Av) := List.Sublist.append_right hs Av
    exact hK _ _ n HF' H' B v Av (f.mono (fun _ h => h) fun p hp => .inl (hs2.subset hp)) (w'.sub hs2) en2 r
  · obtain ⟨B, hs, en2⟩ := fin p f.same en'
    exact hE _ _ n HF' H' B cls d (f.mono (fun _ h => h) fun p hp => .inl (hs.subset hp)) (w'.sub hs) en2 r
theorem callG {P : Program} {w : World} {K : PySem.W.Frag} {mg mb : Str → Option Value} {CX : CXT} {k : Nat} {fa a : Addr} {fd : FuncData} {x : Str} {sp : Sp} {t : Shared} {vs : List Value} {ns : List Int}
    (kin : K.In t.heap) (g0 : t.heap.Ns mainGlobals mg) (g1 : t.heap.Ns builtinsNs mb) (g2 : ∀ y : Str, y ≠ "__name__" → mb y = bootBuiltins y) (lim : t.heap.NoLimit) (g3 : t.gens = #[]) (ha : t.heap.get? a = some { cls := .type "list", data := .seq vs.toArray }) (hi : IntsAre vs ns) (hl : ns.length ≤ sizeLine) (hr : Room k callerA)
    (F : ∀ base : Heap, K.In base → base.Ns mainGlobals mg → FnOkG P w K mg base CX k fa fd [x] sp) (bnd : ∀ (s : Shared) (u : Value), BindsTo s fd ⟨[u], []⟩ [(x, u)]) (hsp : ∀ H : Hp, SqL K H a (ns.map V.int) → sp [.ref a] H (fun v _ => v = .bl true) fun _ _ _ => False) (hCX : ∀ H e s', CX [] H t (fun _ _ _ => False) e s' → False) :
    codeAny (model P w) callerA (.call (.ref fa) ⟨[.ref a], []⟩) (fun r s' => r = .ok (.ret (.bool true)) ∧ OldK t.heap s'.heap ∧ s'.os = t.os ∧ AllBare s'.gens) t := by
  have rv := vals_ints hi
  have lv := hi.length
  have main : ∀ H : Hp, (∀ b, H b = none ∨ (b = a ∧ ∃ ob ys, H b = some (.frz ob (.lst ys)))) → SqL K H a (ns.map V.int) → HOk P w H t.heap → (H a ≠ none → K.lookup a = none) →
      codeAny (model P w) callerA (.call (.ref fa) ⟨[.ref a], []⟩) (fun r s' => r = .ok (.ret (.bool true)) ∧ OldK t.heap s'.heap ∧ s'.os = t.os ∧ AllBare s'.gens) t := fun H hO hS hok hK => by
    have plainD : ∀ {b : Addr} {o : Obj} {es : Array DictEntry} {ep : Nat}, t.heap.get? b = some o → o.data = .dict es ep → H b = none := fun {b o es ep} e d => by
      rcases hO b with z | ⟨rfl, _⟩
      · exact z
      · rw [ha] at e; cases e
        exact absurd (show Data.seq vs.toArray _ = Data.dict es ep from d) (fun z => by cases z)
    have nsH : ∀ {b : Addr} {m : Str → Option Value}, t.heap.Ns b m → (hidT t.heap H).Ns b m := fun {b m} ⟨o, es, ep, e, d, r⟩ => ⟨o, es, ep, hidT_get e (plainD e d), d, r⟩
    have kinH : K.In (hidT t.heap H) := fun b o e => hidT_get (kin b o e) (by
      rcases hO b with z | ⟨rfl, ob, ys, z⟩
      · exact z
      · have := hK (by rw [z]; intro q; cases q)
        rw [this] at e; cases e)
    have md : Mod K mg (hidT t.heap H) := ⟨kinH, nsH g0, ⟨mb, nsH g1, g2⟩, let ⟨mc, p, q⟩ := lim; ⟨mc, nsH p, q⟩⟩
    have e0 : Env0 P w K mg (hidT t.heap H) callerA [] t H := ⟨rfl, md, fun b o e => of_hidT e, Nat.le_of_eq (hidT_size _ _), trivial, fun b hb => (by cases hb), hok, .of_eq g3⟩
    refine codeAny_mono ((F _ kinH (nsH g0)).go callerA [] t H ⟨[.ref a], []⟩ [.ref a] [.ref a] _ _ rfl hr e0 (bnd t (.ref a)) (.cons rfl .nil) (hsp H hS)) fun r s' h => ?_
    cases r with
    | error e => exact (hCX H e s' h).elim
    | ok fl =>
      cases fl with
      | next => exact h.elim
      | brk => exact h.elim
      | cont => exact h.elim
      | ret u =>
        obtain ⟨v, H', os, bare, un, hok', rr, q⟩ := h
        obtain rfl : v = .bl true := q
        obtain rfl : u = Value.bool true := rr
        refine ⟨rfl, OldK.of_keep fun b o e => ?_, os, bare⟩
        rcases hO b with z | ⟨rfl, ob, ys, z⟩
        · exact un.keep b o e z (fun y => by cases (show b ∈ ([] : List Addr) from y)) (by simp)
        · obtain ⟨p1, _⟩ := hok b _ z
          obtain ⟨p2, _⟩ := hok' b _ (un.frzs b ob _ z)
          rw [e] at p1; cases p1
          exact p2
  cases hk : K.lookup a with
  | some o =>
    have e := kin a o hk
    rw [ha] at e; cases e
    exact main (fun _ => none) (fun _ => .inl rfl) (.inr ⟨_, vs.toArray, _, hk, rfl, rfl, rfl, by rw [List.size_toArray, lv]; exact hl, by simpa using rv⟩) (fun b u z => by cases (show (none : Option HO) = some u from z)) fun z => absurd rfl z
  | none =>
    let G : Hp := fun b => if b = a then some (.frz { cls := .type "list", data := .seq vs.toArray } (.lst (ns.map V.int))) else none
    have ga : G a = some (.frz { cls := .type "list", data := .seq vs.toArray } (.lst (ns.map V.int))) := if_pos rfl
    refine main G (fun b => ?_) (.inl (.inr ⟨_, ga⟩)) (fun b u z => ?_) fun _ => hk
    · by_cases e : b = a
      · exact .inr ⟨e, _, _, by rw [e]; exact ga⟩
      · exact .inl (if_neg e)
    · by_cases e : b = a
      · subst e
        rw [ga] at z; cases z
        exact ⟨ha, by rw [List.length_map]; exact hl, vs, _, rv, ha⟩
      · rw [show G b = none from if_neg e] at z; cases z
theorem walk_ofG {l : PySem.W.OpenLaw} {n k : Nat} {q : Program} {loose : List Str} {XP : (Str → Option Value) → Heap → Prop} {YP : World → Heap → Prop} {d : DefRec} {CX : World → CXT} {x : Str}
    (hn : l.most = some n) (hn2 : n ≤ sizeLine) (hdf : d.params.defaults = []) (hr : Room k callerA)
    (F : ∀ (w : World) (mg : Str → Option Value) (fa : Addr) (h : Heap), YP w h → h.Ns mainGlobals mg → mg d.name = some (.ref fa) →
      ∃ (K : PySem.W.Frag) (fd : FuncData) (sp : Sp), K.In h ∧ (∀ (s : Shared) (u : Value), BindsTo s fd ⟨[u], []⟩ [(x, u)]) ∧
        (∀ (H : Hp) (a : Addr) (ns : List Int), ns.length ≤ n → SqL K H a (ns.map V.int) → sp [.ref a] H (fun v _ => v = .bl true) fun _ _ _ => False) ∧
        ∀ base : Heap, K.In base → base.Ns mainGlobals mg → FnOkG l.prog w K mg base (CX w) k fa fd [x] sp)
    (hCX : ∀ (w : World) (H : Hp) (s : Shared) (e : Value) (s' : Shared), CX w [] H s (fun _ _ _ => False) e s' → False) :
    PySem.W.WalkO q loose XP YP l.row.toRowW d [] (fun f vs => PySem.call f vs) := by
  refine Att.attach_call hn hdf fun w s₀ t mg mb fa o pm cd doc a vs ns G Y ho hd hcd hmg hobj hints hlen hg => ?_
  obtain ⟨K, fd, sp, kin, bnd, hsp, hF⟩ := F w mg fa _ Y G.T.g hmg
  exact callG kin G.T.g G.T.b G.T.builtins G.T.nolimit hg hobj hints (Nat.le_trans hlen hn2) hr hF bnd (fun H hS => hsp H a ns hlen hS) fun H e s' => hCX w H t e s'
end AH
namespace NF
def inv (x : Nat) : Nat := if x % 2 = 0 then x + 1 else x - 1
theorem inv_half (x : Nat) : inv x / 2 = x / 2 := by unfold inv; split <;> omega
theorem inv_inv (x : Nat) : inv (inv x) = x := by unfold inv; split <;> split <;> omega
theorem inv_ne (x : Nat) : inv x ≠ x := by unfold inv; split <;> omega
theorem half_eq {x y : Nat} (h : x / 2 = y / 2) : x = y ∨ x = inv y := by unfold inv; split <;> omega
structure Ap (ap : Nat → Nat → Bool) : Prop where
  sym : ∀ a b, ap a b = ap b a
  irr : ∀ a, ap a a = false
variable (ap : Nat → Nat → Bool)
def com (x y : Nat) : Bool := ap (x / 2) (y / 2)
def pre (ks : List Nat) (m : Nat) : List Nat := (ks.reverse.dropWhile (fun k => com ap k m)).reverse
def suf (ks : List Nat) (m : Nat) : List Nat := (ks.reverse.takeWhile (fun k => com ap k m)).reverse
def put (s : List Nat) (m : Nat) : List Nat := s.takeWhile (· < m) ++ m :: s.dropWhile (· < m)
def nk (ks : List Nat) (m : Nat) : List Nat :=
  if (pre ap ks m).getLast? = some (inv m) then (pre ap ks m).dropLast ++ suf ap ks m else pre ap ks m ++ put (suf ap ks m) m
theorem pre_suf (ks : List Nat) (m : Nat) : pre ap ks m ++ suf ap ks m = ks := by
  unfold pre suf
  rw [← List.reverse_append, List.takeWhile_append_dropWhile, List.reverse_reverse]
theorem suf_com {ks : List Nat} {m x : Nat} (h : x ∈ suf ap ks m) : com ap x m = true := by
  unfold suf at h
  rw [List.mem_reverse] at h
  have : ∀ (l : List Nat), x ∈ l.takeWhile (fun k => com ap k m) → com ap x m = true := by
    intro l
    induction l with
    | nil => intro h; cases h
    | cons a l ih =>
      intro h
      rw [List.takeWhile_cons] at h
      split at h
      · rename_i ha
        rcases List.mem_cons.mp h with rfl | h
        · exact ha
        · exact ih h
      · cases h
  exact this _ h
theorem pre_last {ks : List Nat} {m x : Nat} (h : (pre ap ks m).getLast? = some x) : com ap x m = false := by
  unfold pre at h
  rw [List.getLast?_reverse] at h
  have : ∀ (l : List Nat), (l.dropWhile (fun k => com ap k m)).head? = some x → com ap x m = false := by
    intro l
    induction l with
    | nil => intro h; cases h
    | cons a l ih =>
      intro h
      rw [List.dropWhile_cons] at h
      split at h
      · exact ih h
      · rename_i ha
        have e : a = x := by simpa using h
        rw [← e]; simpa using ha
  exact this _ h
theorem split_eq {p s : List Nat} {m : Nat} (hs : ∀ x ∈ s, com ap x m = true) (hp : ∀ x, p.getLast? = some x → com ap x m = false) : pre ap (p ++ s) m = p ∧ suf ap (p ++ s) m = s := by
  unfold pre suf
  rw [List.reverse_append]
  have h1 : ∀ (l r : List Nat), (∀ x ∈ l, com ap x m = true) → (∀ x, r.head? = some x → com ap x m = false) → (l ++ r).dropWhile (fun k => com ap k m) = r ∧ (l ++ r).takeWhile (fun k => com ap k m) = l := by
    intro l
    induction l with
    | nil =>
      intro r _ hr
      cases r with
      | nil => exact ⟨rfl, rfl⟩
      | cons a r =>
        have ha : com ap a m = false := hr a rfl
        simp [List.dropWhile_cons, List.takeWhile_cons, ha]
    | cons a l ih =>
      intro r hl hr
      obtain ⟨e1, e2⟩ := ih r (fun x hx => hl x (List.mem_cons_of_mem _ hx)) hr
      have ha : com ap a m = true := hl a (by simp)
      rw [List.cons_append, List.dropWhile_cons, List.takeWhile_cons]
      simp only [ha, if_true]
      exact ⟨e1, by rw [e2]⟩
  obtain ⟨e1, e2⟩ := h1 s.reverse p.reverse (fun x hx => hs x (List.mem_reverse.mp hx)) (fun x hx => hp x (by rw [← List.head?_reverse]; exact hx))
  rw [e1, e2]
  exact ⟨List.reverse_reverse p, List.reverse_reverse s⟩
def Fit (a : List Nat) (x : Nat) : Prop := (pre ap a x).getLast? ≠ some (inv x) ∧ ∀ y ∈ suf ap a x, y < x
inductive Nrm : List Nat → Prop
  | nil : Nrm []
  | snoc {a : List Nat} {x : Nat} : Nrm a → Fit ap a x → Nrm (a ++ [x])
variable {ap}
theorem nk_fit {a : List Nat} {x : Nat} (h : Fit ap a x) : nk ap a x = a ++ [x] := by
  unfold nk
  rw [if_neg h.1]
  have e : put (suf ap a x) x = suf ap a x ++ [x] := by
    unfold put
    have : ∀ (l : List Nat), (∀ y ∈ l, y < x) → l.takeWhile (· < x) = l ∧ l.dropWhile (· < x) = [] := by
      intro l
      induction l with
      | nil => intro _; exact ⟨rfl, rfl⟩
      | cons b l ih =>
        intro hl
        obtain ⟨e1, e2⟩ := ih fun y hy => hl y (List.mem_cons_of_mem _ hy)
        have hb : b < x := hl b (by simp)
        simp [List.takeWhile_cons, List.dropWhile_cons, hb, e1, e2]
    obtain ⟨e1, e2⟩ := this _ h.2
    rw [e1, e2]
  rw [e, ← List.append_assoc, pre_suf]
theorem Nrm.fold {ks : List Nat} (h : Nrm ap ks) : ks.foldl (nk ap) [] = ks := by
  induction h with
  | nil => rfl
  | snoc ha hf ih => rw [List.foldl_append, ih]; exact nk_fit hf
end NF
namespace NF
variable {ap : Nat → Nat → Bool}
theorem com_inv (x m : Nat) : com ap x (inv m) = com ap x m := by unfold com; rw [inv_half]
theorem inv_com (x m : Nat) : com ap (inv x) m = com ap x m := by unfold com; rw [inv_half]
theorem com_sym (A : Ap ap) (x y : Nat) : com ap x y = com ap y x := A.sym _ _
theorem com_irr (A : Ap ap) (x : Nat) : com ap x x = false := A.irr _
theorem app_all {u t : List Nat} {x : Nat} (h : ∀ y ∈ t, com ap y x = true) : pre ap (u ++ t) x = pre ap u x ∧ suf ap (u ++ t) x = suf ap u x ++ t := by
  have e : u ++ t = pre ap u x ++ (suf ap u x ++ t) := by rw [← List.append_assoc, pre_suf]
  rw [e]
  exact split_eq ap (fun y hy => (List.mem_append.mp hy).elim (fun z => suf_com ap z) (h y)) (fun y hy => pre_last ap hy)
theorem app_not {u t : List Nat} {x : Nat} (h : pre ap t x ≠ []) : pre ap (u ++ t) x = u ++ pre ap t x ∧ suf ap (u ++ t) x = suf ap t x := by
  have e : u ++ t = (u ++ pre ap t x) ++ suf ap t x := by rw [List.append_assoc, pre_suf]
  rw [e]
  refine split_eq ap (fun y hy => suf_com ap hy) (fun y hy => ?_)
  rw [List.getLast?_append] at hy
  cases hl : (pre ap t x).getLast? with
  | none => exact absurd (List.getLast?_eq_none_iff.mp hl) h
  | some z =>
    rw [hl] at hy
    have e : z = y := by simpa using hy
    rw [← e]; exact pre_last ap hl
theorem pre_nil {t : List Nat} {x : Nat} (h : pre ap t x = []) : ∀ y ∈ t, com ap y x = true := fun y hy => by
  have e := pre_suf ap t x
  rw [h, List.nil_append] at e
  rw [← e] at hy
  exact suf_com ap hy
theorem Nrm.fit {ks : List Nat} (h : Nrm ap ks) : ∀ {a : List Nat} {x : Nat} {b : List Nat}, ks = a ++ x :: b → Nrm ap a ∧ Fit ap a x := by
  induction h with
  | nil => intro a x b e; simp at e
  | snoc ha hf ih =>
    intro a x b e
    rcases List.eq_nil_or_concat b with rfl | ⟨b', y, rfl⟩
    · have e := List.append_inj' e rfl
      obtain ⟨rfl, e2⟩ := e
      rename_i x1
      have e3 : x1 = x := by simpa using e2
      rw [← e3]
      exact ⟨ha, hf⟩
    · rename_i a1 x1
      have e' : a1 ++ [x1] = (a ++ x :: b') ++ [y] := by rw [e]; simp
      have e := List.append_inj' e' rfl
      exact ih e.1
theorem Nrm.pre {a b : List Nat} (h : Nrm ap (a ++ b)) : Nrm ap a := by
  cases b with
  | nil => simpa using h
  | cons x b => exact (h.fit rfl).1
theorem Fit.drop {u t : List Nat} {i x : Nat} (h : Fit ap (u ++ [i] ++ t) x) (c : com ap i x = true) : Fit ap (u ++ t) x := by
  by_cases hp : NF.pre ap t x = []
  · have ht := pre_nil hp
    have e1 := app_all (u := u) (t := [i] ++ t) (x := x) (fun y hy => (List.mem_append.mp hy).elim (fun z => by rw [List.mem_singleton.mp z]; exact c) (ht y))
    have e2 := app_all (u := u) ht
    unfold Fit at h ⊢
    rw [List.append_assoc, e1.1, e1.2] at h
    rw [e2.1, e2.2]
    exact ⟨h.1, fun y hy => h.2 y ((List.mem_append.mp hy).elim (fun z => List.mem_append_left _ z) fun z => List.mem_append_right _ (List.mem_append_right _ z))⟩
  · have e1 := app_not (u := u ++ [i]) hp
    have e2 := app_not (u := u) hp
    unfold Fit at h ⊢
    rw [e1.1, e1.2] at h
    rw [e2.1, e2.2]
    refine ⟨fun z => h.1 ?_, h.2⟩
    rw [List.getLast?_append] at z ⊢
    cases hl : (NF.pre ap t x).getLast? with
    | none => exact absurd (List.getLast?_eq_none_iff.mp hl) hp
    | some w => rw [hl] at z; simpa using z
theorem Fit.add {u t : List Nat} {m x : Nat} (h : Fit ap (u ++ t) x) (c : com ap m x = true) (hm : (∀ y ∈ t, com ap y x = true) → m < x) : Fit ap (u ++ [m] ++ t) x := by
  by_cases hp : NF.pre ap t x = []
  · have ht := pre_nil hp
    have e1 := app_all (u := u) (t := [m] ++ t) (x := x) (fun y hy => (List.mem_append.mp hy).elim (fun z => by rw [List.mem_singleton.mp z]; exact c) (ht y))
    have e2 := app_all (u := u) ht
    unfold Fit at h ⊢
    rw [List.append_assoc, e1.1, e1.2]
    rw [e2.1, e2.2] at h
    refine ⟨h.1, fun y hy => ?_⟩
    rcases List.mem_append.mp hy with z | z
    · exact h.2 y (List.mem_append_left _ z)
    · rcases List.mem_append.mp z with z | z
      · rw [List.mem_singleton.mp z]; exact hm ht
      · exact h.2 y (List.mem_append_right _ z)
  · have e1 := app_not (u := u ++ [m]) hp
    have e2 := app_not (u := u) hp
    unfold Fit at h ⊢
    rw [e1.1, e1.2]
    rw [e2.1, e2.2] at h
    refine ⟨fun z => h.1 ?_, h.2⟩
    rw [List.getLast?_append] at z ⊢
    cases hl : (NF.pre ap t x).getLast? with
    | none => exact absurd (List.getLast?_eq_none_iff.mp hl) hp
    | some w => rw [hl] at z; simpa using z
theorem nrm_drop {u : List Nat} {i : Nat} : ∀ (n : Nat) (t : List Nat), t.length = n → Nrm ap (u ++ [i] ++ t) → (∀ y ∈ t, com ap i y = true) → Nrm ap (u ++ t)
  | 0, t, hl, h, c => by
    obtain rfl := List.eq_nil_of_length_eq_zero hl
    rw [List.append_nil] at h ⊢
    exact h.pre
  | n + 1, t, hl, h, c => by
    rcases List.eq_nil_or_concat t with rfl | ⟨t', x, rfl⟩
    · cases hl
    · have hf := h.fit (a := u ++ [i] ++ t') (x := x) (b := []) (by simp)
      have ih := nrm_drop n t' (by simpa using hl) hf.1 fun y hy => c y (by simp [hy])
      rw [List.concat_eq_append, ← List.append_assoc]
      exact .snoc ih (hf.2.drop (c x (by simp)))
theorem nrm_add {u : List Nat} {m : Nat} (hu : Nrm ap (u ++ [m])) : ∀ (n : Nat) (t : List Nat), t.length = n → Nrm ap (u ++ t) → (∀ y ∈ t, com ap m y = true) → (∀ y, t.head? = some y → m < y) → Nrm ap (u ++ [m] ++ t)
  | 0, t, hl, h, c, hh => by
    obtain rfl := List.eq_nil_of_length_eq_zero hl
    rw [List.append_nil]
    exact hu
  | n + 1, t, hl, h, c, hh => by
    rcases List.eq_nil_or_concat t with rfl | ⟨t', x, rfl⟩
    · cases hl
    · have hf := h.fit (a := u ++ t') (x := x) (b := []) (by simp)
      have hh' : ∀ y, t'.head? = some y → m < y := fun y hy => hh y (by
        cases t' with
        | nil => cases hy
        | cons z t'' => simpa using hy)
      have ih := nrm_add hu n t' (by simpa using hl) hf.1 (fun y hy => c y (by simp [hy])) hh'
      rw [List.concat_eq_append, ← List.append_assoc]
      refine .snoc ih (hf.2.add (c x (by simp)) fun ht => ?_)
      cases t' with
      | nil => exact hh x (by simp)
      | cons z t'' =>
        have hz : m < z := hh' z rfl
        have e2 := app_all (u := u) ht
        have : z ∈ NF.suf ap (u ++ z :: t'') x := by rw [e2.2]; simp
        exact Nat.lt_trans hz (hf.2.2 z this)
theorem Nrm.nk (A : Ap ap) {ks : List Nat} (h : Nrm ap ks) (m : Nat) : Nrm ap (NF.nk ap ks m) := by
  have e := pre_suf ap ks m
  unfold NF.nk
  split
  · rename_i hc
    rcases List.eq_nil_or_concat (NF.pre ap ks m) with hp | ⟨p', y, hp⟩
    · rw [hp] at hc; cases hc
    · rw [List.concat_eq_append] at hp
      rw [hp] at hc e ⊢
      have hy : y = inv m := by simpa using hc
      subst hy
      rw [List.dropLast_concat]
      refine nrm_drop _ _ rfl (by rw [e]; exact h) fun y hy => ?_
      rw [inv_com, com_sym A]
      exact suf_com ap hy
  · rename_i hc
    unfold put
    generalize hs : NF.suf ap ks m = s at *
    generalize hq : NF.pre ap ks m = p at *
    have es : s.takeWhile (· < m) ++ s.dropWhile (· < m) = s := List.takeWhile_append_dropWhile
    have cs : ∀ y ∈ s, com ap y m = true := fun y hy => suf_com ap (hs ▸ hy)
    generalize h1 : s.takeWhile (· < m) = s1 at *
    generalize h2 : s.dropWhile (· < m) = s2 at *
    have l1 : ∀ y ∈ s1, y < m := fun y hy => by
      rw [← h1] at hy
      have : ∀ (l : List Nat), y ∈ l.takeWhile (· < m) → y < m := by
        intro l
        induction l with
        | nil => intro h; cases h
        | cons a l ih =>
          intro h
          rw [List.takeWhile_cons] at h
          split at h
          · rename_i ha
            rcases List.mem_cons.mp h with rfl | h
            · simpa using ha
            · exact ih h
          · cases h
      exact this _ hy
    have l2 : ∀ y, s2.head? = some y → m < y := fun y hy => by
      have hm : y ∈ s := by
        rw [← es]
        refine List.mem_append_right _ ?_
        cases s2 with
        | nil => cases hy
        | cons z r => have : z = y := by simpa using hy
                      rw [this]; simp
      have ge : ¬ y < m := by
        rw [← h2] at hy
        have : ∀ (l : List Nat), (l.dropWhile (· < m)).head? = some y → ¬ y < m := by
          intro l
          induction l with
          | nil => intro h; cases h
          | cons a l ih =>
            intro h
            rw [List.dropWhile_cons] at h
            split at h
            · exact ih h
            · rename_i ha
              have e : a = y := by simpa using h
              rw [← e]; simpa using ha
        exact this _ hy
      have ne : y ≠ m := fun z => by
        have := cs y hm
        rw [z, com_irr A] at this
        cases this
      omega
    have fit : Fit ap (p ++ s1) m := by
      have z := split_eq ap (p := p) (s := s1) (m := m) (fun y hy => cs y (by rw [← es]; exact List.mem_append_left _ hy)) (fun y hy => pre_last ap (hq ▸ hy))
      unfold Fit
      rw [z.1, z.2]
      exact ⟨hc, l1⟩
    have n0 : Nrm ap ((p ++ s1) ++ s2) := by rw [List.append_assoc, es, e]; exact h
    have := nrm_add (.snoc n0.pre fit) _ s2 rfl n0 (fun y hy => by rw [com_sym A]; exact cs y (by rw [← es]; exact List.mem_append_right _ hy)) l2
    simpa [List.append_assoc] using this
theorem nrm_fold (A : Ap ap) : ∀ (ws ks : List Nat), Nrm ap ks → Nrm ap (ws.foldl (NF.nk ap) ks)
  | [], ks, h => h
  | w :: ws, ks, h => nrm_fold A ws _ (h.nk A w)
end NF
namespace NF
variable (ap : Nat → Nat → Bool)
def sg (x : Nat) : Nat := if x % 2 = 0 then 1 else 2
theorem sg_inv (x : Nat) : sg (inv x) ≠ sg x := by unfold sg inv; split <;> split <;> omega
theorem sg_pos (x : Nat) : sg x ≠ 0 := by unfold sg; split <;> omega
def touch (a x : Nat) : Option Nat := if x / 2 = a then some (sg x) else if ap (x / 2) a = true then none else some 0
def proj (a : Nat) (ks : List Nat) : List Nat := ks.filterMap (touch ap a)
def act (S : Nat → List Nat) (m : Nat) : Nat → List Nat :=
  if (S (m / 2)).getLast? = some (sg (inv m)) then fun a => match touch ap a m with | some _ => (S a).dropLast | none => S a
  else fun a => match touch ap a m with | some c => S a ++ [c] | none => S a
variable {ap}
theorem proj_append (a : Nat) (u v : List Nat) : proj ap a (u ++ v) = proj ap a u ++ proj ap a v := List.filterMap_append
theorem proj_one (a x : Nat) : proj ap a [x] = (touch ap a x).toList := by
  unfold proj
  cases h : touch ap a x <;> simp [h]
theorem own_none (A : Ap ap) {x m : Nat} (h : com ap x m = true) : touch ap (m / 2) x = none := by
  unfold com at h
  unfold touch
  rw [if_neg (fun e => by rw [e, A.irr] at h; cases h), if_pos h]
theorem proj_own (A : Ap ap) {s : List Nat} {m : Nat} (h : ∀ x ∈ s, com ap x m = true) : proj ap (m / 2) s = [] := by
  unfold proj
  rw [List.filterMap_eq_nil_iff]
  exact fun x hx => own_none A (h x hx)
theorem proj_beside (A : Ap ap) {a m : Nat} (ha : m / 2 ≠ a) (hb : ap (m / 2) a = false) : ∀ {s : List Nat}, (∀ x ∈ s, com ap x m = true) → ∃ k, proj ap a s = List.replicate k 0
  | [], _ => ⟨0, rfl⟩
  | x :: s, h => by
    obtain ⟨k, e⟩ := proj_beside A ha hb (s := s) fun y hy => h y (List.mem_cons_of_mem _ hy)
    have hx : com ap x m = true := h x (by simp)
    have nx : x / 2 ≠ a := fun z => by
      unfold com at hx
      rw [z, A.sym, hb] at hx; cases hx
    have e2 : proj ap a (x :: s) = proj ap a [x] ++ proj ap a s := proj_append a [x] s
    rw [e2, e, proj_one]
    unfold touch
    rw [if_neg nx]
    split
    · exact ⟨k, rfl⟩
    · exact ⟨k + 1, rfl⟩
theorem act_proj (A : Ap ap) (ks : List Nat) (m : Nat) : act ap (fun a => proj ap a ks) m = fun a => proj ap a (nk ap ks m) := by
  have e := pre_suf ap ks m
  have cs : ∀ y ∈ suf ap ks m, com ap y m = true := fun y hy => suf_com ap hy
  have own : proj ap (m / 2) ks = proj ap (m / 2) (pre ap ks m) := by
    have z : proj ap (m / 2) ks = proj ap (m / 2) (pre ap ks m ++ suf ap ks m) := by rw [e]
    rw [z, proj_append, proj_own A cs, List.append_nil]
  have pl : ∀ x, (pre ap ks m).getLast? = some x → com ap x m = false := fun x hx => pre_last ap hx
  have hh : act ap (fun a => proj ap a ks) m = if (proj ap (m / 2) ks).getLast? = some (sg (inv m)) then (fun a => match touch ap a m with | some _ => (proj ap a ks).dropLast | none => proj ap a ks) else fun a => match touch ap a m with | some c => proj ap a ks ++ [c] | none => proj ap a ks := rfl
  rw [hh, own]
  unfold nk
  generalize hs : suf ap ks m = s at *
  generalize hp : pre ap ks m = p at *
  rcases List.eq_nil_or_concat p with rfl | ⟨p', l, rfl⟩
  · -- nothing ahead
    rw [if_neg (by simp [proj]), if_neg (by simp)]
    funext a
    rw [List.nil_append] at e
    subst e
    cases ht : touch ap a m with
    | none =>
      dsimp only
      unfold put
      have es : s.takeWhile (· < m) ++ s.dropWhile (· < m) = s := List.takeWhile_append_dropWhile
      rw [List.nil_append, proj_append]
      have : proj ap a (m :: s.dropWhile (· < m)) = proj ap a (s.dropWhile (· < m)) := by
        show List.filterMap _ (m :: _) = _
        rw [List.filterMap_cons, ht]; rfl
      rw [this, ← proj_append, es]
    | some c =>
      dsimp only
      unfold put
      have es : s.takeWhile (· < m) ++ s.dropWhile (· < m) = s := List.takeWhile_append_dropWhile
      rw [List.nil_append, proj_append]
      have e3 : proj ap a (m :: s.dropWhile (· < m)) = c :: proj ap a (s.dropWhile (· < m)) := by
        show List.filterMap _ (m :: _) = _
        rw [List.filterMap_cons, ht]; rfl
      rw [e3]
      by_cases ha : m / 2 = a
      · subst ha
        have z1 := proj_own A (s := s.takeWhile (· < m)) (m := m) fun y hy => cs y (List.takeWhile_subset _ hy)
        have z2 := proj_own A (s := s.dropWhile (· < m)) (m := m) fun y hy => cs y (List.dropWhile_subset _ hy)
        rw [z1, z2, proj_own A cs]
      · have hb : ap (m / 2) a = false := by
          unfold touch at ht
          rw [if_neg ha] at ht
          cases h : ap (m / 2) a with
          | true => rw [h] at ht; cases ht
          | false => rfl
        have hc : c = 0 := by
          unfold touch at ht
          rw [if_neg ha, hb] at ht
          simpa using ht.symm
        subst hc
        obtain ⟨k1, z1⟩ := proj_beside A ha hb (s := s.takeWhile (· < m)) fun y hy => cs y (List.takeWhile_subset _ hy)
        obtain ⟨k2, z2⟩ := proj_beside A ha hb (s := s.dropWhile (· < m)) fun y hy => cs y (List.dropWhile_subset _ hy)
        have z : proj ap a s = List.replicate k1 0 ++ List.replicate k2 0 := by rw [← z1, ← z2, ← proj_append, es]
        rw [z, z1, z2]
        have : ∀ k, (0 : Nat) :: List.replicate k 0 = List.replicate k 0 ++ [0] := fun k => by
          rw [← List.replicate_succ, ← List.replicate_succ']
        rw [this k2, List.append_assoc]
  · rw [List.concat_eq_append] at *
    have hl : com ap l m = false := pl l (by simp)
    have top : (proj ap (m / 2) (p' ++ [l])).getLast? = touch ap (m / 2) l := by
      rw [proj_append, proj_one]
      unfold touch
      split
      · simp
      · split
        · rename_i h1 h2
          unfold com at hl
          rw [h2] at hl; cases hl
        · simp
    rw [top]
    have dec : touch ap (m / 2) l = some (sg (inv m)) ↔ l = inv m := by
      constructor
      · intro h
        unfold touch at h
        split at h
        · rename_i h1
          rcases half_eq h1 with z | z
          · subst z
            have : sg l = sg (inv l) := by simpa using h
            exact absurd this.symm (sg_inv l)
          · exact z
        · split at h
          · cases h
          · have : 0 = sg (inv m) := by simpa using h
            exact absurd this.symm (sg_pos _)
      · intro h
        subst h
        unfold touch
        rw [if_pos (inv_half m)]
    by_cases hc : l = inv m
    · -- struck
      rw [if_pos (dec.mpr hc), if_pos (by simp [hc])]
      subst hc
      funext a
      rw [List.dropLast_concat]
      have ek : proj ap a ks = proj ap a p' ++ proj ap a [inv m] ++ proj ap a s := by rw [← proj_append, ← proj_append, e]
      have ti : (touch ap a m).isSome = (touch ap a (inv m)).isSome := by
        unfold touch
        rw [inv_half]
        split
        · rfl
        · split <;> rfl
      cases ht : touch ap a m with
      | none =>
        dsimp only
        rw [ht] at ti
        have tn : touch ap a (inv m) = none := by
          cases h : touch ap a (inv m) with
          | none => rfl
          | some _ => rw [h] at ti; cases ti
        rw [ek, proj_one, tn, proj_append]
        simp
      | some c =>
        dsimp only
        rw [ek, proj_append, proj_one]
        by_cases ha : m / 2 = a
        · subst ha
          rw [proj_own A cs]
          unfold touch
          rw [if_pos (inv_half m)]
          simp
        · have hb : ap (m / 2) a = false := by
            unfold touch at ht
            rw [if_neg ha] at ht
            cases h : ap (m / 2) a with
            | true => rw [h] at ht; cases ht
            | false => rfl
          obtain ⟨k, z⟩ := proj_beside A ha hb cs
          have tn : touch ap a (inv m) = some 0 := by
            unfold touch
            rw [inv_half, if_neg ha, hb]; rfl
          rw [z, tn]
          show (proj ap a p' ++ [0] ++ List.replicate k 0).dropLast = _
          rw [List.append_assoc]
          have : [(0 : Nat)] ++ List.replicate k 0 = List.replicate k 0 ++ [0] := by
            show 0 :: List.replicate k 0 = _
            rw [← List.replicate_succ, ← List.replicate_succ']
          rw [this, ← List.append_assoc, List.dropLast_concat]
    · rw [if_neg (fun z => hc (dec.mp z)), if_neg (fun z => hc (by simpa using z))]
      funext a
      unfold put
      have es : s.takeWhile (· < m) ++ s.dropWhile (· < m) = s := List.takeWhile_append_dropWhile
      have ek : proj ap a ks = proj ap a (p' ++ [l]) ++ proj ap a s := by rw [← proj_append, e]
      have em : proj ap a (m :: s.dropWhile (· < m)) = (touch ap a m).toList ++ proj ap a (s.dropWhile (· < m)) := by rw [← proj_one, ← proj_append]; rfl
      rw [proj_append a (p' ++ [l]) _, proj_append a (s.takeWhile (· < m)) _, em]
      have e5 : proj ap a s = proj ap a (s.takeWhile (· < m)) ++ proj ap a (s.dropWhile (· < m)) := by rw [← proj_append, es]
      cases ht : touch ap a m with
      | none =>
        dsimp only
        rw [ek, e5]; simp
      | some c =>
        dsimp only
        rw [ek, List.append_assoc]
        congr 1
        by_cases ha : m / 2 = a
        · subst ha
          have z1 := proj_own A (s := s.takeWhile (· < m)) (m := m) fun y hy => cs y (List.takeWhile_subset _ hy)
          have z2 := proj_own A (s := s.dropWhile (· < m)) (m := m) fun y hy => cs y (List.dropWhile_subset _ hy)
          rw [z1, z2, proj_own A cs]; rfl
        · have hb : ap (m / 2) a = false := by
            unfold touch at ht
            rw [if_neg ha] at ht
            cases h : ap (m / 2) a with
            | true => rw [h] at ht; cases ht
            | false => rfl
          have h0 : c = 0 := by
            unfold touch at ht
            rw [if_neg ha, hb] at ht
            simpa using ht.symm
          subst h0
          obtain ⟨k1, z1⟩ := proj_beside A ha hb (s := s.takeWhile (· < m)) fun y hy => cs y (List.takeWhile_subset _ hy)
          obtain ⟨k2, z2⟩ := proj_beside A ha hb (s := s.dropWhile (· < m)) fun y hy => cs y (List.dropWhile_subset _ hy)
          rw [e5, z1, z2]
          have : ∀ k, [(0 : Nat)] ++ List.replicate k 0 = List.replicate k 0 ++ [0] := fun k => by
            show 0 :: List.replicate k 0 = _
            rw [← List.replicate_succ, ← List.replicate_succ']
          show _ = List.replicate k1 0 ++ ([0] ++ List.replicate k2 0)
          rw [this k2, List.append_assoc]
end NF
namespace NF
variable {ap : Nat → Nat → Bool}
theorem suf_end {p s : List Nat} {m : Nat} (hs : ∀ x ∈ s, com ap x m = true) : ∀ y ∈ s, y ∈ suf ap (p ++ s) m := by
  intro y hy
  unfold suf
  rw [List.reverse_append, List.takeWhile_append_of_pos (fun x hx => hs x (List.mem_reverse.mp hx))]
  simp [hy]
theorem Nrm.two (A : Ap ap) {ks p s b : List Nat} {y x : Nat} (h : Nrm ap ks) (e : ks = p ++ y :: s ++ x :: b) (hc : ∀ z ∈ s, com ap z x = true) : y ≠ inv x ∧ (com ap y x = true → y < x) := by
  obtain ⟨_, f1, f2⟩ := h.fit e
  constructor
  · intro hy
    have c : com ap y x = false := by
      unfold com
      rw [hy, inv_half]; exact A.irr _
    have := (split_eq (ap := ap) (p := p ++ [y]) (s := s) (m := x) hc (fun z hz => by
      rw [List.getLast?_append] at hz
      have : y = z := by simpa using hz
      rw [← this]; exact c)).1
    rw [List.append_assoc] at this
    have e2 : p ++ y :: s = p ++ ([y] ++ s) := rfl
    rw [e2, this] at f1
    exact f1 (by simp [hy])
  · intro c
    refine f2 y (suf_end (p := p) (s := y :: s) (fun z hz => ?_) y (by simp))
    rcases List.mem_cons.mp hz with rfl | hz
    · exact c
    · exact hc z hz
theorem Nrm.at (A : Ap ap) {ks : List Nat} (h : Nrm ap ks) {d i : Nat} (hd : d < i) (hi : i < ks.length) (hc : ∀ j (h1 : d < j) (h2 : j < i), com ap (ks[j]'(by omega)) ks[i] = true) : (ks[d]'(by omega)) ≠ inv ks[i] ∧ (com ap (ks[d]'(by omega)) ks[i] = true → (ks[d]'(by omega)) < ks[i]) := by
  refine h.two A (p := ks.take d) (s := (ks.take i).drop (d + 1)) (b := ks.drop (i + 1)) ?_ ?_
  · have e1 : ks = ks.take i ++ ks[i] :: ks.drop (i + 1) := by rw [← List.drop_eq_getElem_cons hi, List.take_append_drop]
    have hd2 : d < (ks.take i).length := by rw [List.length_take]; omega
    have e2 : ks.take i = (ks.take i).take d ++ (ks.take i)[d] :: (ks.take i).drop (d + 1) := by rw [← List.drop_eq_getElem_cons hd2, List.take_append_drop]
    rw [List.take_take, Nat.min_eq_left (by omega), List.getElem_take] at e2
    rw [← e2]; exact e1
  · intro z hz
    obtain ⟨j, hj, rfl⟩ := List.getElem_of_mem hz
    rw [List.length_drop, List.length_take] at hj
    rw [List.getElem_drop, List.getElem_take]
    exact hc _ (by omega) (by omega)
end NF
namespace NF
variable {ap : Nat → Nat → Bool}
theorem sg_half {x y : Nat} (h : x / 2 = y / 2) (s : sg x = sg y) : x = y := by
  rcases half_eq h with e | e
  · exact e
  · subst e; exact (sg_inv y s).elim
end NF
namespace NF
variable {ap : Nat → Nat → Bool}
theorem take_all {s t : List Nat} {m : Nat} (hs : ∀ y ∈ s, y < m) (ht : ∀ y, t.head? = some y → ¬ y < m) : put (s ++ t) m = s ++ m :: t := by
  unfold put
  induction s with
  | nil =>
    cases t with
    | nil => rfl
    | cons a t =>
      have : ¬ a < m := ht a rfl
      simp [List.takeWhile_cons, List.dropWhile_cons, this]
  | cons b s ih =>
    have hb : b < m := hs b (by simp)
    have := ih fun y hy => hs y (List.mem_cons_of_mem _ hy)
    simp only [List.cons_append, List.takeWhile_cons, List.dropWhile_cons, hb, decide_true, if_true]
    rw [this]
theorem nk_back (A : Ap ap) {K : List Nat} (h : Nrm ap K) (k : Nat) : nk ap (nk ap K k) (inv k) = K := by
  have e := pre_suf ap K k
  have cs : ∀ y ∈ suf ap K k, com ap y k = true := fun y hy => suf_com ap hy
  by_cases hc : (pre ap K k).getLast? = some (inv k)
  · have e1 : nk ap K k = (pre ap K k).dropLast ++ suf ap K k := by unfold nk; rw [if_pos hc]
    rw [e1]
    generalize hs : suf ap K k = s at *
    rcases List.eq_nil_or_concat (pre ap K k) with hp | ⟨p', y, hp⟩
    · rw [hp] at hc; cases hc
    · rw [List.concat_eq_append] at hp
      rw [hp] at hc e ⊢
      have hy : y = inv k := by simpa using hc
      subst hy
      rw [List.dropLast_concat]
      have cs' : ∀ y ∈ s, com ap y (inv k) = true := fun y hy => by rw [com_inv]; exact cs y hy
      have e2 : K = p' ++ inv k :: s := by rw [← e]; simp
      obtain ⟨np, fp⟩ := h.fit e2
      obtain ⟨a1, a2⟩ := app_all (u := p') (t := s) (x := inv k) cs'
      unfold nk
      rw [a1, a2, if_neg fp.1, take_all fp.2]
      · rw [← List.append_assoc, pre_suf, e2]
      · intro y hy
        cases s with
        | nil => cases hy
        | cons z r =>
          have ez : z = y := by simpa using hy
          subst ez
          have := h.two A (p := p') (y := inv k) (s := []) (x := z) (b := r) (by rw [e2]; simp) (fun z hz => by cases hz)
          have c : com ap (inv k) z = true := by rw [com_sym A]; exact cs' z (by simp)
          have := this.2 c
          omega
  · have e1 : nk ap K k = pre ap K k ++ put (suf ap K k) k := by unfold nk; rw [if_neg hc]
    rw [e1]
    unfold put
    generalize hs : suf ap K k = s at *
    have es : s.takeWhile (· < k) ++ s.dropWhile (· < k) = s := List.takeWhile_append_dropWhile
    have hd : ∀ y ∈ s.dropWhile (· < k), com ap y (inv k) = true := fun y hy => by
      rw [com_inv]
      exact cs y (by rw [← es]; exact List.mem_append_right _ hy)
    have sp := split_eq ap (p := pre ap K k ++ s.takeWhile (· < k) ++ [k]) (s := s.dropWhile (· < k)) (m := inv k) hd (fun x hx => by
      have : k = x := by simpa using hx
      rw [← this, com_inv]
      exact com_irr A k)
    have er : pre ap K k ++ (s.takeWhile (· < k) ++ k :: s.dropWhile (· < k)) = (pre ap K k ++ s.takeWhile (· < k) ++ [k]) ++ s.dropWhile (· < k) := by simp
    rw [er]
    rw [show nk ap ((pre ap K k ++ s.takeWhile (· < k) ++ [k]) ++ s.dropWhile (· < k)) (inv k) = (pre ap K k ++ s.takeWhile (· < k) ++ [k]).dropLast ++ s.dropWhile (· < k) by
      unfold nk
      rw [sp.1, sp.2, if_pos (by rw [inv_inv]; simp)]]
    rw [List.dropLast_concat, List.append_assoc, es, e]
theorem fold_back (A : Ap ap) {K : List Nat} (h : Nrm ap K) : ∀ (n : Nat) (ws : List Nat), ws.length = n → (ws ++ ws.reverse.map inv).foldl (nk ap) K = K
  | 0, ws, e => by
    have : ws = [] := List.length_eq_zero_iff.mp e
    subst this; rfl
  | n + 1, ws, e => by
    rcases List.eq_nil_or_concat ws with rfl | ⟨v, w, rfl⟩
    · rfl
    · rw [List.concat_eq_append] at e ⊢
      have e1 : v ++ [w] ++ (v ++ [w]).reverse.map inv = v ++ ([w, inv w] ++ v.reverse.map inv) := by simp
      rw [e1, List.foldl_append, List.foldl_append]
      have e2 : [w, inv w].foldl (nk ap) (v.foldl (nk ap) K) = v.foldl (nk ap) K := nk_back A (nrm_fold A v K h) w
      rw [e2, ← List.foldl_append]
      exact fold_back A h n v (by simpa using e)
end NF
namespace NF
variable {ap : Nat → Nat → Bool}
theorem act_at (S : Nat → List Nat) (m a : Nat) : act ap S m a = if (S (m / 2)).getLast? = some (sg (inv m)) then (match touch ap a m with | some _ => (S a).dropLast | none => S a) else match touch ap a m with | some c => S a ++ [c] | none => S a := by
  unfold act
  split <;> rfl
theorem touch_own (x : Nat) : touch ap (x / 2) x = some (sg x) := by unfold touch; rw [if_pos rfl]
theorem piles_inj (A : Ap ap) {n : Nat} : ∀ (L : Nat) (K K' : List Nat), K.length = L → Nrm ap K → Nrm ap K' → (∀ k ∈ K, k / 2 < n) → (∀ k ∈ K', k / 2 < n) → (∀ a, a < n → proj ap a K = proj ap a K') → K = K'
  | 0, K, K', e, _, _, _, h', h => by
    have : K = [] := List.length_eq_zero_iff.mp e
    subst this
    cases K' with
    | nil => rfl
    | cons x r =>
      exfalso
      have := h (x / 2) (h' x (by simp))
      unfold proj at this
      rw [List.filterMap_cons, touch_own] at this
      cases this
  | L + 1, K, K', e, hK, hK', lt, lt', h => by
    rcases List.eq_nil_or_concat K with rfl | ⟨a, x, rfl⟩
    · cases e
    rw [List.concat_eq_append] at *
    have hx : x / 2 < n := lt x (by simp)
    obtain ⟨na, fa⟩ := hK.fit (a := a) (x := x) (b := []) rfl
    have e1 : nk ap (a ++ [x]) (inv x) = a := by
      have := nk_back A na x
      rwa [nk_fit fa] at this
    have e2 : ∀ c, c < n → proj ap c a = proj ap c (nk ap K' (inv x)) := fun c hc => by
      have p1 := congrFun (act_proj A (a ++ [x]) (inv x)) c
      have p2 := congrFun (act_proj A K' (inv x)) c
      rw [e1] at p1
      rw [← p1, ← p2, act_at, act_at, inv_half, h c hc, h (x / 2) hx]
    have lt2 : ∀ k ∈ nk ap K' (inv x), k / 2 < n := fun k hk => by
      have : k ∈ K' ∨ k = inv x := by
        have e := pre_suf ap K' (inv x)
        have hp : ∀ y ∈ pre ap K' (inv x), y ∈ K' := fun y hy => by rw [← e]; exact List.mem_append_left _ hy
        have hs : ∀ y ∈ suf ap K' (inv x), y ∈ K' := fun y hy => by rw [← e]; exact List.mem_append_right _ hy
        unfold nk at hk
        split at hk
        · rcases List.mem_append.mp hk with z | z
          · exact .inl (hp k ((List.dropLast_sublist _).subset z))
          · exact .inl (hs k z)
        · rcases List.mem_append.mp hk with z | z
          · exact .inl (hp k z)
          · unfold put at z
            rcases List.mem_append.mp z with z | z
            · exact .inl (hs k (List.takeWhile_subset _ z))
            · rcases List.mem_cons.mp z with z | z
              · exact .inr z
              · exact .inl (hs k (List.dropWhile_subset _ z))
      rcases this with z | z
      · exact lt' k z
      · rw [z, inv_half]; exact hx
    have e3 := piles_inj A L a (nk ap K' (inv x)) (by simpa using e) na (hK'.nk A _) (fun k hk => lt k (by simp [hk])) lt2 e2
    have e4 := nk_back A hK' (inv x)
    rw [inv_inv, ← e3, nk_fit fa] at e4
    exact e4
theorem piles_inj' (A : Ap ap) {K K' : List Nat} (hK : Nrm ap K) (hK' : Nrm ap K') (h : ∀ a, proj ap a K = proj ap a K') : K = K' := by
  have : ∃ n, (∀ k ∈ K, k / 2 < n) ∧ (∀ k ∈ K', k / 2 < n) := by
    have up : ∀ l : List Nat, ∃ n, ∀ k ∈ l, k / 2 < n := by
      intro l
      induction l with
      | nil => exact ⟨0, fun k hk => by cases hk⟩
      | cons a l ih =>
        obtain ⟨n, hn⟩ := ih
        refine ⟨max n (a / 2 + 1), fun k hk => ?_⟩
        rcases List.mem_cons.mp hk with rfl | hk
        · omega
        · have := hn k hk; omega
    obtain ⟨n1, h1⟩ := up K
    obtain ⟨n2, h2⟩ := up K'
    exact ⟨max n1 n2, fun k hk => by have := h1 k hk; omega, fun k hk => by have := h2 k hk; omega⟩
  obtain ⟨n, h1, h2⟩ := this
  exact piles_inj A _ K K' rfl hK hK' h1 h2 fun a _ => h a
theorem beside_last (A : Ap ap) {K : List Nat} {m a : Nat} (h : (proj ap (m / 2) K).getLast? = some (sg (inv m))) (t : touch ap a m = some 0) : (proj ap a K).getLast? = some 0 := by
  have ha : m / 2 ≠ a := fun z => by
    unfold touch at t
    rw [if_pos z] at t
    exact sg_pos _ (Option.some.inj t)
  have hb : ap (m / 2) a = false := by
    unfold touch at t
    rw [if_neg ha] at t
    split at t
    · cases t
    · rename_i z; simpa using z
  have e := pre_suf ap K m
  have cs : ∀ y ∈ suf ap K m, com ap y m = true := fun y hy => suf_com ap hy
  have own : proj ap (m / 2) K = proj ap (m / 2) (pre ap K m) := by
    have z : proj ap (m / 2) K = proj ap (m / 2) (pre ap K m ++ suf ap K m) := by rw [e]
    rw [z, proj_append, proj_own A cs, List.append_nil]
  rw [own] at h
  obtain ⟨k2, z2⟩ := proj_beside A ha hb cs
  rcases List.eq_nil_or_concat (pre ap K m) with hp | ⟨p', y, hp⟩
  · rw [hp] at h; cases h
  rw [List.concat_eq_append] at hp
  have cy : com ap y m = false := pre_last ap (by rw [hp]; simp)
  have ty : touch ap (m / 2) y ≠ none := fun z => by
    unfold touch at z
    split at z
    · cases z
    · split at z
      · rename_i q; unfold com at cy; rw [cy] at q; cases q
      · cases z
  rw [hp, proj_append, proj_one] at h
  cases hty : touch ap (m / 2) y with
  | none => exact absurd hty ty
  | some c =>
    rw [hty] at h
    have ec : c = sg (inv m) := by simpa using h
    have ey : y = inv m := by
      unfold touch at hty
      split at hty
      · rename_i hh
        exact sg_half (by rw [inv_half]; exact hh) ((Option.some.inj hty).trans ec)
      · split at hty
        · cases hty
        · exact (sg_pos _ ((Option.some.inj hty).trans ec).symm).elim
    subst ey
    have ta : touch ap a (inv m) = some 0 := by
      unfold touch
      rw [inv_half, if_neg ha, if_neg (by rw [hb]; simp)]
    have z : proj ap a K = proj ap a p' ++ [0] ++ List.replicate k2 0 := by
      rw [← e, hp, proj_append, proj_append, proj_one, ta, z2]; rfl
    rw [z]
    cases k2 with
    | zero => simp
    | succ k => rw [List.replicate_succ', ← List.append_assoc, List.getLast?_append]; rfl
theorem touch_beside {a x y : Nat} (c : com ap x y = true) (A : Ap ap) {cx cy : Nat} (hx : touch ap a x = some cx) (hy : touch ap a y = some cy) : cx = 0 ∧ cy = 0 := by
  unfold com at c
  unfold touch at hx hy
  split at hx
  · rename_i e1
    split at hy
    · rename_i e2
      rw [e1, e2, A.irr] at c; cases c
    · rw [A.sym, e1] at c
      rw [if_pos c] at hy; cases hy
  · split at hx
    · cases hx
    · split at hy
      · rename_i e2
        rename_i e3 _
        rw [e2] at c
        exact absurd c (by assumption)
      · split at hy
        · cases hy
        · exact ⟨(Option.some.inj hx).symm, (Option.some.inj hy).symm⟩
theorem drop_app {l : List Nat} (h : l.getLast? = some 0) : l.dropLast ++ [0] = l := by
  rcases List.eq_nil_or_concat l with rfl | ⟨p, y, rfl⟩
  · cases h
  · rw [List.concat_eq_append] at *
    have : y = 0 := by simpa using h
    subst this; simp
theorem nk_comm (A : Ap ap) {K : List Nat} (hK : Nrm ap K) {x y : Nat} (c : com ap x y = true) : nk ap (nk ap K x) y = nk ap (nk ap K y) x := by
  refine piles_inj' A ((hK.nk A x).nk A y) ((hK.nk A y).nk A x) fun a => ?_
  have p1 : proj ap a (nk ap (nk ap K x) y) = act ap (fun a => proj ap a (nk ap K x)) y a := (congrFun (act_proj A (nk ap K x) y) a).symm
  have p2 : proj ap a (nk ap (nk ap K y) x) = act ap (fun a => proj ap a (nk ap K y)) x a := (congrFun (act_proj A (nk ap K y) x) a).symm
  have qx : ∀ b, proj ap b (nk ap K x) = act ap (fun a => proj ap a K) x b := fun b => (congrFun (act_proj A K x) b).symm
  have qy : ∀ b, proj ap b (nk ap K y) = act ap (fun a => proj ap a K) y b := fun b => (congrFun (act_proj A K y) b).symm
  have tx : touch ap (y / 2) x = none := own_none A c
  have ty : touch ap (x / 2) y = none := own_none A (by rw [com_sym A]; exact c)
  rw [p1, p2, act_at, act_at]
  have ox : proj ap (y / 2) (nk ap K x) = proj ap (y / 2) K := by rw [qx, act_at, tx]; split <;> rfl
  have oy : proj ap (x / 2) (nk ap K y) = proj ap (x / 2) K := by rw [qy, act_at, ty]; split <;> rfl
  simp only [ox, oy, qx a, qy a, act_at]
  by_cases h1 : (proj ap (x / 2) K).getLast? = some (sg (inv x))
  · by_cases h2 : (proj ap (y / 2) K).getLast? = some (sg (inv y))
    · simp only [if_pos h1, if_pos h2]
      cases hx : touch ap a x <;> cases hy : touch ap a y <;> rfl
    · simp only [if_pos h1, if_neg h2]
      cases hx : touch ap a x with
      | none => cases hy : touch ap a y <;> rfl
      | some cx => cases hy : touch ap a y with
        | none => rfl
        | some cy =>
          obtain ⟨rfl, rfl⟩ := touch_beside c A hx hy
          have l1 := beside_last A h1 hx
          show (proj ap a K).dropLast ++ [0] = (proj ap a K ++ [0]).dropLast
          rw [drop_app l1]; simp
  · by_cases h2 : (proj ap (y / 2) K).getLast? = some (sg (inv y))
    · simp only [if_neg h1, if_pos h2]
      cases hx : touch ap a x with
      | none => cases hy : touch ap a y <;> rfl
      | some cx => cases hy : touch ap a y with
        | none => rfl
        | some cy =>
          obtain ⟨rfl, rfl⟩ := touch_beside c A hx hy
          have l2 := beside_last A h2 hy
          show (proj ap a K ++ [0]).dropLast = (proj ap a K).dropLast ++ [0]
          rw [drop_app l2]; simp
    · simp only [if_neg h1, if_neg h2]
      cases hx : touch ap a x with
      | none => cases hy : touch ap a y <;> rfl
      | some cx => cases hy : touch ap a y with
        | none => rfl
        | some cy =>
          obtain ⟨rfl, rfl⟩ := touch_beside c A hx hy
          rfl
theorem fold_com (A : Ap ap) {m : Nat} : ∀ (s : List Nat) {K : List Nat}, Nrm ap K → (∀ y ∈ s, com ap y m = true) → s.foldl (nk ap) (nk ap K m) = nk ap (s.foldl (nk ap) K) m
  | [], K, _, _ => rfl
  | y :: s, K, hK, h => by
    have cy : com ap m y = true := by rw [com_sym A]; exact h y (by simp)
    show s.foldl (nk ap) (nk ap (nk ap K m) y) = _
    rw [nk_comm A hK cy]
    exact fold_com A s (hK.nk A y) fun z hz => h z (by simp [hz])
theorem fold_nk (A : Ap ap) {K V : List Nat} (hK : Nrm ap K) (m : Nat) : (nk ap V m).foldl (nk ap) K = nk ap (V.foldl (nk ap) K) m := by
  have e := pre_suf ap V m
  have cs : ∀ y ∈ suf ap V m, com ap y m = true := fun y hy => suf_com ap hy
  have nf : ∀ l : List Nat, Nrm ap (l.foldl (nk ap) K) := fun l => nrm_fold A l K hK
  by_cases hc : (pre ap V m).getLast? = some (inv m)
  · have e1 : nk ap V m = (pre ap V m).dropLast ++ suf ap V m := by unfold nk; rw [if_pos hc]
    rw [e1]
    rcases List.eq_nil_or_concat (pre ap V m) with hp | ⟨p', y, hp⟩
    · rw [hp] at hc; cases hc
    rw [List.concat_eq_append] at hp
    rw [hp] at hc e ⊢
    have hy : y = inv m := by simpa using hc
    subst hy
    rw [List.dropLast_concat]
    conv => rhs; rw [← e, List.foldl_append, List.foldl_append]
    show _ = nk ap ((suf ap V m).foldl (nk ap) (nk ap (p'.foldl (nk ap) K) (inv m))) m
    rw [← fold_com A _ ((nf p').nk A _) cs, List.foldl_append]
    have := nk_back A (nf p') (inv m)
    rw [inv_inv] at this
    rw [this]
  · have e1 : nk ap V m = pre ap V m ++ put (suf ap V m) m := by unfold nk; rw [if_neg hc]
    rw [e1]
    unfold put
    have es : (suf ap V m).takeWhile (· < m) ++ (suf ap V m).dropWhile (· < m) = suf ap V m := List.takeWhile_append_dropWhile
    generalize (suf ap V m).takeWhile (· < m) = s1 at *
    generalize (suf ap V m).dropWhile (· < m) = s2 at *
    rw [← List.append_assoc, List.foldl_append]
    show s2.foldl (nk ap) (nk ap ((pre ap V m ++ s1).foldl (nk ap) K) m) = _
    rw [fold_com A s2 (nf _) (fun y hy => cs y (by rw [← es]; exact List.mem_append_right _ hy)), ← List.foldl_append, List.append_assoc, es, e]
theorem fold_nf (A : Ap ap) {K : List Nat} (hK : Nrm ap K) (ws : List Nat) : (ws.foldl (nk ap) []).foldl (nk ap) K = ws.foldl (nk ap) K := by
  have : ∀ (n : Nat) (ws : List Nat), ws.length = n → (ws.foldl (nk ap) []).foldl (nk ap) K = ws.foldl (nk ap) K := by
    intro n
    induction n with
    | zero => intro ws e; rw [List.length_eq_zero_iff.mp e]; rfl
    | succ n ih =>
      intro ws e
      rcases List.eq_nil_or_concat ws with rfl | ⟨v, w, rfl⟩
      · rfl
      rw [List.concat_eq_append] at *
      rw [List.foldl_append, List.foldl_append]
      show (nk ap (v.foldl (nk ap) []) w).foldl (nk ap) K = nk ap (v.foldl (nk ap) K) w
      rw [fold_nk A hK, ih v (by simpa using e)]
  exact this _ ws rfl
abbrev F (ap : Nat → Nat → Bool) (ws : List Nat) : List Nat := ws.foldl (nk ap) []
theorem F_len {us : List Nat} : (us.foldl (nk ap) []).length ≤ us.length := by
  have h : ∀ (us ks : List Nat), (us.foldl (nk ap) ks).length ≤ ks.length + us.length := by
    intro us
    induction us with
    | nil => intro ks; simp
    | cons w ws ih =>
      intro ks
      have h1 := ih (nk ap ks w)
      have h2 : (nk ap ks w).length ≤ ks.length + 1 := by
        have e := congrArg List.length (pre_suf ap ks w)
        rw [List.length_append] at e
        unfold nk
        split
        · rw [List.length_append, List.length_dropLast]; omega
        · unfold put
          have z := congrArg List.length (List.takeWhile_append_dropWhile (p := (· < w)) (l := suf ap ks w))
          rw [List.length_append] at z
          rw [List.length_append, List.length_append, List.length_cons]; omega
      simp only [List.foldl_cons, List.length_cons]
      omega
  have := h us []
  simpa using this
theorem F_nrm (A : Ap ap) (ws : List Nat) : Nrm ap (F ap ws) := nrm_fold A ws [] .nil
theorem F_app (A : Ap ap) (u v : List Nat) : F ap (u ++ v) = v.foldl (nk ap) (F ap u) := List.foldl_append
theorem F_mul (A : Ap ap) (u v : List Nat) : (F ap v).foldl (nk ap) (F ap u) = F ap (u ++ v) := by rw [fold_nf A (F_nrm A u), F_app A]
theorem F_right (A : Ap ap) (u v : List Nat) : F ap (u ++ F ap v) = F ap (u ++ v) := by rw [F_app A, F_mul A]
theorem F_left (A : Ap ap) (u v : List Nat) : F ap (F ap u ++ v) = F ap (u ++ v) := by
  rw [F_app A, F_app A]
  have : F ap (F ap u) = F ap u := (F_nrm A u).fold
  rw [this]
def back (ws : List Nat) : List Nat := ws.reverse.map inv
theorem back_back (ws : List Nat) : back (back ws) = ws := by
  unfold back
  rw [← List.map_reverse, List.reverse_reverse, List.map_map]
  conv => rhs; rw [← List.map_id ws]
  exact List.map_congr_left fun x _ => inv_inv x
theorem back_app (u v : List Nat) : back (u ++ v) = back v ++ back u := by unfold back; simp
theorem back_len (u : List Nat) : (back u).length = u.length := by unfold back; simp
theorem F_back (A : Ap ap) (u : List Nat) : F ap (u ++ back u) = [] := fold_back A .nil _ u rfl
theorem back_F (A : Ap ap) (u : List Nat) : F ap (back u ++ u) = [] := by
  have := F_back A (back u)
  rwa [back_back] at this
theorem F_inv (A : Ap ap) (u : List Nat) : F ap (back (F ap u)) = F ap (back u) := by
  have h1 : F ap (u ++ back (F ap u)) = [] := by
    rw [← F_left A, F_back A]
  have h2 : F ap (back u ++ (u ++ back (F ap u))) = F ap (back u) := by
    rw [← F_right A, h1, List.append_nil]
  have h3 : F ap ((back u ++ u) ++ back (F ap u)) = F ap (back (F ap u)) := by
    rw [← F_left A, back_F A, List.nil_append]
  rw [← h3, List.append_assoc, h2]
theorem F_cancel (A : Ap ap) {u v : List Nat} : F ap (back u ++ v) = [] ↔ F ap u = F ap v := by
  constructor
  · intro h
    have h1 : F ap (u ++ (back u ++ v)) = F ap u := by rw [← F_right A, h, List.append_nil]
    have h2 : F ap ((u ++ back u) ++ v) = F ap v := by rw [← F_left A, F_back A, List.nil_append]
    rw [← h1, ← List.append_assoc, h2]
  · intro h
    rw [← F_right A, ← h, F_right A, back_F A]
end NF
namespace NF
variable {ap : Nat → Nat → Bool}
theorem F_len' (us : List Nat) : (F ap us).length ≤ us.length := F_len
theorem F_sub (A : Ap ap) (u v : List Nat) : (F ap (u ++ v)).length ≤ u.length + (F ap v).length := by
  rw [← F_right A]
  refine Nat.le_trans (F_len' _) ?_
  rw [List.length_append]; exact Nat.le_refl _
theorem inv_len' (A : Ap ap) (us : List Nat) : (F ap (back us)).length = (F ap us).length := by
  have h1 : ∀ us : List Nat, (F ap (back us)).length ≤ (F ap us).length := fun us => by
    rw [← F_inv A us]
    refine Nat.le_trans (F_len' _) ?_
    rw [back_len]; exact Nat.le_refl _
  have h2 := h1 (back us)
  rw [back_back] at h2
  exact Nat.le_antisymm (h1 us) h2
def Eqv (ap : Nat → Nat → Bool) (u v : List Nat) : Prop := F ap u = F ap v
theorem Eqv.app (A : Ap ap) {u u' v v' : List Nat} (h : Eqv ap u u') (k : Eqv ap v v') : Eqv ap (u ++ v) (u' ++ v') := by
  unfold Eqv at *
  rw [← F_left A, ← F_right A, h, k, F_right A, F_left A]
theorem Eqv.refl {u : List Nat} : Eqv ap u u := rfl
theorem Eqv.symm {u v : List Nat} (h : Eqv ap u v) : Eqv ap v u := Eq.symm h
theorem Eqv.trans {u v w : List Nat} (h : Eqv ap u v) (k : Eqv ap v w) : Eqv ap u w := Eq.trans h k
theorem Eqv.back (A : Ap ap) {u v : List Nat} (h : Eqv ap u v) : Eqv ap (NF.back u) (NF.back v) := by
  unfold Eqv at *
  rw [← F_inv A u, h, F_inv A]
theorem Eqv.swap (A : Ap ap) {m : Nat} {s : List Nat} (h : ∀ y ∈ s, com ap m y = true) : Eqv ap (m :: s) (s ++ [m]) := by
  unfold Eqv
  show s.foldl (nk ap) (nk ap [] m) = (s ++ [m]).foldl (nk ap) []
  rw [fold_com A s .nil (fun y hy => by rw [com_sym A]; exact h y hy), List.foldl_append]; rfl
def needS (ap : Nat → Nat → Bool) (st : List Nat × List Nat) (m : Nat) : List Nat × List Nat := if st.1.all (fun o => com ap m o) = true then (st.1, m :: st.2) else (m :: st.1, st.2)
theorem need_fold (A : Ap ap) : ∀ (l : List Nat) (st : List Nat × List Nat) (w : List Nat), Eqv ap w (st.1 ++ st.2) → Eqv ap (l.reverse ++ w) ((l.foldl (needS ap) st).1 ++ (l.foldl (needS ap) st).2)
  | [], st, w, h => h
  | m :: l, st, w, h => by
    have e : (m :: l).reverse ++ w = l.reverse ++ (m :: w) := by simp
    rw [e]
    refine need_fold A l (needS ap st m) (m :: w) ?_
    have h1 : Eqv ap (m :: w) (m :: (st.1 ++ st.2)) := Eqv.app (u := [m]) (u' := [m]) A .refl h
    refine h1.trans ?_
    unfold needS
    split
    · rename_i c
      rw [List.all_eq_true] at c
      have h2 : Eqv ap (m :: st.1) (st.1 ++ [m]) := Eqv.swap A c
      have := Eqv.app A h2 (Eqv.refl (u := st.2))
      simpa using this
    · exact .refl
theorem need_len : ∀ (l : List Nat) (st : List Nat × List Nat), (l.foldl (needS ap) st).1.length + (l.foldl (needS ap) st).2.length = st.1.length + st.2.length + l.length
  | [], st => rfl
  | m :: l, st => by
    show (l.foldl (needS ap) (needS ap st m)).1.length + (l.foldl (needS ap) (needS ap st m)).2.length = _
    rw [need_len l]
    unfold needS
    split <;> simp <;> omega
end NF
namespace AE
open PySem L2
theorem take_succ_get {α : Type} {l : List α} {i : Nat} {d : α} (h : l[i]? = some d) : l.take (i + 1) = l.take i ++ [d] := by
  rw [List.take_succ, h]; rfl
theorem forI {items : List D} {body : D → D → (D → Prop) → Prop} {x0 : D} {k : D → Prop} (I : Nat → D → Prop) (h0 : I 0 x0) (hb : ∀ i d x, items[i]? = some d → I i x → body d x (I (i + 1))) (hk : ∀ x, I items.length x → k x) : for1 items body x0 k :=
  ⟨I, h0, hb, hk⟩
theorem asItL {xs : List D} {k : List D → Prop} (h : k xs) : asIt (.lst xs) k := h
end AE
namespace AE
open PySem L2 TL StrLaws
end AE
namespace T
open PySem L2 AE
def letters : Str := "abcdefghijklmnopqrstuvwxyz"
structure StepName (x : Str) : Prop where
  l1 : 1 ≤ x.length
  l6 : x.length ≤ 6
  res : x ∉ (["else", "can", "cannot", "skip"] : List Str)
  abc : ∀ c ∈ x.cps.toList, c ∈ letters.cps.toList
theorem idx_get {names : List Str} {a : Str} (h : a ∈ names) : names[names.idxOf a]? = some a := by
  have := List.idxOf_lt_length_iff.mpr h
  rw [List.getElem?_eq_getElem this, List.getElem_idxOf this]
def plc (names : List Str) (p : Str × Str) : Nat × Nat := if names.idxOf p.1 < names.idxOf p.2 then (names.idxOf p.1, names.idxOf p.2) else (names.idxOf p.2, names.idxOf p.1)
def spD (p : Str × Str) : D := .tup [.str p.1, .str p.2]
structure GoodPair (names : List Str) (p : Str × Str) : Prop where
  a : p.1 ∈ names
  b : p.2 ∈ names
  ne : p.1 ≠ p.2
def ordL (n : Nat) (found : List (Nat × Nat)) : List (Nat × Nat) := (List.range n).flatMap fun i => (List.range n).filterMap fun j => if (i, j) ∈ found then some (i, j) else none
theorem ordL_mem {n : Nat} {found : List (Nat × Nat)} {p : Nat × Nat} : p ∈ ordL n found ↔ p.1 < n ∧ p.2 < n ∧ p ∈ found := by
  unfold ordL
  rw [List.mem_flatMap]
  constructor
  · rintro ⟨i, hi, h⟩
    rw [List.mem_filterMap] at h
    obtain ⟨j, hj, e⟩ := h
    split at e
    · cases e; exact ⟨List.mem_range.mp hi, List.mem_range.mp hj, by assumption⟩
    · cases e
  · rintro ⟨h1, h2, h3⟩
    refine ⟨p.1, List.mem_range.mpr h1, ?_⟩
    rw [List.mem_filterMap]
    exact ⟨p.2, List.mem_range.mpr h2, by rw [if_pos h3]⟩
def sgn (x : Str) : List Str := [x, "-" ++ x]
def signsL (names : List Str) : List Str := names.flatMap sgn
def nf : D → Key × D
  | .tup [n, .str s] => (.inr s, n)
  | d => (.inl 0, d)
def numsL (signs : List Str) : List (Key × D) := (enumD (signs.map D.str)).foldl (fun acc d => putDk acc (nf d).1 (nf d).2) []
def bothL (ord : List (Nat × Nat)) : List (Nat × Nat) := ord ++ ord.map fun p => (p.2, p.1)
def apartL (m : Nat) (ord : List (Nat × Nat)) : List D := (List.range m).map fun a => .lst ((List.range m).map fun b => .bl (decide ((a / 2, b / 2) ∈ bothL ord)))
def ordOf (names : List Str) (prs : List (Str × Str)) : List (Nat × Nat) := ordL names.length (prs.map (plc names))
def keptL (names : List Str) (ord : List (Nat × Nat)) : List (Str × Str) := ord.map fun p => (names.getD p.1 "", names.getD p.2 "")
structure GoodBook (names : List Str) (prs : List (Str × Str)) : Prop where
  l1 : 1 ≤ names.length
  l5 : names.length ≤ 5
  st : ∀ x ∈ names, StepName x
  nd : names.Nodup
  pr : ∀ p ∈ prs, GoodPair names p
  lp : prs.length ≤ 1000
theorem cutD_take {α : Type} {xs : List α} {i : Nat} (h : i ≤ xs.length) : cutD xs none (some (i : Int)) = xs.take i := by
  unfold cutD
  rw [HT.sIx_none, HT.sIx_nat, Nat.min_eq_left h]
  simp
def bookD (cn : Str → Addr) (names : List Str) (prs : List (Str × Str)) : D := .ins (cn "Book") [("names", .tup (names.map D.str)), ("kept", .tup ((keptL names (ordOf names prs)).map spD)), ("signs", .tup ((signsL names).map D.str)), ("numbers", .dic (numsL (signsL names))), ("apart", .lst (apartL (signsL names).length (ordOf names prs)))]
end T
namespace T
open PySem L2 AE
end T
namespace T
open PySem L2 AE
end T
namespace NF
variable {ap : Nat → Nat → Bool}
def nd1 (ap : Nat → Nat → Bool) (acc : List Nat) (m : Nat) : List Nat := if acc.all (fun o => com ap m o) = true then acc else m :: acc
theorem needS_fst : ∀ (l : List Nat) (st : List Nat × List Nat), (l.foldl (needS ap) st).1 = l.foldl (nd1 ap) st.1
  | [], st => rfl
  | m :: l, st => by
    show (l.foldl (needS ap) (needS ap st m)).1 = l.foldl (nd1 ap) (nd1 ap st.1 m)
    rw [needS_fst l]
    congr 1
    unfold needS nd1
    split <;> rfl
def need (ap : Nat → Nat → Bool) (p : List Nat) (x : Nat) : List Nat := p.reverse.foldl (nd1 ap) [x]
theorem all_congr {acc acc' : List Nat} (h : ∀ z, z ∈ acc ↔ z ∈ acc') (m : Nat) : acc.all (fun o => com ap m o) = acc'.all (fun o => com ap m o) := by
  rw [Bool.eq_iff_iff, List.all_eq_true, List.all_eq_true]
  exact ⟨fun q z hz => q z ((h z).mpr hz), fun q z hz => q z ((h z).mp hz)⟩
theorem nd_congr : ∀ (l acc acc' : List Nat), (∀ z, z ∈ acc ↔ z ∈ acc') → ∃ pre, l.foldl (nd1 ap) acc = pre ++ acc ∧ l.foldl (nd1 ap) acc' = pre ++ acc'
  | [], acc, acc', h => ⟨[], rfl, rfl⟩
  | m :: l, acc, acc', h => by
    show ∃ pre, l.foldl (nd1 ap) (nd1 ap acc m) = pre ++ acc ∧ l.foldl (nd1 ap) (nd1 ap acc' m) = pre ++ acc'
    have ec := all_congr (ap := ap) h m
    by_cases c : acc.all (fun o => com ap m o) = true
    · have e1 : nd1 ap acc m = acc := by unfold nd1; rw [if_pos c]
      have e2 : nd1 ap acc' m = acc' := by unfold nd1; rw [if_pos (by rw [← ec]; exact c)]
      rw [e1, e2]
      exact nd_congr l acc acc' h
    · have e1 : nd1 ap acc m = m :: acc := by unfold nd1; rw [if_neg c]
      have e2 : nd1 ap acc' m = m :: acc' := by unfold nd1; rw [if_neg (by rw [← ec]; exact c)]
      rw [e1, e2]
      obtain ⟨pre, h1, h2⟩ := nd_congr l (m :: acc) (m :: acc') (fun z => by simp [h z])
      exact ⟨pre ++ [m], by rw [h1]; simp, by rw [h2]; simp⟩
inductive Sws (ap : Nat → Nat → Bool) : List Nat → List Nat → Prop
  | refl (u : List Nat) : Sws ap u u
  | step {u a b : List Nat} {x y : Nat} : Sws ap u (a ++ x :: y :: b) → com ap x y = true → Sws ap u (a ++ y :: x :: b)
theorem Sws.trans {u v w : List Nat} (h : Sws ap u v) (k : Sws ap v w) : Sws ap u w := by
  induction k with
  | refl => exact h
  | step _ c ih => exact .step ih c
theorem Sws.right {u v : List Nat} (h : Sws ap u v) (w : List Nat) : Sws ap (u ++ w) (v ++ w) := by
  induction h with
  | refl => exact .refl _
  | @step a b x y _ c ih =>
    have e1 : a ++ x :: y :: b ++ w = a ++ x :: y :: (b ++ w) := by simp
    have e2 : a ++ y :: x :: b ++ w = a ++ y :: x :: (b ++ w) := by simp
    rw [e1] at ih
    rw [e2]
    exact .step ih c
theorem Sws.perm {u v : List Nat} (h : Sws ap u v) : u.Perm v := by
  induction h with
  | refl => exact .refl _
  | step _ c ih => exact ih.trans ((List.Perm.swap _ _ _).append_left _)
theorem Sws.eqv (A : Ap ap) {u v : List Nat} (h : Sws ap u v) : Eqv ap u v := by
  induction h with
  | refl => exact .refl
  | @step a b x y _ c ih =>
    refine ih.trans ?_
    have h1 : Eqv ap [x, y] [y, x] := Eqv.swap A (m := x) (s := [y]) (fun z hz => by rw [List.mem_singleton.mp hz]; exact c)
    have := Eqv.app A (Eqv.refl (u := a)) (Eqv.app A h1 (Eqv.refl (u := b)))
    simpa using this
theorem Sws.left {p : List Nat} {m : Nat} : ∀ (n : Nat) (s : List Nat), s.length = n → (∀ y ∈ s, com ap y m = true) → ∀ b, Sws ap (p ++ s ++ m :: b) (p ++ m :: (s ++ b))
  | 0, s, h, _, b => by
    have : s = [] := List.length_eq_zero_iff.mp h
    subst this; simpa using Sws.refl _
  | n + 1, s, h, hc, b => by
    rcases List.eq_nil_or_concat s with rfl | ⟨s', x, rfl⟩
    · cases h
    rw [List.concat_eq_append] at *
    have e1 : p ++ (s' ++ [x]) ++ m :: b = (p ++ s') ++ x :: m :: b := by simp
    have h1 : Sws ap ((p ++ s') ++ x :: m :: b) ((p ++ s') ++ m :: x :: b) := .step (.refl _) (hc x (by simp))
    have h2 := Sws.left (p := p) n s' (by simpa using h) (fun y hy => hc y (by simp [hy])) (x :: b)
    rw [e1]
    refine h1.trans ?_
    have e2 : p ++ m :: (s' ++ [x] ++ b) = p ++ m :: (s' ++ x :: b) := by simp
    rw [e2]
    exact h2
def struck (ap : Nat → Nat → Bool) (K : List Nat) (m : Nat) : Prop := (pre ap K m).getLast? = some (inv m)
instance (K : List Nat) (m : Nat) : Decidable (struck ap K m) := by unfold struck; infer_instance
theorem len_struck {K : List Nat} {m : Nat} (h : struck ap K m) : (nk ap K m).length + 1 = K.length := by
  have e := congrArg List.length (pre_suf ap K m)
  rw [List.length_append] at e
  unfold struck at h
  have e1 : nk ap K m = (pre ap K m).dropLast ++ suf ap K m := by unfold nk; rw [if_pos h]
  have : (pre ap K m).length ≠ 0 := fun z => by
    rw [List.length_eq_zero_iff] at z
    rw [z] at h; cases h
  rw [e1, List.length_append, List.length_dropLast]; omega
theorem len_free {K : List Nat} {m : Nat} (h : ¬ struck ap K m) : (nk ap K m).length = K.length + 1 := by
  have e := congrArg List.length (pre_suf ap K m)
  rw [List.length_append] at e
  unfold struck at h
  have e1 : nk ap K m = pre ap K m ++ put (suf ap K m) m := by unfold nk; rw [if_neg h]
  have z := congrArg List.length (List.takeWhile_append_dropWhile (p := (· < m)) (l := suf ap K m))
  rw [List.length_append] at z
  rw [e1]
  unfold put
  rw [List.length_append, List.length_append, List.length_cons]; omega
theorem sws_free {K : List Nat} {m : Nat} (h : ¬ struck ap K m) : Sws ap (K ++ [m]) (nk ap K m) := by
  unfold struck at h
  have e1 : nk ap K m = pre ap K m ++ put (suf ap K m) m := by unfold nk; rw [if_neg h]
  have es : (suf ap K m).takeWhile (· < m) ++ (suf ap K m).dropWhile (· < m) = suf ap K m := List.takeWhile_append_dropWhile
  have hc : ∀ y ∈ (suf ap K m).dropWhile (· < m), com ap y m = true := fun y hy => suf_com ap (by rw [← es]; exact List.mem_append_right _ hy)
  have := Sws.left (ap := ap) (p := pre ap K m ++ (suf ap K m).takeWhile (· < m)) (m := m) _ ((suf ap K m).dropWhile (· < m)) rfl hc []
  rw [List.append_assoc (pre ap K m), es, pre_suf] at this
  rw [e1]
  unfold put
  simpa using this
theorem struck_back (A : Ap ap) {K : List Nat} (hK : Nrm ap K) (m : Nat) : struck ap (nk ap K m) (inv m) ↔ ¬ struck ap K m := by
  have b := congrArg List.length (nk_back A hK m)
  constructor
  · intro h k
    have := len_struck h
    have := len_struck k
    omega
  · intro k
    refine Classical.byContradiction fun h => ?_
    have := len_free h
    have := len_free k
    omega
theorem struck_pile (A : Ap ap) {K : List Nat} {m : Nat} : struck ap K m ↔ (proj ap (m / 2) K).getLast? = some (sg (inv m)) := by
  have e := pre_suf ap K m
  have cs : ∀ y ∈ suf ap K m, com ap y m = true := fun y hy => suf_com ap hy
  have own : proj ap (m / 2) K = proj ap (m / 2) (pre ap K m) := by
    have z : proj ap (m / 2) K = proj ap (m / 2) (pre ap K m ++ suf ap K m) := by rw [e]
    rw [z, proj_append, proj_own A cs, List.append_nil]
  rw [own]
  unfold struck
  rcases List.eq_nil_or_concat (pre ap K m) with hp | ⟨p', y, hp⟩
  · rw [hp]; simp [proj]
  rw [List.concat_eq_append] at hp
  have cy : com ap y m = false := pre_last ap (by rw [hp]; simp)
  rw [hp, proj_append, proj_one]
  have ty : ∃ c, touch ap (m / 2) y = some c ∧ (c = sg (inv m) ↔ y = inv m) := by
    unfold touch
    by_cases hh : y / 2 = m / 2
    · rw [if_pos hh]
      exact ⟨_, rfl, ⟨fun z => sg_half (by rw [inv_half]; exact hh) z, fun z => by rw [z]⟩⟩
    · rw [if_neg hh, if_neg (by unfold com at cy; rw [cy]; simp)]
      exact ⟨_, rfl, ⟨fun z => (sg_pos _ z.symm).elim, fun z => absurd (by rw [z, inv_half]) hh⟩⟩
  obtain ⟨c, hc, hi⟩ := ty
  rw [hc]
  simp [hi]
theorem pile_free (A : Ap ap) {K : List Nat} {y a : Nat} (t : touch ap a y = none) : proj ap a (nk ap K y) = proj ap a K := by
  have := congrFun (act_proj A K y) a
  rw [← this, act_at, t]
  split <;> rfl
theorem struck_com (A : Ap ap) {K : List Nat} {m y : Nat} (c : com ap y m = true) : struck ap (nk ap K y) m ↔ struck ap K m := by
  rw [struck_pile A, struck_pile A, pile_free A (own_none A c)]
def Red (ap : Nat → Nat → Bool) (t : List Nat) : Prop := (F ap t).length = t.length
theorem F_sub' (u v : List Nat) : (F ap (u ++ v)).length ≤ (F ap u).length + v.length := by
  have : ∀ (v K : List Nat), (v.foldl (nk ap) K).length ≤ K.length + v.length := by
    intro v
    induction v with
    | nil => intro K; simp
    | cons m v ih =>
      intro K
      have h1 := ih (nk ap K m)
      have h2 : (nk ap K m).length ≤ K.length + 1 := by
        by_cases h : struck ap K m
        · have := len_struck h; omega
        · have := len_free h; omega
      simp only [List.foldl_cons, List.length_cons]
      omega
  have h := this v (F ap u)
  show ((u ++ v).foldl (nk ap) []).length ≤ _
  rw [List.foldl_append]; exact h
theorem Red.left {u v : List Nat} (h : Red ap (u ++ v)) : Red ap u := by
  unfold Red at *
  have h1 := F_sub' (ap := ap) u v
  have h2 := F_len' (ap := ap) u
  rw [List.length_append] at h
  omega
theorem Red.right (A : Ap ap) {u v : List Nat} (h : Red ap (u ++ v)) : Red ap v := by
  unfold Red at *
  have h1 := F_sub A u v
  have h2 := F_len' (ap := ap) v
  rw [List.length_append] at h
  omega
theorem Red.free {t : List Nat} {m : Nat} (h : Red ap (t ++ [m])) : ¬ struck ap (F ap t) m := fun k => by
  have h1 := h.left
  have := len_struck k
  unfold Red at h h1
  have e : F ap (t ++ [m]) = nk ap (F ap t) m := by show (t ++ [m]).foldl (nk ap) [] = _; rw [List.foldl_append]; rfl
  rw [e] at h
  simp at h
  omega
theorem Red.of (A : Ap ap) {u v : List Nat} (h : Eqv ap u v) (l : u.length = v.length) (r : Red ap u) : Red ap v := by
  unfold Red Eqv at *
  rw [← h, r, l]
theorem Red.sws : ∀ {t : List Nat}, Red ap t → Sws ap t (F ap t) := by
  have : ∀ (n : Nat) (t : List Nat), t.length = n → Red ap t → Sws ap t (F ap t) := by
    intro n
    induction n with
    | zero => intro t e _; rw [List.length_eq_zero_iff.mp e]; exact .refl _
    | succ n ih =>
      intro t e r
      rcases List.eq_nil_or_concat t with rfl | ⟨v, w, rfl⟩
      · cases e
      rw [List.concat_eq_append] at *
      have h1 := (ih v (by simpa using e) r.left).right [w]
      have h2 := sws_free r.free
      have e : F ap (v ++ [w]) = nk ap (F ap v) w := by show (v ++ [w]).foldl (nk ap) [] = _; rw [List.foldl_append]; rfl
      rw [e]
      exact h1.trans h2
  exact fun {t} r => this _ t rfl r
theorem Nrm.red {K : List Nat} (h : Nrm ap K) : Red ap K := by
  unfold Red
  have : F ap K = K := h.fold
  rw [this]
theorem nd1_swap {acc : List Nat} {x y : Nat} (A : Ap ap) (c : com ap x y = true) : nd1 ap (nd1 ap acc y) x = nd1 ap (nd1 ap acc x) y ∨ (nd1 ap (nd1 ap acc y) x = x :: y :: acc ∧ nd1 ap (nd1 ap acc x) y = y :: x :: acc) := by
  have c' : com ap y x = true := by rw [com_sym A]; exact c
  cases hx : acc.all (fun o => com ap x o) <;> cases hy : acc.all (fun o => com ap y o) <;> simp [nd1, hx, hy, c, c']
theorem need_swap (A : Ap ap) {a b : List Nat} {x y z : Nat} (c : com ap x y = true) : Eqv ap (need ap (a ++ x :: y :: b) z) (need ap (a ++ y :: x :: b) z) := by
  unfold need
  have e1 : (a ++ x :: y :: b).reverse.foldl (nd1 ap) [z] = a.reverse.foldl (nd1 ap) (nd1 ap (nd1 ap (b.reverse.foldl (nd1 ap) [z]) y) x) := by
    simp [List.foldl_append]
  have e2 : (a ++ y :: x :: b).reverse.foldl (nd1 ap) [z] = a.reverse.foldl (nd1 ap) (nd1 ap (nd1 ap (b.reverse.foldl (nd1 ap) [z]) x) y) := by
    simp [List.foldl_append]
  rw [e1, e2]
  generalize b.reverse.foldl (nd1 ap) [z] = acc
  rcases nd1_swap (acc := acc) A c with h | ⟨h1, h2⟩
  · rw [h]; exact .refl
  · rw [h1, h2]
    obtain ⟨p, q1, q2⟩ := nd_congr (ap := ap) a.reverse (x :: y :: acc) (y :: x :: acc) (fun w => by simp; constructor <;> (rintro (h | h | h) <;> simp [h]))
    rw [q1, q2]
    have h3 : Eqv ap [x, y] [y, x] := Eqv.swap A (m := x) (s := [y]) (fun z hz => by rw [List.mem_singleton.mp hz]; exact c)
    have := Eqv.app A (Eqv.refl (u := p)) (Eqv.app A h3 (Eqv.refl (u := acc)))
    simpa using this
theorem need_sws (A : Ap ap) {u v : List Nat} (h : Sws ap u v) (z : Nat) : Eqv ap (need ap u z) (need ap v z) := by
  induction h with
  | refl => exact .refl
  | step _ c ih => exact ih.trans (need_swap A c)
theorem nd_suf : ∀ (l acc : List Nat), ∃ pre, l.foldl (nd1 ap) acc = pre ++ acc := fun l acc => by
  obtain ⟨p, h, _⟩ := nd_congr (ap := ap) l acc acc (fun _ => Iff.rfl)
  exact ⟨p, h⟩
theorem need_ends (p : List Nat) (x : Nat) : need ap p x = (need ap p x).dropLast ++ [x] := by
  obtain ⟨q, h⟩ := nd_suf (ap := ap) p.reverse [x]
  unfold need
  rw [h, List.dropLast_concat]
def Nn (ap : Nat → Nat → Bool) (p : List Nat) (x : Nat) : List Nat := (need ap p x).dropLast
theorem cancel_right (A : Ap ap) {u v w : List Nat} (h : Eqv ap (u ++ w) (v ++ w)) : Eqv ap u v := by
  have h1 := Eqv.app A h (Eqv.refl (u := back w))
  have e : ∀ u : List Nat, Eqv ap (u ++ w ++ back w) u := fun u => by
    rw [List.append_assoc]
    have h2 : Eqv ap (w ++ back w) [] := F_back A w
    have := Eqv.app A (Eqv.refl (u := u)) h2
    rwa [List.append_nil] at this
  exact (e u).symm.trans (h1.trans (e v))
theorem Nn_sws (A : Ap ap) {u v : List Nat} (h : Sws ap u v) (z : Nat) : F ap (Nn ap u z) = F ap (Nn ap v z) := by
  have h1 := need_sws A h z
  rw [need_ends u z, need_ends v z] at h1
  exact cancel_right A h1
abbrev Wall := List Nat × Nat
def Ed (ap : Nat → Nat → Bool) (K : List Nat) (m : Nat) : Wall := if struck ap K m then (F ap (Nn ap (nk ap K m) (inv m)), inv m) else (F ap (Nn ap K m), m)
theorem Ed_back (A : Ap ap) {K : List Nat} (hK : Nrm ap K) (m : Nat) : Ed ap (nk ap K m) (inv m) = Ed ap K m := by
  by_cases h : struck ap K m
  · have h2 : ¬ struck ap (nk ap K m) (inv m) := fun z => (struck_back A hK m).mp z h
    unfold Ed
    rw [if_pos h, if_neg h2]
  · have h2 := (struck_back A hK m).mpr h
    unfold Ed
    rw [if_neg h, if_pos h2, nk_back A hK, inv_inv]
theorem Ed_com (A : Ap ap) {K : List Nat} (hK : Nrm ap K) {y m : Nat} (c : com ap y m = true) : Ed ap (nk ap K y) m = Ed ap K m := by
  have free : ∀ {K : List Nat} {y m : Nat}, Nrm ap K → com ap y m = true → ¬ struck ap K m → ¬ struck ap K y → Ed ap (nk ap K y) m = Ed ap K m := fun {K y m} hK c hm hy => by
    have hm2 : ¬ struck ap (nk ap K y) m := fun z => hm ((struck_com A c).mp z)
    unfold Ed
    rw [if_neg hm, if_neg hm2]
    have h1 := Nn_sws A (sws_free hy) m
    have h2 : Nn ap (K ++ [y]) m = Nn ap K m := by
      unfold Nn need
      rw [List.reverse_append]
      show (K.reverse.foldl (nd1 ap) (nd1 ap [m] y)).dropLast = _
      have : nd1 ap [m] y = [m] := by unfold nd1; rw [if_pos (by simp [c])]
      rw [this]
    rw [← h1, h2]
  have freeM : ∀ {K : List Nat} {y m : Nat}, Nrm ap K → com ap y m = true → ¬ struck ap K m → Ed ap (nk ap K y) m = Ed ap K m := fun {K y m} hK c hm => by
    by_cases hy : struck ap K y
    · have c' : com ap (inv y) m = true := by rw [inv_com]; exact c
      have h := free (hK.nk A y) c' (fun z => hm ((struck_com A c).mp z)) (fun z => (struck_back A hK y).mp z hy)
      rw [nk_back A hK] at h
      exact h.symm
    · exact free hK c hm hy
  by_cases hm : struck ap K m
  · have c' : com ap y (inv m) = true := by rw [com_inv]; exact c
    have h := freeM (hK.nk A m) c' (fun z => (struck_back A hK m).mp z hm)
    rw [Ed_back A hK] at h
    rw [← h, ← Ed_back A (hK.nk A y) m, nk_comm A hK c]
  · exact freeM hK c hm
theorem Ed_fold (A : Ap ap) {m : Nat} : ∀ (r : List Nat) {K : List Nat}, Nrm ap K → (∀ y ∈ r, com ap y m = true) → Ed ap (r.foldl (nk ap) K) m = Ed ap K m
  | [], K, _, _ => rfl
  | y :: r, K, hK, h => by
    show Ed ap (r.foldl (nk ap) (nk ap K y)) m = _
    rw [Ed_fold A r (hK.nk A y) (fun z hz => h z (by simp [hz])), Ed_com A hK (h y (by simp))]
def nms (ap : Nat → Nat → Bool) : List Nat → List Nat → List Wall
  | _, [] => []
  | K, m :: t => Ed ap K m :: nms ap (nk ap K m) t
theorem nms_app : ∀ (K a b : List Nat), nms ap K (a ++ b) = nms ap K a ++ nms ap (a.foldl (nk ap) K) b
  | K, [], b => rfl
  | K, m :: a, b => by
    show Ed ap K m :: nms ap (nk ap K m) (a ++ b) = Ed ap K m :: (nms ap (nk ap K m) a ++ _)
    rw [nms_app]; rfl
theorem nms_len : ∀ (K t : List Nat), (nms ap K t).length = t.length
  | K, [] => rfl
  | K, m :: t => by show (nms ap (nk ap K m) t).length + 1 = _; rw [nms_len]; rfl
theorem nms_sws (A : Ap ap) {K u v : List Nat} (hK : Nrm ap K) (h : Sws ap u v) : (nms ap K u).Perm (nms ap K v) := by
  induction h with
  | refl => exact .refl _
  | @step a b x y _ c ih =>
    refine ih.trans ?_
    have nf := nrm_fold A a K hK
    rw [nms_app, nms_app]
    refine List.Perm.append_left _ ?_
    show (Ed ap _ x :: Ed ap (nk ap _ x) y :: nms ap (nk ap (nk ap _ x) y) b).Perm (Ed ap _ y :: Ed ap (nk ap _ y) x :: nms ap (nk ap (nk ap _ y) x) b)
    have c' : com ap y x = true := by rw [com_sym A]; exact c
    rw [Ed_com A nf c, Ed_com A nf c', nk_comm A nf c]
    exact List.Perm.swap _ _ _
def WW (ap : Nat → Nat → Bool) (K : List Nat) : List Wall := nms ap [] K
theorem WW_red (A : Ap ap) {t : List Nat} (h : Red ap t) : (nms ap [] t).Perm (WW ap (F ap t)) := nms_sws A .nil h.sws
theorem nd_mono : ∀ (l acc acc' : List Nat), (∀ z ∈ acc, z ∈ acc') → (l.foldl (nd1 ap) acc).length + acc'.length ≤ (l.foldl (nd1 ap) acc').length + acc.length ∧ ∀ z ∈ l.foldl (nd1 ap) acc, z ∈ l.foldl (nd1 ap) acc'
  | [], acc, acc', h => ⟨by simp; omega, h⟩
  | m :: l, acc, acc', h => by
    show (l.foldl (nd1 ap) (nd1 ap acc m)).length + acc'.length ≤ (l.foldl (nd1 ap) (nd1 ap acc' m)).length + acc.length ∧ ∀ z ∈ l.foldl (nd1 ap) (nd1 ap acc m), z ∈ l.foldl (nd1 ap) (nd1 ap acc' m)
    by_cases h1 : acc.all (fun o => com ap m o) = true
    · have e1 : nd1 ap acc m = acc := by unfold nd1; rw [if_pos h1]
      rw [e1]
      by_cases h2 : acc'.all (fun o => com ap m o) = true
      · have e2 : nd1 ap acc' m = acc' := by unfold nd1; rw [if_pos h2]
        rw [e2]; exact nd_mono l acc acc' h
      · have e2 : nd1 ap acc' m = m :: acc' := by unfold nd1; rw [if_neg h2]
        rw [e2]
        have := nd_mono l acc (m :: acc') (fun z hz => by simp [h z hz])
        exact ⟨by have := this.1; simp at this; omega, this.2⟩
    · have e1 : nd1 ap acc m = m :: acc := by unfold nd1; rw [if_neg h1]
      have h2 : ¬ acc'.all (fun o => com ap m o) = true := fun z => h1 (by
        rw [List.all_eq_true] at z ⊢
        exact fun o ho => z o (h o ho))
      have e2 : nd1 ap acc' m = m :: acc' := by unfold nd1; rw [if_neg h2]
      rw [e1, e2]
      have := nd_mono l (m :: acc) (m :: acc') (fun z hz => by
        rcases List.mem_cons.mp hz with rfl | hz
        · simp
        · simp [h z hz])
      exact ⟨by have := this.1; simp at this; omega, this.2⟩
theorem need_longer (A : Ap ap) (p q : List Nat) (x : Nat) : (need ap p x).length + 1 ≤ (need ap (p ++ x :: q) x).length := by
  unfold need
  have e : (p ++ x :: q).reverse.foldl (nd1 ap) [x] = p.reverse.foldl (nd1 ap) (nd1 ap (q.reverse.foldl (nd1 ap) [x]) x) := by simp [List.foldl_append]
  rw [e]
  obtain ⟨r, hr⟩ := nd_suf (ap := ap) q.reverse [x]
  rw [hr]
  have e2 : nd1 ap (r ++ [x]) x = x :: (r ++ [x]) := by
    unfold nd1
    rw [if_neg]
    intro h
    rw [List.all_eq_true] at h
    have := h x (by simp)
    rw [com_irr A] at this
    cases this
  rw [e2]
  have := (nd_mono (ap := ap) p.reverse [x] (x :: (r ++ [x])) (fun z hz => by rw [List.mem_singleton.mp hz]; simp)).1
  simp at this
  simp
  omega
theorem need_split (A : Ap ap) (p : List Nat) (x : Nat) : ∃ r, Eqv ap (p ++ [x]) (Nn ap p x ++ [x] ++ r) ∧ Eqv ap p (Nn ap p x ++ r) ∧ (∀ y ∈ r, com ap y x = true) ∧ (Nn ap p x).length + r.length = p.length := by
  have h := need_fold A p.reverse ([x], []) [x] (by simp; exact .refl)
  rw [List.reverse_reverse] at h
  have hl := need_len (ap := ap) p.reverse ([x], [])
  generalize hst : p.reverse.foldl (needS ap) ([x], []) = st at h hl
  have e1 : st.1 = Nn ap p x ++ [x] := by
    rw [← hst, needS_fst]
    exact need_ends p x
  have hc : ∀ y ∈ st.2, com ap y x = true := by
    rw [← hst]
    have : ∀ (l : List Nat) (st : List Nat × List Nat), x ∈ st.1 → (∀ y ∈ st.2, com ap y x = true) → ∀ y ∈ (l.foldl (needS ap) st).2, com ap y x = true := by
      intro l
      induction l with
      | nil => intro st _ h; exact h
      | cons m l ih =>
        intro st hx hr
        show ∀ y ∈ (l.foldl (needS ap) (needS ap st m)).2, com ap y x = true
        unfold needS
        split
        · rename_i hall
          refine ih _ hx ?_
          intro y hy
          rcases List.mem_cons.mp hy with rfl | hy
          · rw [List.all_eq_true] at hall
            exact hall x hx
          · exact hr y hy
        · exact ih _ (by simp [hx]) hr
    exact this _ _ (by simp) (fun y hy => by cases hy)
  rw [e1] at h
  have h2 : Eqv ap ([x] ++ st.2) (st.2 ++ [x]) := Eqv.swap A (m := x) (s := st.2) (fun y hy => by rw [com_sym A]; exact hc y hy)
  have h3 : Eqv ap (p ++ [x]) ((Nn ap p x ++ st.2) ++ [x]) := by
    refine h.trans ?_
    have := Eqv.app A (Eqv.refl (u := Nn ap p x)) h2
    simpa using this
  refine ⟨st.2, h, cancel_right A h3, hc, ?_⟩
  rw [e1] at hl
  simp at hl
  omega
theorem Nn_len (A : Ap ap) {p : List Nat} (hp : Red ap p) (x : Nat) : (F ap (Nn ap p x)).length = (Nn ap p x).length := by
  obtain ⟨r, _, h, _, hl⟩ := need_split A p x
  exact (Red.of A h (by rw [List.length_append]; omega) hp).left
theorem nms_get (K : List Nat) : ∀ (t : List Nat) (i : Nat) (h : i < t.length), (nms ap K t)[i]? = some (Ed ap ((t.take i).foldl (nk ap) K) t[i])
  | [], i, h => by simp at h
  | m :: t, 0, h => rfl
  | m :: t, i + 1, h => by
    show (nms ap (nk ap K m) t)[i]? = _
    rw [nms_get (nk ap K m) t i (by simpa using h)]; rfl
theorem WW_nodup (A : Ap ap) {K : List Nat} (hK : Nrm ap K) : (WW ap K).Nodup := by
  unfold List.Nodup WW
  rw [List.pairwise_iff_getElem]
  intro i j hi hj hij e
  have li : i < K.length := by rw [nms_len] at hi; exact hi
  have lj : j < K.length := by rw [nms_len] at hj; exact hj
  have gi := nms_get (ap := ap) [] K i li
  have gj := nms_get (ap := ap) [] K j lj
  rw [List.getElem?_eq_getElem hi] at gi
  rw [List.getElem?_eq_getElem hj] at gj
  have e2 := (Option.some.inj gi).symm.trans (e.trans (Option.some.inj gj))
  have pre : ∀ k, k < K.length → Nrm ap (K.take k) := fun k _ => by
    have h : Nrm ap (K.take k ++ K.drop k) := by rw [List.take_append_drop]; exact hK
    exact h.pre
  have fr : ∀ k (hk : k < K.length), Ed ap ((K.take k).foldl (nk ap) []) K[k] = (F ap (Nn ap (K.take k) K[k]), K[k]) := fun k hk => by
    have ef : (K.take k).foldl (nk ap) [] = K.take k := (pre k hk).fold
    rw [ef]
    unfold Ed
    rw [if_neg]
    have ek : K = K.take k ++ K[k] :: K.drop (k + 1) := by rw [← List.drop_eq_getElem_cons hk, List.take_append_drop]
    exact (hK.fit ek).2.1
  rw [fr i li, fr j lj] at e2
  have e3 : K[i] = K[j] := (Prod.mk.inj e2).2
  have e4 : F ap (Nn ap (K.take i) K[i]) = F ap (Nn ap (K.take j) K[j]) := (Prod.mk.inj e2).1
  have l1 := Nn_len A (pre i li).red K[i]
  have l2 := Nn_len A (pre j lj).red K[j]
  rw [e4] at l1
  have ej : K.take j = K.take i ++ K[i] :: (K.take j).drop (i + 1) := by
    have h1 : i < (K.take j).length := by rw [List.length_take]; omega
    have h2 : K.take j = (K.take j).take i ++ (K.take j)[i] :: (K.take j).drop (i + 1) := by rw [← List.drop_eq_getElem_cons h1, List.take_append_drop]
    rw [List.take_take, Nat.min_eq_left (by omega), List.getElem_take] at h2
    exact h2
  have l3 := need_longer A (K.take i) ((K.take j).drop (i + 1)) K[i]
  rw [← ej, e3] at l3
  have l4 : 1 ≤ (need ap (K.take i) K[j]).length := by rw [need_ends]; simp
  have l5 : 1 ≤ (need ap (K.take j) K[j]).length := by rw [need_ends]; simp
  unfold Nn at l1 l2
  rw [e3] at l1
  rw [List.length_dropLast] at l1 l2
  omega
theorem Ed_base (A : Ap ap) {K : List Nat} (hK : Nrm ap K) (m : Nat) (g : List Nat) : Ed ap (F ap (g ++ K)) m = Ed ap (F ap (g ++ (Ed ap K m).1)) (Ed ap K m).2 := by
  have free : ∀ {K : List Nat} {m : Nat}, Nrm ap K → ¬ struck ap K m → Ed ap (F ap (g ++ K)) m = Ed ap (F ap (g ++ (Ed ap K m).1)) (Ed ap K m).2 := fun {K m} hK h => by
    obtain ⟨r, _, h2, hc, _⟩ := need_split A K m
    have e : Ed ap K m = (F ap (Nn ap K m), m) := by unfold Ed; rw [if_neg h]
    rw [e]
    show Ed ap (F ap (g ++ K)) m = Ed ap (F ap (g ++ F ap (Nn ap K m))) m
    rw [F_right A]
    have e1 : F ap (g ++ K) = r.foldl (nk ap) (F ap (g ++ Nn ap K m)) := by
      have : Eqv ap (g ++ K) ((g ++ Nn ap K m) ++ r) := by
        rw [List.append_assoc]
        exact Eqv.app A .refl h2
      have h3 : F ap (g ++ K) = F ap ((g ++ Nn ap K m) ++ r) := this
      rw [h3, F_app A]
    rw [e1, Ed_fold A r (F_nrm A _) hc]
  by_cases h : struck ap K m
  · have h2 : ¬ struck ap (nk ap K m) (inv m) := fun z => (struck_back A hK m).mp z h
    have h3 := free (hK.nk A m) h2
    rw [Ed_back A hK] at h3
    rw [← h3, ← Ed_back A (F_nrm A (g ++ K)) m]
    congr 1
    have e1 : nk ap (F ap (g ++ K)) m = F ap ((g ++ K) ++ [m]) := by rw [F_app A (g ++ K) [m]]; rfl
    have e2 : Eqv ap (nk ap K m) (K ++ [m]) := by
      have : F ap (K ++ [m]) = nk ap K m := by
        rw [F_app A]
        have : F ap K = K := hK.fold
        rw [this]; rfl
      unfold Eqv
      rw [this]
      exact (hK.nk A m).fold
    have e3 : F ap (g ++ nk ap K m) = F ap (g ++ (K ++ [m])) := Eqv.app A (Eqv.refl (u := g)) e2
    rw [e1, e3, List.append_assoc]
  · exact free hK h
theorem nms_nodup (A : Ap ap) {K t : List Nat} (hK : Nrm ap K) (ht : Red ap t) : (nms ap K t).Nodup := by
  have n0 : (nms ap [] t).Nodup := (WW_red A ht).nodup_iff.mpr (WW_nodup A (F_nrm A t))
  unfold List.Nodup at *
  rw [List.pairwise_iff_getElem] at *
  intro i j hi hj hij e
  have li : i < t.length := by rw [nms_len] at hi; exact hi
  have lj : j < t.length := by rw [nms_len] at hj; exact hj
  refine n0 i j (by rw [nms_len]; exact li) (by rw [nms_len]; exact lj) hij ?_
  have gi := nms_get (ap := ap) K t i li
  have gj := nms_get (ap := ap) K t j lj
  rw [List.getElem?_eq_getElem hi] at gi
  rw [List.getElem?_eq_getElem hj] at gj
  have e2 := (Option.some.inj gi).symm.trans (e.trans (Option.some.inj gj))
  have g0 : ∀ k (hk : k < t.length), (nms ap [] t)[k]'(by rw [nms_len]; exact hk) = Ed ap (F ap (t.take k)) t[k] := fun k hk => by
    have := nms_get (ap := ap) [] t k hk
    rw [List.getElem?_eq_getElem (by rw [nms_len]; exact hk)] at this
    exact Option.some.inj this
  rw [g0 i li, g0 j lj]
  have bs : ∀ k, k < t.length → F ap (back K ++ (t.take k).foldl (nk ap) K) = F ap (t.take k) := fun k _ => by
    have e1 : (t.take k).foldl (nk ap) K = F ap (K ++ t.take k) := by
      rw [F_app A]
      have : F ap K = K := hK.fold
      rw [this]
    rw [e1, F_right A, ← List.append_assoc, ← F_left A, back_F A, List.nil_append]
  have h1 := Ed_base A (nrm_fold A (t.take i) K hK) t[i] (back K)
  have h2 := Ed_base A (nrm_fold A (t.take j) K hK) t[j] (back K)
  rw [bs i li] at h1
  rw [bs j lj] at h2
  rw [h1, h2, e2]
theorem WW_step (A : Ap ap) {K : List Nat} (hK : Nrm ap K) (m : Nat) (w : Wall) : w ∈ WW ap (nk ap K m) ↔ ¬ (w ∈ WW ap K ↔ w = Ed ap K m) := by
  have free : ∀ {K : List Nat} {m : Nat}, Nrm ap K → ¬ struck ap K m → (WW ap (nk ap K m)).Perm (WW ap K ++ [Ed ap K m]) ∧ Ed ap K m ∉ WW ap K := fun {K m} hK h => by
    have fk : K.foldl (nk ap) [] = K := hK.fold
    have h1 := nms_sws A (K := []) .nil (sws_free h)
    rw [nms_app, fk] at h1
    have h2 : (WW ap (nk ap K m)).Perm (WW ap K ++ [Ed ap K m]) := h1.symm
    refine ⟨h2, fun z => ?_⟩
    have nd := h2.nodup_iff.mp (WW_nodup A (hK.nk A m))
    rw [List.nodup_append] at nd
    exact nd.2.2 _ z _ (by simp) rfl
  by_cases h : struck ap K m
  · have h2 : ¬ struck ap (nk ap K m) (inv m) := fun z => (struck_back A hK m).mp z h
    obtain ⟨p, q⟩ := free (hK.nk A m) h2
    rw [nk_back A hK, Ed_back A hK] at p
    rw [Ed_back A hK] at q
    have hm := p.mem_iff (a := w)
    rw [List.mem_append, List.mem_singleton] at hm
    by_cases e : w = Ed ap K m
    · subst e
      simp [q, hm]
    · simp [hm, e]
  · obtain ⟨p, q⟩ := free hK h
    have hm := p.mem_iff (a := w)
    rw [List.mem_append, List.mem_singleton] at hm
    rw [hm]
    by_cases e : w = Ed ap K m
    · subst e
      simp [q]
    · simp [e]
theorem WW_path (A : Ap ap) (w : Wall) : ∀ (t : List Nat) {K : List Nat}, Nrm ap K → (nms ap K t).Nodup → (w ∈ WW ap (t.foldl (nk ap) K) ↔ ¬ (w ∈ WW ap K ↔ w ∈ nms ap K t))
  | [], K, hK, _ => by simp [nms]
  | m :: t, K, hK, nd => by
    have nd' : (Ed ap K m :: nms ap (nk ap K m) t).Nodup := nd
    obtain ⟨n1, n2⟩ := List.nodup_cons.mp nd'
    show w ∈ WW ap (t.foldl (nk ap) (nk ap K m)) ↔ ¬ (w ∈ WW ap K ↔ w ∈ Ed ap K m :: nms ap (nk ap K m) t)
    rw [WW_path A w t (hK.nk A m) n2, WW_step A hK m w, List.mem_cons]
    by_cases e : w = Ed ap K m
    · subst e
      by_cases h1 : Ed ap K m ∈ WW ap K <;> simp [h1, n1]
    · by_cases h1 : w ∈ WW ap K <;> by_cases h2 : w ∈ nms ap (nk ap K m) t <;> simp [h1, h2, e]
def Dst (ap : Nat → Nat → Bool) (u v : List Nat) : Nat := (F ap (back u ++ v)).length
theorem walls_between (A : Ap ap) {g h : List Nat} (hg : Nrm ap g) (hh : Nrm ap h) : ∃ l : List Wall, l.Nodup ∧ l.length = Dst ap g h ∧ ∀ w, w ∈ l ↔ ¬ (w ∈ WW ap g ↔ w ∈ WW ap h) := by
  have ht : Red ap (F ap (back g ++ h)) := (F_nrm A _).red
  have nd := nms_nodup A hg ht
  refine ⟨nms ap g (F ap (back g ++ h)), nd, nms_len _ _, fun w => ?_⟩
  have hp := WW_path A w (F ap (back g ++ h)) hg nd
  have e : (F ap (back g ++ h)).foldl (nk ap) g = h := by
    rw [fold_nf A hg]
    have e1 : (back g ++ h).foldl (nk ap) g = F ap (g ++ (back g ++ h)) := by
      rw [F_app A]
      have : F ap g = g := hg.fold
      rw [this]
    rw [e1, ← List.append_assoc, ← F_left A, F_back A, List.nil_append]
    exact hh.fold
  rw [e] at hp
  by_cases h1 : w ∈ WW ap g <;> by_cases h2 : w ∈ WW ap h <;> by_cases h3 : w ∈ nms ap g (F ap (back g ++ h)) <;> simp_all
end NF
namespace NF
variable {ap : Nat → Nat → Bool}
theorem nd_len {α : Type} [DecidableEq α] : ∀ {l m : List α}, l.Nodup → (∀ x ∈ l, x ∈ m) → l.length ≤ m.length
  | [], _, _, _ => Nat.zero_le _
  | a :: l, m, nd, s => by
    obtain ⟨h1, h2⟩ := List.nodup_cons.mp nd
    have ha : a ∈ m := s a (by simp)
    have hs : ∀ x ∈ l, x ∈ m.erase a := fun x hx => (List.mem_erase_of_ne (fun e : x = a => h1 (by rw [← e]; exact hx))).mpr (s x (by simp [hx]))
    have := nd_len h2 hs
    rw [List.length_erase_of_mem ha] at this
    have := List.length_pos_of_mem ha
    rw [List.length_cons]; omega
theorem WW_len (K : List Nat) : (WW ap K).length = K.length := nms_len _ _
theorem dst_comm (A : Ap ap) (u v : List Nat) : Dst ap u v = Dst ap v u := by
  unfold Dst
  have := inv_len' A (back u ++ v)
  rw [back_app, back_back] at this
  exact this.symm
structure Mid (ap : Nat → Nat → Bool) (a b c m : List Nat) : Prop where
  ab : Dst ap a m + Dst ap m b = Dst ap a b
  ac : Dst ap a m + Dst ap m c = Dst ap a c
  bc : Dst ap b m + Dst ap m c = Dst ap b c
theorem dst_left (A : Ap ap) (g u v : List Nat) : Dst ap (g ++ u) (g ++ v) = Dst ap u v := by
  unfold Dst
  have : Eqv ap (back (g ++ u) ++ (g ++ v)) (back u ++ v) := by
    rw [back_app]
    have h : Eqv ap (back g ++ g) [] := back_F A g
    have := Eqv.app A (Eqv.refl (u := back u)) (Eqv.app A h (Eqv.refl (u := v)))
    simpa using this
  have e : F ap (back (g ++ u) ++ (g ++ v)) = F ap (back u ++ v) := this
  rw [e]
theorem Mid.left (A : Ap ap) (g : List Nat) {a b c m : List Nat} : Mid ap (g ++ a) (g ++ b) (g ++ c) (g ++ m) ↔ Mid ap a b c m := by
  constructor
  · intro h
    have h1 := h.ab
    have h2 := h.ac
    have h3 := h.bc
    rw [dst_left A, dst_left A, dst_left A] at h1 h2 h3
    exact ⟨h1, h2, h3⟩
  · intro h
    refine ⟨?_, ?_, ?_⟩
    · rw [dst_left A, dst_left A, dst_left A]; exact h.ab
    · rw [dst_left A, dst_left A, dst_left A]; exact h.ac
    · rw [dst_left A, dst_left A, dst_left A]; exact h.bc
theorem Mid.swap (A : Ap ap) {a b c m : List Nat} (h : Mid ap a b c m) : Mid ap a c b m := ⟨h.ac, h.ab, by rw [dst_comm A c m, dst_comm A m b, dst_comm A c b, Nat.add_comm]; exact h.bc⟩
end NF
namespace NF
variable {ap : Nat → Nat → Bool}
inductive Hull (ap : Nat → Nat → Bool) (n : Nat) (B : List Nat → Prop) : List Nat → Prop
  | base {K : List Nat} : B K → Hull ap n B K
  | sq {K : List Nat} {x y : Nat} : Hull ap n B K → Hull ap n B (nk ap K x) → Hull ap n B (nk ap K y) → x < n → y < n → com ap x y = true → Hull ap n B (nk ap (nk ap K x) y)
structure Clo (ap : Nat → Nat → Bool) (n : Nat) (S : List Nat → Prop) : Prop where
  sq : ∀ K x y, S K → S (nk ap K x) → S (nk ap K y) → x < n → y < n → com ap x y = true → S (nk ap (nk ap K x) y)
theorem Hull.clo {n : Nat} {B : List Nat → Prop} : Clo ap n (Hull ap n B) := ⟨fun _ _ _ a b c d e f => .sq a b c d e f⟩
theorem Hull.least {n : Nat} {B S : List Nat → Prop} (c : Clo ap n S) (h : ∀ K, B K → S K) : ∀ {K : List Nat}, Hull ap n B K → S K := fun {K} k => by
  induction k with
  | base b => exact h _ b
  | sq _ _ _ d e f a1 a2 a3 => exact c.sq _ _ _ a1 a2 a3 d e f
theorem Hull.mono {n : Nat} {B B' : List Nat → Prop} (h : ∀ K, B K → Hull ap n B' K) : ∀ {K : List Nat}, Hull ap n B K → Hull ap n B' K := fun k => k.least Hull.clo h
theorem Hull.nrm (A : Ap ap) {n : Nat} {B : List Nat → Prop} (h : ∀ K, B K → Nrm ap K) : ∀ {K : List Nat}, Hull ap n B K → Nrm ap K := fun {K} k => by
  induction k with
  | base b => exact h _ b
  | sq _ _ _ _ _ _ a1 _ _ => exact (a1.nk A _).nk A _
theorem nk_sub {K : List Nat} {m x : Nat} (h : x ∈ nk ap K m) : x ∈ K ∨ x = m := by
  unfold nk at h
  have e := pre_suf ap K m
  split at h
  · rcases List.mem_append.mp h with z | z
    · exact .inl (by rw [← e]; exact List.mem_append_left _ (List.dropLast_subset _ z))
    · exact .inl (by rw [← e]; exact List.mem_append_right _ z)
  · rcases List.mem_append.mp h with z | z
    · exact .inl (by rw [← e]; exact List.mem_append_left _ z)
    · unfold put at z
      rcases List.mem_append.mp z with z | z
      · exact .inl (by rw [← e]; exact List.mem_append_right _ ((List.takeWhile_sublist _).subset z))
      · rcases List.mem_cons.mp z with z | z
        · exact .inr z
        · exact .inl (by rw [← e]; exact List.mem_append_right _ ((List.dropWhile_sublist _).subset z))
theorem Hull.lt {n : Nat} {B : List Nat → Prop} (h : ∀ K, B K → ∀ k ∈ K, k < n) : ∀ {K : List Nat}, Hull ap n B K → ∀ k ∈ K, k < n := fun {K} k => by
  induction k with
  | base b => exact h _ b
  | sq _ _ _ d e _ a1 _ _ =>
    intro k hk
    rcases nk_sub hk with z | z
    · rcases nk_sub z with z | z
      · exact a1 k z
      · rw [z]; exact d
    · rw [z]; exact e
theorem Hull.walls (A : Ap ap) {n : Nat} {B : List Nat → Prop} {W : List Wall} (hn : ∀ K, B K → Nrm ap K) (h : ∀ K, B K → ∀ w ∈ WW ap K, w ∈ W) : ∀ {K : List Nat}, Hull ap n B K → ∀ w ∈ WW ap K, w ∈ W := fun {K} k => by
  induction k with
  | base b => exact h _ b
  | @sq K x y k1 k2 k3 d e f a1 a2 a3 =>
    intro w hw
    have nK := k1.nrm A hn
    rw [WW_step A (nK.nk A x) y] at hw
    by_cases z : w ∈ WW ap (nk ap K x)
    · exact a2 w z
    · have e1 : w = Ed ap (nk ap K x) y := Classical.byContradiction fun q => hw ⟨fun t => (z t).elim, fun t => (q t).elim⟩
      rw [Ed_com A nK f] at e1
      by_cases z2 : w ∈ WW ap K
      · exact a1 w z2
      · refine a3 w ((WW_step A nK y w).mpr fun q => z2 (q.mpr e1))
theorem walls_inj (A : Ap ap) {g h : List Nat} (hg : Nrm ap g) (hh : Nrm ap h) (e : ∀ w, w ∈ WW ap g ↔ w ∈ WW ap h) : g = h := by
  obtain ⟨l, _, hl, hw⟩ := walls_between A hg hh
  have l0 : l = [] := List.eq_nil_iff_forall_not_mem.mpr fun w hm => (hw w).mp hm (e w)
  have d0 : F ap (back g ++ h) = [] := by
    have : (F ap (back g ++ h)).length = 0 := by rw [l0] at hl; exact hl.symm
    exact List.eq_nil_of_length_eq_zero this
  have := (F_cancel A).mp d0
  have eg : F ap g = g := hg.fold
  have eh : F ap h = h := hh.fold
  rw [eg, eh] at this
  exact this
theorem len_walls {A : Ap ap} {K : List Nat} (hK : Nrm ap K) {W : List Wall} (h : ∀ w ∈ WW ap K, w ∈ W) : K.length ≤ W.length := by
  rw [← WW_len (ap := ap) K]
  exact nd_len (WW_nodup A hK) h
def bls : Nat → List (List Bool)
  | 0 => [[]]
  | n + 1 => (bls n).map (true :: ·) ++ (bls n).map (false :: ·)
theorem bls_len : ∀ n, (bls n).length = 2 ^ n
  | 0 => rfl
  | n + 1 => by unfold bls; rw [List.length_append, List.length_map, List.length_map, bls_len n]; omega
theorem bls_mem : ∀ (l : List Bool), l ∈ bls l.length
  | [] => by simp [bls]
  | true :: l => by simp [bls, bls_mem l]
  | false :: l => by simp [bls, bls_mem l]
def told (ap : Nat → Nat → Bool) (W : List Wall) (K : List Nat) : List Bool := W.map fun w => decide (w ∈ WW ap K)
theorem told_inj (A : Ap ap) {W : List Wall} {g h : List Nat} (hg : Nrm ap g) (hh : Nrm ap h) (wg : ∀ w ∈ WW ap g, w ∈ W) (wh : ∀ w ∈ WW ap h, w ∈ W) (e : told ap W g = told ap W h) : g = h := by
  refine walls_inj A hg hh fun w => ?_
  have key : ∀ w ∈ W, (w ∈ WW ap g ↔ w ∈ WW ap h) := fun w hw => by
    have := List.map_inj_left.mp e w hw
    simpa using this
  exact ⟨fun z => (key w (wg w z)).mp z, fun z => (key w (wh w z)).mpr z⟩
theorem many (A : Ap ap) {W : List Wall} {L : List (List Nat)} (nd : L.Nodup) (h : ∀ K ∈ L, Nrm ap K ∧ ∀ w ∈ WW ap K, w ∈ W) : L.length ≤ 2 ^ W.length := by
  have : (L.map (told ap W)).Nodup := by
    refine List.pairwise_map.mpr ?_
    refine nd.imp_of_mem ?_
    intro a b ha hb ne e
    exact ne (told_inj A (h a ha).1 (h b hb).1 (h a ha).2 (h b hb).2 e)
  have l := nd_len (m := bls W.length) this fun x hx => by
    obtain ⟨K, hK, rfl⟩ := List.mem_map.mp hx
    have : (told ap W K).length = W.length := List.length_map _
    rw [← this]
    exact bls_mem _
  rw [List.length_map, bls_len] at l
  exact l
def Psd (ap : Nat → Nat → Bool) (lines : List (List Nat)) (K : List Nat) : Prop := K = [] ∨ ∃ ws ∈ lines, ∃ i, i ≤ ws.length ∧ K = F ap (ws.take i)
theorem Psd.nrm (A : Ap ap) {lines : List (List Nat)} {K : List Nat} (h : Psd ap lines K) : Nrm ap K := by
  rcases h with rfl | ⟨ws, _, i, _, rfl⟩
  · exact .nil
  · exact F_nrm A _
theorem F_sub'' {ws : List Nat} {k : Nat} : ∀ (l K : List Nat), k ∈ l.foldl (nk ap) K → k ∈ K ∨ k ∈ l
  | [], K, h => .inl h
  | m :: l, K, h => by
    rcases F_sub'' (ws := ws) l (nk ap K m) h with z | z
    · rcases nk_sub z with z | z
      · exact .inl z
      · exact .inr (by rw [z]; simp)
    · exact .inr (by simp [z])
theorem Psd.lt {n : Nat} {lines : List (List Nat)} (hl : ∀ ws ∈ lines, ∀ k ∈ ws, k < n) {K : List Nat} (h : Psd ap lines K) : ∀ k ∈ K, k < n := by
  rcases h with rfl | ⟨ws, hw, i, _, rfl⟩
  · intro k hk; cases hk
  · intro k hk
    rcases F_sub'' (ws := ws) _ _ hk with z | z
    · cases z
    · exact hl ws hw k (List.take_subset _ _ z)
theorem WW_pass (A : Ap ap) (w : Wall) : ∀ (ws K : List Nat), Nrm ap K → w ∈ WW ap (ws.foldl (nk ap) K) → w ∈ WW ap K ∨ w ∈ nms ap K ws
  | [], K, _, h => .inl h
  | m :: ws, K, hK, h => by
    rcases WW_pass A w ws (nk ap K m) (hK.nk A m) h with z | z
    · by_cases q : w ∈ WW ap K
      · exact .inl q
      · refine .inr ?_
        have e : w = Ed ap K m := Classical.byContradiction fun t => (WW_step A hK m w).mp z ⟨fun u => (q u).elim, fun u => (t u).elim⟩
        rw [e]
        show Ed ap K m ∈ Ed ap K m :: nms ap (nk ap K m) ws
        simp
    · refine .inr ?_
      show w ∈ Ed ap K m :: nms ap (nk ap K m) ws
      simp [z]
def wls (ap : Nat → Nat → Bool) (lines : List (List Nat)) : List Wall := lines.flatMap fun ws => nms ap [] ws
theorem wls_len (lines : List (List Nat)) : (wls ap lines).length = (lines.map List.length).sum := by
  unfold wls
  rw [List.length_flatMap]
  congr 1
  exact List.map_congr_left fun ws _ => nms_len _ _
theorem nms_take (K : List Nat) (ws : List Nat) (i : Nat) : ∀ w ∈ nms ap K (ws.take i), w ∈ nms ap K ws := fun w hw => by
  rw [← List.take_append_drop i ws, nms_app]
  exact List.mem_append_left _ hw
theorem Psd.walls (A : Ap ap) {lines : List (List Nat)} {K : List Nat} (h : Psd ap lines K) : ∀ w ∈ WW ap K, w ∈ wls ap lines := by
  rcases h with rfl | ⟨ws, hw, i, _, rfl⟩
  · intro w z; cases z
  · intro w z
    rcases WW_pass A w _ _ .nil z with q | q
    · cases q
    · exact List.mem_flatMap.mpr ⟨ws, hw, nms_take _ _ _ w q⟩
abbrev HL (ap : Nat → Nat → Bool) (n : Nat) (lines : List (List Nat)) : List Nat → Prop := Hull ap n (Psd ap lines)
theorem HL.ok (A : Ap ap) {n : Nat} {lines : List (List Nat)} {K : List Nat} (h : HL ap n lines K) : Nrm ap K ∧ ∀ w ∈ WW ap K, w ∈ wls ap lines :=
  ⟨Hull.nrm A (fun _ z => z.nrm A) h, Hull.walls A (fun _ z => z.nrm A) (fun _ z => z.walls A) h⟩
theorem HL.len (A : Ap ap) {n : Nat} {lines : List (List Nat)} {K : List Nat} (h : HL ap n lines K) : K.length ≤ (lines.map List.length).sum := by
  rw [← wls_len (ap := ap)]
  exact len_walls (A := A) (h.ok A).1 (h.ok A).2
theorem HL.many (A : Ap ap) {n : Nat} {lines : List (List Nat)} {L : List (List Nat)} (nd : L.Nodup) (h : ∀ K ∈ L, HL ap n lines K) : L.length ≤ 2 ^ (lines.map List.length).sum := by
  rw [← wls_len (ap := ap)]
  exact NF.many A nd fun K hK => (h K hK).ok A
end NF
namespace NF
variable {ap : Nat → Nat → Bool}
theorem Clo.of (A : Ap ap) {n : Nat} {S : List (List Nat)} (nr : ∀ K ∈ S, Nrm ap K) (h : ∀ K ∈ S, ∀ i j, j < i → i < n → com ap i j = true → nk ap K i ∈ S → nk ap K j ∈ S → nk ap (nk ap K i) j ∈ S) : Clo ap n (fun K => K ∈ S) := ⟨fun K x y hK hx hy lx ly c => by
  rcases Nat.lt_trichotomy x y with l | l | l
  · have c' := (com_sym A y x).trans c
    rw [nk_comm A (nr K hK) c]
    exact h K hK y x l ly c' hy hx
  · subst l; rw [com_irr A] at c; cases c
  · exact h K hK x y l lx c hx hy⟩
structure Sm (ap : Nat → Nat → Bool) (lines : List (List Nat)) : Prop where
  ex : ∃ W : List Wall, W.length ≤ 16 ∧ ∀ w ∈ wls ap lines, w ∈ W
  le : ∀ ws ∈ lines, ws.length ≤ 2200000
theorem sum_ge {x : Nat} : ∀ {l : List Nat}, x ∈ l → x ≤ l.sum
  | a :: l, h => by
    rw [List.sum_cons]
    rcases List.mem_cons.mp h with z | z
    · omega
    · have := sum_ge z; omega
theorem Sm.sum {lines : List (List Nat)} (h : (lines.map List.length).sum ≤ 16) : Sm ap lines :=
  ⟨⟨wls ap lines, by rw [wls_len]; exact h, fun _ z => z⟩, fun ws hw => by
    have : ws.length ≤ (lines.map List.length).sum := sum_ge (List.mem_map_of_mem hw)
    omega⟩
theorem Sm.one {ws : List Nat} (h : ws.length ≤ 16) : Sm ap [ws] := Sm.sum (by simpa using h)
theorem Sm.len (A : Ap ap) {n : Nat} {lines : List (List Nat)} (h : Sm ap lines) {K : List Nat} (hK : HL ap n lines K) : K.length ≤ 16 := by
  obtain ⟨W, l, hW⟩ := h.ex
  exact Nat.le_trans (len_walls (A := A) (hK.ok A).1 fun w hw => hW w ((hK.ok A).2 w hw)) l
theorem Sm.many (A : Ap ap) {n : Nat} {lines : List (List Nat)} (h : Sm ap lines) {L : List (List Nat)} (nd : L.Nodup) (hL : ∀ K ∈ L, HL ap n lines K) : L.length ≤ 65536 := by
  obtain ⟨W, l, hW⟩ := h.ex
  exact Nat.le_trans (NF.many A nd fun K hK => ⟨((hL K hK).ok A).1, fun w hw => hW w (((hL K hK).ok A).2 w hw)⟩) (Nat.pow_le_pow_right (by omega) l)
theorem nms_back (A : Ap ap) (w : Wall) : ∀ (us K : List Nat), Nrm ap K → w ∈ nms ap K (us ++ back us) → w ∈ nms ap K us
  | [], K, _, h => h
  | a :: r, K, hK, h => by
    have e : (a :: r) ++ back (a :: r) = a :: (r ++ back r ++ [inv a]) := by unfold back; simp
    rw [e] at h
    have h : w ∈ Ed ap K a :: nms ap (nk ap K a) (r ++ back r ++ [inv a]) := h
    show w ∈ Ed ap K a :: nms ap (nk ap K a) r
    rcases List.mem_cons.mp h with z | z
    · rw [z]; simp
    · rw [nms_app] at z
      rcases List.mem_append.mp z with z | z
      · exact List.mem_cons_of_mem _ (nms_back A w r _ (hK.nk A a) z)
      · have e2 : (r ++ back r).foldl (nk ap) (nk ap K a) = nk ap K a := fold_back A (hK.nk A a) _ r rfl
        rw [e2] at z
        have z : w ∈ [Ed ap (nk ap K a) (inv a)] := z
        rw [List.mem_singleton.mp z, Ed_back A hK]
        simp
theorem Sm.back (A : Ap ap) {us vs : List Nat} (h : us.length + vs.length ≤ 16) : Sm ap [us ++ (NF.back us ++ vs)] := by
  refine ⟨⟨nms ap [] us ++ nms ap [] vs, by rw [List.length_append, nms_len, nms_len]; exact h, fun w hw => ?_⟩, fun ws hw => ?_⟩
  · have hw : w ∈ nms ap [] (us ++ (NF.back us ++ vs)) := by
      obtain ⟨x, hx, z⟩ := List.mem_flatMap.mp hw
      rw [List.mem_singleton.mp hx] at z
      exact z
    rw [← List.append_assoc, nms_app] at hw
    rcases List.mem_append.mp hw with z | z
    · exact List.mem_append_left _ (nms_back A w us [] .nil z)
    · have e2 : (us ++ NF.back us).foldl (nk ap) [] = [] := F_back A us
      rw [e2] at z
      exact List.mem_append_right _ z
  · rw [List.mem_singleton.mp hw, List.length_append, List.length_append, back_len]; omega
abbrev Fs (ap : Nat → Nat → Bool) (L : List (List Nat)) : List (List Nat) := L.map (F ap)
def PutL (ap : Nat → Nat → Bool) (L : List (List Nat)) (ws : List Nat) : List (List Nat) := if F ap ws ∈ Fs ap L then L.map (fun a => if F ap a = F ap ws then ws else a) else L ++ [ws]
theorem PutL.fs (L : List (List Nat)) (ws : List Nat) : Fs ap (PutL ap L ws) = if F ap ws ∈ Fs ap L then Fs ap L else Fs ap L ++ [F ap ws] := by
  unfold PutL
  split
  · unfold Fs
    rw [List.map_map]
    refine List.map_congr_left fun a _ => ?_
    show F ap (if F ap a = F ap ws then ws else a) = F ap a
    split
    · rename_i e; exact e.symm
    · rfl
  · unfold Fs; rw [List.map_append]; rfl
theorem PutL.mem {L : List (List Nat)} {ws a : List Nat} (h : a ∈ PutL ap L ws) : a ∈ L ∨ a = ws := by
  unfold PutL at h
  split at h
  · obtain ⟨b, hb, rfl⟩ := List.mem_map.mp h
    split
    · exact .inr rfl
    · exact .inl hb
  · rcases List.mem_append.mp h with z | z
    · exact .inl z
    · exact .inr (List.mem_singleton.mp z)
theorem PutL.fs_mem {L : List (List Nat)} {ws K : List Nat} : K ∈ Fs ap (PutL ap L ws) ↔ K ∈ Fs ap L ∨ K = F ap ws := by
  rw [PutL.fs]
  split
  · rename_i e
    exact ⟨.inl, fun z => z.elim id fun q => q ▸ e⟩
  · rw [List.mem_append, List.mem_singleton]
theorem PutL.nd {L : List (List Nat)} (h : (Fs ap L).Nodup) (ws : List Nat) : (Fs ap (PutL ap L ws)).Nodup := by
  rw [PutL.fs]
  split
  · exact h
  · rename_i e
    refine List.nodup_append.mpr ⟨h, by simp, fun a ha b hb => ?_⟩
    rw [List.mem_singleton.mp hb]
    exact fun z => e (z ▸ ha)
structure P1 (ap : Nat → Nat → Bool) (n : Nat) (lines : List (List Nat)) (W : Nat) (L : List (List Nat)) : Prop where
  nd : (Fs ap L).Nodup
  psd : ∀ K ∈ Fs ap L, Psd ap lines K
  lt : ∀ ws ∈ L, ∀ k ∈ ws, k < n
  len : ∀ ws ∈ L, ws.length ≤ W
  nil : [] ∈ Fs ap L
theorem P1.put {n W : Nat} {lines L : List (List Nat)} (h : P1 ap n lines W L) {ws : List Nat} (hp : Psd ap lines (F ap ws)) (hl : ∀ k ∈ ws, k < n) (l : ws.length ≤ W) : P1 ap n lines W (PutL ap L ws) :=
  ⟨PutL.nd h.nd ws, fun K hK => (PutL.fs_mem.mp hK).elim (h.psd K) fun e => e ▸ hp, fun a ha => (PutL.mem ha).elim (h.lt a) fun e => e ▸ hl, fun a ha => (PutL.mem ha).elim (h.len a) fun e => e ▸ l, PutL.fs_mem.mpr (.inl h.nil)⟩
theorem P1.many {n W : Nat} {lines L : List (List Nat)} (A : Ap ap) (h : P1 ap n lines W L) (hs : Sm ap lines) : L.length ≤ 65536 := by
  have := hs.many (n := n) A h.nd (fun K hK => Hull.base (h.psd K hK))
  rwa [List.length_map] at this
structure Ph (ap : Nat → Nat → Bool) (n : Nat) (lines : List (List Nat)) (W : Nat) (L : List (List Nat)) : Prop where
  nd : (Fs ap L).Nodup
  snd : ∀ K ∈ Fs ap L, HL ap n lines K
  bas : ∀ K, Psd ap lines K → K ∈ Fs ap L
  lt : ∀ ws ∈ L, ∀ k ∈ ws, k < n
  len : ∀ ws ∈ L, ws.length ≤ W + 2 * L.length
theorem Ph.many {n W : Nat} {lines L : List (List Nat)} (A : Ap ap) (h : Ph ap n lines W L) (hs : Sm ap lines) : L.length ≤ 65536 := by
  have := hs.many (n := n) A h.nd h.snd
  rwa [List.length_map] at this
theorem F_two (ws : List Nat) (i j : Nat) : F ap (ws ++ [i, j]) = nk ap (nk ap (F ap ws) i) j := by unfold F; rw [List.foldl_append]; rfl
theorem F_one (ws : List Nat) (i : Nat) : F ap (ws ++ [i]) = nk ap (F ap ws) i := by unfold F; rw [List.foldl_append]; rfl
theorem Ph.add {n W : Nat} {lines L : List (List Nat)} (h : Ph ap n lines W L) {ws : List Nat} (hw : ws ∈ L) {i j : Nat} (hi : i < n) (hj : j < n) (c : com ap i j = true) (m1 : nk ap (F ap ws) i ∈ Fs ap L) (m2 : nk ap (F ap ws) j ∈ Fs ap L) (m3 : nk ap (nk ap (F ap ws) i) j ∉ Fs ap L) : Ph ap n lines W (L ++ [ws ++ [i, j]]) := by
  have e : Fs ap (L ++ [ws ++ [i, j]]) = Fs ap L ++ [nk ap (nk ap (F ap ws) i) j] := by
    unfold Fs; rw [List.map_append]
    show _ ++ [F ap (ws ++ [i, j])] = _
    rw [F_two]
  have hm : F ap ws ∈ Fs ap L := List.mem_map_of_mem hw
  refine ⟨?_, fun K hK => ?_, fun K hK => ?_, fun a ha => ?_, fun a ha => ?_⟩
  · rw [e]
    refine List.nodup_append.mpr ⟨h.nd, by simp, fun a ha b hb => ?_⟩
    rw [List.mem_singleton.mp hb]
    exact fun z => m3 (z ▸ ha)
  · rw [e] at hK
    rcases List.mem_append.mp hK with z | z
    · exact h.snd K z
    · rw [List.mem_singleton.mp z]
      exact .sq (h.snd _ hm) (h.snd _ m1) (h.snd _ m2) hi hj c
  · rw [e]; exact List.mem_append_left _ (h.bas K hK)
  · rcases List.mem_append.mp ha with z | z
    · exact h.lt a z
    · rw [List.mem_singleton.mp z]
      intro k hk
      rcases List.mem_append.mp hk with q | q
      · exact h.lt ws hw k q
      · simp only [List.mem_cons, List.not_mem_nil, or_false] at q
        rcases q with rfl | rfl <;> assumption
  · rw [List.length_append]
    rcases List.mem_append.mp ha with z | z
    · have := h.len a z; omega
    · rw [List.mem_singleton.mp z, List.length_append]
      have := h.len ws hw
      simp only [List.length_cons, List.length_nil]; omega
def Ful (ap : Nat → Nat → Bool) (n : Nat) (S : List (List Nat)) (K : List Nat) : Prop := ∀ i j, j < i → i < n → com ap i j = true → nk ap K i ∈ S → nk ap K j ∈ S → nk ap (nk ap K i) j ∈ S
theorem Ph.done {n W : Nat} {lines L : List (List Nat)} (A : Ap ap) (h : Ph ap n lines W L) (hf : ∀ ws ∈ L, Ful ap n (Fs ap L) (F ap ws)) {K : List Nat} : K ∈ Fs ap L ↔ HL ap n lines K := by
  refine ⟨h.snd K, fun hK => ?_⟩
  refine Hull.least (S := fun K => K ∈ Fs ap L) (Clo.of A (fun K hK => (HL.ok A (h.snd K hK)).1) fun K hK => ?_) h.bas hK
  obtain ⟨ws, hw, rfl⟩ := List.mem_map.mp hK
  exact hf ws hw
structure Nr (ap : Nat → Nat → Bool) (L N : List (List Nat)) : Prop where
  sub : ∀ K ∈ N, K ∈ Fs ap L
  nd : N.Nodup
theorem Nr.len {L N : List (List Nat)} (h : Nr ap L N) : N.length ≤ L.length := by
  have := nd_len h.nd h.sub
  rwa [List.length_map] at this
theorem Nr.add {L N : List (List Nat)} (h : Nr ap L N) {K : List Nat} (hK : K ∈ Fs ap L) (hn : K ∉ N) : Nr ap L (N ++ [K]) := ⟨fun X hX => by
  rcases List.mem_append.mp hX with z | z
  · exact h.sub X z
  · rw [List.mem_singleton.mp z]; exact hK, List.nodup_append.mpr ⟨h.nd, by simp, fun a ha b hb => by
    rw [List.mem_singleton.mp hb]
    exact fun z => hn (z ▸ ha)⟩⟩
theorem Nr.more {L N M : List (List Nat)} (h : Nr ap L N) : Nr ap (L ++ M) N := ⟨fun X hX => by
  show X ∈ (L ++ M).map (F ap)
  rw [List.map_append]; exact List.mem_append_left _ (h.sub X hX), h.nd⟩
end NF
namespace NF
variable {ap : Nat → Nat → Bool}
abbrev Pk := List Nat × Option (List Nat × Nat × Nat)
abbrev Gf (G : List Pk) : List (List Nat) := G.map (·.1)
def Sq (ap : Nat → Nat → Bool) (n : Nat) (S : List (List Nat)) (K C : List Nat) (x y : Nat) : Prop := x < n ∧ y < n ∧ com ap x y = true ∧ C ∈ S ∧ nk ap C x ∈ S ∧ nk ap C y ∈ S ∧ K = nk ap (nk ap C x) y
def SqOk (ap : Nat → Nat → Bool) (n : Nat) (S : List (List Nat)) (p : Pk) : Prop := ∀ C x y, p.2 = some (C, x, y) → Sq ap n S p.1 C x y
theorem SqOk.mono {n : Nat} {S S' : List (List Nat)} {p : Pk} (h : SqOk ap n S p) (s : ∀ K ∈ S, K ∈ S') : SqOk ap n S' p := fun C x y e => by
  obtain ⟨a, b, c, d, e1, f, z⟩ := h C x y e
  exact ⟨a, b, c, s _ d, s _ e1, s _ f, z⟩
def AddOk (ap : Nat → Nat → Bool) (n : Nat) (S : List (List Nat)) (A : List Pk) : Prop := ∀ p ∈ A, ∃ C x y, p.2 = some (C, x, y) ∧ Sq ap n S p.1 C x y
def Cmp (ap : Nat → Nat → Bool) (n : Nat) (S : List (List Nat)) (K : List Nat) (A : List Pk) : Prop := ∀ x y, x < n → y < n → com ap x y = true → nk ap K x ∈ S → (y < x → nk ap K y ∈ S → nk ap (nk ap K x) y ∈ Gf A) ∧ (nk ap (nk ap K x) y ∈ S → nk ap K y ∈ Gf A)
structure Cl (ap : Nat → Nat → Bool) (n : Nat) (B : List Nat → Prop) (G Wt : List Pk) (a : Nat) : Prop where
  nd : (Gf G).Nodup
  hg : ∀ p ∈ G, Hull ap n B p.1
  hw : ∀ p ∈ Wt, Hull ap n B p.1
  bas : ∀ K, B K → K ∈ Gf Wt
  did : ∀ p ∈ Wt.take a, p.1 ∈ Gf G
  sq : ∀ C x y, x < n → y < n → com ap x y = true → C ∈ Gf G → nk ap C x ∈ Gf G → nk ap C y ∈ Gf G → nk ap (nk ap C x) y ∈ Gf Wt
  gs : ∀ i p, G[i]? = some p → SqOk ap n (Gf (G.take i)) p
  ws : ∀ p ∈ Wt, SqOk ap n (Gf G) p
  gb : ∀ p ∈ G, p.2 = none → B p.1
  wb : ∀ p ∈ Wt, p.2 = none → B p.1
theorem Cl.start {n : Nat} {keys : List (List Nat)} : Cl ap n (fun K => K ∈ keys) [] (keys.map fun K => (K, none)) 0 where
  nd := by simp
  hg := fun p hp => by cases hp
  hw := fun p hp => by
    obtain ⟨K, hK, rfl⟩ := List.mem_map.mp hp
    exact .base hK
  bas := fun K hK => by
    show K ∈ (keys.map fun K => ((K, none) : Pk)).map (·.1)
    rw [List.map_map]
    exact List.mem_map.mpr ⟨K, hK, rfl⟩
  did := fun p hp => by rw [List.take_zero] at hp; cases hp
  sq := fun C x y _ _ _ h => by cases h
  gs := fun i p hp => by rw [List.getElem?_nil] at hp; cases hp
  ws := fun p hp C x y e => by
    obtain ⟨K, hK, rfl⟩ := List.mem_map.mp hp
    cases e
  gb := fun p hp => by cases hp
  wb := fun p hp _ => by
    obtain ⟨K, hK, rfl⟩ := List.mem_map.mp hp
    exact hK
theorem take_succ' {α : Type} {l : List α} {i : Nat} {d : α} (h : l[i]? = some d) : l.take (i + 1) = l.take i ++ [d] := by
  rw [List.take_succ, h]; rfl
theorem Cl.skip {n : Nat} {B : List Nat → Prop} {G Wt : List Pk} {a : Nat} (h : Cl ap n B G Wt a) {p : Pk} (hp : Wt[a]? = some p) (hm : p.1 ∈ Gf G) : Cl ap n B G Wt (a + 1) :=
  ⟨h.nd, h.hg, h.hw, h.bas, fun q hq => by
    rw [take_succ' hp] at hq
    rcases List.mem_append.mp hq with z | z
    · exact h.did q z
    · rw [List.mem_singleton.mp z]; exact hm, h.sq, h.gs, h.ws, h.gb, h.wb⟩
theorem Gf_app (G A : List Pk) : Gf (G ++ A) = Gf G ++ Gf A := List.map_append
theorem Cl.add (A' : Ap ap) {n : Nat} (hn : ∀ x, x < n → inv x < n) {B : List Nat → Prop} (hB : ∀ K, B K → Nrm ap K) {G Wt : List Pk} {a : Nat} (h : Cl ap n B G Wt a) {p : Pk} (hp : Wt[a]? = some p) (hm : p.1 ∉ Gf G) {A : List Pk} (ho : AddOk ap n (Gf (G ++ [p])) A) (hc : Cmp ap n (Gf (G ++ [p])) p.1 A) : Cl ap n B (G ++ [p]) (Wt ++ A) (a + 1) := by
  have hpm := List.mem_of_getElem? hp
  have hal := (List.getElem?_eq_some_iff.mp hp).1
  have eG : Gf (G ++ [p]) = Gf G ++ [p.1] := Gf_app _ _
  have hG : ∀ q ∈ G ++ [p], Hull ap n B q.1 := fun q hq => by
    rcases List.mem_append.mp hq with z | z
    · exact h.hg q z
    · rw [List.mem_singleton.mp z]; exact h.hw p hpm
  have hS : ∀ K ∈ Gf (G ++ [p]), Hull ap n B K := fun K hK => by
    obtain ⟨q, hq, rfl⟩ := List.mem_map.mp hK
    exact hG q hq
  have up : ∀ K ∈ Gf G, K ∈ Gf (G ++ [p]) := fun K hK => by rw [eG]; exact List.mem_append_left _ hK
  refine ⟨?_, hG, fun q hq => ?_, fun K hK => ?_, fun q hq => ?_, fun C x y hx hy c m1 m2 m3 => ?_, fun i q hq => ?_, fun q hq => ?_, fun q hq => ?_, fun q hq => ?_⟩
  · rw [eG]
    refine List.nodup_append.mpr ⟨h.nd, by simp, fun u hu v hv => ?_⟩
    rw [List.mem_singleton.mp hv]
    exact fun z => hm (z ▸ hu)
  · rcases List.mem_append.mp hq with z | z
    · exact h.hw q z
    · obtain ⟨C, x, y, _, hx, hy, c, m1, m2, m3, e⟩ := ho q z
      rw [e]; exact .sq (hS _ m1) (hS _ m2) (hS _ m3) hx hy c
  · rw [Gf_app]; exact List.mem_append_left _ (h.bas K hK)
  · rw [List.take_append_of_le_length (by omega), take_succ' hp] at hq
    rcases List.mem_append.mp hq with z | z
    · exact up _ (h.did q z)
    · rw [List.mem_singleton.mp z, eG]; simp
  · have nC : Nrm ap C := Hull.nrm A' hB (hS C m1)
    rw [Gf_app]
    by_cases e1 : C = p.1
    · refine List.mem_append_right _ ?_
      subst e1
      rcases Nat.lt_trichotomy x y with l | l | l
      · rw [nk_comm A' nC c]
        exact (hc y x hy hx ((com_sym A' y x).trans c) m3).1 l m2
      · subst l; rw [com_irr A'] at c; cases c
      · exact (hc x y hx hy c m2).1 l m3
    · by_cases e2 : nk ap C x = p.1
      · refine List.mem_append_right _ ?_
        have eC : nk ap p.1 (inv x) = C := by rw [← e2]; exact nk_back A' nC x
        rw [e2]
        refine (hc (inv x) y (hn x hx) hy (by rw [inv_com]; exact c) (by rw [eC]; exact m1)).2 ?_
        rw [eC]; exact m3
      · by_cases e3 : nk ap C y = p.1
        · refine List.mem_append_right _ ?_
          have eC : nk ap p.1 (inv y) = C := by rw [← e3]; exact nk_back A' nC y
          rw [nk_comm A' nC c, e3]
          refine (hc (inv y) x (hn y hy) hx (by rw [inv_com]; exact (com_sym A' y x).trans c) (by rw [eC]; exact m1)).2 ?_
          rw [eC]; exact m2
        · rw [eG] at m1 m2 m3
          have dn : ∀ {K : List Nat}, K ∈ Gf G ++ [p.1] → K ≠ p.1 → K ∈ Gf G := fun {K} hK ne => by
            rcases List.mem_append.mp hK with z | z
            · exact z
            · exact absurd (List.mem_singleton.mp z) ne
          exact List.mem_append_left _ (h.sq C x y hx hy c (dn m1 e1) (dn m2 e2) (dn m3 e3))
  · by_cases hi : i < G.length
    · rw [List.getElem?_append_left hi] at hq
      rw [List.take_append_of_le_length (by omega)]
      exact h.gs i q hq
    · have hi2 := (List.getElem?_eq_some_iff.mp hq).1
      rw [List.length_append] at hi2
      have : i = G.length := by simp at hi2; omega
      subst this
      rw [List.getElem?_append_right (Nat.le_refl _), Nat.sub_self] at hq
      cases hq
      rw [List.take_append_of_le_length (Nat.le_refl _), List.take_length]
      exact h.ws p hpm
  · rcases List.mem_append.mp hq with z | z
    · exact (h.ws q z).mono up
    · obtain ⟨C, x, y, e, s⟩ := ho q z
      intro C' x' y' e'
      rw [e] at e'
      cases e'
      exact s
  · rcases List.mem_append.mp hq with z | z
    · exact h.gb q z
    · rw [List.mem_singleton.mp z]; exact h.wb p hpm
  · rcases List.mem_append.mp hq with z | z
    · exact h.wb q z
    · obtain ⟨C, x, y, e, s⟩ := ho q z
      intro e'
      rw [e] at e'
      cases e'
theorem Cl.done {n : Nat} {B : List Nat → Prop} {G Wt : List Pk} {a : Nat} (h : Cl ap n B G Wt a) (ha : Wt.length ≤ a) {K : List Nat} : K ∈ Gf G ↔ Hull ap n B K := by
  have all : ∀ K ∈ Gf Wt, K ∈ Gf G := fun K hK => by
    obtain ⟨q, hq, rfl⟩ := List.mem_map.mp hK
    exact h.did q (by rw [List.take_of_length_le ha]; exact hq)
  refine ⟨fun hK => ?_, fun hK => ?_⟩
  · obtain ⟨q, hq, rfl⟩ := List.mem_map.mp hK
    exact h.hg q hq
  · exact Hull.least (S := fun K => K ∈ Gf G) ⟨fun C x y m1 m2 m3 hx hy c => all _ (h.sq C x y hx hy c m1 m2 m3)⟩ (fun K hK => all _ (h.bas K hK)) hK
end NF
namespace NF
variable {ap : Nat → Nat → Bool}
def Ins (ap : Nat → Nat → Bool) (S : List Nat → Prop) (ws : List Nat) : Prop := ∀ i, i ≤ ws.length → S (F ap (ws.take i))
theorem Ins.congr {S S' : List Nat → Prop} (h : ∀ K, S K ↔ S' K) (ws : List Nat) : Ins ap S ws ↔ Ins ap S' ws := ⟨fun z i hi => (h _).mp (z i hi), fun z i hi => (h _).mpr (z i hi)⟩
def Same (ap : Nat → Nat → Bool) (n : Nat) (u v : List Nat) : Prop := F ap u = F ap v ∧ Ins ap (HL ap n [u]) v ∧ Ins ap (HL ap n [v]) u
theorem Ins.psd {n : Nat} {l : List (List Nat)} {v : List Nat} (h : Ins ap (HL ap n l) v) : ∀ K, Psd ap [v] K → HL ap n l K := fun K hK => by
  rcases hK with rfl | ⟨ws, hw, i, hi, rfl⟩
  · exact .base (.inl rfl)
  · rw [List.mem_singleton.mp hw] at hi ⊢
    exact h i hi
theorem Ins.hull {n : Nat} {l : List (List Nat)} {v : List Nat} : Ins ap (HL ap n l) v ↔ ∀ K, HL ap n [v] K → HL ap n l K :=
  ⟨fun h K hK => Hull.mono h.psd hK, fun h i hi => h _ (.base (.inr ⟨v, by simp, i, hi, rfl⟩))⟩
theorem Same.hull {n : Nat} {u v : List Nat} : Same ap n u v ↔ F ap u = F ap v ∧ ∀ K, HL ap n [u] K ↔ HL ap n [v] K := by
  unfold Same
  rw [Ins.hull, Ins.hull]
  exact ⟨fun h => ⟨h.1, fun K => ⟨h.2.2 K, h.2.1 K⟩⟩, fun h => ⟨h.1, fun K hK => (h.2 K).mpr hK, fun K hK => (h.2 K).mp hK⟩⟩
theorem HL.pass {n : Nat} {v : List Nat} {i : Nat} (h : i ≤ v.length) : HL ap n [v] (F ap (v.take i)) := .base (.inr ⟨v, by simp, i, h, rfl⟩)
theorem F_there (A : Ap ap) (p q : List Nat) : F ap (p ++ q ++ back q) = F ap p := by
  rw [List.append_assoc, F_app A]
  exact fold_back A (F_nrm A p) _ q rfl
theorem F_on (A : Ap ap) (us v : List Nat) : F ap (us ++ (back us ++ v)) = F ap v := by
  rw [← List.append_assoc, F_app A, F_back A]
theorem Same.back (A : Ap ap) {n : Nat} {us vs : List Nat} (h : Ins ap (HL ap n [vs]) us) : Same ap n (us ++ (back us ++ vs)) vs := by
  refine ⟨F_on A us vs, fun i hi => ?_, fun i hi => ?_⟩
  · have e : (us ++ (NF.back us ++ vs)).take (us.length + us.length + i) = us ++ (NF.back us ++ vs.take i) := by
      rw [List.take_append, List.take_of_length_le (by omega)]
      congr 1
      rw [List.take_append, List.take_of_length_le (by rw [back_len]; omega)]
      congr 2
      rw [back_len]; omega
    have := HL.pass (ap := ap) (n := n) (v := us ++ (NF.back us ++ vs)) (i := us.length + us.length + i) (by rw [List.length_append, List.length_append, back_len]; omega)
    rw [e, F_on A] at this
    exact this
  · rw [List.length_append, List.length_append, back_len] at hi
    by_cases h1 : i ≤ us.length
    · rw [List.take_append_of_le_length h1]
      exact h i h1
    · by_cases h2 : i ≤ us.length + us.length
      · have e : (us ++ (NF.back us ++ vs)).take i = us.take (us.length - (i - us.length)) ++ us.drop (us.length - (i - us.length)) ++ NF.back (us.drop (us.length - (i - us.length))) := by
          rw [List.take_append_drop, List.take_append, List.take_of_length_le (by omega)]
          congr 1
          rw [List.take_append_of_le_length (by rw [back_len]; omega)]
          conv => lhs; rw [← List.take_append_drop (us.length - (i - us.length)) us, back_app]
          rw [List.take_append_drop]
          have hl : (NF.back (us.drop (us.length - (i - us.length)))).length = i - us.length := by rw [back_len, List.length_drop]; omega
          rw [List.take_append_of_le_length (by omega), List.take_of_length_le (by omega)]
        rw [e, F_there A]
        exact h _ (by omega)
      · have e : (us ++ (NF.back us ++ vs)).take i = us ++ (NF.back us ++ vs.take (i - us.length - us.length)) := by
          rw [List.take_append, List.take_of_length_le (by omega)]
          congr 1
          rw [List.take_append, List.take_of_length_le (by rw [back_len]; omega)]
          congr 2
          rw [back_len]
        rw [e, F_on A]
        exact HL.pass (by omega)
end NF
namespace NF
variable {ap : Nat → Nat → Bool}
def Pas (ap : Nat → Nat → Bool) (S : List Nat → Prop) : List Nat → List Nat → Prop
  | K, [] => S K
  | K, x :: w => S K ∧ Pas ap S (nk ap K x) w
theorem Pas.start {S : List Nat → Prop} {K w : List Nat} (h : Pas ap S K w) : S K := by
  cases w with
  | nil => exact h
  | cons => exact h.1
theorem Pas.app {S : List Nat → Prop} : ∀ {u v K : List Nat}, Pas ap S K (u ++ v) ↔ Pas ap S K u ∧ Pas ap S (u.foldl (nk ap) K) v
  | [], v, K => ⟨fun h => ⟨h.start, h⟩, fun h => h.2⟩
  | x :: u, v, K => by
    show S K ∧ Pas ap S (nk ap K x) (u ++ v) ↔ (S K ∧ Pas ap S (nk ap K x) u) ∧ Pas ap S (u.foldl (nk ap) (nk ap K x)) v
    rw [Pas.app, and_assoc]
theorem Pas.at {S : List Nat → Prop} : ∀ {w K : List Nat}, Pas ap S K w ↔ ∀ i, i ≤ w.length → S ((w.take i).foldl (nk ap) K)
  | [], K => ⟨fun h i hi => by rw [List.take_nil]; exact h, fun h => h 0 (Nat.le_refl _)⟩
  | x :: w, K => by
    show S K ∧ Pas ap S (nk ap K x) w ↔ _
    rw [Pas.at]
    constructor
    · rintro ⟨h1, h2⟩ i hi
      cases i with
      | zero => exact h1
      | succ i => exact h2 i (by simpa using hi)
    · intro h
      exact ⟨h 0 (Nat.zero_le _), fun i hi => h (i + 1) (by simpa using hi)⟩
structure Cv (ap : Nat → Nat → Bool) (n : Nat) (S : List Nat → Prop) : Prop where
  clo : Clo ap n S
  nrm : ∀ K, S K → Nrm ap K
  inv : ∀ x, x < n → NF.inv x < n
theorem Cv.two (A : Ap ap) {n : Nat} {S : List Nat → Prop} (c : Cv ap n S) {K : List Nat} {x y : Nat} (hx : x < n) (hy : y < n) (co : com ap x y = true) {b : List Nat} (h : Pas ap S K (x :: y :: b)) : Pas ap S K (y :: x :: b) := by
  obtain ⟨h1, h2, h3⟩ := h
  have nK := c.nrm K h1
  have eb : nk ap (nk ap K x) (NF.inv x) = K := nk_back A nK x
  have m : S (nk ap K y) := by
    have := c.clo.sq (nk ap K x) (NF.inv x) y h2 (by rw [eb]; exact h1) h3.start (c.inv x hx) hy (by rw [inv_com]; exact co)
    rwa [eb] at this
  refine ⟨h1, m, ?_⟩
  rw [← nk_comm A nK co]
  exact h3
theorem Cv.sws (A : Ap ap) {n : Nat} {S : List Nat → Prop} (c : Cv ap n S) {K u v : List Nat} (hs : Sws ap u v) (hu : ∀ k ∈ u, k < n) : Pas ap S K u ↔ Pas ap S K v := by
  induction hs with
  | refl => exact Iff.rfl
  | @step a b x y s co ih =>
    rw [ih]
    have hv : ∀ k ∈ a ++ x :: y :: b, k < n := fun k hk => hu k (s.perm.mem_iff.mpr hk)
    have hx : x < n := hv x (by simp)
    have hy : y < n := hv y (by simp)
    rw [Pas.app, Pas.app]
    exact and_congr Iff.rfl ⟨c.two A hx hy co, c.two A hy hx ((com_sym A y x).trans co)⟩
theorem Cv.nk (A : Ap ap) {n : Nat} {S : List Nat → Prop} (c : Cv ap n S) {K w : List Nat} {m : Nat} (hw : ∀ k ∈ w, k < n) (hm : m < n) (h : Pas ap S K (w ++ [m])) : Pas ap S K (NF.nk ap w m) := by
  have hwm : ∀ k ∈ w ++ [m], k < n := fun k hk => (List.mem_append.mp hk).elim (hw k) fun z => by rw [List.mem_singleton.mp z]; exact hm
  by_cases hs : struck ap w m
  · have e : NF.nk ap w m = (pre ap w m).dropLast ++ suf ap w m := by unfold NF.nk; rw [if_pos (show (pre ap w m).getLast? = some (NF.inv m) from hs)]
    have ne : pre ap w m ≠ [] := fun z => by
      unfold struck at hs
      rw [z] at hs
      cases hs
    have ep : (pre ap w m).dropLast ++ [NF.inv m] = pre ap w m := by
      have e1 := List.dropLast_concat_getLast ne
      have e2 : (pre ap w m).getLast ne = NF.inv m := by
        unfold struck at hs
        rw [List.getLast?_eq_some_getLast ne] at hs
        exact Option.some.inj hs
      rw [e2] at e1
      exact e1
    have ew : (pre ap w m).dropLast ++ NF.inv m :: (suf ap w m ++ []) = w := by
      conv => rhs; rw [← pre_suf ap w m, ← ep]
      simp
    have sw := Sws.left (ap := ap) (p := (pre ap w m).dropLast) (m := NF.inv m) _ (suf ap w m) rfl (fun y hy => by rw [com_inv]; exact suf_com ap hy) []
    rw [ew] at sw
    have hw2 : ∀ k ∈ (pre ap w m).dropLast ++ suf ap w m ++ [NF.inv m], k < n := fun k hk => hw k (sw.perm.mem_iff.mp hk)
    have := (c.sws A (K := K) sw hw2).mpr (Pas.app.mp h).1
    rw [e]
    exact (Pas.app.mp this).1
  · exact (c.sws A (sws_free hs) hwm).mp h
theorem Cv.fold (A : Ap ap) {n : Nat} {S : List Nat → Prop} (c : Cv ap n S) {K : List Nat} : ∀ (m : Nat) (w : List Nat), w.length = m → (∀ k ∈ w, k < n) → Pas ap S K w → Pas ap S K (F ap w)
  | 0, w, hl, _, h => by
    have : w = [] := List.length_eq_zero_iff.mp hl
    subst this; exact h
  | m + 1, w, hl, hw, h => by
    rcases List.eq_nil_or_concat w with rfl | ⟨w', x, rfl⟩
    · cases hl
    rw [List.concat_eq_append] at *
    have hw' : ∀ k ∈ w', k < n := fun k hk => hw k (by simp [hk])
    have hx : x < n := hw x (by simp)
    obtain ⟨h1, h2⟩ := Pas.app.mp h
    have ih := Cv.fold A c m w' (by simpa using hl) hw' h1
    rw [F_one]
    have nK := c.nrm K h.start
    refine c.nk A (fun k hk => ?_) hx (Pas.app.mpr ⟨ih, ?_⟩)
    · rcases F_sub'' (ws := w') w' [] hk with z | z
      · cases z
      · exact hw' k z
    · have := fold_nf A nK w'
      show Pas ap S ((w'.foldl (NF.nk ap) []).foldl (NF.nk ap) K) [x]
      rw [this]; exact h2
theorem Cv.back (A : Ap ap) {n : Nat} {S : List Nat → Prop} (c : Cv ap n S) : ∀ {w K : List Nat}, Pas ap S K w → Pas ap S (w.foldl (NF.nk ap) K) (NF.back w)
  | [], K, h => h
  | x :: w, K, h => by
    obtain ⟨h1, h2⟩ := h
    have e : NF.back (x :: w) = NF.back w ++ [NF.inv x] := by unfold NF.back; simp
    rw [e]
    have nx := c.nrm _ h2.start
    refine Pas.app.mpr ⟨c.back A h2, ?_⟩
    have e2 : (NF.back w).foldl (NF.nk ap) ((x :: w).foldl (NF.nk ap) K) = NF.nk ap K x := by
      show (NF.back w).foldl (NF.nk ap) (w.foldl (NF.nk ap) (NF.nk ap K x)) = NF.nk ap K x
      rw [← List.foldl_append]
      exact fold_back A nx _ w rfl
    rw [e2]
    exact ⟨h2.start, by rw [nk_back A (c.nrm K h1) x]; exact h1⟩
theorem hull_cv (A : Ap ap) {n : Nat} (hn : ∀ x, x < n → NF.inv x < n) {B : List Nat → Prop} (hB : ∀ K, B K → Nrm ap K) : Cv ap n (Hull ap n B) := ⟨Hull.clo, fun K hK => Hull.nrm A hB hK, hn⟩
structure Con (ap : Nat → Nat → Bool) (n : Nat) (S B : List Nat → Prop) : Prop where
  way : ∀ K, B K → ∃ w : List Nat, (∀ k ∈ w, k < n) ∧ Pas ap S [] w ∧ w.foldl (nk ap) [] = K
theorem hull_way {n : Nat} {B : List Nat → Prop} (h : Con ap n (Hull ap n B) B) : ∀ {K : List Nat}, Hull ap n B K → ∃ w : List Nat, (∀ k ∈ w, k < n) ∧ Pas ap (Hull ap n B) [] w ∧ w.foldl (nk ap) [] = K := fun {K} k => by
  induction k with
  | base b => exact h.way _ b
  | @sq K x y k1 k2 k3 d e f a1 a2 a3 =>
    obtain ⟨w, hw, hp, e1⟩ := a2
    refine ⟨w ++ [y], fun k hk => (List.mem_append.mp hk).elim (hw k) fun z => by rw [List.mem_singleton.mp z]; exact e, Pas.app.mpr ⟨hp, ?_⟩, by rw [List.foldl_append, e1]; rfl⟩
    rw [e1]
    exact ⟨k2, .sq k1 k2 k3 d e f⟩
theorem hull_convex (A : Ap ap) {n : Nat} (hn : ∀ x, x < n → NF.inv x < n) {B : List Nat → Prop} (hB : ∀ K, B K → Nrm ap K) (h : Con ap n (Hull ap n B) B) {K K' : List Nat} (hK : Hull ap n B K) (hK' : Hull ap n B K') : Pas ap (Hull ap n B) K (F ap (NF.back K ++ K')) := by
  have c := hull_cv A hn hB
  obtain ⟨u, hu, pu, eu⟩ := hull_way h hK
  obtain ⟨v, hv, pv, ev⟩ := hull_way h hK'
  have p1 : Pas ap (Hull ap n B) K (NF.back u) := by
    have := c.back A pu
    rwa [eu] at this
  have e0 : (NF.back u).foldl (nk ap) K = [] := by
    rw [← eu, ← List.foldl_append]
    exact fold_back A .nil _ u rfl
  have p2 : Pas ap (Hull ap n B) K (NF.back u ++ v) := Pas.app.mpr ⟨p1, by rw [e0]; exact pv⟩
  have hl : ∀ k ∈ NF.back u ++ v, k < n := fun k hk => by
    rcases List.mem_append.mp hk with z | z
    · unfold NF.back at z
      obtain ⟨j, hj, rfl⟩ := List.mem_map.mp z
      exact hn j (hu j (List.mem_reverse.mp hj))
    · exact hv k z
  have := c.fold A _ _ rfl hl p2
  have e : F ap (NF.back u ++ v) = F ap (NF.back K ++ K') := by
    have h1 : Eqv ap u K := by
      show F ap u = F ap K
      have : F ap u = K := eu
      rw [this]; exact (c.nrm K hK).fold.symm
    have h2 : Eqv ap v K' := by
      show F ap v = F ap K'
      have : F ap v = K' := ev
      rw [this]; exact (c.nrm K' hK').fold.symm
    exact Eqv.app A (h1.back A) h2
  rw [e] at this
  exact this
theorem psd_con {n : Nat} {lines : List (List Nat)} (hl : ∀ ws ∈ lines, ∀ k ∈ ws, k < n) : Con ap n (HL ap n lines) (Psd ap lines) := ⟨fun K hK => by
  rcases hK with rfl | ⟨ws, hw, i, hi, rfl⟩
  · exact ⟨[], fun k hk => (by cases hk), .base (.inl rfl), rfl⟩
  · refine ⟨ws.take i, fun k hk => hl ws hw k (List.mem_of_mem_take hk), Pas.at.mpr fun j hj => ?_, rfl⟩
    rw [List.take_take]
    rw [List.length_take] at hj
    exact .base (.inr ⟨ws, hw, min j i, by omega, rfl⟩)⟩
end NF
namespace NF
variable {ap : Nat → Nat → Bool}
theorem clo_and {n : Nat} {S T : List Nat → Prop} (c : Clo ap n S) (d : Clo ap n T) : Clo ap n (fun K => S K ∧ T K) := ⟨fun K x y a b e f g i => ⟨c.sq K x y a.1 b.1 e.1 f g i, d.sq K x y a.2 b.2 e.2 f g i⟩⟩
end NF
namespace NF
variable {ap : Nat → Nat → Bool}
theorem Pas.walls (A : Ap ap) {S : List Nat → Prop} {W : List Wall} (hn : ∀ K, S K → Nrm ap K) (hW : ∀ K, S K → ∀ w ∈ WW ap K, w ∈ W) : ∀ {ws K : List Nat}, Pas ap S K ws → ∀ w ∈ nms ap K ws, w ∈ W
  | [], K, _, w, h => by cases h
  | m :: ws, K, h, w, hw => by
    obtain ⟨h1, h2⟩ := h
    have hw : w ∈ Ed ap K m :: nms ap (nk ap K m) ws := hw
    rcases List.mem_cons.mp hw with z | z
    · by_cases q : w ∈ WW ap K
      · exact hW K h1 w q
      · exact hW _ h2.start w ((WW_step A (hn K h1) m w).mpr fun t => q (t.mpr z))
    · exact Pas.walls A hn hW h2 w z
theorem Hull.congr {n : Nat} {B B' : List Nat → Prop} (h : ∀ K, B K ↔ B' K) {K : List Nat} : Hull ap n B K ↔ Hull ap n B' K :=
  ⟨Hull.mono fun X hX => .base ((h X).mp hX), Hull.mono fun X hX => .base ((h X).mpr hX)⟩
theorem Same.all {n : Nat} {u ns : List Nat} (hp : Pas ap (HL ap n [u]) [] ns) (ha : ∀ X, HL ap n [u] X → ∃ j, j ≤ ns.length ∧ X = F ap (ns.take j)) (he : F ap ns = F ap u) : Same ap n ns u := by
  refine Same.hull.mpr ⟨he, fun K => ⟨?_, ?_⟩⟩
  · refine Ins.hull.mp (fun i hi => ?_) K
    exact Pas.at.mp hp i hi
  · refine fun h => ?_
    obtain ⟨j, hj, rfl⟩ := ha K h
    exact HL.pass hj
theorem Pas.go (A : Ap ap) {n : Nat} (hn : ∀ x, x < n → NF.inv x < n) {u : List Nat} (hu : ∀ k ∈ u, k < n) {ns X : List Nat} (hp : Pas ap (HL ap n [u]) [] ns) (hX : HL ap n [u] X) :
    Pas ap (HL ap n [u]) [] (ns ++ F ap (back (F ap ns) ++ X)) ∧ F ap (ns ++ F ap (back (F ap ns) ++ X)) = X := by
  have hl : ∀ ws ∈ [u], ∀ k ∈ ws, k < n := fun ws hw => by rw [List.mem_singleton.mp hw]; exact hu
  have hS : HL ap n [u] (F ap ns) := by
    have := Pas.at.mp hp ns.length (Nat.le_refl _)
    rwa [List.take_length] at this
  refine ⟨Pas.app.mpr ⟨hp, hull_convex A hn (fun K hK => hK.nrm A) (psd_con hl) hS hX⟩, ?_⟩
  rw [F_right A, ← List.append_assoc, F_app A]
  have e : F ap (ns ++ back (F ap ns)) = [] := by
    rw [← F_left A]; exact F_back A _
  rw [e]
  exact (HL.ok A hX).1.fold
end NF
namespace NF
variable {ap : Nat → Nat → Bool}
end NF
namespace NF
variable {ap : Nat → Nat → Bool}
structure Rg (ap : Nat → Nat → Bool) (n : Nat) (S : List Nat → Prop) : Prop where
  clo : Clo ap n S
  nrm : ∀ K, S K → Nrm ap K
  lt : ∀ K, S K → ∀ k ∈ K, k < n
  cvx : ∀ K K', S K → S K' → Pas ap S K (F ap (back K ++ K'))
theorem Rg.hl (A : Ap ap) {n : Nat} (hn : ∀ x, x < n → NF.inv x < n) {lines : List (List Nat)} (hl : ∀ ws ∈ lines, ∀ k ∈ ws, k < n) : Rg ap n (HL ap n lines) :=
  ⟨Hull.clo, fun K hK => (HL.ok A hK).1, fun K hK => Hull.lt (fun X hX => Psd.lt hl hX) hK, fun K K' h h' => hull_convex A hn (fun K hK => hK.nrm A) (psd_con hl) h h'⟩
theorem Pas.mono {S T : List Nat → Prop} (h : ∀ K, S K → T K) : ∀ {w K : List Nat}, Pas ap S K w → Pas ap T K w
  | [], K, p => h K p
  | _ :: _, K, p => ⟨h K p.1, Pas.mono h p.2⟩
theorem Pas.both {S T : List Nat → Prop} : ∀ {w K : List Nat}, Pas ap S K w → Pas ap T K w → Pas ap (fun K => S K ∧ T K) K w
  | [], K, p, q => ⟨p, q⟩
  | _ :: _, K, p, q => ⟨⟨p.1, q.1⟩, Pas.both p.2 q.2⟩
theorem Rg.and (A : Ap ap) {n : Nat} {S T : List Nat → Prop} (h : Rg ap n S) (k : Rg ap n T) : Rg ap n (fun K => S K ∧ T K) :=
  ⟨clo_and h.clo k.clo, fun K z => h.nrm K z.1, fun K z => h.lt K z.1, fun K K' z z' => Pas.both (h.cvx K K' z.1 z'.1) (k.cvx K K' z.2 z'.2)⟩
theorem Rg.congr {n : Nat} {S T : List Nat → Prop} (h : Rg ap n S) (e : ∀ K, S K ↔ T K) : Rg ap n T := by
  have : S = T := funext fun K => propext (e K)
  rw [← this]; exact h
theorem fold_way (A : Ap ap) {K K' : List Nat} (hK : Nrm ap K) (hK' : Nrm ap K') : (F ap (back K ++ K')).foldl (nk ap) K = K' := by
  have e : K = F ap K := hK.fold.symm
  have := F_mul A K (back K ++ K')
  rw [← e] at this
  rw [this, ← List.append_assoc, F_app A, F_back A]
  exact hK'.fold
theorem start_way (A : Ap ap) {n : Nat} {S : List Nat → Prop} (h : Rg ap n S) (h0 : S []) {K : List Nat} (hK : S K) : Pas ap S [] K ∧ K.foldl (nk ap) [] = K := by
  have := h.cvx [] K h0 hK
  have e : F ap (back [] ++ K) = K := (h.nrm K hK).fold
  rw [e] at this
  exact ⟨this, (h.nrm K hK).fold⟩
theorem Rg.join (A : Ap ap) {n : Nat} (hn : ∀ x, x < n → NF.inv x < n) {S T : List Nat → Prop} (h : Rg ap n S) (h0 : S []) (k : Rg ap n T) {e : List Nat} (he : S e) (ke : T e) : Rg ap n (Hull ap n (fun K => S K ∨ T K)) := by
  have hN : ∀ K, (S K ∨ T K) → Nrm ap K := fun K z => z.elim (h.nrm K) (k.nrm K)
  refine ⟨Hull.clo, fun K hK => hK.nrm A hN, fun K hK => hK.lt fun X z => z.elim (h.lt X) (k.lt X), fun K K' z z' => hull_convex A hn hN ⟨fun X hX => ?_⟩ z z'⟩
  have mS : ∀ X, S X → Hull ap n (fun K => S K ∨ T K) X := fun X z => .base (.inl z)
  have mT : ∀ X, T X → Hull ap n (fun K => S K ∨ T K) X := fun X z => .base (.inr z)
  rcases hX with z | z
  · obtain ⟨p, q⟩ := start_way A h h0 z
    exact ⟨X, h.lt X z, p.mono mS, q⟩
  · obtain ⟨p, q⟩ := start_way A h h0 he
    have p2 := k.cvx e X ke z
    refine ⟨e ++ F ap (back e ++ X), fun y hy => ?_, Pas.app.mpr ⟨p.mono mS, by rw [q]; exact p2.mono mT⟩, by rw [List.foldl_append, q, fold_way A (h.nrm e he) (k.nrm X z)]⟩
    rcases List.mem_append.mp hy with w | w
    · exact h.lt e he y w
    · rcases F_sub'' (ws := []) _ _ w with u | u
      · cases u
      · rcases List.mem_append.mp u with v | v
        · unfold back at v
          obtain ⟨j, hj, rfl⟩ := List.mem_map.mp v
          exact hn j (h.lt e he j (List.mem_reverse.mp hj))
        · exact k.lt X z y v
structure Wd (ap : Nat → Nat → Bool) (n : Nat) (S : List Nat → Prop) (e ns : List Nat) : Prop where
  fin : F ap ns = e
  all : ∀ K, HL ap n [ns] K ↔ S K
theorem Wd.of (A : Ap ap) {n : Nat} {S : List Nat → Prop} (h : Rg ap n S) {ns e : List Nat} (hp : Pas ap S [] ns) (ha : ∀ X, S X → ∃ j, j ≤ ns.length ∧ X = F ap (ns.take j)) (he : F ap ns = e) : Wd ap n S e ns := by
  refine ⟨he, fun K => ⟨fun hK => ?_, fun hK => ?_⟩⟩
  · refine Hull.least h.clo (fun X hX => ?_) hK
    rcases hX with rfl | ⟨ws, hw, i, hi, e2⟩
    · exact hp.start
    · rw [List.mem_singleton.mp hw] at hi e2
      rw [e2]
      exact Pas.at.mp hp i hi
  · obtain ⟨j, hj, rfl⟩ := ha K hK
    exact HL.pass hj
theorem Rg.go (A : Ap ap) {n : Nat} {S : List Nat → Prop} (h : Rg ap n S) {ns X : List Nat} (hp : Pas ap S [] ns) (hX : S X) :
    Pas ap S [] (ns ++ F ap (back (F ap ns) ++ X)) ∧ F ap (ns ++ F ap (back (F ap ns) ++ X)) = X := by
  have hS : S (F ap ns) := by
    have := Pas.at.mp hp ns.length (Nat.le_refl _)
    rwa [List.take_length] at this
  refine ⟨Pas.app.mpr ⟨hp, h.cvx _ _ hS hX⟩, ?_⟩
  rw [F_right A, ← List.append_assoc, F_app A]
  have e : F ap (ns ++ back (F ap ns)) = [] := by
    rw [← F_left A]; exact F_back A _
  rw [e]
  exact (h.nrm X hX).fold
end NF
namespace NF
variable {ap : Nat → Nat → Bool}
theorem Sm.of {lines : List (List Nat)} (W : List Wall) (l : W.length ≤ 16) (h : ∀ ws ∈ lines, ∀ w ∈ nms ap [] ws, w ∈ W) (hl : ∀ ws ∈ lines, ws.length ≤ 1000) : Sm ap lines :=
  ⟨⟨W, l, fun w hw => by
    obtain ⟨x, hx, z⟩ := List.mem_flatMap.mp hw
    exact h x hx w z⟩, fun ws hw => by have := hl ws hw; omega⟩
def Dt (p ws : List Nat) : Prop := ∃ (t : Nat) (r : List Nat), r.length ≤ 1 ∧ ws = p.take t ++ r ++ back r ++ p.drop t
theorem Dt.len {p ws : List Nat} (h : Dt p ws) : ws.length ≤ p.length + 2 := by
  obtain ⟨t, r, hr, rfl⟩ := h
  rw [List.length_append, List.length_append, List.length_append, back_len, List.length_take, List.length_drop]
  omega
theorem Dt.walls (A : Ap ap) {p ws : List Nat} (h : Dt p ws) {K : List Nat} (hK : Nrm ap K) : ∃ W : List Wall, W.length ≤ p.length + 1 ∧ ∀ w ∈ nms ap K ws, w ∈ W := by
  obtain ⟨t, r, hr, rfl⟩ := h
  have nT : Nrm ap ((p.take t).foldl (nk ap) K) := by
    have : ∀ (l K : List Nat), Nrm ap K → Nrm ap (l.foldl (nk ap) K) := fun l => by
      induction l with
      | nil => exact fun K h => h
      | cons a l ih => exact fun K h => ih _ (h.nk A a)
    exact this _ _ hK
  refine ⟨nms ap K p ++ nms ap ((p.take t).foldl (nk ap) K) r, by rw [List.length_append, nms_len, nms_len]; omega, fun w hw => ?_⟩
  rw [List.append_assoc (p.take t), nms_app] at hw
  have ep : nms ap K p = nms ap K (p.take t) ++ nms ap ((p.take t).foldl (nk ap) K) (p.drop t) := by rw [← nms_app, List.take_append_drop]
  rw [ep]
  rcases List.mem_append.mp hw with z | z
  · rw [nms_app] at z
    rcases List.mem_append.mp z with z | z
    · exact List.mem_append_left _ (List.mem_append_left _ z)
    · exact List.mem_append_right _ (nms_back A w r _ nT z)
  · rw [List.foldl_append] at z
    have e2 : (r ++ back r).foldl (nk ap) ((p.take t).foldl (nk ap) K) = (p.take t).foldl (nk ap) K := fold_back A nT _ r rfl
    rw [e2] at z
    exact List.mem_append_left _ (List.mem_append_right _ z)
theorem Psd.mono {l l' : List (List Nat)} (h : ∀ w ∈ l, w ∈ l') {K : List Nat} (k : Psd ap l K) : Psd ap l' K := by
  rcases k with e | ⟨ws, hw, i, hi, e⟩
  · exact .inl e
  · exact .inr ⟨ws, h ws hw, i, hi, e⟩
theorem HL.mono {n : Nat} {l l' : List (List Nat)} (h : ∀ w ∈ l, w ∈ l') {K : List Nat} (k : HL ap n l K) : HL ap n l' K := Hull.mono (fun X hX => .base (hX.mono h)) k
end NF
namespace NF
variable {ap : Nat → Nat → Bool}
inductive Bk (ap : Nat → Nat → Bool) (x : Nat) (S : List Nat → Prop) : List Nat → List Nat → Prop
  | stop {K : List Nat} : ¬ S (nk ap K (inv x)) → Bk ap x S K K
  | step {K L : List Nat} : S (nk ap K (inv x)) → Bk ap x S (nk ap K (inv x)) L → Bk ap x S K L
def Row (ap : Nat → Nat → Bool) (x : Nat) (S : List Nat → Prop) (K L : List Nat) : Prop := (S (nk ap K x) ∧ L = nk ap K x) ∨ (¬ S (nk ap K x) ∧ Bk ap x S K L)
theorem Bk.det {x : Nat} {S : List Nat → Prop} {K L M : List Nat} (h : Bk ap x S K L) : Bk ap x S K M → L = M := by
  induction h with
  | stop n => intro k; cases k with
    | stop _ => rfl
    | step s _ => exact absurd s n
  | step s _ ih => intro k; cases k with
    | stop n => exact absurd s n
    | step _ k => exact ih k
theorem Row.det {x : Nat} {S : List Nat → Prop} {K L M : List Nat} (h : Row ap x S K L) (k : Row ap x S K M) : L = M := by
  rcases h with ⟨a, rfl⟩ | ⟨a, b⟩ <;> rcases k with ⟨c, rfl⟩ | ⟨c, d⟩
  · rfl
  · exact absurd a c
  · exact absurd c a
  · exact b.det d
theorem Bk.mem {x : Nat} {S : List Nat → Prop} {K L : List Nat} (h : Bk ap x S K L) : S K → S L := by
  induction h with
  | stop _ => exact id
  | step s _ ih => exact fun _ => ih s
theorem Row.mem {x : Nat} {S : List Nat → Prop} {K L : List Nat} (h : Row ap x S K L) (k : S K) : S L := by
  rcases h with ⟨a, rfl⟩ | ⟨_, b⟩
  · exact a
  · exact b.mem k
theorem Bk.end_ {x : Nat} {S : List Nat → Prop} {K L : List Nat} (h : Bk ap x S K L) : ¬ S (nk ap L (inv x)) := by
  induction h with
  | stop n => exact n
  | step _ _ ih => exact ih
theorem Bk.up (A : Ap ap) {x : Nat} {S : List Nat → Prop} (hn : ∀ K, S K → Nrm ap K) {K L M : List Nat} (h : Bk ap x S K L) : S K → Bk ap (inv x) S K M → Bk ap (inv x) S L M := by
  induction h with
  | stop _ => exact fun _ k => k
  | @step K L s _ ih =>
    intro hK k
    refine ih s (.step ?_ ?_)
    · have := nk_back A (hn K hK) (inv x)
      rw [this]; exact hK
    · have := nk_back A (hn K hK) (inv x)
      rw [this]; exact k
theorem Row.back (A : Ap ap) {x : Nat} {S : List Nat → Prop} (hn : ∀ K, S K → Nrm ap K) {K L : List Nat} (h : Row ap x S K L) (hK : S K) : Row ap (inv x) S L K := by
  rcases h with ⟨a, rfl⟩ | ⟨a, b⟩
  · have := nk_back A (hn K hK) x
    exact .inl ⟨by rw [this]; exact hK, this.symm⟩
  · refine .inr ⟨b.end_, b.up A hn hK (.stop ?_)⟩
    rw [inv_inv]; exact a
theorem par (A : Ap ap) {n x y : Nat} {S : List Nat → Prop} (c : Clo ap n S) (hn : ∀ K, S K → Nrm ap K) (hi : ∀ x, x < n → inv x < n) (hx : x < n) (hy : y < n) (co : com ap x y = true) {K : List Nat} (h1 : S K) (h2 : S (nk ap K y)) : (S (nk ap K x) ↔ S (nk ap (nk ap K y) x)) ∧ nk ap (nk ap K y) x = nk ap (nk ap K x) y := by
  have e := nk_comm A (hn K h1) co
  refine ⟨⟨fun h => ?_, fun h => ?_⟩, e.symm⟩
  · rw [← e]; exact c.sq K x y h1 h h2 hx hy co
  · have b := nk_back A (hn K h1) y
    have := c.sq (nk ap K y) (inv y) x h2 (by rw [b]; exact h1) h (hi y hy) hx (by
      unfold com at co ⊢
      rw [inv_half, A.sym]; exact co)
    rwa [b] at this
theorem Bk.par (A : Ap ap) {n x y : Nat} {S : List Nat → Prop} (c : Clo ap n S) (hn : ∀ K, S K → Nrm ap K) (hi : ∀ x, x < n → inv x < n) (hx : x < n) (hy : y < n) (co : com ap x y = true) {K L : List Nat} (h : Bk ap x S K L) : S K → S (nk ap K y) → Bk ap x S (nk ap K y) (nk ap L y) ∧ S (nk ap L y) := by
  have co2 : com ap (inv x) y = true := by unfold com at co ⊢; rw [inv_half]; exact co
  induction h with
  | stop m =>
    intro h1 h2
    obtain ⟨p1, p2⟩ := NF.par A c hn hi (hi x hx) hy co2 h1 h2
    exact ⟨.stop fun z => m (p1.mpr z), h2⟩
  | @step K L s _ ih =>
    intro h1 h2
    obtain ⟨p1, p2⟩ := NF.par A c hn hi (hi x hx) hy co2 h1 h2
    have s2 := p1.mp s
    obtain ⟨q1, q2⟩ := ih s (by rw [← p2]; exact s2)
    exact ⟨.step s2 (by rw [p2]; exact q1), q2⟩
theorem Row.par (A : Ap ap) {n x y : Nat} {S : List Nat → Prop} (c : Clo ap n S) (hn : ∀ K, S K → Nrm ap K) (hi : ∀ x, x < n → inv x < n) (hx : x < n) (hy : y < n) (co : com ap x y = true) {K L : List Nat} (h : Row ap x S K L) (h1 : S K) (h2 : S (nk ap K y)) : Row ap x S (nk ap K y) (nk ap L y) ∧ S (nk ap L y) := by
  obtain ⟨p1, p2⟩ := NF.par A c hn hi hx hy co h1 h2
  rcases h with ⟨a, rfl⟩ | ⟨a, b⟩
  · have a2 := p1.mp a
    exact ⟨.inl ⟨a2, p2.symm⟩, by rw [← p2]; exact a2⟩
  · obtain ⟨q1, q2⟩ := b.par A c hn hi hx hy co h1 h2
    exact ⟨.inr ⟨fun z => a (p1.mpr z), q1⟩, q2⟩
theorem Row.par2 (A : Ap ap) {n x y : Nat} {S : List Nat → Prop} (c : Clo ap n S) (hn : ∀ K, S K → Nrm ap K) (hi : ∀ x, x < n → inv x < n) (hx : x < n) (hy : y < n) (co : com ap x y = true) {K L : List Nat} (h : Row ap x S K L) (h1 : S K) (h2 : S (nk ap L y)) : S (nk ap K y) := by
  have co2 : com ap (inv x) y = true := by unfold com at co ⊢; rw [inv_half]; exact co
  exact ((h.back A hn h1).par A c hn hi (hi x hx) hy co2 (h.mem h1) h2).2
theorem Row.bk (A : Ap ap) {n x y : Nat} {S : List Nat → Prop} (c : Clo ap n S) (hn : ∀ K, S K → Nrm ap K) (hi : ∀ x, x < n → inv x < n) (hx : x < n) (hy : y < n) (co : com ap x y = true) {K M : List Nat} (b : Bk ap y S K M) : ∀ {L : List Nat}, Row ap x S K L → S K → ∃ N, Row ap x S M N ∧ Bk ap y S L N := by
  have co2 : com ap x (inv y) = true := by unfold com at co ⊢; rw [inv_half]; exact co
  induction b with
  | stop m => exact fun {L} r h1 => ⟨L, r, .stop fun z => m (r.par2 A c hn hi hx (hi y hy) co2 h1 z)⟩
  | @step K M s _ ih =>
    intro L r h1
    obtain ⟨r2, s2⟩ := r.par A c hn hi hx (hi y hy) co2 h1 s
    obtain ⟨N, q1, q2⟩ := ih r2 s
    exact ⟨N, q1, .step s2 q2⟩
theorem Row.comm (A : Ap ap) {n x y : Nat} {S : List Nat → Prop} (c : Clo ap n S) (hn : ∀ K, S K → Nrm ap K) (hi : ∀ x, x < n → inv x < n) (hx : x < n) (hy : y < n) (co : com ap x y = true) {K L M N N' : List Nat} (h1 : S K) (rx : Row ap x S K L) (ry : Row ap y S K M) (r1 : Row ap x S M N) (r2 : Row ap y S L N') : N = N' := by
  rcases ry with ⟨a, rfl⟩ | ⟨a, b⟩
  · obtain ⟨q1, q2⟩ := rx.par A c hn hi hx hy co h1 a
    have e1 := r1.det q1
    have e2 := r2.det (M := nk ap L y) (.inl ⟨q2, rfl⟩)
    rw [e1, e2]
  · obtain ⟨N2, q1, q2⟩ := Row.bk A c hn hi hx hy co b rx h1
    have e1 := r1.det q1
    have e2 := r2.det (M := N2) (.inr ⟨fun z => a (rx.par2 A c hn hi hx hy co h1 z), q2⟩)
    rw [e1, e2]
def expo (x : Nat) (K : List Nat) : Int := (K.count x : Int) - (K.count (inv x) : Int)
theorem expo_nk {x : Nat} (K : List Nat) : expo x (nk ap K (inv x)) = expo x K - 1 := by
  have e := pre_suf ap K (inv x)
  have hc : ∀ y, K.count y = (pre ap K (inv x)).count y + (suf ap K (inv x)).count y := fun y => by rw [← List.count_append, e]
  have ne : inv x ≠ x := inv_ne x
  unfold expo nk
  split
  · rename_i h
    rw [inv_inv] at h
    have hne : pre ap K (inv x) ≠ [] := by intro z; rw [z] at h; cases h
    have e2 : (pre ap K (inv x)).dropLast ++ [x] = pre ap K (inv x) := by
      have := List.dropLast_concat_getLast hne
      rw [List.getLast?_eq_some_getLast hne] at h
      rw [Option.some.inj h] at this
      exact this
    have c1 : ∀ y, (pre ap K (inv x)).count y = (pre ap K (inv x)).dropLast.count y + [x].count y := fun y => by rw [← List.count_append, e2]
    rw [List.count_append, List.count_append, hc x, hc (inv x), c1 x, c1 (inv x)]
    have d1 : [x].count x = 1 := by simp
    have d2 : [x].count (inv x) = 0 := by simp [ne.symm]
    rw [d1, d2]; omega
  · have hp : ∀ y, (put (suf ap K (inv x)) (inv x)).count y = (suf ap K (inv x)).count y + [inv x].count y := fun y => by
      unfold put
      conv => rhs; rw [← List.takeWhile_append_dropWhile (p := fun k => decide (k < inv x)) (l := suf ap K (inv x))]
      rw [List.count_append, List.count_append, List.count_cons, List.count_cons, List.count_nil]; omega
    rw [List.count_append, List.count_append, hp, hp, hc x, hc (inv x)]
    have d1 : [inv x].count (inv x) = 1 := by simp
    have d2 : [inv x].count x = 0 := by simp [ne]
    rw [d1, d2]; omega
theorem expo_le (x : Nat) (K : List Nat) : -(K.length : Int) ≤ expo x K ∧ expo x K ≤ K.length := by
  unfold expo
  have h1 := List.count_le_length (a := x) (l := K)
  have h2 := List.count_le_length (a := inv x) (l := K)
  omega
theorem Bk.ex {x m : Nat} {S : List Nat → Prop} (hS : ∀ K, S K → K.length ≤ m) : ∀ (t : Nat) (K : List Nat), S K → (expo x K + m).toNat ≤ t → ∃ L, Bk ap x S K L := fun t => by
  induction t with
  | zero =>
    intro K hK ht
    refine ⟨K, .stop fun z => ?_⟩
    have h1 := hS _ z
    have h2 := (expo_le x (nk ap K (inv x))).1
    rw [expo_nk] at h2
    omega
  | succ t ih =>
    intro K hK ht
    by_cases z : S (nk ap K (inv x))
    · have h1 := hS _ z
      have h2 := (expo_le x (nk ap K (inv x))).1
      have h3 := expo_nk (ap := ap) (x := x) K
      obtain ⟨L, hL⟩ := ih _ z (by omega)
      exact ⟨L, .step z hL⟩
    · exact ⟨K, .stop z⟩
theorem Row.ex {x m : Nat} {S : List Nat → Prop} (hS : ∀ K, S K → K.length ≤ m) {K : List Nat} (hK : S K) : ∃ L, Row ap x S K L := by
  by_cases z : S (nk ap K x)
  · exact ⟨_, .inl ⟨z, rfl⟩⟩
  · obtain ⟨L, hL⟩ := Bk.ex (ap := ap) (x := x) hS _ K hK (Nat.le_refl _)
    exact ⟨L, .inr ⟨z, hL⟩⟩
open Classical in
noncomputable def rowF (ap : Nat → Nat → Bool) (x : Nat) (S : List Nat → Prop) (K : List Nat) : List Nat := if h : ∃ L, Row ap x S K L then Classical.choose h else K
theorem rowF_row {x m : Nat} {S : List Nat → Prop} (hS : ∀ K, S K → K.length ≤ m) {K : List Nat} (hK : S K) : Row ap x S K (rowF ap x S K) := by
  unfold rowF
  rw [dif_pos (Row.ex hS hK)]
  exact Classical.choose_spec (Row.ex hS hK)
theorem Row.eq {x m : Nat} {S : List Nat → Prop} (hS : ∀ K, S K → K.length ≤ m) {K L : List Nat} (hK : S K) (h : Row ap x S K L) : L = rowF ap x S K := h.det (rowF_row hS hK)
end NF
namespace T
open PySem L2 AE AH
def g_LETTERS : D := .str "abcdefghijklmnopqrstuvwxyz"
def g_MOST_LETTERS : D := .int 6
def g_RESERVED : D := .kt [.str "else", .str "can", .str "cannot", .str "skip"]
@[irreducible] def m__law_tape (cn : Str → Addr) (p__law_script : D) (p__law_k : D) (Q : D → Prop) (E : XD → Prop) : Prop :=
jS1 (fun k7 =>
zN gLen [p__law_script] fun t8 =>
z2 gLt p__law_k t8 fun t9 =>
tst t9 fun b10 =>
if b10 = true then
z2 gIxD p__law_script p__law_k fun t11 =>
k7 t11
else
k7 (.int 0)) (fun x1 =>
zN gAbs [x1] fun t2 =>
z2 gMul (.int 7919) p__law_k fun t3 =>
z2 gAdd (.int 104729) t3 fun t4 =>
z2 gMul (.int 1299709) p__law_k fun t5 =>
z2 gAdd (.int 15485863) t5 fun t6 =>
Q (.lst [t2, t4, t6]))
def F__law_tape (cn : Str → Addr) : AFn := fun os Kd Ed => ∃ (p__law_script : D) (p__law_k : D), os = [.fz p__law_script, .fz p__law_k] ∧ ∃ (Q : D → Prop) (E : XD → Prop), m__law_tape cn p__law_script p__law_k Q E ∧ (∀ r, Q r → Kd (ownO r) [zz p__law_script, zz p__law_k]) ∧ (∀ x, E x → Ed x [zz p__law_script, zz p__law_k])
@[irreducible] def m__law_pick (cn : Str → Addr) (p__law_tape_here : D) (p__law_many : D) (Q : D → D → Prop) (E : XD → Prop) : Prop :=
z2 gIxD p__law_tape_here (.int 0) fun t1 =>
z2 gPow (.int 10) (.int 18) fun t2 =>
z2 gGe t1 t2 fun t3 =>
tst t3 fun b4 =>
if b4 = true then
z2 gIxD p__law_tape_here (.int 0) fun t5 =>
zN gIntS [t5] fun t6 =>
z2 gMod t6 p__law_many fun t7 =>
z2 gIxD p__law_tape_here (.int 0) fun t8 =>
z2 gDiv t8 p__law_many fun t9 =>
pSet p__law_tape_here (.int 0) t9 fun x10 =>
Q t7 x10
else
z2 gIxD p__law_tape_here (.int 1) fun t11 =>
z2 gMul t11 (.int 69069) fun t12 =>
z2 gIxD p__law_tape_here (.int 0) fun t13 =>
z2 gMul t13 (.int 7177) fun t14 =>
z2 gAdd t12 t14 fun t15 =>
z2 gAdd t15 (.int 12345) fun t16 =>
zN gIntS [t16] fun t17 =>
z2 gMod t17 (.int 2147483629) fun t18 =>
pSet p__law_tape_here (.int 1) t18 fun x19 =>
z2 gIxD x19 (.int 2) fun t20 =>
z2 gMul t20 (.int 40014) fun t21 =>
z2 gIxD x19 (.int 0) fun t22 =>
z2 gMul t22 (.int 3571) fun t23 =>
z2 gAdd t21 t23 fun t24 =>
z2 gAdd t24 (.int 97) fun t25 =>
zN gIntS [t25] fun t26 =>
z2 gMod t26 (.int 2147483563) fun t27 =>
pSet x19 (.int 2) t27 fun x28 =>
z2 gIxD x28 (.int 1) fun t29 =>
z2 gIxD x28 (.int 2) fun t30 =>
z2 gMul t29 t30 fun t31 =>
z2 gAdd t31 (.int 5) fun t32 =>
zN gIntS [t32] fun t33 =>
z2 gMod t33 (.int 2147483587) fun t34 =>
z2 gDiv t34 (.int 32) fun t35 =>
zN gIntS [t35] fun t36 =>
z2 gMod t36 p__law_many fun t37 =>
Q t37 x28
def F__law_pick (cn : Str → Addr) : AFn := fun os Kd Ed => ∃ (p__law_tape_here : D) (p__law_many : D), os = [ownO p__law_tape_here, .fz p__law_many] ∧ ∃ (Q : D → D → Prop) (E : XD → Prop), m__law_pick cn p__law_tape_here p__law_many Q E ∧ (∀ r p__law_tape_here', Q r p__law_tape_here' → Kd (.fz r) [oo p__law_tape_here', zz p__law_many]) ∧ (∀ x, E x → ∀ (y__law_tape_here : Option O), Ed x [y__law_tape_here, zz p__law_many])
@[irreducible] def m__law_row (cn : Str → Addr) (p__law_tape_here : D) (p__law_spots : D) (Q : D → D → Prop) (E : XD → Prop) : Prop :=
oN gRngL [p__law_spots] fun t1 =>
rng1 p__law_spots fun l2 =>
for3 l2 (fun d6 x3 x4 x5 n7 =>
lsP x4 (
zN gLen [x4] fun t8 =>
m__law_pick cn x3 t8 (fun r10 x9 =>
pPopAt x4 r10 fun r12 x11 =>
lsP x5 (
jn2 (fun k16 =>
m__law_pick cn x9 (.int 3) (fun r18 x17 =>
z2 gEq r18 (.int 0) fun t19 =>
tst t19 fun b20 =>
if b20 = true then
k16 (.non) x17
else
k16 r12 x17) E) (fun r13 x14 =>
pApp x5 r13 fun x15 =>
n7 x14 x11 x15))) E)) p__law_tape_here t1 (.lst []) (fun x3 x4 x5 =>
Q x5 x3)
def F__law_row (cn : Str → Addr) : AFn := fun os Kd Ed => ∃ (p__law_tape_here : D) (p__law_spots : D), os = [ownO p__law_tape_here, .fz p__law_spots] ∧ ∃ (Q : D → D → Prop) (E : XD → Prop), m__law_row cn p__law_tape_here p__law_spots Q E ∧ (∀ r p__law_tape_here', Q r p__law_tape_here' → Kd (.fz r) [oo p__law_tape_here', zz p__law_spots]) ∧ (∀ x, E x → ∀ (y__law_tape_here : Option O), Ed x [y__law_tape_here, zz p__law_spots])
@[irreducible] def m_check_states (cn : Str → Addr) (p_states : D) (Q : D → Prop) (E : XD → Prop) : Prop :=
jn (fun kq2 =>
isT "int" p_states fun t3 =>
tst t3 fun b4 =>
if (!b4) = true then
kq2 true
else
isT "bool" p_states fun t5 =>
tst t5 fun b6 =>
if b6 = true then
kq2 true
else
z2 gLt p_states (.int 1) fun t7 =>
tst t7 fun b8 =>
kq2 b8) (fun b1 =>
if b1 = true then
E ⟨.ref (cn "BadStates"), [("states", p_states)]⟩
else
Q .non)
def F_check_states (cn : Str → Addr) : AFn := fun os Kd Ed => ∃ (p_states : D), os = [.fz p_states] ∧ ∃ (Q : D → Prop) (E : XD → Prop), m_check_states cn p_states Q E ∧ (∀ r, Q r → Kd (.fz r) [zz p_states]) ∧ (∀ x, E x → Ed x [zz p_states])
@[irreducible] def m_is_step_name (cn : Str → Addr) (p_name : D) (Q : D → Prop) (E : XD → Prop) : Prop :=
jn (fun k9 =>
zN gLen [p_name] fun t10 =>
z2 gEq t10 (.int 0) fun t11 =>
tst t11 fun b12 =>
if b12 = true then
k9 true
else
zN gLen [p_name] fun t13 =>
z2 gGt t13 g_MOST_LETTERS fun t14 =>
tst t14 fun b15 =>
if b15 = true then
k9 true
else
z2 (gIn false) p_name g_RESERVED fun t16 =>
tst t16 fun b17 =>
k9 b17) (fun b1 =>
if b1 = true then
Q (.bl false)
else
asIt p_name fun l2 =>
lc0 l2 (fun d3 emit4 skip5 =>
z2 (gIn false) d3 g_LETTERS fun t6 =>
emit4 t6) (fun acc7 =>
zN gAll [(.lst acc7)] fun t8 =>
Q t8))
def F_is_step_name (cn : Str → Addr) : AFn := fun os Kd Ed => ∃ (p_name : D), os = [.fz p_name] ∧ ∃ (Q : D → Prop) (E : XD → Prop), m_is_step_name cn p_name Q E ∧ (∀ r, Q r → Kd (.fz r) [zz p_name]) ∧ (∀ x, E x → Ed x [zz p_name])
@[irreducible] def m_is_state (cn : Str → Addr) (p_value : D) (p_states : D) (Q : D → Prop) (E : XD → Prop) : Prop :=
jn (fun kq2 =>
isT "int" p_value fun t3 =>
tst t3 fun b4 => if b4 = true then
isT "bool" p_value fun t5 =>
tst t5 fun b6 =>
tst (.bl (!b6)) fun b7 => if b7 = true then
jn (fun k9 =>
asI (.int 0) fun i10 =>
asI p_value fun i11 => if decide (i10 ≤ i11) = true then
asI p_states fun i12 =>
k9 (.bl (decide (i11 < i12)))
else
k9 (.bl false)) (fun r8 =>
kq2 r8)
else
kq2 (.bl false)
else
kq2 (.bl false)) (fun r1 =>
Q r1)
def F_is_state (cn : Str → Addr) : AFn := fun os Kd Ed => ∃ (p_value : D) (p_states : D), os = [.fz p_value, .fz p_states] ∧ ∃ (Q : D → Prop) (E : XD → Prop), m_is_state cn p_value p_states Q E ∧ (∀ r, Q r → Kd (.fz r) [zz p_value, zz p_states]) ∧ (∀ x, E x → Ed x [zz p_value, zz p_states])
@[irreducible] def m_is_table (cn : Str → Addr) (p_items : D) (p_states : D) (Q : D → Prop) (E : XD → Prop) : Prop :=
jn (fun k15 =>
isT2 "list" "tuple" p_items fun t16 =>
tst t16 fun b17 =>
if (!b17) = true then
k15 true
else
zN gLen [p_items] fun t18 =>
z2 gNe t18 p_states fun t19 =>
tst t19 fun b20 =>
k15 b20) (fun b1 =>
if b1 = true then
Q (.bl false)
else
asIt p_items fun l2 =>
for1 l2 (fun d4 x3 n5 =>
z2 (gIsN true) d4 (.non) fun t6 =>
tst t6 fun b7 =>
if b7 = true then
jn (fun k10 =>
m_is_state cn d4 p_states (fun r11 =>
tst r11 fun b12 =>
if (!b12) = true then
k10 true
else
z2 (gIn false) d4 x3 fun t13 =>
tst t13 fun b14 =>
k10 b14) E) (fun b8 =>
if b8 = true then
Q (.bl false)
else
pSet x3 d4 (.bl true) fun x9 =>
n5 x9)
else
n5 x3) (.dic []) (fun x3 =>
Q (.bl true)))
def F_is_table (cn : Str → Addr) : AFn := fun os Kd Ed => ∃ (p_items : D) (p_states : D), os = [.fz p_items, .fz p_states] ∧ ∃ (Q : D → Prop) (E : XD → Prop), m_is_table cn p_items p_states Q E ∧ (∀ r, Q r → Kd (.fz r) [zz p_items, zz p_states]) ∧ (∀ x, E x → Ed x [zz p_items, zz p_states])
@[irreducible] def m_turned (cn : Str → Addr) (p_items : D) (Q : D → Prop) (E : XD → Prop) : Prop :=
asEn p_items fun l1 =>
dcN0 l1 (fun d2 emit3 skip4 =>
asT2 d2 fun a5 a6 =>
asKeyN a6 fun k7 =>
asIntN a5 fun i8 =>
emit3 k7 i8) (fun acc9 =>
zN gLen [p_items] fun t10 =>
rng1 t10 fun l11 =>
lc0 l11 (fun d12 emit13 skip14 =>
askN acc9 d12 fun t15 =>
emit13 t15) (fun acc16 =>
Q (.lst acc16)))
def F_turned (cn : Str → Addr) : AFn := fun os Kd Ed => ∃ (p_items : D), os = [.fz p_items] ∧ ∃ (Q : D → Prop) (E : XD → Prop), m_turned cn p_items Q E ∧ (∀ r, Q r → Kd (.fz r) [zz p_items]) ∧ (∀ x, E x → Ed x [zz p_items])
@[irreducible] def m_System___init__ (cn : Str → Addr) (p_states : D) (p_tables : D) (Q : D → Prop) (E : XD → Prop) : Prop :=
m_check_states cn p_states (fun r1 =>
asDk keysD p_tables fun l2 =>
lc0 l2 (fun d3 emit4 skip5 =>
zN gStr [d3] fun t6 =>
emit4 t6) (fun acc7 =>
zN gSort [(.lst acc7)] fun t8 =>
asIt t8 fun l9 =>
for0 l9 (fun d10 n11 =>
m_is_step_name cn d10 (fun r12 =>
tst r12 fun b13 =>
if (!b13) = true then
E ⟨.ref (cn "BadName"), [("name", d10)]⟩
else
n11) E) (
zN gRngL [p_states] fun t14 =>
asIt t8 fun l15 =>
for1 l15 (fun d17 x16 n18 =>
z2 gIxD p_tables d17 fun t19 =>
m_is_table cn t19 p_states (fun r20 =>
tst r20 fun b21 =>
if (!b21) = true then
E ⟨.ref (cn "BadTable"), [("step", d17)]⟩
else
z2 gIxD p_tables d17 fun t22 =>
asIt t22 fun l23 =>
lc0 l23 (fun d24 emit25 skip26 =>
z2 (gIsN true) d24 (.non) fun t27 =>
emit25 t27) (fun acc28 =>
zN gAny [(.lst acc28)] fun t29 =>
tst t29 fun b30 =>
if b30 = true then
z2 gIxD p_tables d17 fun t32 =>
zN gList [t32] fun t33 =>
pSetDk x16 d17 t33 fun x34 =>
z2 gIxD p_tables d17 fun t36 =>
m_turned cn t36 (fun r37 =>
z2 gAdd (.str "-") d17 fun t38 =>
pSetDk x34 t38 r37 fun x39 =>
n18 x39) E
else
n18 x16)) E) (.dic []) (fun x16 =>
Q (.ins (cn "System") [("numbers", t14), ("led", x16)]))))) E
def F_System___init__ (cn : Str → Addr) : AFn := fun os Kd Ed => ∃ (p_states : D) (p_tables : D), os = [.ob (cn "System") [], .fz p_states, .fz p_tables] ∧ ∃ (Q : D → Prop) (E : XD → Prop), m_System___init__ cn p_states p_tables Q E ∧ (∀ o, Q (frz o) → Kd (.fz .non) [some o, zz p_states, zz p_tables]) ∧ (∀ x, E x → ∀ y, Ed x [y, zz p_states, zz p_tables])
@[irreducible] def m_System___len__ (cn : Str → Addr) (p_self : D) (Q : D → Prop) (E : XD → Prop) : Prop :=
pFld (cn "System") "numbers" p_self fun f1 =>
zN gLen [f1] fun t2 =>
Q t2
def F_System___len__ (cn : Str → Addr) : AFn := fun os Kd Ed => ∃ (p_self : D), os = [.fz p_self] ∧ ∃ (Q : D → Prop) (E : XD → Prop), m_System___len__ cn p_self Q E ∧ (∀ r, Q r → Kd (.fz r) [zz p_self]) ∧ (∀ x, E x → Ed x [zz p_self])
@[irreducible] def m__law_told (cn : Str → Addr) (p__law_spots : D) (p__law_rows : D) (Q : D → Prop) (E : XD → Prop) : Prop :=
tryJ (fun x =>
hx cn exs "BadStates" x (
jn (fun k12 =>
jn (fun k15 =>
isX cn exs "StepError" x fun t16 =>
tst t16 fun b17 =>
if b17 = true then
isX cn exs "ValueError" x fun t18 =>
tst t18 fun b19 =>
k15 b19
else
k15 false) (fun b13 =>
if b13 = true then
xFld (cn "BadStates") "states" x fun f14 =>
k12 (.tup [(.str "states"), f14])
else
k12 (.tup [(.str "other"), (.int 0)]))) (fun r11 =>
Q r11)) (
hx cn exs "BadName" x (
jn (fun k7 =>
isX cn exs "StepError" x fun t8 =>
tst t8 fun b9 =>
if b9 = true then
xFld (cn "BadName") "name" x fun f10 =>
k7 (.tup [(.str "name"), f10])
else
k7 (.tup [(.str "other"), (.int 0)])) (fun r6 =>
Q r6)) (
hx cn exs "BadTable" x (
jn (fun kq2 =>
isX cn exs "StepError" x fun t3 =>
tst t3 fun b4 =>
if b4 = true then
xFld (cn "BadTable") "step" x fun f5 =>
kq2 (.tup [(.str "table"), f5])
else
kq2 (.tup [(.str "other"), (.int 0)])) (fun r1 =>
Q r1)) (
E x)))) fun EX20 =>
m_System___init__ cn p__law_spots p__law_rows (fun o21 =>
isP (cn "System") o21 (m_System___len__ cn o21 (fun r22 => lenP r22 (
Q (.tup [(.str "fine"), r22]))) (fun _ => False))) EX20
def F__law_told (cn : Str → Addr) : AFn := fun os Kd Ed => ∃ (p__law_spots : D) (p__law_rows : D), os = [.fz p__law_spots, .fz p__law_rows] ∧ ∃ (Q : D → Prop) (E : XD → Prop), m__law_told cn p__law_spots p__law_rows Q E ∧ (∀ r, Q r → Kd (.fz r) [zz p__law_spots, zz p__law_rows]) ∧ (∀ x, E x → Ed x [zz p__law_spots, zz p__law_rows])
@[irreducible] def m__law_spoilt (cn : Str → Addr) (p__law_tape_here : D) (p__law_row_here : D) (p__law_spots : D) (Q : D → D → Prop) (E : XD → Prop) : Prop :=
zN gLen [p__law_row_here] fun t1 =>
z2 gAdd t1 (.int 1) fun t2 =>
m__law_pick cn p__law_tape_here t2 (fun r4 x3 =>
m__law_pick cn x3 (.int 7) (fun r6 x5 =>
z1 gNeg (.int 1) fun t7 =>
z2 gSub p__law_spots (.int 1) fun t8 =>
z2 gAdd p__law_spots (.int 9) fun t9 =>
z1 gNeg (.int 5) fun t10 =>
m__law_pick cn x5 (.int 7) (fun r12 x11 =>
z2 gIxD (.lst [t7, p__law_spots, (.int 0), t8, (.non), t9, t10]) r12 fun t13 =>
z2 gEq r6 (.int 0) fun t14 =>
tst t14 fun b15 =>
if b15 = true then
asI r4 fun i16 =>
z1 (gSl none (some i16)) p__law_row_here fun t17 =>
z2 gAdd t17 (.lst [t13]) fun t18 =>
asI r4 fun i19 =>
z1 (gSl (some i19) none) p__law_row_here fun t20 =>
z2 gAdd t18 t20 fun t21 =>
Q t21 x11
else
z2 gEq r6 (.int 1) fun t22 =>
tst t22 fun b23 =>
if b23 = true then
asI r4 fun i24 =>
z1 (gSl none (some i24)) p__law_row_here fun t25 =>
z2 gAdd r4 (.int 1) fun t26 =>
asI t26 fun i27 =>
z1 (gSl (some i27) none) p__law_row_here fun t28 =>
z2 gAdd t25 t28 fun t29 =>
Q t29 x11
else
asI r4 fun i30 =>
z1 (gSl none (some i30)) p__law_row_here fun t31 =>
z2 gAdd t31 (.lst [t13]) fun t32 =>
z2 gAdd r4 (.int 1) fun t33 =>
asI t33 fun i34 =>
z1 (gSl (some i34) none) p__law_row_here fun t35 =>
z2 gAdd t32 t35 fun t36 =>
Q t36 x11) E) E) E
def F__law_spoilt (cn : Str → Addr) : AFn := fun os Kd Ed => ∃ (p__law_tape_here : D) (p__law_row_here : D) (p__law_spots : D), os = [ownO p__law_tape_here, .fz p__law_row_here, .fz p__law_spots] ∧ ∃ (Q : D → D → Prop) (E : XD → Prop), m__law_spoilt cn p__law_tape_here p__law_row_here p__law_spots Q E ∧ (∀ r p__law_tape_here', Q r p__law_tape_here' → Kd (.fz r) [oo p__law_tape_here', zz p__law_row_here, zz p__law_spots]) ∧ (∀ x, E x → ∀ (y__law_tape_here : Option O), Ed x [y__law_tape_here, zz p__law_row_here, zz p__law_spots])
@[irreducible] def m__law_fine (cn : Str → Addr) (p__law_row_here : D) (p__law_spots : D) (Q : D → Prop) (E : XD → Prop) : Prop :=
asIt p__law_row_here fun l1 =>
lc0 l1 (fun d2 emit3 skip4 =>
z2 (gIsN true) d2 (.non) fun t5 =>
tst t5 fun b6 =>
if b6 = true then
emit3 d2
else skip4) (fun acc7 =>
jn (fun k22 =>
zN gLen [p__law_row_here] fun t23 =>
z2 gNe t23 p__law_spots fun t24 =>
tst t24 fun b25 =>
if b25 = true then
k22 true
else
asIt (.lst acc7) fun l26 =>
lc0 l26 (fun d27 emit28 skip29 =>
asI d27 fun i30 =>
asI p__law_spots fun i31 =>
tst (.bl (!decide (0 ≤ i30 ∧ i30 < i31))) fun b32 =>
if b32 = true then
emit28 d27
else skip29) (fun acc33 =>
zN gLen [(.lst acc33)] fun t34 =>
z2 gGt t34 (.int 0) fun t35 =>
tst t35 fun b36 =>
k22 b36)) (fun b8 =>
if b8 = true then
Q (.bl false)
else
zN gLen [(.lst acc7)] fun t9 =>
rng1 t9 fun l10 =>
lc0 l10 (fun d11 emit12 skip13 =>
z2 gIxD (.lst acc7) d11 fun t14 =>
asI d11 fun i15 =>
z1 (gSl none (some i15)) (.lst acc7) fun t16 =>
z2 (gIn false) t14 t16 fun t17 =>
tst t17 fun b18 =>
if b18 = true then
emit12 d11
else skip13) (fun acc19 =>
zN gLen [(.lst acc19)] fun t20 =>
z2 gEq t20 (.int 0) fun t21 =>
Q t21)))
def F__law_fine (cn : Str → Addr) : AFn := fun os Kd Ed => ∃ (p__law_row_here : D) (p__law_spots : D), os = [.fz p__law_row_here, .fz p__law_spots] ∧ ∃ (Q : D → Prop) (E : XD → Prop), m__law_fine cn p__law_row_here p__law_spots Q E ∧ (∀ r, Q r → Kd (.fz r) [zz p__law_row_here, zz p__law_spots]) ∧ (∀ x, E x → Ed x [zz p__law_row_here, zz p__law_spots])
@[irreducible] def m__law_due (cn : Str → Addr) (p__law_spots : D) (p__law_rows : D) (Q : D → Prop) (E : XD → Prop) : Prop :=
z2 gLt p__law_spots (.int 1) fun t1 =>
tst t1 fun b2 =>
if b2 = true then
Q (.tup [(.str "states"), p__law_spots])
else
asDk keysD p__law_rows fun l3 =>
lc0 l3 (fun d4 emit5 skip6 =>
zN gStr [d4] fun t7 =>
emit5 t7) (fun acc8 =>
zN gSort [(.lst acc8)] fun t9 =>
asIt t9 fun l10 =>
for0 l10 (fun d11 n12 =>
z2 (gIn false) d11 (.lst [(.str ""), (.str "else"), (.str "can"), (.str "cannot"), (.str "skip"), (.str "A"), (.str "a1"), (.str "-a"), (.str "aaaaaaa"), (.str "a b")]) fun t13 =>
tst t13 fun b14 =>
if b14 = true then
Q (.tup [(.str "name"), d11])
else
n12) (
asDk keysD p__law_rows fun l15 =>
lc0 l15 (fun d16 emit17 skip18 =>
zN gStr [d16] fun t19 =>
emit17 t19) (fun acc20 =>
zN gSort [(.lst acc20)] fun t21 =>
asIt t21 fun l22 =>
for0 l22 (fun d23 n24 =>
z2 gIxD p__law_rows d23 fun t25 =>
m__law_fine cn t25 p__law_spots (fun r26 =>
tst r26 fun b27 =>
if (!b27) = true then
Q (.tup [(.str "table"), d23])
else
n24) E) (
Q (.tup [(.str "fine"), p__law_spots])))))
def F__law_due (cn : Str → Addr) : AFn := fun os Kd Ed => ∃ (p__law_spots : D) (p__law_rows : D), os = [.fz p__law_spots, .fz p__law_rows] ∧ ∃ (Q : D → Prop) (E : XD → Prop), m__law_due cn p__law_spots p__law_rows Q E ∧ (∀ r, Q r → Kd (.fz r) [zz p__law_spots, zz p__law_rows]) ∧ (∀ x, E x → Ed x [zz p__law_spots, zz p__law_rows])
@[irreducible] def m_law (cn : Str → Addr) (p__law_script : D) (Q : D → Prop) (E : XD → Prop) : Prop :=
m__law_tape cn p__law_script (.int 0) (fun r1 =>
m__law_pick cn r1 (.int 5) (fun r3 x2 =>
z2 gAdd (.int 1) r3 fun t4 =>
m__law_pick cn x2 (.int 2) (fun r6 x5 =>
z2 gIxD (.lst [(.lst [(.str "b"), (.str "a"), (.str "ab"), (.str "canno")]), (.lst [(.str "z"), (.str "elsea"), (.str "do"), (.str "zz")])]) r6 fun t7 =>
m__law_pick cn x5 (.int 4) (fun r9 x8 =>
z2 gAdd (.int 1) r9 fun t10 =>
asI t10 fun i11 =>
z1 (gSl none (some i11)) t7 fun t12 =>
zN gLen [t12] fun t13 =>
rng1 t13 fun l14 =>
for1 l14 (fun d16 x15 n17 =>
z2 gAdd (.int 1) d16 fun t18 =>
m__law_tape cn p__law_script t18 (fun r19 =>
m__law_row cn r19 t4 (fun r21 x20 =>
z2 gIxD t12 d16 fun t22 =>
pSet x15 t22 r21 fun x23 =>
n17 x23) E) E) (.dic []) (fun x15 =>
m__law_told cn t4 x15 (fun r24 =>
gnd r24 = true ∧ (
z2 gNe r24 (.tup [(.str "fine"), t4]) fun t25 =>
tst t25 fun b26 =>
if b26 = true then
Q (.bl false)
else
m__law_pick cn x8 (.int 3) (fun r28 x27 =>
rng1 r28 fun l29 =>
for2 l29 (fun d32 x30 x31 n33 =>
zN gLen [t12] fun t34 =>
m__law_pick cn x30 t34 (fun r36 x35 =>
z2 gIxD t12 r36 fun t37 =>
z2 gIxD x31 t37 fun t38 =>
m__law_spoilt cn x35 t38 t4 (fun r40 x39 =>
pSet x31 t37 r40 fun x41 =>
n33 x39 x41) E) E) x27 x15 (fun x30 x31 =>
m__law_pick cn x30 (.int 6) (fun r43 x42 =>
z2 gDiv r43 (.int 2) fun t44 =>
rng1 t44 fun l45 =>
for2 l45 (fun d48 x46 x47 n49 =>
m__law_pick cn x46 (.int 10) (fun r51 x50 =>
z2 gIxD (.lst [(.str ""), (.str "else"), (.str "can"), (.str "cannot"), (.str "skip"), (.str "A"), (.str "a1"), (.str "-a"), (.str "aaaaaaa"), (.str "a b")]) r51 fun t52 =>
z2 gAdd (.int 6) d48 fun t53 =>
m__law_tape cn p__law_script t53 (fun r54 =>
m__law_row cn r54 t4 (fun r56 x55 =>
pSet x47 t52 r56 fun x57 =>
n49 x50 x57) E) E) E) x42 x31 (fun x46 x47 =>
jS1 (fun k71 =>
m__law_pick cn x46 (.int 5) (fun r73 x72 =>
z2 gEq r73 (.int 0) fun t74 =>
tst t74 fun b75 =>
if b75 = true then
m__law_pick cn x72 (.int 3) (fun r77 x76 =>
z1 gNeg r77 fun t78 =>
k71 t78) E
else
k71 t4) E) (fun x58 =>
zN gRepr [x47] fun t59 =>
m__law_due cn x58 x47 (fun r60 =>
gnd r60 = true ∧ (
jn (fun k62 =>
m__law_told cn x58 x47 (fun r63 =>
z2 gEq r63 r60 fun t64 =>
tst t64 fun b65 => if b65 = true then
m__law_told cn x58 x47 (fun r66 =>
z2 gEq r66 r60 fun t67 =>
tst t67 fun b68 => if b68 = true then
zN gRepr [x47] fun t69 =>
z2 gEq t69 t59 fun t70 =>
k62 t70
else
k62 (.bl false)) E
else
k62 (.bl false)) E) (fun r61 =>
Q r61))) (fun x => gX x ∧ E x)))) E)) E)) (fun x => gX x ∧ E x))) E) E) E) E
def F_law (cn : Str → Addr) : AFn := fun os Kd Ed => ∃ (p__law_script : D), os = [.fz p__law_script] ∧ ∃ (Q : D → Prop) (E : XD → Prop), m_law cn p__law_script Q E ∧ (∀ r, Q r → Kd (.fz r) [zz p__law_script]) ∧ (∀ x, E x → Ed x [zz p__law_script])
end T
namespace T
open PySem L2 AE AH
variable {cn : Str → Addr}
structure Bx (m : Nat) (c0 c1 b2 : Int) : Prop where
  a : 0 ≤ c0
  b : 0 ≤ c1
  c : c1 ≤ m
  d : 0 ≤ b2
  e : b2 ≤ 10 ^ 9
theorem Bx.mono {m m' : Nat} {c0 c1 b2 : Int} (h : Bx m c0 c1 b2) (hm : m ≤ m') : Bx m' c0 c1 b2 := ⟨h.a, h.b, by have := h.c; omega, h.d, h.e⟩
def Box (m : Nat) (d : D) : Prop := ∃ c0 c1 b2 : Int, d = .lst [.int c0, .int c1, .int b2] ∧ Bx m c0 c1 b2
theorem Box.mono {m m' : Nat} {d : D} (h : Box m d) (hm : m ≤ m') : Box m' d := let ⟨a, b, c, e, x⟩ := h; ⟨a, b, c, e, x.mono hm⟩
end T
namespace T
open PySem L2 AE AH
variable {cn : Str → Addr}
end T
namespace T
open PySem L2 AE AH
variable {cn : Str → Addr}
theorem lcM' {α : Type} {xs : List α} {c : α → D} {body : D → (D → Prop) → Prop → Prop} {k : List D → Prop} (f : α → D) (hl : xs.length ≤ sizeLine)
    (hb : ∀ (i : Nat) x, xs[i]? = some x → ∀ (emit : D → Prop) (skip : Prop), emit (f x) → body (c x) emit skip) (hk : k (xs.map f)) : lc0 (xs.map c) body k := by
  refine ⟨fun i acc => acc = (xs.take i).map f, rfl, fun i d acc hd hI => ?_, fun acc hI => ?_⟩
  · rw [List.getElem?_map] at hd
    obtain ⟨x, hx, rfl⟩ := Option.map_eq_some_iff.mp hd
    have hi := (List.getElem?_eq_some_iff.mp hx).1
    subst hI
    refine hb i x hx _ _ ⟨?_, ?_⟩
    · rw [List.length_map, List.length_take]; omega
    · show _ = (xs.take (i + 1)).map f
      rw [take_succ_get hx, List.map_append]; rfl
  · rw [hI, List.length_map, List.take_length]; exact hk
end T
namespace T
open PySem L2 AE AH
variable {cn : Str → Addr}
def kstr (ks : List Nat) : Str := ⟨(ks.map (48 + ·)).toArray⟩
theorem kstr_tl (ks : List Nat) : (kstr ks).cps.toList = ks.map (48 + ·) := rfl
def apB (names : List Str) (prs : List (Str × Str)) (a b : Nat) : Bool := decide ((a, b) ∈ bothL (ordOf names prs))
section
variable {names : List Str} {prs : List (Str × Str)} {ks : List Nat} {m : Nat}
end
end T
namespace NF
theorem nk_mem {ap : Nat → Nat → Bool} {ks : List Nat} {m x : Nat} (h : x ∈ nk ap ks m) : x ∈ ks ∨ x = m := by
  have e := pre_suf ap ks m
  have hp : ∀ y ∈ pre ap ks m, y ∈ ks := fun y hy => by rw [← e]; exact List.mem_append_left _ hy
  have hs : ∀ y ∈ suf ap ks m, y ∈ ks := fun y hy => by rw [← e]; exact List.mem_append_right _ hy
  unfold nk at h
  split at h
  · rcases List.mem_append.mp h with z | z
    · exact .inl (hp x ((List.dropLast_sublist _).subset z))
    · exact .inl (hs x z)
  · rcases List.mem_append.mp h with z | z
    · exact .inl (hp x z)
    · unfold put at z
      rcases List.mem_append.mp z with z | z
      · exact .inl (hs x (List.takeWhile_subset _ z))
      · rcases List.mem_cons.mp z with z | z
        · exact .inr z
        · exact .inl (hs x (List.dropWhile_subset _ z))
theorem nk_len {ap : Nat → Nat → Bool} {ks : List Nat} {m : Nat} : (nk ap ks m).length ≤ ks.length + 1 := by
  have e := congrArg List.length (pre_suf ap ks m)
  rw [List.length_append] at e
  unfold nk
  split
  · rw [List.length_append, List.length_dropLast]; omega
  · unfold put
    have z := congrArg List.length (List.takeWhile_append_dropWhile (p := (· < m)) (l := suf ap ks m))
    rw [List.length_append] at z
    rw [List.length_append, List.length_append, List.length_cons]; omega
end NF
namespace T
open PySem L2 AE AH
variable {cn : Str → Addr} {names : List Str} {prs : List (Str × Str)}
theorem ap_book (g : GoodBook names prs) : NF.Ap (apB names prs) := by
  have lt : ∀ p ∈ ordOf names prs, p.1 < p.2 := fun p hp => by
    unfold ordOf at hp
    rw [ordL_mem] at hp
    obtain ⟨q, hq, rfl⟩ := List.mem_map.mp hp.2.2
    have gq := g.pr q hq
    have ne : names.idxOf q.1 ≠ names.idxOf q.2 := fun e => gq.ne (by
      have h1 := idx_get gq.a
      have h2 := idx_get gq.b
      rw [e, h2] at h1
      exact (Option.some.inj h1).symm)
    unfold plc
    split
    · rename_i h; exact h
    · rename_i h
      show names.idxOf q.2 < names.idxOf q.1
      omega
  have mb : ∀ a b, (a, b) ∈ bothL (ordOf names prs) ↔ (a, b) ∈ ordOf names prs ∨ (b, a) ∈ ordOf names prs := fun a b => by
    unfold bothL
    rw [List.mem_append, List.mem_map]
    constructor
    · rintro (h | ⟨p, hp, e⟩)
      · exact .inl h
      · obtain ⟨p1, p2⟩ := p
        simp only [Prod.mk.injEq] at e
        obtain ⟨rfl, rfl⟩ := e
        exact .inr hp
    · rintro (h | h)
      · exact .inl h
      · exact .inr ⟨(b, a), h, rfl⟩
  refine ⟨fun a b => ?_, fun a => ?_⟩
  · unfold apB
    rw [decide_eq_decide, mb, mb]
    exact Or.comm
  · unfold apB
    refine decide_eq_false fun h => ?_
    rcases (mb a a).mp h with z | z <;> exact absurd (lt _ z) (by simp)
def placeD (cn : Str → Addr) (names : List Str) (prs : List (Str × Str)) (ks : List Nat) : D := .ins (cn "Place") [("book", bookD cn names prs), ("key", .str (kstr ks))]
end T
namespace T
open PySem L2 AE AH
variable {cn : Str → Addr} {names : List Str} {prs : List (Str × Str)}
theorem dash_tl (x : Str) : (("-" : Str) ++ x).cps.toList = 45 :: x.cps.toList := by
  have := TL.tl_append ("-" : Str) x
  exact this
theorem dash_inj {x y : Str} (h : ("-" : Str) ++ x = "-" ++ y) : x = y := by
  have e := congrArg (fun z : Str => z.cps.toList) h
  simp only [dash_tl, List.cons.injEq, true_and] at e
  exact TL.ext_tl e
def sgK (names : List Str) (k : Nat) : Str := (signsL names).getD k ""
section
variable {ks : List Nat} (hk : ∀ k ∈ ks, k < (signsL names).length) (hl : ks.length ≤ 3000000)
include hk hl
end
end T
namespace T
open PySem L2 AE AH
variable {cn : Str → Addr} {names : List Str} {prs : List (Str × Str)}
theorem nk_lt {ks : List Nat} (hk : ∀ k ∈ ks, k < (signsL names).length) {m : Nat} (hm : m < (signsL names).length) : ∀ k ∈ NF.nk (apB names prs) ks m, k < (signsL names).length := fun k hkk => by
  rcases NF.nk_mem hkk with z | z
  · exact hk k z
  · rw [z]; exact hm
end T
namespace T
open PySem L2 AE AH
variable {cn : Str → Addr} {names : List Str} {prs : List (Str × Str)}
end T
namespace T
open PySem L2 AE AH
variable {cn : Str → Addr} {names : List Str} {prs : List (Str × Str)}
def lineD (names : List Str) (ws : List Nat) : D := .lst (ws.map fun k => .str (sgK names k))
end T
namespace T
open PySem L2 AE AH
variable {cn : Str → Addr} {names : List Str} {prs : List (Str × Str)}
end T
namespace AE
open PySem L2
theorem erase_perm {α : Type} : ∀ {l : List α} {n : Nat} (h : n < l.length), (l[n] :: l.eraseIdx n).Perm l
  | [], n, h => by simp at h
  | a :: l, 0, h => .refl _
  | a :: l, n + 1, h => by
    have := erase_perm (l := l) (n := n) (by simpa using h)
    simp only [List.getElem_cons_succ, List.eraseIdx_cons_succ]
    exact (List.Perm.swap _ _ _).trans (this.cons a)
theorem erase_map {α β : Type} {f : α → β} : ∀ {l : List α} {n : Nat}, (l.map f).eraseIdx n = (l.eraseIdx n).map f
  | [], n => by simp
  | a :: l, 0 => rfl
  | a :: l, n + 1 => by simp only [List.map_cons, List.eraseIdx_cons_succ]; rw [erase_map]
end AE
namespace T
open PySem L2 AE AH
variable {cn : Str → Addr}
def fixedL : List Str := ["a", "ab", "b", "go", "up", "quartz"]
theorem fixed_nd : fixedL.Nodup := by decide +kernel
theorem fixed_st : ∀ x ∈ fixedL, StepName x := by
  intro x hx
  have h : ∀ x ∈ fixedL, 1 ≤ x.length ∧ x.length ≤ 6 ∧ x ∉ (["else", "can", "cannot", "skip"] : List Str) ∧ ∀ c ∈ x.cps.toList, c ∈ letters.cps.toList := by decide +kernel
  obtain ⟨a, b, c, d⟩ := h x hx
  exact ⟨a, b, c, d⟩
structure Took (taken left : List Str) : Prop where
  pm : (taken ++ left).Perm fixedL
theorem Took.len {taken left : List Str} (h : Took taken left) : taken.length + left.length = 6 := by
  have := h.pm.length_eq
  rw [List.length_append] at this
  exact this
theorem Took.next {taken left : List Str} (h : Took taken left) {n : Nat} (hn : n < left.length) : Took (taken ++ [left[n]]) (left.eraseIdx n) := ⟨by
  have p : (left[n] :: left.eraseIdx n).Perm left := erase_perm hn
  rw [List.append_assoc]
  exact (p.append_left taken).trans h.pm⟩
theorem Took.nd {taken left : List Str} (h : Took taken left) : taken.Nodup := by
  have := h.pm.nodup_iff.mpr fixed_nd
  exact (List.nodup_append.mp this).1
theorem Took.st {taken left : List Str} (h : Took taken left) : ∀ x ∈ taken, StepName x := fun x hx => fixed_st x (h.pm.mem_iff.mp (List.mem_append_left _ hx))
theorem put_new {kvs : List (Key × D)} {k : Key} {v : D} (h : ∀ kv ∈ kvs, kv.1 ≠ k) : putDk kvs k v = kvs ++ [(k, v)] := by
  unfold putDk
  rw [if_neg]
  rw [List.any_eq_true]
  rintro ⟨kv, hm, e⟩
  exact h kv hm (of_decide_eq_true e)
structure ModOk (names : List Str) (prs : List (Str × Str)) : Prop where
  fx : ∀ x ∈ names, x ∈ fixedL
  up : ∀ p ∈ prs, names.idxOf p.1 < names.idxOf p.2
  nd : prs.Nodup
end T
namespace T
open PySem L2 AE AH
variable {cn : Str → Addr} {names : List Str} {prs : List (Str × Str)}
end T
namespace T
open PySem L2 AE AH
variable {cn : Str → Addr} {names : List Str} {prs : List (Str × Str)}
def upd (f : Str → D) (x : Str) (u : D) : Str → D := fun y => if y = x then u else f y
end T
namespace T
open PySem L2 AE AH
variable {cn : Str → Addr} {names : List Str} {prs : List (Str × Str)}
end T
namespace NF
end NF
namespace T
open PySem L2 AE AH TL
variable {cn : Str → Addr} {names : List Str} {prs : List (Str × Str)}
end T
namespace T
open PySem L2 AE AH TL
variable {cn : Str → Addr} {names : List Str} {prs : List (Str × Str)}
def wordW (cn : Str → Addr) (names : List Str) (prs : List (Str × Str)) (ws : List Nat) : D := .ins (cn "Word") [("numbers", .tup (ws.map fun k => .int (k : Nat))), ("book", bookD cn names prs), ("kept", .tup (ws.map fun k => .str (sgK names k)))]
end T
namespace T
open PySem L2 AE AH TL
variable {cn : Str → Addr} {names : List Str} {prs : List (Str × Str)}
end T
namespace T
open PySem L2 AE AH TL
variable {cn : Str → Addr} {names : List Str} {prs : List (Str × Str)}
theorem fold_lt {ws ks : List Nat} (hw : ∀ k ∈ ws, k < (signsL names).length) (hk : ∀ k ∈ ks, k < (signsL names).length) : ∀ k ∈ ws.foldl (NF.nk (apB names prs)) ks, k < (signsL names).length := by
  induction ws generalizing ks with
  | nil => exact hk
  | cons w ws ih => exact ih (fun k hk => hw k (List.mem_cons_of_mem _ hk)) (nk_lt hk (hw w List.mem_cons_self))
theorem rounds {ns : List Int} {R : D → Prop} (h : ∀ N : Int, 1 ≤ N → N ≤ 3 → R (.int N)) : zN gLen [.scr ns] fun t1 => zN gMin [.int 3, t1] fun t2 => zN gMax [.int 1, t2] fun t3 => R t3 := by
  show R (.int (if (if (ns.length : Int) < 3 then (ns.length : Int) else 3) > 1 then (if (ns.length : Int) < 3 then (ns.length : Int) else 3) else 1))
  refine h _ ?_ ?_ <;> split <;> split <;> omega
end T
namespace T
open PySem L2 AE AH TL
variable {cn : Str → Addr} {names : List Str} {prs : List (Str × Str)}
theorem nodup_len {α : Type} [DecidableEq α] : ∀ {l m : List α}, l.Nodup → l ⊆ m → l.length ≤ m.length
  | [], _, _, _ => Nat.zero_le _
  | a :: l, m, nd, s => by
    obtain ⟨h1, h2⟩ := List.nodup_cons.mp nd
    have ha : a ∈ m := s (by simp)
    have hs : l ⊆ m.erase a := fun x hx => (List.mem_erase_of_ne (fun e : x = a => h1 (by rw [← e]; exact hx))).mpr (s (by simp [hx]))
    have := nodup_len h2 hs
    rw [List.length_erase_of_mem ha] at this
    have := List.length_pos_of_mem ha
    rw [List.length_cons]; omega
theorem GoodBook.sub {sub : List (Str × Str)} (g : GoodBook names prs) (hs : sub.Sublist prs) : GoodBook names sub := ⟨g.l1, g.l5, g.st, g.nd, fun p hp => g.pr p (hs.subset hp), Nat.le_trans hs.length_le g.lp⟩
theorem kstr_inj {a b : List Nat} (h : kstr a = kstr b) : a = b := by
  have e := congrArg (fun z : Str => z.cps.toList) h
  simp only [kstr_tl] at e
  exact (List.map_inj_right (fun x y (z : 48 + x = 48 + y) => by omega)).mp e
end T
namespace AE
theorem ifF {A B : Prop} (h : B) : (if (false : Bool) = true then A else B) := h
theorem ifT {A B : Prop} (h : A) : (if (true : Bool) = true then A else B) := h
theorem jn_of {α : Type} {B : (α → Prop) → Prop} {k : α → Prop} (P : α → Prop) (hB : ∀ k : α → Prop, (∀ a, P a → k a) → B k) (hk : ∀ a, P a → k a) : jn B k := hB k hk
theorem jn2_of {α β : Type} {B : (α → β → Prop) → Prop} {k : α → β → Prop} (P : α → β → Prop) (hB : ∀ k : α → β → Prop, (∀ a b, P a b → k a b) → B k) (hk : ∀ a b, P a b → k a b) : jn2 B k := hB k hk
theorem jS1_of {B : (D → Prop) → Prop} {k : D → Prop} (P : D → Prop) (hB : ∀ k : D → Prop, (∀ a, P a → k a) → B k) (hk : ∀ a, P a → k a) : jS1 B k := hB k hk
end AE
namespace T
open PySem L2 AE AH TL
variable {cn : Str → Addr} {names : List Str} {prs : List (Str × Str)}
structure Ln (names : List Str) (n : Nat) (ws : List Nat) : Prop where
  lt : ∀ k ∈ ws, k < (signsL names).length
  le : ws.length ≤ n
theorem Ln.mono {n m : Nat} {ws : List Nat} (h : Ln names n ws) (l : n ≤ m) : Ln names m ws := ⟨h.lt, Nat.le_trans h.le l⟩
theorem addN {a c : Nat} {R : D → Prop} (h : R (.int ((a + c : Nat) : Int))) : z2 gAdd (.int (a : Nat)) (.int (c : Nat)) fun t => R t := by
  show R (.int ((a : Int) + (c : Int)))
  rw [← Int.natCast_add]; exact h
theorem Ln.app {n m : Nat} {a b : List Nat} (ha : Ln names n a) (hb : Ln names m b) : Ln names (n + m) (a ++ b) := ⟨fun k hk => (List.mem_append.mp hk).elim (ha.lt k) (hb.lt k), by rw [List.length_append]; have := ha.le; have := hb.le; omega⟩
theorem Ln.two {a b : Nat} (ha : a < (signsL names).length) (hb : b < (signsL names).length) : Ln names 2 [a, b] := ⟨fun k hk => by
  rcases List.mem_cons.mp hk with rfl | hk
  · exact ha
  · rw [List.mem_singleton.mp hk]; exact hb, by simp⟩
theorem Ln.one {a : Nat} (ha : a < (signsL names).length) : Ln names 1 [a] := ⟨fun k hk => by rw [List.mem_singleton.mp hk]; exact ha, by simp⟩
theorem Ln.of {ws vs : List Nat} {n : Nat} (hs : ∀ k ∈ vs, k ∈ ws) (h : Ln names n ws) (l : vs.length ≤ n) : Ln names n vs := ⟨fun k hk => h.lt k (hs k hk), l⟩
end T
namespace T
open PySem L2 AE AH TL
variable {cn : Str → Addr} {names : List Str} {prs : List (Str × Str)}
theorem nil_lt : ∀ k ∈ ([] : List Nat), k < (signsL names).length := fun k hk => by cases hk
end T
namespace T
open PySem L2 AE AH TL
variable {cn : Str → Addr} {names : List Str} {prs : List (Str × Str)}
theorem lenRR {a : List D} {R : D → Prop} (h : R (.int (a.length : Nat))) : zN gLen [.lst a] fun t => R t := h
end T
namespace T
open PySem L2 AE AH TL
variable {cn : Str → Addr} {names : List Str} {prs : List (Str × Str)}
theorem cutD_map {α β : Type} (f : α → β) (l : List α) (lo hi : Option Int) : cutD (l.map f) lo hi = (cutD l lo hi).map f := by
  unfold cutD
  rw [List.length_map, ← List.map_drop, ← List.map_take]
theorem cutD_to {α : Type} {l : List α} {a : Nat} : cutD l none (some (a : Int)) = l.take a := by
  by_cases h : a ≤ l.length
  · exact cutD_take h
  · rw [List.take_of_length_le (by omega)]
    refine cutD_whole ⟨rfl, ?_⟩
    rw [HT.sIx_nat]; omega
def KOk (s : Str × Int) : Prop := (s.1 = "strike" ∨ s.1 = "exchange") ∧ 0 ≤ s.2
end T
namespace NF
variable {ap : Nat → Nat → Bool}
end NF
namespace T
open PySem L2 AE AH TL
variable {cn : Str → Addr} {names : List Str} {prs : List (Str × Str)}
end T
namespace T
open PySem L2 AE AH TL
variable {cn : Str → Addr} {names : List Str} {prs : List (Str × Str)}
def Lt (names : List Str) (ws : List Nat) : Prop := ∀ k ∈ ws, k < (signsL names).length
theorem Lt.F {ws : List Nat} (h : Lt names ws) : Lt names (NF.F (apB names prs) ws) := fold_lt h nil_lt
theorem Lt.take {ws : List Nat} (h : Lt names ws) (i : Nat) : Lt names (ws.take i) := fun k hk => h k (List.mem_of_mem_take hk)
theorem lcF' {α : Type} {xs : List α} {c : α → D} {body : D → (D → Prop) → Prop → Prop} {k : List D → Prop} (f : α → D) (p : α → Bool) (hl : xs.length ≤ sizeLine)
    (hb : ∀ (i : Nat) x, xs[i]? = some x → ∀ emit skip, (p x = true → emit (f x)) → (p x = false → skip) → body (c x) emit skip) (hk : k ((xs.filter p).map f)) : lc0 (xs.map c) body k := by
  refine ⟨fun i acc => acc = ((xs.take i).filter p).map f, rfl, fun i d acc hd hI => ?_, fun acc hI => ?_⟩
  · rw [List.getElem?_map] at hd
    obtain ⟨x, hx, rfl⟩ := Option.map_eq_some_iff.mp hd
    have hi := (List.getElem?_eq_some_iff.mp hx).1
    have e := take_succ_get hx
    subst hI
    refine hb i x hx _ _ (fun hp => ⟨?_, ?_⟩) (fun hp => ?_)
    · have : ((xs.take i).filter p).length ≤ (xs.take i).length := List.length_filter_le _ _
      rw [List.length_map]
      rw [List.length_take] at this
      omega
    · show _ = ((xs.take (i + 1)).filter p).map f
      rw [e, List.filter_append, List.map_append]
      simp [hp]
    · show _ = ((xs.take (i + 1)).filter p).map f
      rw [e, List.filter_append, List.map_append]
      simp [hp]
  · rw [List.length_map] at hI
    rw [hI, List.take_length]; exact hk
end T
namespace T
open PySem L2 AE AH TL
variable {cn : Str → Addr} {names : List Str} {prs : List (Str × Str)}
abbrev HLb (names : List Str) (prs : List (Str × Str)) (lines : List (List Nat)) : List Nat → Prop := NF.HL (apB names prs) (signsL names).length lines
end T
namespace T
open PySem L2 AE AH TL
variable {cn : Str → Addr} {names : List Str} {prs : List (Str × Str)}
end T
namespace T
open PySem L2 AE AH TL
variable {cn : Str → Addr} {names : List Str} {prs : List (Str × Str)}
theorem kkey {a b : List Nat} : (Sum.inr (kstr a) : Key) = Sum.inr (kstr b) ↔ a = b := ⟨fun e => kstr_inj (Sum.inr.inj e), fun e => by rw [e]⟩
theorem g_some {α : Type} {f : α → List Nat} {v : α → D} {K : List Nat} : ∀ {G : List α}, (valD (G.map fun p => ((Sum.inr (kstr (f p)) : Key), v p)) (.inr (kstr K))).isSome = decide (K ∈ G.map f)
  | [] => rfl
  | p :: G => by
    have ih := g_some (f := f) (v := v) (K := K) (G := G)
    unfold valD at ih ⊢
    rw [Option.isSome_map] at ih ⊢
    rw [List.map_cons, List.find?_cons, List.map_cons]
    by_cases e : f p = K
    · rw [decide_eq_true (kkey.mpr e)]
      rw [decide_eq_true (show K ∈ f p :: G.map f by rw [e]; exact List.mem_cons_self)]; rfl
    · rw [decide_eq_false (fun z => e (kkey.mp z)), ih]
      exact decide_eq_decide.mpr ⟨List.mem_cons_of_mem _, fun z => (List.mem_cons.mp z).elim (fun q => absurd q.symm e) id⟩
structure Gd (names : List Str) (prs : List (Str × Str)) (K : List Nat) : Prop where
  nf : NF.Nrm (apB names prs) K
  lt : Lt names K
  le : K.length ≤ 500
theorem Gd.nk (A : NF.Ap (apB names prs)) {K : List Nat} (h : Gd names prs K) {x : Nat} (hx : x < (signsL names).length) : NF.Nrm (apB names prs) (NF.nk (apB names prs) K x) ∧ Lt names (NF.nk (apB names prs) K x) ∧ (NF.nk (apB names prs) K x).length ≤ 501 := ⟨h.nf.nk A x, nk_lt h.lt hx, by
  have := NF.nk_len (ap := apB names prs) (ks := K) (m := x)
  have := h.le
  omega⟩
end T
namespace T
open PySem L2 AE AH TL
variable {cn : Str → Addr} {names : List Str} {prs : List (Str × Str)}
theorem hl_gd (g : GoodBook names prs) {lines : List (List Nat)} (hl : ∀ ws ∈ lines, Lt names ws) (hs : NF.Sm (apB names prs) lines) {K : List Nat} (h : HLb names prs lines K) : Gd names prs K ∧ K.length ≤ 16 := by
  have A := ap_book g
  have le := hs.len A h
  exact ⟨⟨(NF.HL.ok A h).1, NF.Hull.lt (fun X hX => NF.Psd.lt hl hX) h, by omega⟩, by omega⟩
end T
namespace AE
open PySem L2
end AE
namespace T
open PySem L2 AE AH TL
variable {cn : Str → Addr} {names : List Str} {prs : List (Str × Str)}
theorem dkL {f : List (Key × D) → List D} {kvs : List (Key × D)} {R : List D → Prop} (h : R (f kvs)) : asDk f (.dic kvs) R := h
def ordP (l : List (List Nat)) : List (List Nat) := (l.mergeSort fun a b => leS (kstr a) (kstr b)).mergeSort fun a b => leL (kstr a) (kstr b)
theorem ordP_perm (l : List (List Nat)) : (ordP l).Perm l := (List.mergeSort_perm _ _).trans (List.mergeSort_perm _ _)
theorem ordP_eq {l l' : List (List Nat)} (h : l.Perm l') : ordP l = ordP l' := by
  unfold ordP
  congr 1
  have tr : ∀ a b c : List Nat, leS (kstr a) (kstr b) = true → leS (kstr b) (kstr c) = true → leS (kstr a) (kstr c) = true := fun a b c h1 h2 => by
    unfold leS at *
    exact decide_eq_true (List.le_trans (of_decide_eq_true h1) (of_decide_eq_true h2))
  have tt : ∀ a b : List Nat, (leS (kstr a) (kstr b) || leS (kstr b) (kstr a)) = true := fun a b => by
    unfold leS
    rw [Bool.or_eq_true, decide_eq_true_iff, decide_eq_true_iff]
    exact List.le_total _ _
  refine List.Perm.eq_of_pairwise (le := fun a b => leS (kstr a) (kstr b) = true) (fun a b _ _ h1 h2 => ?_) (List.pairwise_mergeSort tr tt l) (List.pairwise_mergeSort tr tt l') ((List.mergeSort_perm _ _).trans (h.trans (List.mergeSort_perm _ _).symm))
  unfold leS at h1 h2
  have := List.le_antisymm (of_decide_eq_true h1) (of_decide_eq_true h2)
  rw [kstr_tl, kstr_tl] at this
  exact (List.map_inj_right (fun x y (z : 48 + x = 48 + y) => by omega)).mp this
theorem strs_of (l : List Str) : strsOf (l.map D.str) = some l := by
  induction l with
  | nil => rfl
  | cons a l ih => simp [strsOf, ih]
def hkv (K : List Nat) : Key × D := (.inr (kstr K), .bl true)
def Held (names : List Str) (prs : List (Str × Str)) (B : List Nat → Prop) (P : List (List Nat)) : Prop := ∃ l : List (List Nat), l.Nodup ∧ (∀ K, K ∈ l ↔ NF.Hull (apB names prs) (signsL names).length B K) ∧ P = ordP l
theorem Held.mem {B : List Nat → Prop} {P : List (List Nat)} (h : Held names prs B P) {K : List Nat} : K ∈ P ↔ NF.Hull (apB names prs) (signsL names).length B K := by
  obtain ⟨l, _, hm, rfl⟩ := h
  rw [(ordP_perm l).mem_iff, hm]
theorem Held.nd {B : List Nat → Prop} {P : List (List Nat)} (h : Held names prs B P) : P.Nodup := by
  obtain ⟨l, nd, hm, rfl⟩ := h
  exact (ordP_perm l).symm.nodup nd
theorem Held.eq {B B' : List Nat → Prop} {P P' : List (List Nat)} (h : Held names prs B P) (h' : Held names prs B' P') : P = P' ↔ ∀ K, NF.Hull (apB names prs) (signsL names).length B K ↔ NF.Hull (apB names prs) (signsL names).length B' K := by
  constructor
  · intro e K
    rw [← h.mem, ← h'.mem, e]
  · intro e
    obtain ⟨l, nd, hm, rfl⟩ := h
    obtain ⟨l', nd', hm', rfl⟩ := h'
    exact ordP_eq ((List.perm_ext_iff_of_nodup nd nd').mpr fun K => by rw [hm, hm', e])
end T
namespace T
open PySem L2 AE AH TL
variable {cn : Str → Addr} {names : List Str} {prs : List (Str × Str)}
end T
namespace T
open PySem L2 AE AH TL
variable {cn : Str → Addr} {names : List Str} {prs : List (Str × Str)}
end T
namespace T
open PySem L2 AE AH TL
variable {cn : Str → Addr} {names : List Str} {prs : List (Str × Str)}
end T
namespace T
open PySem L2 AE AH TL
variable {cn : Str → Addr} {names : List Str} {prs : List (Str × Str)}
end T
namespace T
open PySem L2 AE AH TL
variable {cn : Str → Addr} {names : List Str} {prs : List (Str × Str)}
theorem nin {L : List (List Nat)} {K : List Nat} {R : Bool → Prop} (h : R (!decide (K ∈ L))) : z2 (gIn true) (.str (kstr K)) (.dic (L.map hkv)) fun t => tst t fun b => R b := by
  show R (xorB true (valD (L.map fun p => ((Sum.inr (kstr (id p)) : Key), D.bl true)) (.inr (kstr K))).isSome)
  rw [g_some (f := id), List.map_id]
  exact h
end T
namespace T
open PySem L2 AE AH TL
variable {cn : Str → Addr} {names : List Str} {prs : List (Str × Str)}
end T
namespace T
open PySem L2 AE AH TL
variable {cn : Str → Addr} {names : List Str} {prs : List (Str × Str)}
theorem sortS_eq {l l' : List Str} (h : l.Perm l') : l.mergeSort leS = l'.mergeSort leS := by
  have tr : ∀ a b c : Str, leS a b = true → leS b c = true → leS a c = true := fun a b c h1 h2 => by
    unfold leS at *
    exact decide_eq_true (List.le_trans (of_decide_eq_true h1) (of_decide_eq_true h2))
  have tt : ∀ a b : Str, (leS a b || leS b a) = true := fun a b => by
    unfold leS
    rw [Bool.or_eq_true, decide_eq_true_eq, decide_eq_true_eq]
    exact List.le_total _ _
  refine List.Perm.eq_of_pairwise (le := fun a b => leS a b = true) (fun a b _ _ h1 h2 => ?_) (List.pairwise_mergeSort tr tt l) (List.pairwise_mergeSort tr tt l') ((List.mergeSort_perm _ _).trans (h.trans (List.mergeSort_perm _ _).symm))
  unfold leS at h1 h2
  exact TL.ext_tl (List.le_antisymm (of_decide_eq_true h1) (of_decide_eq_true h2))
theorem tnt {f g : Prop} (h : g) : tst (.bl true) fun b => if (!b) = true then f else g := h
theorem tnf {f g : Prop} (h : f) : tst (.bl false) fun b => if (!b) = true then f else g := h
theorem tt1 {f g : Prop} (h : f) : tst (.bl true) fun b => if b = true then f else g := h
theorem tf1 {f g : Prop} (h : g) : tst (.bl false) fun b => if b = true then f else g := h
theorem sortL {l : List Str} {R : D → Prop} (h : R (.lst ((l.mergeSort leS).map D.str))) : zN gSort [.lst (l.map D.str)] fun t => R t := ⟨l, strs_of l, h⟩
theorem eqI0 {n : Nat} {R : D → Prop} (h : R (.bl (decide (n = 0)))) : z2 gEq (.int (n : Nat)) (.int 0) fun t => R t := by
  refine ⟨.inl rfl, ?_⟩
  show R (.bl (((n : Nat) : Int) == 0))
  have e : (((n : Nat) : Int) == 0) = decide (n = 0) := by
    rw [Bool.eq_iff_iff]
    simp
  rw [e]; exact h
end T
namespace T
open PySem L2 AE AH TL
variable {cn : Str → Addr} {names : List Str} {prs : List (Str × Str)}
theorem Held.congr {B B' : List Nat → Prop} {P : List (List Nat)} (h : Held names prs B P) (e : ∀ K, NF.Hull (apB names prs) (signsL names).length B K ↔ NF.Hull (apB names prs) (signsL names).length B' K) : Held names prs B' P := by
  obtain ⟨l, nd, hm, hp⟩ := h
  exact ⟨l, nd, fun K => (hm K).trans (e K), hp⟩
end T
namespace T
open PySem L2 AE AH TL
variable {cn : Str → Addr} {names : List Str} {prs : List (Str × Str)}
structure HS (P : List (List Nat)) (S : List Nat → Prop) : Prop where
  ex : ∃ l : List (List Nat), l.Nodup ∧ (∀ K, K ∈ l ↔ S K) ∧ P = ordP l
theorem HS.mem {P : List (List Nat)} {S : List Nat → Prop} (h : HS P S) {K : List Nat} : K ∈ P ↔ S K := by
  obtain ⟨l, _, hm, rfl⟩ := h.ex
  rw [(ordP_perm l).mem_iff, hm]
theorem HS.nd {P : List (List Nat)} {S : List Nat → Prop} (h : HS P S) : P.Nodup := by
  obtain ⟨l, nd, hm, rfl⟩ := h.ex
  exact (ordP_perm l).symm.nodup nd
theorem HS.eq {P P' : List (List Nat)} {S S' : List Nat → Prop} (h : HS P S) (h' : HS P' S') : P = P' ↔ ∀ K, S K ↔ S' K := by
  constructor
  · intro e K
    rw [← h.mem, ← h'.mem, e]
  · intro e
    obtain ⟨l, nd, hm, rfl⟩ := h.ex
    obtain ⟨l', nd', hm', rfl⟩ := h'.ex
    exact ordP_eq ((List.perm_ext_iff_of_nodup nd nd').mpr fun K => by rw [hm, hm', e])
theorem HS.congr {P : List (List Nat)} {S S' : List Nat → Prop} (h : HS P S) (e : ∀ K, S K ↔ S' K) : HS P S' := by
  obtain ⟨l, nd, hm, hp⟩ := h.ex
  exact ⟨l, nd, fun K => (hm K).trans (e K), hp⟩
theorem Held.hs {B : List Nat → Prop} {P : List (List Nat)} (h : Held names prs B P) : HS P (NF.Hull (apB names prs) (signsL names).length B) := by
  obtain ⟨l, nd, hm, hp⟩ := h
  exact ⟨l, nd, hm, hp⟩
structure Fw (names : List Str) (prs : List (Str × Str)) (lines : List (List Nat)) (S : List Nat → Prop) (P : List (List Nat)) : Prop where
  lt : ∀ ws ∈ lines, Lt names ws
  sm : NF.Sm (apB names prs) lines
  sub : ∀ K, S K → HLb names prs lines K
  hs : HS P S
theorem Fw.gd (g : GoodBook names prs) {lines : List (List Nat)} {S : List Nat → Prop} {P : List (List Nat)} (h : Fw names prs lines S P) : (∀ K ∈ P, Gd names prs K ∧ K.length ≤ 16) ∧ P.length ≤ 65536 :=
  ⟨fun K hK => hl_gd g h.lt h.sm (h.sub K (h.hs.mem.mp hK)), h.sm.many (n := (signsL names).length) (ap_book g) h.hs.nd fun K hK => h.sub K (h.hs.mem.mp hK)⟩
end T
namespace T
open PySem L2 AE AH TL
variable {cn : Str → Addr} {names : List Str} {prs : List (Str × Str)}
theorem val_map {α : Type} {key : α → Key} {v : α → D} {a : α} : ∀ {l : List α}, a ∈ l → (∀ b ∈ l, key b = key a → b = a) → valD (l.map fun a => (key a, v a)) (key a) = some (v a)
  | x :: l, h, hi => by
    unfold valD
    rw [List.map_cons, List.find?_cons]
    by_cases e : key x = key a
    · rw [decide_eq_true e]
      have := hi x List.mem_cons_self e
      subst this; rfl
    · rw [decide_eq_false e]
      have ha : a ∈ l := (List.mem_cons.mp h).elim (fun z => absurd (by rw [z]) e) id
      exact val_map ha fun b hb => hi b (List.mem_cons_of_mem _ hb)
theorem val_none {α : Type} {key : α → Key} {v : α → D} {k : Key} : ∀ {l : List α}, (∀ b ∈ l, key b ≠ k) → valD (l.map fun a => (key a, v a)) k = none
  | [], _ => rfl
  | x :: l, h => by
    unfold valD
    rw [List.map_cons, List.find?_cons, decide_eq_false (h x List.mem_cons_self)]
    exact val_none fun b hb => h b (List.mem_cons_of_mem _ hb)
structure PT (n : Nat) (T : List Nat) : Prop where
  len : T.length = n
  lt : ∀ k ∈ T, k < n
  nd : T.Nodup
theorem PT.all {n : Nat} {T : List Nat} (h : PT n T) {s : Nat} (hs : s < n) : s ∈ T := by
  refine Classical.byContradiction fun hn => ?_
  have sub : T ⊆ (List.range n).erase s := fun x hx => (List.mem_erase_of_ne (fun e : x = s => hn (by rw [← e]; exact hx))).mpr (List.mem_range.mpr (h.lt x hx))
  have := nodup_len h.nd sub
  rw [List.length_erase_of_mem (List.mem_range.mpr hs), List.length_range, h.len] at this
  omega
theorem tstB {b : Bool} {R : Bool → Prop} (h : R b) : tst (.bl b) fun b => R b := h
theorem isLst {l : List D} {R : D → Prop} (h : R (.bl true)) : isT2 "list" "tuple" (.lst l) fun t => R t := h
theorem isN_int {n : Nat} {R : D → Prop} (h : R (.bl true)) : z2 (gIsN true) (.int (n : Nat)) .non fun t => R t := h
theorem asEnL {xs : List D} {k : List D → Prop} (h : k (enumD xs)) : asEn (.lst xs) k := h
theorem enum_at {ds : List D} {i : Nat} {d : D} (h : (enumD ds)[i]? = some d) : ∃ x, ds[i]? = some x ∧ d = .tup [.int (i : Nat), x] := by
  have hi := (List.getElem?_eq_some_iff.mp h).1
  rw [enumD_len] at hi
  have e := enumD_get (List.getElem?_eq_getElem hi)
  rw [h] at e
  exact ⟨ds[i], List.getElem?_eq_getElem hi, Option.some.inj e⟩
theorem idx_nd {T : List Nat} (nd : T.Nodup) {j k : Nat} (h : T[j]? = some k) : T.idxOf k = j := by
  obtain ⟨hj, e⟩ := List.getElem?_eq_some_iff.mp h
  have hk : k ∈ T := List.mem_of_getElem? h
  have h1 := List.idxOf_lt_length_of_mem hk
  have h2 : T[T.idxOf k] = k := List.getElem_idxOf h1
  exact (List.getElem_inj nd).mp (h2.trans e.symm)
def opD : Option Nat → D
  | none => .non
  | some k => .int (k : Nat)
def onL (T : List (Option Nat)) : D := .lst (T.map opD)
structure PaT (n : Nat) (T : List (Option Nat)) : Prop where
  len : T.length = n
  lt : ∀ k : Nat, some k ∈ T → k < n
  inj : ∀ i j k : Nat, T[i]? = some (some k) → T[j]? = some (some k) → i = j
def invO (n : Nat) (T : List (Option Nat)) : List (Option Nat) := (List.range n).map fun s => if some s ∈ T then some (T.idxOf (some s)) else none
theorem idxO {n : Nat} {T : List (Option Nat)} (h : PaT n T) {i k : Nat} (e : T[i]? = some (some k)) : T.idxOf (some k) = i := by
  have hk : some k ∈ T := List.mem_of_getElem? e
  have h1 := List.idxOf_lt_length_of_mem hk
  have h2 : T[T.idxOf (some k)] = some k := List.getElem_idxOf h1
  exact h.inj _ _ k (by rw [List.getElem?_eq_getElem h1, h2]) e
theorem PaT.new {n : Nat} {T : List (Option Nat)} (h : PaT n T) {i k : Nat} (e : T[i]? = some (some k)) : some k ∉ T.take i := fun hm => by
  obtain ⟨j, hj⟩ := List.mem_iff_getElem?.mp hm
  have hl : j < i := by
    have := (List.getElem?_eq_some_iff.mp hj).1
    rw [List.length_take] at this; omega
  rw [List.getElem?_take, if_pos hl] at hj
  have := h.inj _ _ k hj e
  omega
theorem isN_op {o : Option Nat} {R : D → Prop} (h : R (.bl o.isSome)) : z2 (gIsN true) (opD o) .non fun t => R t := by
  cases o with
  | none => exact h
  | some k => exact isN_int h
theorem int_inj {a b : Option Int} (h : a.map V.int = b.map V.int) : a = b := by
  cases a with
  | none => cases b with
    | none => rfl
    | some y => simp at h
  | some x => cases b with
    | none => simp at h
    | some y => simp at h; rw [h]
theorem getN_put {kvs : List (NK × Int)} {k j : NK} {v : Int} : getN (putN kvs k v) j = if j = k then some v else getN kvs j := by
  refine int_inj ?_
  rw [← nkv_val, nkv_put, valV_put, nkv_val]
  split <;> rfl
theorem putN_len {kvs : List (NK × Int)} {k : NK} {v : Int} : (putN kvs k v).length ≤ kvs.length + 1 := by
  have := length_putK (nkv kvs) k (.int v)
  rw [← nkv_put, nkv_length, nkv_length] at this
  exact this
theorem turnedO_spec {n : Nat} {T : List (Option Nat)} (hT : PaT n T) (hn : n ≤ 70000) {Q : D → Prop} {E : XD → Prop} (h : Q (onL (invO n T))) : m_turned cn (onL T) Q E := by
  have ll : (T.map opD).length = T.length := List.length_map ..
  have hl := hT.len
  unfold m_turned onL
  refine asEnL ?_
  refine ⟨fun i acc => acc.length ≤ i ∧ ∀ s : Nat, getN acc (some (.inl (s : Int))) = if some s ∈ T.take i then some ((T.idxOf (some s) : Nat) : Int) else none, ⟨Nat.le_refl _, fun s => rfl⟩, ?_, ?_⟩
  · rintro i d acc hd ⟨la, hg⟩
    obtain ⟨x, hx, rfl⟩ := enum_at hd
    rw [List.getElem?_map] at hx
    obtain ⟨o, ho, rfl⟩ := Option.map_eq_some_iff.mp hx
    have hi := (List.getElem?_eq_some_iff.mp ho).1
    have tk := take_succ_get ho
    have fin : ∀ k : NK, (k = o.map fun j : Nat => Sum.inl ((j : Nat) : Int)) → acc.length < sizeLine ∧ (putN acc k (i : Nat)).length ≤ i + 1 ∧ ∀ s : Nat, getN (putN acc k (i : Nat)) (some (.inl (s : Int))) = if some s ∈ T.take (i + 1) then some ((T.idxOf (some s) : Nat) : Int) else none := by
      rintro k rfl
      refine ⟨sz_lt (by omega), Nat.le_trans putN_len (by omega), fun s => ?_⟩
      rw [getN_put, hg, tk]
      cases o with
      | none =>
        rw [if_neg (by simp)]
        simp
      | some k =>
        by_cases e : s = k
        · subst e
          rw [if_pos (by rfl), if_pos (by simp), idxO hT ho]
        · rw [if_neg (fun z => e (by have z := Sum.inl.inj (Option.some.inj z); omega))]
          simp [e]
    cases o with
    | none => exact fin none rfl
    | some k => exact fin (some (.inl (k : Int))) rfl
  · rintro acc ⟨_, hg⟩
    have le : (enumD (T.map opD)).length = T.length := by rw [enumD_len, ll]
    rw [le, List.take_length] at hg
    refine lenRR ?_
    rw [ll, hl]
    refine ⟨by omega, by omega, ?_⟩
    have e0 : rngD 0 ((n : Nat) : Int).toNat = (List.range n).map fun s => D.int (s : Nat) := by
      unfold rngD
      rw [Int.toNat_natCast]
      refine List.map_congr_left fun s _ => ?_
      congr 1; omega
    rw [e0]
    refine lcM' (xs := List.range n) (c := fun s => D.int (s : Nat)) (fun s => opD (if some s ∈ T then some (T.idxOf (some s)) else none)) (sz_le (by rw [List.length_range]; omega)) (fun i s hs emit skip nx => ?_) ?_
    · show emit (gotN acc (some (.inl (s : Int))))
      unfold gotN
      rw [hg]
      split at nx
      · rename_i hm
        rw [if_pos hm]; exact nx
      · rename_i hm
        rw [if_neg hm]; exact nx
    · have e : (List.range n).map (fun s => opD (if some s ∈ T then some (T.idxOf (some s)) else none)) = (invO n T).map opD := by unfold invO; rw [List.map_map]; rfl
      rw [e]; exact h
theorem PT.po {n : Nat} {T : List Nat} (h : PT n T) : PaT n (T.map some) := ⟨by rw [List.length_map]; exact h.len, fun k hk => by
  obtain ⟨x, hx, e⟩ := List.mem_map.mp hk
  cases e; exact h.lt _ hx, fun i j k hi hj => by
  rw [List.getElem?_map] at hi hj
  obtain ⟨x, hx, e⟩ := Option.map_eq_some_iff.mp hi
  obtain ⟨y, hy, e'⟩ := Option.map_eq_some_iff.mp hj
  cases e; cases e'
  rw [← idx_nd h.nd hx, ← idx_nd h.nd hy]⟩
end T
namespace T
open PySem L2 AE AH TL
variable {cn : Str → Addr} {names : List Str} {prs : List (Str × Str)}
def sysD (cn : Str → Addr) (n : Nat) (L : List (Key × D)) : D := .ins (cn "System") [("numbers", .lst (rngD 0 ((n : Nat) : Int).toNat)), ("led", .dic L)]
theorem dash_ne {x y : Str} (h : StepName x) : x ≠ "-" ++ y := fun e => by
  have e1 : x.cps.toList = (("-" : Str) ++ y).cps.toList := by rw [← e]
  rw [dash_tl] at e1
  exact absurd (h.abc 45 (by rw [e1]; simp)) (by decide +kernel)
theorem pSetK {kvs : List (Key × D)} {s : Str} {v : D} (hl : kvs.length < 1000000) {R : D → Prop} (h : R (.dic (putDk kvs (.inr s) v))) : pSetDk (.dic kvs) (.str s) v fun t => R t := ⟨sz_lt (by omega), h⟩
theorem addS {a b : Str} (hl : a.length + b.length ≤ 1000) {R : D → Prop} (h : R (.str (a ++ b))) : z2 gAdd (.str a) (.str b) fun t => R t := ⟨sz_le (by omega), h⟩
theorem ixK {kvs : List (Key × D)} {s : Str} {v : D} (e : valD kvs (.inr s) = some v) {R : D → Prop} (h : R v) : z2 gIxD (.dic kvs) (.str s) fun t => R t := ⟨_, e, h⟩
end T
namespace T
open PySem L2 AE AH TL
variable {cn : Str → Addr} {names : List Str} {prs : List (Str × Str)}
end T
namespace T
open PySem L2 AE AH TL
variable {cn : Str → Addr} {names : List Str} {prs : List (Str × Str)}
def ledO (n : Nat) (ss : List Str) (tb : Str → List (Option Nat)) : List (Key × D) := ss.flatMap fun s => [(.inr s, onL (tb s)), (.inr ("-" ++ s), onL (invO n (tb s)))]
theorem ledO_keys {n : Nat} {tb : Str → List (Option Nat)} {ss : List Str} {kv : Key × D} (h : kv ∈ ledO n ss tb) : ∃ s ∈ ss, kv.1 = .inr s ∨ kv.1 = .inr ("-" ++ s) := by
  unfold ledO at h
  obtain ⟨s, hs, hk⟩ := List.mem_flatMap.mp h
  simp only [List.mem_cons, List.not_mem_nil, or_false] at hk
  rcases hk with rfl | rfl
  · exact ⟨s, hs, .inl rfl⟩
  · exact ⟨s, hs, .inr rfl⟩
theorem ledO_len {n : Nat} {tb : Str → List (Option Nat)} (ss : List Str) : (ledO n ss tb).length = 2 * ss.length := by
  unfold ledO
  induction ss with
  | nil => rfl
  | cons a ss ih => rw [List.flatMap_cons, List.length_append, ih]; simp; omega
theorem gAnyB {l : List Bool} {R : Bool → Prop} (hR : R (l.any id)) : zN gAny [.lst (l.map D.bl)] fun t => tst t fun b => R b := ⟨l, rfl, hR⟩
theorem gListO {l : List (Option Nat)} {R : D → Prop} (h : R (onL l)) : zN gList [onL l] fun t => R t := h
end T
namespace T
open PySem L2 AE AH TL
variable {cn : Str → Addr} {names : List Str} {prs : List (Str × Str)}
end T
namespace T
open PySem L2 AE AH TL
variable {cn : Str → Addr} {names : List Str} {prs : List (Str × Str)}
structure Ag (names : List Str) (prs : List (Str × Str)) (P : List (List Nat)) : Prop where
  nd : P.Nodup
  gd : ∀ K ∈ P, Gd names prs K ∧ K.length ≤ 16
  le : P.length ≤ 65536
  st : P[0]? = some []
  sq : ∀ K x y, K ∈ P → NF.nk (apB names prs) K x ∈ P → NF.nk (apB names prs) (NF.nk (apB names prs) K x) y ∈ P → x < (signsL names).length → y < (signsL names).length → NF.com (apB names prs) x y = true → NF.nk (apB names prs) K y ∈ P
theorem pSetD {kvs : List (Key × D)} {s : Str} {v : D} (hl : kvs.length < 1000000) {R : D → Prop} (h : R (.dic (putDk kvs (.inr s) v))) : pSet (.dic kvs) (.str s) v fun t => R t := ⟨sz_lt (by omega), h⟩
theorem rng_natG {n : Nat} : rngD 0 ((n : Nat) : Int).toNat = (List.range n).map fun s => D.int (s : Nat) := by
  unfold rngD
  rw [Int.toNat_natCast]
  refine List.map_congr_left fun s _ => ?_
  congr 1; omega
end T
namespace T
open PySem L2 AE AH TL
variable {cn : Str → Addr} {names : List Str} {prs : List (Str × Str)}
end T
namespace T
open PySem L2 AE AH TL
variable {cn : Str → Addr} {names : List Str} {prs : List (Str × Str)}
end T
namespace T
open PySem L2 AE AH TL
variable {cn : Str → Addr} {names : List Str} {prs : List (Str × Str)}
end T
namespace T
open PySem L2 AE AH TL
variable {cn : Str → Addr} {names : List Str} {prs : List (Str × Str)}
def insK (L : List (List Nat)) (K : List Nat) : List (List Nat) := if K ∈ L then L else L ++ [K]
theorem insK_mem {L : List (List Nat)} {K X : List Nat} : X ∈ insK L K ↔ X ∈ L ∨ X = K := by
  unfold insK
  split
  · rename_i h; exact ⟨.inl, fun z => z.elim id fun e => e ▸ h⟩
  · rw [List.mem_append, List.mem_singleton]
structure PL (names : List Str) (prs : List (Str × Str)) (L : List (List Nat)) : Prop where
  nf : ∀ K ∈ L, NF.Nrm (apB names prs) K
  lt : ∀ K ∈ L, Lt names K
theorem PL.ins {L : List (List Nat)} (p : PL names prs L) {K : List Nat} (nK : NF.Nrm (apB names prs) K) (hK : Lt names K) : PL names prs (insK L K) :=
  ⟨fun X hX => (insK_mem.mp hX).elim (p.nf X) fun e => e ▸ nK, fun X hX => (insK_mem.mp hX).elim (p.lt X) fun e => e ▸ hK⟩
abbrev Sqr := List Nat × Nat × Nat
def qD (cn : Str → Addr) (names : List Str) (prs : List (Str × Str)) (s : Sqr) : D := .tup [placeD cn names prs (NF.F (apB names prs) s.1), .str (sgK names s.2.1), .str (sgK names s.2.2)]
structure SqG (names : List Str) (m : Nat) (s : Sqr) : Prop where
  lt : Lt names s.1
  le : s.1.length ≤ m
  x : s.2.1 < (signsL names).length
  y : s.2.2 < (signsL names).length
def okSq (ap : Nat → Nat → Bool) : List Sqr → (List Nat → Prop) → List Nat → Prop
  | [], kn, ws => ∀ i, i ≤ ws.length → kn (NF.F ap (ws.take i))
  | s :: r, kn, ws => NF.com ap s.2.1 s.2.2 = true ∧ kn (NF.F ap s.1) ∧ kn (NF.F ap (s.1 ++ [s.2.1])) ∧ kn (NF.F ap (s.1 ++ [s.2.2])) ∧ okSq ap r (fun K => kn K ∨ K = NF.F ap (s.1 ++ [s.2.1, s.2.2])) ws
theorem okSq.congr {ap : Nat → Nat → Bool} {sq : List Sqr} {kn kn' : List Nat → Prop} {ws : List Nat} (h : ∀ K, kn K ↔ kn' K) : okSq ap sq kn ws ↔ okSq ap sq kn' ws := by
  have : kn = kn' := funext fun K => propext (h K)
  rw [this]
theorem okSq.step {ap : Nat → Nat → Bool} {sq : List Sqr} {t : Nat} {s : Sqr} (hs : sq[t]? = some s) {L : List (List Nat)} {ws : List Nat} (c : NF.com ap s.2.1 s.2.2 = true) (a : NF.F ap s.1 ∈ L) (a1 : NF.F ap (s.1 ++ [s.2.1]) ∈ L) (a2 : NF.F ap (s.1 ++ [s.2.2]) ∈ L) :
    okSq ap (sq.drop t) (fun K => K ∈ L) ws ↔ okSq ap (sq.drop (t + 1)) (fun K => K ∈ insK L (NF.F ap (s.1 ++ [s.2.1, s.2.2]))) ws := by
  have hi := (List.getElem?_eq_some_iff.mp hs).1
  have e : sq.drop t = s :: sq.drop (t + 1) := by
    rw [List.drop_eq_getElem_cons hi, (List.getElem?_eq_some_iff.mp hs).2]
  rw [e]
  have q : okSq ap (sq.drop (t + 1)) (fun K => K ∈ insK L (NF.F ap (s.1 ++ [s.2.1, s.2.2]))) ws ↔ okSq ap (sq.drop (t + 1)) (fun K => K ∈ L ∨ K = NF.F ap (s.1 ++ [s.2.1, s.2.2])) ws := okSq.congr fun K => insK_mem
  rw [q]
  exact ⟨fun z => z.2.2.2.2, fun z => ⟨c, a, a1, a2, z⟩⟩
end T
namespace T
open PySem L2 AE AH TL
variable {cn : Str → Addr} {names : List Str} {prs : List (Str × Str)}
end T
namespace T
open PySem L2 AE AH TL
variable {cn : Str → Addr} {names : List Str} {prs : List (Str × Str)}
def Nds (ap : Nat → Nat → Bool) (p : NF.Pk) (X : List Nat) : Prop := ∃ C x y, p.2 = some (C, x, y) ∧ (X = C ∨ X = NF.nk ap C x ∨ X = NF.nk ap C y)
end T
namespace T
open PySem L2 AE AH TL
variable {cn : Str → Addr} {names : List Str} {prs : List (Str × Str)}
def wsD (cn : Str → Addr) (names : List Str) (prs : List (Str × Str)) (W : List (List Nat)) : D := .lst (W.map (wordW cn names prs))
def lsD (names : List Str) (W : List (List Nat)) : D := .lst (W.map (lineD names))
def csD (names : List Str) (A U : List (List Nat)) (Ls : List (List (List Nat))) (left : D) : D := .lst [lsD names A, lsD names U, .lst (Ls.map (lsD names)), left]
def smL (W : List (List Nat)) : Nat := (W.map List.length).sum
structure IsCs (names : List Str) (A U : List (List Nat)) (Ls : List (List (List Nat))) (cs : D) : Prop where
  is : (∃ left, cs = .lst [lsD names A, lsD names U, .lst (Ls.map (lsD names)), left]) ∨ cs = .lst [lsD names A, lsD names U, .lst (Ls.map (lsD names))]
theorem IsCs.cs {A U : List (List Nat)} {Ls : List (List (List Nat))} {left : D} : IsCs names A U Ls (csD names A U Ls left) := ⟨.inl ⟨left, rfl⟩⟩
theorem IsCs.i0 {A U : List (List Nat)} {Ls : List (List (List Nat))} {cs : D} (h : IsCs names A U Ls cs) {R : D → Prop} (hr : R (lsD names A)) : z2 gIxD cs (.int 0) fun t => R t := by
  rcases h.is with ⟨left, rfl⟩ | rfl <;> exact ⟨_, rfl, hr⟩
theorem IsCs.i1 {A U : List (List Nat)} {Ls : List (List (List Nat))} {cs : D} (h : IsCs names A U Ls cs) {R : D → Prop} (hr : R (lsD names U)) : z2 gIxD cs (.int 1) fun t => R t := by
  rcases h.is with ⟨left, rfl⟩ | rfl <;> exact ⟨_, rfl, hr⟩
theorem IsCs.i2 {A U : List (List Nat)} {Ls : List (List (List Nat))} {cs : D} (h : IsCs names A U Ls cs) {R : D → Prop} (hr : R (.lst (Ls.map (lsD names)))) : z2 gIxD cs (.int 2) fun t => R t := by
  rcases h.is with ⟨left, rfl⟩ | rfl <;> exact ⟨_, rfl, hr⟩
structure Cs (names : List Str) (A U : List (List Nat)) (Ls : List (List (List Nat))) : Prop where
  a : ∀ w ∈ A, Lt names w
  u : ∀ w ∈ U, Lt names w
  g : ∀ G ∈ Ls, ∀ w ∈ G, Lt names w
  tot : smL A + smL U + (Ls.map smL).sum ≤ 12
  la : A.length ≤ 8
  lu : U.length ≤ 8
  ll : Ls.length ≤ 4
  lg : ∀ G ∈ Ls, 1 ≤ G.length ∧ G.length ≤ 3
def chs (A : List (List Nat)) (Ls : List (List (List Nat))) : List (List (List Nat)) := Ls.foldl (fun found G => found.flatMap fun W => G.map fun m => W ++ [m]) [A]
structure Chn (A : List (List Nat)) (Ls : List (List (List Nat))) (W : List (List Nat)) : Prop where
  a : ∀ w ∈ A, w ∈ W
  g : ∀ G ∈ Ls, ∃ w ∈ G, w ∈ W
  of : ∀ w ∈ W, w ∈ A ∨ ∃ G ∈ Ls, w ∈ G
  sm : smL W ≤ smL A + (Ls.map smL).sum
  ln : W.length = A.length + Ls.length
def IsS (d : D) (l : List D) : Prop := d = .lst l ∨ d = .tup l ∨ d = .kt l
theorem IsS.lst {l : List D} : IsS (.lst l) l := .inl rfl
theorem IsS.tup {l : List D} : IsS (.tup l) l := .inr (.inl rfl)
theorem IsS.kt {l : List D} : IsS (.kt l) l := .inr (.inr rfl)
structure EoR (cn : Str → Addr) (names : List Str) (prs : List (Str × Str)) (p : D × List (List Nat)) : Prop where
  is : p.1 = wsD cn names prs p.2 ∨ p.1 = .tup (p.2.map (wordW cn names prs))
end T
namespace T
open PySem L2 AE AH TL
variable {cn : Str → Addr} {names : List Str} {prs : List (Str × Str)}
structure Wk (names : List Str) (W : List (List Nat)) : Prop where
  lt : ∀ w ∈ W, Lt names w
  sm : smL W ≤ 16
  ln : W.length ≤ 13
theorem Wk.Sm {ap : Nat → Nat → Bool} {W : List (List Nat)} (k : Wk names W) : NF.Sm ap W := NF.Sm.sum k.sm
def free (names : List Str) (prs : List (Str × Str)) (U W : List (List Nat)) : Prop := ∀ u ∈ U, ¬ NF.Ins (apB names prs) (HLb names prs W) u
noncomputable def freeB (names : List Str) (prs : List (Str × Str)) (U W : List (List Nat)) : Bool := @decide (free names prs U W) (Classical.propDecidable _)
noncomputable def insB (names : List Str) (prs : List (Str × Str)) (W : List (List Nat)) (u : List Nat) : Bool := @decide (NF.Ins (apB names prs) (HLb names prs W) u) (Classical.propDecidable _)
theorem rng_n {n : Nat} (hn : n ≤ 1000000) {R : List D → Prop} (h : R ((List.range n).map fun s => D.int (s : Nat))) : rng1 (.int (n : Nat)) R := by
  refine ⟨by omega, by omega, ?_⟩
  rw [rng_natG]; exact h
theorem rngd {n i : Nat} {d : D} (h : ((List.range n).map fun s => D.int (s : Nat))[i]? = some d) : i < n ∧ d = .int (i : Nat) := by
  rw [List.getElem?_map] at h
  obtain ⟨x, hx, rfl⟩ := Option.map_eq_some_iff.mp h
  have := (List.getElem?_eq_some_iff.mp hx).1
  rw [List.length_range] at this
  rw [List.getElem?_range this] at hx
  cases hx
  exact ⟨this, rfl⟩
structure Sat (names : List Str) (prs : List (Str × Str)) (A U : List (List Nat)) (Ls : List (List (List Nat))) (R : List Nat → Prop) : Prop where
  clo : NF.Clo (apB names prs) (signsL names).length R
  st : R []
  a : ∀ w ∈ A, NF.Ins (apB names prs) R w
  u : ∀ w ∈ U, ¬ NF.Ins (apB names prs) R w
  g : ∀ G ∈ Ls, ∃ w ∈ G, NF.Ins (apB names prs) R w
def Pap (names : List Str) (prs : List (Str × Str)) (wss : List (List Nat)) (ws : List Nat) (SQ : List Sqr) : Prop := ∃ (G : List NF.Pk) (N : List (List Nat)), (NF.Gf G).Nodup ∧ (∀ K, K ∈ NF.Gf G ↔ HLb names prs wss K) ∧ (∀ (i : Nat) (p : NF.Pk), G[i]? = some p → NF.SqOk (apB names prs) (signsL names).length (NF.Gf (G.take i)) p) ∧ (∀ p ∈ G, p.2 = none → NF.Psd (apB names prs) wss p.1) ∧
  (∀ i, i ≤ ws.length → NF.F (apB names prs) (ws.take i) ∈ N) ∧ (∀ p ∈ G, p.1 ∈ N → ∀ X, Nds (apB names prs) p X → X ∈ N) ∧ (∀ s ∈ SQ, SqG names 16 s ∧ NF.Nrm (apB names prs) s.1) ∧ G.length ≤ 65536 ∧ SQ = (G.filter fun p => p.2.isSome && decide (p.1 ∈ N)).filterMap (·.2)
theorem Pap.len {wss : List (List Nat)} {ws : List Nat} {SQ : List Sqr} (h : Pap names prs wss ws SQ) : SQ.length ≤ 65536 := by
  obtain ⟨G, N, _, _, _, _, _, _, _, l, rfl⟩ := h
  exact Nat.le_trans (List.length_filterMap_le _ _) (Nat.le_trans (List.length_filter_le _ _) l)
theorem Pap.sq {wss : List (List Nat)} {ws : List Nat} {SQ : List Sqr} (h : Pap names prs wss ws SQ) : ∀ s ∈ SQ, SqG names 16 s ∧ NF.Nrm (apB names prs) s.1 := by
  obtain ⟨G, N, _, _, _, _, _, _, h, _⟩ := h
  exact h
def CE (cn : Str → Addr) (names : List Str) (prs : List (Str × Str)) (U W : List (List Nat)) (d : D) : Prop := ∃ (i : Nat) (u : List Nat) (SQ : List Sqr), U[i]? = some u ∧ NF.Ins (apB names prs) (HLb names prs W) u ∧ (∀ (j : Nat) v, j < i → U[j]? = some v → ¬ NF.Ins (apB names prs) (HLb names prs W) v) ∧ Pap names prs W u SQ ∧ d = .tup [.str "clash", .int (i : Nat), .lst (SQ.map (qD cn names prs))]
def CR (cn : Str → Addr) (names : List Str) (prs : List (Str × Str)) (A U : List (List Nat)) (Ls : List (List (List Nat))) (d : D) : Prop := ∃ ps : List (List (List Nat) × D), ps.map (·.1) = chs A Ls ∧ (∀ p ∈ ps, CE cn names prs U p.1 p.2) ∧ d = .lst (ps.map (·.2))
end T
namespace T
open PySem L2 AE AH TL
variable {cn : Str → Addr} {names : List Str} {prs : List (Str × Str)}
theorem eqStV {x y : Str} {R : D → Prop} (h : R (.bl (decide (x = y)))) : z2 gEq (.str x) (.str y) fun t => R t := by
  refine ⟨.inl rfl, ?_⟩
  show R (.bl (x == y))
  have e : (x == y) = decide (x = y) := by
    rw [Bool.eq_iff_iff, beq_iff_eq, decide_eq_true_eq]
  rw [e]; exact h
structure FrOk (names : List Str) (prs : List (Str × Str)) (p : List (List Nat) × List (List Nat)) : Prop where
  lt : ∀ ws ∈ p.2, Lt names ws
  hm : ∀ K, K ∈ NF.Fs (apB names prs) p.2 ↔ HLb names prs p.1 K
end T
namespace T
open PySem L2 AE AH TL
variable {cn : Str → Addr} {names : List Str} {prs : List (Str × Str)}
end T
namespace T
open PySem L2 AE AH TL
variable {cn : Str → Addr} {names : List Str} {prs : List (Str × Str)}
theorem eqZ {a c : Int} {R : Bool → Prop} (h : R (decide (a = c))) : z2 gEq (.int a) (.int c) fun t => tst t fun b => R b := by
  refine ⟨.inl rfl, ?_⟩
  show R (a == c)
  have e : (a == c) = decide (a = c) := by rw [Bool.eq_iff_iff, beq_iff_eq, decide_eq_true_eq]
  rw [e]; exact h
theorem lsQ {xs : List D} {R : Prop} (h : R) : lsP (.lst xs) R := h
structure Tp (a b c : Int) : Prop where
  a0 : 0 ≤ a
  b0 : 0 ≤ b
  b1 : b < 2147483648
  c0 : 0 ≤ c
  c1 : c < 2147483648
def Tape (d : D) : Prop := ∃ a b c : Int, d = .lst [.int a, .int b, .int c] ∧ Tp a b c
theorem tape_spec {ns : List Int} {k : Nat} {Q : D → Prop} {E : XD → Prop} (hk2 : k ≤ 1000) (h : ∀ b, Tape b → Q b) : m__law_tape cn (.scr ns) (.int (k : Nat)) Q E := by
  unfold m__law_tape
  refine jS1_of (fun d => ∃ c : Int, d = .int c) (fun kk hk => ?_) ?_
  · refine iteB (fun e => ?_) (fun _ => hk _ ⟨0, rfl⟩)
    obtain ⟨x, _, hx⟩ := atI_lt (by omega) (of_decide_eq_true e)
    exact ⟨x, hx, hk _ ⟨x, rfl⟩⟩
  rintro _ ⟨c, rfl⟩
  refine ⟨mulW (by decide) (by omega), mulW (by decide) (by omega), ?_⟩
  refine h _ ⟨_, _, _, rfl, ⟨?_, by omega, by omega, by omega, by omega⟩⟩
  split <;> omega
theorem pick_spec {b : D} {n : Nat} {Q : D → D → Prop} {E : XD → Prop} (hb : Tape b) (hn : 0 < n) (hn2 : n ≤ 10 ^ 9)
    (h : ∀ (v : Nat) (b' : D), v < n → Tape b' → Q (.int (v : Nat)) b') : m__law_pick cn b (.int (n : Nat)) Q E := by
  have h' : ∀ (v : Int) (b' : D), 0 ≤ v → v < (n : Int) → Tape b' → Q (.int v) b' := fun v b' h0 h1 t => by
    obtain ⟨v, rfl⟩ : ∃ k : Nat, v = (k : Int) := ⟨v.toNat, by omega⟩
    exact h v b' (by omega) t
  have hn' : (0 : Int) < (n : Int) := by omega
  obtain ⟨a, b, c, rfl, ha, hb0, hb1, hc0, hc1⟩ := hb
  unfold m__law_pick
  refine ⟨_, rfl, powW (by omega) (by omega) (by decide), ?_⟩
  refine iteB (fun e => ?_) (fun e => ?_)
  · refine ⟨_, rfl, hn', _, rfl, divW hn' (by omega), _, rfl, ?_⟩
    exact h' _ _ (Int.emod_nonneg _ (by omega)) (Int.emod_lt_of_pos _ hn') ⟨_, _, _, rfl, Int.ediv_nonneg ha (by omega), hb0, hb1, hc0, hc1⟩
  · have hb : a < 10 ^ 18 := by have := of_decide_eq_false e; simp only [Int.reduceToNat] at this; omega
    have x0 : 0 ≤ (b * 69069 + a * 7177 + 12345) % 2147483629 := Int.emod_nonneg _ (by omega)
    have x1 : (b * 69069 + a * 7177 + 12345) % 2147483629 < 2147483629 := Int.emod_lt_of_pos _ (by omega)
    have y0 : 0 ≤ (c * 40014 + a * 3571 + 97) % 2147483563 := Int.emod_nonneg _ (by omega)
    have y1 : (c * 40014 + a * 3571 + 97) % 2147483563 < 2147483563 := Int.emod_lt_of_pos _ (by omega)
    refine ⟨_, rfl, mulW (by omega) (by decide), _, rfl, mulW (by omega) (by decide), by omega, _, rfl, ?_⟩
    refine ⟨_, rfl, mulW (by omega) (by decide), _, rfl, mulW (by omega) (by decide), by omega, _, rfl, ?_⟩
    refine ⟨_, rfl, _, rfl, mulW (i := (b * 69069 + a * 7177 + 12345) % 2147483629) (j := (c * 40014 + a * 3571 + 97) % 2147483563) (by omega) (by omega), (by omega : (0 : Int) < 2147483587), divW (by omega) (by decide), hn', ?_⟩
    exact h' _ _ (Int.emod_nonneg _ (by omega)) (Int.emod_lt_of_pos _ hn') ⟨_, _, _, rfl, ha, x0, Int.lt_trans x1 (by omega), y0, Int.lt_trans y1 (by omega)⟩
end T
namespace T
open PySem L2 AE AH TL
variable {cn : Str → Addr} {names : List Str} {prs : List (Str × Str)}
def EX : List Str := ["else", "can", "cannot", "skip", "spare", "never", "other", "later"]
structure TNm (most : Nat) (names : List Str) : Prop where
  l1 : 1 ≤ names.length
  lm : names.length ≤ most
  st : ∀ x ∈ names, StepName x
  ex : ∀ x ∈ names, x ∉ EX
  nd : names.Nodup
theorem pop_at {α : Type} {f : α → D} {l : List α} {n : Nat} (hn : n < l.length) {R : D → D → Prop} (h : R (f l[n]) (.lst ((l.eraseIdx n).map f))) (hl : l.length ≤ 1000000) : pPopAt (.lst (l.map f)) (.int (n : Nat)) R := by
  have eu : ixN (l.map f).length (n : Int) = some n := by
    unfold ixN
    rw [if_pos (by omega), if_pos (by rw [List.length_map]; omega)]
    simp
  refine ⟨⟨by omega, by omega⟩, n, _, eu, by rw [List.getElem?_map, List.getElem?_eq_getElem hn]; rfl, ?_⟩
  rw [erase_map]; exact h
end T
namespace T
open PySem L2 AE AH TL
variable {cn : Str → Addr} {names : List Str} {prs : List (Str × Str)}
structure Tbs (many n : Nat) (T : List (List (Option Nat))) : Prop where
  len : T.length = many
  ok : ∀ t ∈ T, PaT n t
def aft (T : List (List (Option Nat))) (s m : Nat) : Option Nat := if m % 2 = 0 then (T.getD (m / 2) []).getD s none else if some s ∈ T.getD (m / 2) [] then some ((T.getD (m / 2) []).idxOf (some s)) else none
theorem getD_of {α : Type} {l : List α} {i : Nat} {d : α} (h : i < l.length) : l.getD i d = l[i] := by simp [List.getD, h]
theorem aft_lt {many n : Nat} {T : List (List (Option Nat))} (hT : Tbs many n T) {s m v : Nat} (hm : m / 2 < many) (e : aft T s m = some v) : v < n := by
  have hl : m / 2 < T.length := by rw [hT.len]; exact hm
  have ok := hT.ok _ (List.getElem_mem hl)
  unfold aft at e
  rw [getD_of hl] at e
  split at e
  · by_cases hs : s < (T[m / 2]).length
    · rw [getD_of hs] at e
      exact ok.lt v (e ▸ List.getElem_mem hs)
    · simp [List.getD, hs] at e
  · split at e
    · rename_i hin
      have := List.idxOf_lt_length_of_mem hin
      rw [ok.len] at this
      cases e; exact this
    · cases e
theorem half_eq (m : Nat) : (m : Int) / 2 = ((m / 2 : Nat) : Int) := by rw [Int.natCast_ediv]; rfl
end T
namespace T
open PySem L2 AE AH TL
variable {cn : Str → Addr} {names : List Str} {prs : List (Str × Str)}
end T
namespace T
open PySem L2 AE AH TL
variable {cn : Str → Addr} {names : List Str} {prs : List (Str × Str)}
structure Apt (f : Nat → Nat → Bool) : Prop where
  sym : ∀ a b, f a b = f b a
  irr : ∀ a, f a a = false
end T
namespace T
open PySem L2 AE AH TL
variable {cn : Str → Addr} {names : List Str} {prs : List (Str × Str)}
def rowF (P z : Nat) (ring : Bool) (s : Nat) : Option Nat := if s / P % z + 1 < z then some (s + P) else if ring = true then some (s - s / P % z * P) else none
def prodL : List Nat → Nat
  | [] => 1
  | z :: zs => z * prodL zs
structure Axs (many most : Nat) (ax zs : List Nat) : Prop where
  len : ax.length = many
  lt : ∀ a ∈ ax, a < zs.length
  z1 : ∀ z ∈ zs, 1 ≤ z
  tot : prodL zs ≤ most
  zl : zs.length ≤ many
end T
namespace T
open PySem L2 AE AH TL
variable {cn : Str → Addr} {names : List Str} {prs : List (Str × Str)}
end T
namespace T
open PySem L2 AE AH TL
variable {cn : Str → Addr} {names : List Str} {prs : List (Str × Str)}
theorem divNt {a b : Nat} (hb : 0 < b) (h9 : b ≤ 1000000000) {R : D → Prop} (h : R (.int ((a / b : Nat) : Int))) : z2 gDiv (.int (a : Nat)) (.int (b : Nat)) fun t => R t := by
  refine ⟨divW (by omega) (by omega), ?_⟩
  show R (.int ((a : Int) / (b : Int)))
  rw [Int.natCast_ediv] at h; exact h
end T
namespace T
open PySem L2 AE AH TL
variable {cn : Str → Addr} {names : List Str} {prs : List (Str × Str)}
end T
namespace T
open PySem L2 AE AH TL
variable {cn : Str → Addr} {names : List Str} {prs : List (Str × Str)}
end T
namespace T
open PySem L2 AE AH TL
variable {cn : Str → Addr} {names : List Str} {prs : List (Str × Str)}
def tbN (names : List Str) (T : List (List (Option Nat))) (s : Str) : List (Option Nat) := T.getD (names.idxOf s) []
structure SS (names : List Str) (T : List (List (Option Nat))) (ss : List Str) : Prop where
  iff : ∀ s, s ∈ ss ↔ s ∈ names ∧ (tbN names T s).any Option.isSome = true
structure Eng (n : Nat) (bn : List Str) (T : List (List (Option Nat))) (ss : List Str) (tb : Str → List (Option Nat)) : Prop where
  tbs : Tbs bn.length n T
  st : ∀ x ∈ ss, StepName x
  bst : ∀ x ∈ bn, StepName x
  inn : ∀ (a : Nat) (x : Str) (t : List (Option Nat)), bn[a]? = some x → T[a]? = some t → x ∈ ss → tb x = t
  out : ∀ (a : Nat) (x : Str) (t : List (Option Nat)), bn[a]? = some x → T[a]? = some t → x ∉ ss → t.any Option.isSome = false
end T
namespace T
open PySem L2 AE AH TL
variable {cn : Str → Addr} {names : List Str} {prs : List (Str × Str)}
end T
namespace T
open PySem L2 AE AH TL
variable {cn : Str → Addr} {names : List Str} {prs : List (Str × Str)}
theorem PaT.put {n : Nat} {t : List (Option Nat)} (h : PaT n t) {i k : Nat} (hk : k < n) (hno : some k ∉ t) : PaT n (t.set i (some k)) := by
  have go : ∀ {a j : Nat}, (t.set i (some k))[a]? = some (some j) → (a = i ∧ j = k) ∨ (a ≠ i ∧ t[a]? = some (some j)) := fun {a j} ha => by
    rw [List.getElem?_set] at ha
    split at ha
    · rename_i e
      split at ha
      · cases ha; exact .inl ⟨e.symm, rfl⟩
      · cases ha
    · rename_i e; exact .inr ⟨fun z => e z.symm, ha⟩
  refine ⟨by rw [List.length_set]; exact h.len, fun j hj => ?_, fun a b j ha hb => ?_⟩
  · rcases List.mem_or_eq_of_mem_set hj with z | z
    · exact h.lt j z
    · cases z; exact hk
  · rcases go ha with ⟨a1, a2⟩ | ⟨a1, a2⟩ <;> rcases go hb with ⟨b1, b2⟩ | ⟨b1, b2⟩
    · omega
    · subst a2; exact absurd (List.mem_of_getElem? b2) hno
    · subst b2; exact absurd (List.mem_of_getElem? a2) hno
    · exact h.inj a b j a2 b2
theorem Tbs.set {many n : Nat} {T : List (List (Option Nat))} (h : Tbs many n T) {a : Nat} {t : List (Option Nat)} (ht : PaT n t) : Tbs many n (T.set a t) := ⟨by rw [List.length_set]; exact h.len, fun u hu => by
  rcases List.mem_or_eq_of_mem_set hu with z | z
  · exact h.ok u z
  · rw [z]; exact ht⟩
end T
namespace T
open PySem L2 AE AH TL
variable {cn : Str → Addr} {names : List Str} {prs : List (Str × Str)}
theorem dEq_shp {d : D} (h : Shp d) : dEq d d = true := by
  rw [← eqv_toPy d d h.1 h.1]
  exact SeqAt.eqv_refl _ (SeqAt.canLay_of_shaped h.shaped)
theorem neSame {d : D} (h : Shp d) {R : Bool → Prop} (hR : R false) : z2 gNe d d fun t => tst t fun b => R b := by
  refine ⟨.inr ⟨h, h⟩, ?_⟩
  show R (!dEq d d)
  rw [dEq_shp h]; exact hR
structure SO (ns : List Str) (tb : Str → List (Option Nat)) (ss : List Str) : Prop where
  eq : ss = (ns.mergeSort leS).filter fun s => (tb s).any Option.isSome
theorem filt_sort (l : List Str) (p : Str → Bool) : (l.mergeSort leS).filter p = (l.filter p).mergeSort leS := by
  have tr : ∀ a b c : Str, leS a b = true → leS b c = true → leS a c = true := fun a b c h1 h2 => by
    unfold leS at *
    exact decide_eq_true (List.le_trans (of_decide_eq_true h1) (of_decide_eq_true h2))
  have tt : ∀ a b : Str, (leS a b || leS b a) = true := fun a b => by
    unfold leS
    rw [Bool.or_eq_true, decide_eq_true_eq, decide_eq_true_eq]
    exact List.le_total _ _
  refine List.Perm.eq_of_pairwise (le := fun a b => leS a b = true) (fun a b _ _ h1 h2 => ?_) ((List.pairwise_mergeSort tr tt l).filter _) (List.pairwise_mergeSort tr tt _) (((List.mergeSort_perm _ _).filter _).trans (List.mergeSort_perm _ _).symm)
  unfold leS at h1 h2
  exact TL.ext_tl (List.le_antisymm (of_decide_eq_true h1) (of_decide_eq_true h2))
theorem SO.iff {ns ss : List Str} {tb : Str → List (Option Nat)} (h : SO ns tb ss) (s : Str) : s ∈ ss ↔ s ∈ ns ∧ (tb s).any Option.isSome = true := by
  rw [h.eq, List.mem_filter, (List.mergeSort_perm ns leS).mem_iff]
theorem SO.nd {ns ss : List Str} {tb : Str → List (Option Nat)} (h : SO ns tb ss) (nd : ns.Nodup) : ss.Nodup := by
  rw [h.eq]
  exact ((List.mergeSort_perm ns leS).symm.nodup nd).filter _
theorem SO.same {n1 n2 s1 s2 : List Str} {t1 t2 : Str → List (Option Nat)} (h1 : SO n1 t1 s1) (h2 : SO n2 t2 s2) (d1 : n1.Nodup) (d2 : n2.Nodup) (e : ∀ s, (s ∈ n1 ∧ (t1 s).any Option.isSome = true) ↔ (s ∈ n2 ∧ (t2 s).any Option.isSome = true)) : s1 = s2 := by
  rw [h1.eq, h2.eq, filt_sort, filt_sort]
  refine sortS_eq ((List.perm_ext_iff_of_nodup (d1.filter _) (d2.filter _)).mpr fun s => ?_)
  rw [List.mem_filter, List.mem_filter]; exact e s
theorem nd_len {α : Type} [DecidableEq α] : ∀ {l m : List α}, l.Nodup → (∀ x ∈ l, x ∈ m) → l.length ≤ m.length
  | [], m, _, _ => Nat.zero_le _
  | a :: l, m, nd, h => by
    have ha := h a List.mem_cons_self
    have nd := List.nodup_cons.mp nd
    have ne : ∀ x ∈ l, x ≠ a := fun x hx e => nd.1 (by rw [← e]; exact hx)
    have := nd_len (l := l) (m := m.erase a) nd.2 fun x hx => (List.mem_erase_of_ne (ne x hx)).mpr (h x (List.mem_cons_of_mem _ hx))
    rw [List.length_erase_of_mem ha] at this
    have := List.length_pos_of_mem ha
    rw [List.length_cons]; omega
end T
namespace T
open PySem L2 AE AH TL
variable {cn : Str → Addr} {names : List Str} {prs : List (Str × Str)}
def RESn : List Str := ["else", "can", "cannot", "skip"]
def snC (x : Str) : Bool := !decide (x.length = 0 ∨ 6 < x.length ∨ x ∈ RESn) && x.cps.toList.all fun c => decide (c ∈ letters.cps.toList)
theorem snC_iff {x : Str} : snC x = true ↔ StepName x := by
  unfold snC
  rw [Bool.and_eq_true, Bool.not_eq_true', decide_eq_false_iff_not, List.all_eq_true]
  constructor
  · rintro ⟨h, a⟩
    exact ⟨by omega, by omega, fun z => h (.inr (.inr z)), fun c hc => of_decide_eq_true (a c hc)⟩
  · intro h
    refine ⟨?_, fun c hc => decide_eq_true (h.abc c hc)⟩
    rintro (z | z | z)
    · have := h.l1; omega
    · have := h.l6; omega
    · exact h.res z
theorem is_name_gen {x : Str} (hl : x.length ≤ 1000) {Q : D → Prop} {E : XD → Prop} (h : Q (.bl (snC x))) : m_is_step_name cn (.str x) Q E := by
  unfold m_is_step_name
  have z : x.length ≤ sizeLine := sz_le (by omega)
  refine jn_of (α := Bool) (fun b => b = decide (x.length = 0 ∨ 6 < x.length ∨ x ∈ RESn)) (fun k hk => ?_) ?_
  · refine ⟨z, .inl rfl, iteB (fun e => ?_) (fun e1 => ?_)⟩
    · have e : ((x.length : Int) == 0) = true := e
      exact hk _ (decide_eq_true (.inl (by simpa using e))).symm
    have e1 : ((x.length : Int) == 0) = false := e1
    have e1 : x.length ≠ 0 := by simpa using e1
    refine ⟨z, iteB (fun e => ?_) (fun e2 => ?_)⟩
    · have e := of_decide_eq_true e
      exact hk _ (decide_eq_true (.inr (.inl (by omega)))).symm
    have e2 := of_decide_eq_false e2
    refine ⟨⟨rfl, rfl⟩, hk _ ?_⟩
    have e3 : dIn (.str x) (RESn.map D.str) = decide (x ∈ RESn) := dIn_str
    show dIn (.str x) (RESn.map D.str) = _
    rw [e3, Bool.eq_iff_iff, decide_eq_true_iff, decide_eq_true_iff]
    constructor
    · exact fun z => .inr (.inr z)
    · rintro (z | z | z)
      · exact absurd z e1
      · omega
      · exact z
  rintro _ rfl
  unfold snC at h
  refine iteB (fun e => ?_) (fun e => ?_)
  · rw [e] at h; exact h
  rw [e] at h
  have hl' : x.cps.toList.length ≤ sizeLine := by rw [Array.length_toList]; exact z
  show lc0 (x.cps.toList.map fun c => D.str ⟨#[c]⟩) (fun d3 emit4 skip5 => z2 (gIn false) d3 g_LETTERS fun t6 => emit4 t6) (fun acc7 => zN gAll [D.lst acc7] fun t8 => Q t8)
  refine lcM' (c := fun c => D.str ⟨#[c]⟩) (fun c => .bl (decide (c ∈ letters.cps.toList))) hl' (fun i c hc emit skip n => ⟨c, rfl, n⟩) ?_
  refine ⟨x.cps.toList.map fun c => decide (c ∈ letters.cps.toList), by rw [List.map_map]; rfl, ?_⟩
  rw [List.all_map]
  exact h
theorem isIntZ {i : Int} {R : D → Prop} (h : R (.bl true)) : isT "int" (.int i) fun t => R t := h
theorem isBooZ {i : Int} {R : D → Prop} (h : R (.bl false)) : isT "bool" (.int i) fun t => R t := h
theorem is_stateZ {i : Int} {n : Nat} {Q : D → Prop} {E : XD → Prop} (h : Q (.bl (decide (0 ≤ i ∧ i < (n : Int))))) : m_is_state cn (.int i) (.int (n : Nat)) Q E := by
  unfold m_is_state
  refine jn_of (α := D) (fun d => d = .bl (decide (0 ≤ i ∧ i < (n : Int)))) (fun kk hk => ?_) ?_
  · refine isIntZ ?_
    refine tt1 ?_
    refine isBooZ ?_
    refine tstB ?_
    show tst (.bl true) _
    refine tt1 ?_
    refine jn_of (α := D) (fun d => d = .bl (decide (0 ≤ i ∧ i < (n : Int)))) (fun k2 hk2 => ?_) ?_
    · show (if decide ((0 : Int) ≤ i) = true then asI (.int (n : Nat)) (fun i12 => k2 (.bl (decide (i < i12)))) else k2 (.bl false))
      by_cases e : (0 : Int) ≤ i
      · rw [if_pos (decide_eq_true e)]
        refine hk2 _ ?_
        congr 1
        rw [decide_eq_decide]; omega
      · rw [if_neg (by rw [decide_eq_true_iff]; exact e)]
        refine hk2 _ ?_
        congr 1
        exact (decide_eq_false fun z => e z.1).symm
    · rintro _ rfl
      exact hk _ rfl
  · rintro _ rfl
    exact h
theorem sys_lenE {n : Nat} {L : List (Key × D)} {Q : D → Prop} {E : XD → Prop} (h : Q (.int (n : Nat))) : m_System___len__ cn (sysD cn n L) Q E := by
  unfold m_System___len__
  refine ⟨rfl, _, rfl, ?_⟩
  refine lenRR ?_
  rw [rngD_len, Int.toNat_natCast]
  exact h
theorem Eng.lt {T : List (List (Option Nat))} {n : Nat} {ss : List Str} {tb : Str → List (Option Nat)} (g : Eng n names T ss tb) {ms : List Nat} (hms : ∀ m ∈ ms, m < 2 * names.length) : ∀ m ∈ ms, ∀ s v, aft T s m = some v → v < n := fun m hm s v h => aft_lt g.tbs (by have := hms m hm; omega) h
end T
namespace T
open PySem L2 AE AH TL
variable {cn : Str → Addr} {names : List Str} {prs : List (Str × Str)}
theorem find_at {α : Type} {l : List α} {p : α → Bool} {i : Nat} {x : α} (h : l[i]? = some x) (hp : p x = true) (hI : ∀ y ∈ l.take i, p y = false) : l.find? p = some x := by
  have hi := (List.getElem?_eq_some_iff.mp h).1
  have e : l = l.take i ++ x :: l.drop (i + 1) := by
    have := List.take_append_drop i l
    rw [List.drop_eq_getElem_cons hi, (List.getElem?_eq_some_iff.mp h).2] at this
    exact this.symm
  rw [e, List.find?_append, List.find?_eq_none.mpr fun y hy => by rw [hI y hy]; decide]
  simp [List.find?_cons, hp]
theorem for_find {α : Type} {xs : List α} {c : α → D} {p : α → Bool} {R : α → Prop} {body : D → Prop → Prop} {k : Prop} (hb : ∀ x ∈ xs, ∀ n : Prop, (p x = true → R x) → (p x = false → n) → body (c x) n)
    (hr : ∀ x, xs.find? p = some x → R x) (hk : xs.find? p = none → k) : for0 (xs.map c) body k := by
  refine ⟨fun i => ∀ y ∈ xs.take i, p y = false, fun y hy => absurd hy (by simp), fun i d hd hI => ?_, fun hI => ?_⟩
  · rw [List.getElem?_map] at hd
    obtain ⟨x, hx, rfl⟩ := Option.map_eq_some_iff.mp hd
    refine hb x (List.mem_of_getElem? hx) _ (fun e => hr x (find_at hx e hI)) fun e y hy => ?_
    rw [take_succ_get hx] at hy
    rcases List.mem_append.mp hy with hy | hy
    · exact hI y hy
    · rw [List.mem_singleton.mp hy]; exact e
  · refine hk ?_
    rw [List.length_map, List.take_length] at hI
    rw [List.find?_eq_none]
    intro x hx
    rw [hI x hx]; decide
def oiD : Option Int → D
  | none => .non
  | some i => .int i
def rowZ (l : List (Option Int)) : D := .lst (l.map oiD)
def natR (l : List (Option Int)) : List (Option Nat) := l.map (Option.map Int.toNat)
def fineZ (n : Nat) (l : List (Option Int)) : Bool := decide (l.length = n ∧ (∀ v ∈ l.filterMap id, 0 ≤ v ∧ v < (n : Int)) ∧ (l.filterMap id).Nodup)
theorem fm_inj {α : Type} {l : List (Option α)} (nd : (l.filterMap id).Nodup) {i j : Nat} {a : α} (hi : l[i]? = some (some a)) (hj : l[j]? = some (some a)) : i = j := by
  have key : ∀ {i j : Nat}, l[i]? = some (some a) → l[j]? = some (some a) → ¬ i < j := fun {i j} hi hj hij => by
    have hl := (List.getElem?_eq_some_iff.mp hj).1
    have e : l = l.take j ++ l.drop j := (List.take_append_drop j l).symm
    rw [e, List.filterMap_append] at nd
    have h1 : a ∈ (l.take j).filterMap id := List.mem_filterMap.mpr ⟨some a, List.mem_of_getElem? (i := i) (by rw [List.getElem?_take]; rw [if_pos hij]; exact hi), rfl⟩
    have h2 : a ∈ (l.drop j).filterMap id := List.mem_filterMap.mpr ⟨some a, List.mem_of_getElem? (i := 0) (by rw [List.getElem?_drop, Nat.add_zero]; exact hj), rfl⟩
    exact (List.nodup_append.mp nd).2.2 a h1 a h2 rfl
  have := key hi hj
  have := key hj hi
  omega
theorem fine_nat {n : Nat} {l : List (Option Int)} (h : fineZ n l = true) : rowZ l = onL (natR l) ∧ PaT n (natR l) := by
  obtain ⟨hl, hr, nd⟩ := of_decide_eq_true h
  have hm : ∀ a, some a ∈ l → 0 ≤ a ∧ a < (n : Int) := fun a ha => hr a (List.mem_filterMap.mpr ⟨_, ha, rfl⟩)
  refine ⟨?_, ⟨?_, ?_, ?_⟩⟩
  · show D.lst _ = D.lst ((l.map _).map opD)
    rw [List.map_map]
    congr 1
    refine List.map_congr_left fun o ho => ?_
    cases o with
    | none => rfl
    | some a =>
      have := (hm a ho).1
      show D.int a = D.int ((a.toNat : Nat) : Int)
      congr 1
      omega
  · unfold natR; rw [List.length_map]; exact hl
  · intro k hk
    obtain ⟨o, ho, e⟩ := List.mem_map.mp hk
    cases o with
    | none => cases e
    | some a =>
      have := hm a ho
      have e : a.toNat = k := Option.some.inj e
      omega
  · intro i j k hi hj
    unfold natR at hi hj
    rw [List.getElem?_map] at hi hj
    obtain ⟨o, ho, e⟩ := Option.map_eq_some_iff.mp hi
    obtain ⟨o', ho', e'⟩ := Option.map_eq_some_iff.mp hj
    cases o with
    | none => cases e
    | some a =>
      cases o' with
      | none => cases e'
      | some b =>
        have e : a.toNat = k := Option.some.inj e
        have e' : b.toNat = k := Option.some.inj e'
        have h1 := hm a (List.mem_of_getElem? ho)
        have h2 := hm b (List.mem_of_getElem? ho')
        have : a = b := by omega
        subst this
        exact fm_inj nd ho ho'
theorem neZZ {a c : Int} {R : Bool → Prop} (h : R (!decide (a = c))) : z2 gNe (.int a) (.int c) fun t => tst t fun b => R b := by
  refine ⟨.inl rfl, ?_⟩
  show R (!(a == c))
  have e : (a == c) = decide (a = c) := by rw [Bool.eq_iff_iff, beq_iff_eq, decide_eq_true_eq]
  rw [e]; exact h
theorem isN_oi {o : Option Int} {R : D → Prop} (h : R (.bl o.isSome)) : z2 (gIsN true) (oiD o) .non fun t => R t := by
  cases o <;> exact h
theorem is_tableZ {n : Nat} {l : List (Option Int)} (hl : l.length ≤ 70000) {Q : D → Prop} {E : XD → Prop} (h : Q (.bl (fineZ n l))) : m_is_table cn (rowZ l) (.int (n : Nat)) Q E := by
  have ll : (l.map oiD).length = l.length := List.length_map ..
  unfold m_is_table rowZ
  refine jn_of (α := Bool) (fun b => b = !decide (l.length = n)) (fun kk hk => ?_) ?_
  · refine isLst ?_
    refine tnt ?_
    refine lenRR ?_
    rw [ll]
    refine neZZ (R := fun b => kk b) ?_
    refine hk _ ?_
    congr 1
    rw [decide_eq_decide]; omega
  rintro _ rfl
  refine iteB (fun e => ?_) (fun e => ?_)
  · have e : ¬ l.length = n := by simpa using e
    have : fineZ n l = false := decide_eq_false fun z => e z.1
    rw [this] at h; exact h
  have e : l.length = n := by simpa using e
  refine asItL ?_
  refine forI (fun i x => x = .dic (((l.take i).filterMap id).map fun k : Int => ((Sum.inl k : Key), D.bl true)) ∧ (∀ v ∈ (l.take i).filterMap id, 0 ≤ v ∧ v < (n : Int)) ∧ ((l.take i).filterMap id).Nodup) ⟨rfl, by simp, by simp⟩ ?_ ?_
  · rintro i d _ hd ⟨rfl, hr, nd⟩
    rw [List.getElem?_map] at hd
    obtain ⟨o, ho, rfl⟩ := Option.map_eq_some_iff.mp hd
    have hi := (List.getElem?_eq_some_iff.mp ho).1
    have tk := take_succ_get ho
    refine isN_oi ?_
    rw [tk, List.filterMap_append]
    cases o with
    | none =>
      refine tf1 ?_
      rw [show [(none : Option Int)].filterMap id = [] from rfl, List.append_nil]
      exact ⟨rfl, hr, nd⟩
    | some k =>
      have e2 : [some k].filterMap id = [k] := rfl
      have hk : k ∈ l.filterMap id := List.mem_filterMap.mpr ⟨some k, List.mem_of_getElem? ho, rfl⟩
      have nin : k ∉ (l.take i).filterMap id → ∀ b ∈ (l.take i).filterMap id, (Sum.inl b : Key) ≠ Sum.inl k := fun q b hb e => by
        have e := Sum.inl.inj e
        subst e
        exact q hb
      have sub : ((l.take (i + 1)).filterMap id).Sublist (l.filterMap id) := (List.take_sublist _ _).filterMap id
      rw [tk, List.filterMap_append, e2] at sub
      rw [e2]
      refine tt1 ?_
      refine jn_of (α := Bool) (fun b => b = !decide ((0 ≤ k ∧ k < (n : Int)) ∧ k ∉ (l.take i).filterMap id)) (fun kk hkk => ?_) ?_
      · refine is_stateZ ?_
        by_cases q : 0 ≤ k ∧ k < (n : Int)
        · rw [decide_eq_true q]
          refine tnt ?_
          show kk (xorB false (valD (((l.take i).filterMap id).map fun k : Int => ((Sum.inl k : Key), D.bl true)) (.inl k)).isSome)
          refine hkk _ ?_
          by_cases q2 : k ∈ (l.take i).filterMap id
          · rw [val_map (key := fun b : Int => (Sum.inl b : Key)) (v := fun _ => D.bl true) q2 fun b _ e => Sum.inl.inj e]
            rw [decide_eq_false fun z => z.2 q2]; rfl
          · rw [val_none (key := fun b : Int => (Sum.inl b : Key)) (v := fun _ => D.bl true) (nin q2)]
            rw [decide_eq_true ⟨q, q2⟩]; rfl
        · rw [decide_eq_false q]
          refine tnf ?_
          refine hkk _ ?_
          rw [decide_eq_false fun z => q z.1]; rfl
      rintro _ rfl
      refine iteB (fun e => ?_) (fun e => ?_)
      · have e : ¬ ((0 ≤ k ∧ k < (n : Int)) ∧ k ∉ (l.take i).filterMap id) := by
          rw [Bool.not_eq_true', decide_eq_false_iff_not] at e
          exact e
        have : fineZ n l = false := decide_eq_false fun z => e ⟨z.2.1 k hk, fun q => by
          have nd2 := z.2.2.sublist sub
          exact (List.nodup_append.mp nd2).2.2 k q k (by simp) rfl⟩
        rw [this] at h; exact h
      have e : (0 ≤ k ∧ k < (n : Int)) ∧ k ∉ (l.take i).filterMap id := by
        have e := e
        rw [Bool.not_eq_false', decide_eq_true_iff] at e
        exact e
      have lf := List.length_filterMap_le id (l.take i)
      rw [List.length_take] at lf
      refine ⟨sz_lt (by rw [List.length_map]; omega), ?_, ?_, ?_⟩
      · show D.dic _ = D.dic _
        rw [put_new (fun kv hkv => ?_), List.map_append]
        · rfl
        · obtain ⟨b, hb, rfl⟩ := List.mem_map.mp hkv
          exact nin e.2 b hb
      · intro v hv
        rcases List.mem_append.mp hv with hv | hv
        · exact hr v hv
        · rw [List.mem_singleton.mp hv]; exact e.1
      · refine List.nodup_append.mpr ⟨nd, by simp, fun a ha b hb q => ?_⟩
        rw [List.mem_singleton.mp hb] at q
        subst q
        exact e.2 ha
  · rintro _ ⟨_, hr, nd⟩
    rw [ll, List.take_length] at hr nd
    have : fineZ n l = true := decide_eq_true ⟨e, hr, nd⟩
    rw [this] at h; exact h
theorem check_states_gen {s : Int} {Q : D → Prop} {E : XD → Prop} (h1 : s < 1 → E ⟨.ref (cn "BadStates"), [("states", .int s)]⟩) (h2 : 1 ≤ s → Q .non) : m_check_states cn (.int s) Q E := by
  unfold m_check_states
  refine jn_of (α := Bool) (fun b => b = decide (s < 1)) (fun kk hk => ?_) ?_
  · refine isIntZ ?_
    refine tnt ?_
    refine isBooZ ?_
    refine tf1 ?_
    exact hk _ rfl
  rintro _ rfl
  refine iteB (fun e => ?_) (fun e => ?_)
  · exact h1 (of_decide_eq_true e)
  · have := of_decide_eq_false e
    exact h2 (by omega)
theorem sysF_spec {s : Int} {ns : List Str} {tb : Str → List (Option Int)} (hn : s ≤ 70000) (nd : ns.Nodup) (hx : ∀ x ∈ ns, x.length ≤ 1000) (hr : ∀ x ∈ ns, (tb x).length ≤ 70000) (ln : ns.length ≤ 100) {Q : D → Prop} {E : XD → Prop}
    (h1 : s < 1 → E ⟨.ref (cn "BadStates"), [("states", .int s)]⟩)
    (h2 : ∀ x, 1 ≤ s → (ns.mergeSort leS).find? (fun x => !snC x) = some x → E ⟨.ref (cn "BadName"), [("name", .str x)]⟩)
    (h3 : ∀ x, 1 ≤ s → (ns.mergeSort leS).find? (fun x => !snC x) = none → (ns.mergeSort leS).find? (fun x => !fineZ s.toNat (tb x)) = some x → E ⟨.ref (cn "BadTable"), [("step", .str x)]⟩)
    (h4 : ∀ ss, 1 ≤ s → (ns.mergeSort leS).find? (fun x => !snC x) = none → (ns.mergeSort leS).find? (fun x => !fineZ s.toNat (tb x)) = none → SO ns (fun x => natR (tb x)) ss → Q (sysD cn s.toNat (ledO s.toNat ss fun x => natR (tb x)))) :
    m_System___init__ cn (.int s) (.dic (ns.map fun s => (.inr s, rowZ (tb s)))) Q E := by
  have tv : ∀ s ∈ ns, valD (ns.map fun s => ((Sum.inr s : Key), rowZ (tb s))) (.inr s) = some (rowZ (tb s)) := fun s hm => val_map (key := fun s : Str => (Sum.inr s : Key)) (v := fun s => rowZ (tb s)) hm fun b _ e => Sum.inr.inj e
  unfold m_System___init__
  refine check_states_gen h1 fun hs1 => ?_
  obtain ⟨n, rfl⟩ : ∃ n : Nat, s = (n : Int) := ⟨s.toNat, by omega⟩
  rw [Int.toNat_natCast] at h3 h4
  clear h1
  have h2 := fun x => h2 x hs1
  have h3 := fun x => h3 x hs1
  have h4 := fun x => h4 x hs1
  refine dkL ?_
  have ek : keysD (ns.map fun s => ((Sum.inr s : Key), rowZ (tb s))) = ns.map D.str := by unfold keysD; rw [List.map_map]; rfl
  rw [ek]
  refine lcM' (xs := ns) (c := D.str) D.str (sz_le (by omega)) (fun i s hi emit skip nx => nx) ?_
  refine sortL ?_
  have pm := List.mergeSort_perm ns leS
  have hss : ∀ s, s ∈ ns.mergeSort leS ↔ s ∈ ns := fun s => pm.mem_iff
  have ls : (ns.mergeSort leS).length ≤ 100 := by rw [pm.length_eq]; exact ln
  have nds : (ns.mergeSort leS).Nodup := pm.symm.nodup nd
  have hso : ∀ s2, s2 = (ns.mergeSort leS).filter (fun s => (natR (tb s)).any Option.isSome) → SO ns (fun x => natR (tb x)) s2 := fun s2 e => ⟨e⟩
  generalize ns.mergeSort leS = ss at *
  refine asItL ?_
  refine for_find (p := fun x => !snC x) (R := fun x => E ⟨.ref (cn "BadName"), [("name", .str x)]⟩) (fun x hxs n a b => ?_) h2 fun en => ?_
  · refine is_name_gen (hx x ((hss x).mp hxs)) ?_
    cases e : snC x with
    | true => exact tnt (b (by simp [e]))
    | false => exact tnf (a (by simp [e]))
  have h3 := fun x => h3 x en
  have h4 := fun x => h4 x en
  have sn : ∀ s ∈ ss, StepName s := fun s hs => by
    have := List.find?_eq_none.mp en s hs
    exact snC_iff.mp (by simpa using this)
  clear h2
  refine ⟨⟨by omega, by omega⟩, ?_⟩
  refine asItL ?_
  refine forI (fun i x => x = .dic (ledO n ((ss.take i).filter fun s => (natR (tb s)).any Option.isSome) fun x => natR (tb x)) ∧ ∀ y ∈ ss.take i, fineZ n (tb y) = true) ⟨rfl, by simp⟩ ?_ ?_
  · rintro i d _ hd ⟨rfl, hI⟩
    rw [List.getElem?_map] at hd
    obtain ⟨s, hm, rfl⟩ := Option.map_eq_some_iff.mp hd
    have hi := (List.getElem?_eq_some_iff.mp hm).1
    have hsn := (hss s).mp (List.mem_of_getElem? hm)
    have tk := take_succ_get hm
    have st := sn s (List.mem_of_getElem? hm)
    refine ixK (tv s hsn) ?_
    refine is_tableZ (hr s hsn) ?_
    cases ef : fineZ n (tb s) with
    | false => exact tnf (h3 s (find_at hm (by simp [ef]) fun y hy => by simp [hI y hy]))
    | true =>
    obtain ⟨er, pt⟩ := fine_nat ef
    refine tnt ?_
    have tv1 := tv s hsn
    rw [er] at tv1
    refine ixK tv1 ?_
    refine asItL ?_
    have lt := pt.len
    refine lcM' (xs := natR (tb s)) (c := opD) (fun o => .bl o.isSome) (sz_le (by omega)) (fun j k hk emit skip nx => isN_op nx) ?_
    have e1 : (natR (tb s)).map (fun o => D.bl o.isSome) = ((natR (tb s)).map Option.isSome).map D.bl := by rw [List.map_map]; rfl
    rw [e1]
    refine gAnyB ?_
    rw [tk, List.filter_append]
    rw [show ((natR (tb s)).map Option.isSome).any id = (natR (tb s)).any Option.isSome by rw [List.any_map]; rfl]
    have hI2 : ∀ y ∈ ss.take i ++ [s], fineZ n (tb y) = true := fun y hy => by
      rcases List.mem_append.mp hy with hy | hy
      · exact hI y hy
      · rw [List.mem_singleton.mp hy]; exact ef
    generalize hb : (natR (tb s)).any Option.isSome = bb
    cases bb with
    | false =>
      refine iteB (fun e => (by cases e)) (fun _ => ⟨?_, hI2⟩)
      show D.dic _ = D.dic _
      rw [List.filter_cons_of_neg (by rw [hb]; decide), List.filter_nil, List.append_nil]
    | true =>
    refine iteB (fun _ => ?_) (fun e => (by cases e))
    rw [List.filter_cons_of_pos (by rw [hb]), List.filter_nil]
    refine ixK tv1 ?_
    refine gListO ?_
    have n1 : ∀ kv ∈ ledO n ((ss.take i).filter fun s => (natR (tb s)).any Option.isSome) (fun x => natR (tb x)), kv.1 ≠ .inr s := fun kv hkv e => by
      obtain ⟨x, hx, z⟩ := ledO_keys hkv
      have hx := (List.mem_filter.mp hx).1
      rcases z with z | z
      · have : x = s := Sum.inr.inj (z.symm.trans e)
        subst this
        have nd2 : (ss.take (i + 1)).Nodup := nds.sublist (List.take_sublist _ _)
        rw [tk] at nd2
        exact (List.nodup_append.mp nd2).2.2 x hx x (by simp) rfl
      · exact dash_ne st (Sum.inr.inj (z.symm.trans e)).symm
    have n2 : ∀ kv ∈ ledO n ((ss.take i).filter fun s => (natR (tb s)).any Option.isSome) (fun x => natR (tb x)) ++ [((Sum.inr s : Key), onL (natR (tb s)))], kv.1 ≠ .inr ("-" ++ s) := fun kv hkv e => by
      rcases List.mem_append.mp hkv with hkv | hkv
      · obtain ⟨x, hx, z⟩ := ledO_keys hkv
        have hx := (List.mem_filter.mp hx).1
        have sx := sn x (List.mem_of_mem_take hx)
        rcases z with z | z
        · exact dash_ne sx (Sum.inr.inj (z.symm.trans e))
        · have : x = s := dash_inj (Sum.inr.inj (z.symm.trans e))
          subst this
          have nd2 : (ss.take (i + 1)).Nodup := nds.sublist (List.take_sublist _ _)
          rw [tk] at nd2
          exact (List.nodup_append.mp nd2).2.2 x hx x (by simp) rfl
      · rw [List.mem_singleton.mp hkv] at e
        exact dash_ne st (Sum.inr.inj e)
    have lf := List.length_filter_le (fun s => (natR (tb s)).any Option.isSome) (ss.take i)
    rw [List.length_take] at lf
    refine pSetK (by rw [ledO_len]; omega) ?_
    rw [put_new n1]
    refine ixK tv1 ?_
    refine turnedO_spec pt (by omega) ?_
    refine addS (by have := st.l6; show 1 + _ ≤ _; omega) ?_
    refine pSetK (by rw [List.length_append, ledO_len]; simp; omega) ?_
    rw [put_new n2]
    refine ⟨?_, hI2⟩
    show D.dic _ = D.dic _
    unfold ledO
    rw [List.flatMap_append]
    simp
  · rintro _ ⟨rfl, hI⟩
    have e : ss.take ((ss.map D.str).length) = ss := by rw [List.length_map, List.take_length]
    rw [e] at hI ⊢
    exact h4 _ (List.find?_eq_none.mpr fun x hx => by simp [hI x hx]) (hso _ rfl)
end T
namespace T
open PySem L2 AE AH TL
variable {cn : Str → Addr} {names : List Str} {prs : List (Str × Str)}
theorem fm_nodup {α : Type} : ∀ {l : List (Option α)}, (∀ (i j : Nat) (a : α), l[i]? = some (some a) → l[j]? = some (some a) → i = j) → (l.filterMap id).Nodup
  | [], _ => by simp
  | none :: l, h => by
    have := fm_nodup (l := l) fun i j a hi hj => by
      have := h (i + 1) (j + 1) a (by simpa using hi) (by simpa using hj)
      omega
    simpa using this
  | some b :: l, h => by
    have ih := fm_nodup (l := l) fun i j a hi hj => by
      have := h (i + 1) (j + 1) a (by simpa using hi) (by simpa using hj)
      omega
    rw [show (some b :: l).filterMap id = b :: l.filterMap id from rfl, List.nodup_cons]
    refine ⟨fun hb => ?_, ih⟩
    obtain ⟨o, ho, e⟩ := List.mem_filterMap.mp hb
    have e : o = some b := e
    subst e
    obtain ⟨j, hj⟩ := List.getElem?_of_mem ho
    have := h 0 (j + 1) b rfl (by simpa using hj)
    omega
def zR (t : List (Option Nat)) : List (Option Int) := t.map (Option.map fun k : Nat => (k : Int))
theorem zR_D (t : List (Option Nat)) : onL t = rowZ (zR t) := by
  show D.lst _ = D.lst ((t.map _).map oiD)
  rw [List.map_map]
  congr 1
  refine List.map_congr_left fun o _ => ?_
  cases o <;> rfl
theorem zR_mem {t : List (Option Nat)} {v : Int} (h : some v ∈ zR t) : ∃ k : Nat, v = (k : Int) ∧ some k ∈ t := by
  obtain ⟨o, ho, e⟩ := List.mem_map.mp h
  cases o with
  | none => cases e
  | some k => exact ⟨k, (Option.some.inj e).symm, ho⟩
theorem zR_at {t : List (Option Nat)} {i : Nat} {v : Int} (h : (zR t)[i]? = some (some v)) : ∃ k : Nat, v = (k : Int) ∧ t[i]? = some (some k) := by
  unfold zR at h
  rw [List.getElem?_map] at h
  obtain ⟨o, ho, e⟩ := Option.map_eq_some_iff.mp h
  cases o with
  | none => cases e
  | some k => exact ⟨k, (Option.some.inj e).symm, ho⟩
theorem pat_fine {n : Nat} {t : List (Option Nat)} (h : PaT n t) : fineZ n (zR t) = true := by
  refine decide_eq_true ⟨by unfold zR; rw [List.length_map]; exact h.len, fun v hv => ?_, fm_nodup fun i j v hi hj => ?_⟩
  · obtain ⟨o, ho, e⟩ := List.mem_filterMap.mp hv
    have e : o = some v := e
    subst e
    obtain ⟨k, rfl, hk⟩ := zR_mem ho
    have := h.lt k hk
    omega
  · obtain ⟨a, rfl, ha⟩ := zR_at hi
    obtain ⟨b, e, hb⟩ := zR_at hj
    have : a = b := by omega
    subst this
    exact h.inj i j a ha hb
theorem row_spec {b : D} {n : Nat} (hn : n ≤ 1000) (hb : Tape b) {Q : D → D → Prop} {E : XD → Prop} (h : ∀ (t : List (Option Nat)) (b' : D), PaT n t → Tape b' → Q (rowZ (zR t)) b') : m__law_row cn b (.int (n : Nat)) Q E := by
  unfold m__law_row
  refine ⟨⟨by omega, by omega⟩, rfl, ?_⟩
  have er : rngD 0 ((n : Nat) : Int).toNat = (List.range n).map fun s => D.int (s : Nat) := rng_natG
  show rng1 (.int (n : Nat)) _
  refine rng_n (by omega) ?_
  refine ⟨fun i x9 x10 x11 => Tape x9 ∧ ∃ taken left : List Nat, ∃ t : List (Option Nat), x10 = .lst (left.map fun k => .int (k : Nat)) ∧ x11 = onL t ∧ taken.length = i ∧ t.length = i ∧ (taken ++ left).Perm (List.range n) ∧ ∀ j k : Nat, t[j]? = some (some k) → taken[j]? = some k,
    ⟨hb, [], List.range n, [], by show D.lst (rngD 0 ((n : Nat) : Int).toNat) = _; rw [er], rfl, rfl, rfl, .refl _, fun j k z => by simp at z⟩, fun i d x9 x10 x11 hd hI => ?_, fun x9 x10 x11 hI => ?_⟩
  · obtain ⟨ht, taken, left, t, rfl, rfl, hl, htl, pm, hk⟩ := hI
    obtain ⟨hi, rfl⟩ := rngd hd
    have len := pm.length_eq
    rw [List.length_append, List.length_range] at len
    refine lsQ (lenRR ?_)
    rw [List.length_map]
    refine pick_spec ht (by omega) (by omega) fun u b2 hu hb2 => ?_
    refine pop_at hu ?_ (by omega)
    refine lsQ ?_
    have p : (left[u] :: left.eraseIdx u).Perm left := erase_perm hu
    have pm2 : ((taken ++ [left[u]]) ++ left.eraseIdx u).Perm (List.range n) := by
      rw [List.append_assoc]
      exact (p.append_left taken).trans pm
    refine jn2_of (α := D) (β := D) (fun d x => Tape x ∧ ∃ o : Option Nat, d = opD o ∧ (o = none ∨ o = some left[u])) (fun k hk => ?_) ?_
    · refine pick_spec (n := 3) hb2 (by omega) (by omega) fun w b3 hw hb3 => ?_
      exact eqZ (iteB (fun _ => hk _ _ ⟨hb3, none, rfl, .inl rfl⟩) (fun _ => hk _ _ ⟨hb3, some left[u], rfl, .inr rfl⟩))
    · rintro _ x ⟨hx, o, rfl, ho⟩
      refine ⟨sz_lt (by rw [List.length_map]; omega), ?_⟩
      refine ⟨hx, taken ++ [left[u]], left.eraseIdx u, t ++ [o], rfl, by show D.lst (t.map opD ++ [opD o]) = .lst ((t ++ [o]).map opD); rw [List.map_append]; rfl, by simp [hl], by simp [htl], pm2, fun j k hj => ?_⟩
      rw [List.getElem?_append] at hj ⊢
      rw [htl] at hj
      rw [hl]
      split at hj
      · rename_i hji
        rw [if_pos hji]; exact hk j k hj
      · rename_i hji
        rw [if_neg hji]
        by_cases e : j - i = 0
        · rw [e] at hj ⊢
          have hj : o = some k := by simpa using hj
          rcases ho with rfl | rfl
          · cases hj
          · cases hj; rfl
        · have : ([o] : List (Option Nat))[j - i]? = none := List.getElem?_eq_none (by simp; omega)
          rw [this] at hj; cases hj
  · obtain ⟨ht, taken, left, t, rfl, rfl, hl, htl, pm, hk⟩ := hI
    rw [List.length_map, List.length_range] at hl htl
    have nd : taken.Nodup := (List.nodup_append.mp (pm.nodup_iff.mpr List.nodup_range)).1
    have pt : PaT n t := ⟨htl, fun k hkm => by
      obtain ⟨j, hj⟩ := List.getElem?_of_mem hkm
      have := List.mem_of_getElem? (hk j k hj)
      exact List.mem_range.mp (pm.mem_iff.mp (List.mem_append_left _ this)), fun a b k ha hb => by
      obtain ⟨h1, e1⟩ := List.getElem?_eq_some_iff.mp (hk a k ha)
      obtain ⟨h2, e2⟩ := List.getElem?_eq_some_iff.mp (hk b k hb)
      exact (List.getElem_inj nd).mp (e1.trans e2.symm)⟩
    rw [zR_D]
    exact h t x9 pt ht
structure RowOK (m : Nat) (l : List (Option Int)) : Prop where
  len : l.length ≤ m
  val : ∀ v, some v ∈ l → -10 ≤ v ∧ v ≤ 20
theorem RowOK.mono {m k : Nat} {l : List (Option Int)} (h : RowOK m l) (hk : m ≤ k) : RowOK k l := ⟨Nat.le_trans h.len hk, h.val⟩
theorem pat_ok {n : Nat} {t : List (Option Nat)} (h : PaT n t) (hn : n ≤ 5) : RowOK 5 (zR t) := ⟨by unfold zR; rw [List.length_map, h.len]; exact hn, fun v hv => by
  obtain ⟨k, rfl, hk⟩ := zR_mem hv
  have := h.lt k hk
  omega⟩
theorem cut_mem {α : Type} {l : List α} {lo hi : Option Int} {x : α} (h : x ∈ cutD l lo hi) : x ∈ l := List.mem_of_mem_drop (List.mem_of_mem_take h)
theorem cut_len {α : Type} {l : List α} {lo hi : Option Int} : (cutD l lo hi).length ≤ l.length := by
  unfold cutD
  rw [List.length_take, List.length_drop]; omega
theorem slZ {l : List (Option Int)} {lo hi : Option Int} {R : D → Prop} (h : R (rowZ (cutD l lo hi))) : z1 (gSl lo hi) (rowZ l) fun t => R t := by
  show R (.lst (cutD (l.map oiD) lo hi))
  rw [cutD_map]; exact h
theorem addZ {a b : List (Option Int)} (hl : a.length + b.length ≤ 100000) {R : D → Prop} (h : R (rowZ (a ++ b))) : z2 gAdd (rowZ a) (rowZ b) fun t => R t := by
  refine ⟨sz_le (by rw [List.length_map, List.length_map]; omega), ?_⟩
  show R (.lst (a.map oiD ++ b.map oiD))
  rw [← List.map_append]; exact h
theorem addZZ {a b : Int} {R : D → Prop} (h : R (.int (a + b))) : z2 gAdd (.int a) (.int b) fun t => R t := h
theorem asII {i : Int} {R : Int → Prop} (h : R i) : asI (.int i) R := h
theorem ixL {ds : List D} {i : Int} {d : D} (e : atI ds i = some d) {R : D → Prop} (h : R d) : z2 gIxD (.lst ds) (.int i) fun t => R t := ⟨_, e, h⟩
theorem slI {l : List Int} {lo hi : Option Int} {R : D → Prop} (h : R (.lst ((cutD l lo hi).map D.int))) : z1 (gSl lo hi) (.lst (l.map D.int)) fun t => R t := by
  show R (.lst (cutD (l.map D.int) lo hi))
  rw [cutD_map]; exact h
theorem spoilt_spec {b : D} {n m : Nat} {l : List (Option Int)} (hm : m ≤ 1000) (hl : RowOK m l) (n1 : 1 ≤ n) (n5 : n ≤ 5) (hb : Tape b) {Q : D → D → Prop} {E : XD → Prop} (h : ∀ l' b', RowOK (2 * m + 1) l' → Tape b' → Q (rowZ l') b') : m__law_spoilt cn b (rowZ l) (.int (n : Nat)) Q E := by
  have ll := hl.len
  unfold m__law_spoilt
  refine lenRR ?_
  rw [List.length_map]
  refine addN (c := 1) ?_
  refine pick_spec hb (by omega) (by omega) fun u b1 hu hb1 => ?_
  refine pick_spec (n := 7) hb1 (by omega) (by omega) fun kd b2 hkd hb2 => ?_
  refine pick_spec (n := 7) hb2 (by omega) (by omega) fun w b3 hw hb3 => ?_
  obtain ⟨o, ho, hv⟩ : ∃ o : Option Int, atI [D.int (-1), .int (n : Nat), .int 0, .int ((n : Int) - 1), .non, .int ((n : Int) + 9), .int (-5)] (w : Int) = some (oiD o) ∧ ∀ v, o = some v → -10 ≤ v ∧ v ≤ 20 := by
    have : w = 0 ∨ w = 1 ∨ w = 2 ∨ w = 3 ∨ w = 4 ∨ w = 5 ∨ w = 6 := by omega
    rcases this with rfl | rfl | rfl | rfl | rfl | rfl | rfl
    · exact ⟨some (-1), rfl, fun v e => by cases e; omega⟩
    · exact ⟨some (n : Nat), rfl, fun v e => by cases e; omega⟩
    · exact ⟨some 0, rfl, fun v e => by cases e; omega⟩
    · exact ⟨some ((n : Int) - 1), rfl, fun v e => by cases e; omega⟩
    · exact ⟨none, rfl, fun v e => by cases e⟩
    · exact ⟨some ((n : Int) + 9), rfl, fun v e => by cases e; omega⟩
    · exact ⟨some (-5), rfl, fun v e => by cases e; omega⟩
  refine ixL ho ?_
  have fin : ∀ (lo1 hi1 lo2 hi2 : Option Int) (q : List (Option Int)), (q = [] ∨ q = [o]) → RowOK (2 * m + 1) ((cutD l lo1 hi1 ++ q) ++ cutD l lo2 hi2) := fun lo1 hi1 lo2 hi2 q hq => by
    have c1 := cut_len (l := l) (lo := lo1) (hi := hi1)
    have c2 := cut_len (l := l) (lo := lo2) (hi := hi2)
    refine ⟨?_, fun v hv2 => ?_⟩
    · rw [List.length_append, List.length_append]
      rcases hq with rfl | rfl
      · simp only [List.length_nil]; omega
      · simp only [List.length_cons, List.length_nil]; omega
    · rcases List.mem_append.mp hv2 with z | z
      · rcases List.mem_append.mp z with z | z
        · exact hl.val v (cut_mem z)
        · rcases hq with rfl | rfl
          · cases z
          · exact hv v (List.mem_singleton.mp z).symm
      · exact hl.val v (cut_mem z)
  have len1 : ∀ (lo hi : Option Int), (cutD l lo hi).length ≤ 1000 := fun lo hi => Nat.le_trans cut_len (by omega)
  have e1 : D.lst [oiD o] = rowZ [o] := rfl
  rw [e1]
  refine eqZ (iteB (fun _ => ?_) (fun _ => ?_))
  · refine asII (slZ ?_)
    refine addZ (by have := len1 none (some (u : Int)); simp; omega) ?_
    refine asII (slZ ?_)
    refine addZ (by have := len1 none (some (u : Int)); have := len1 (some (u : Int)) none; simp; omega) ?_
    exact h _ _ (fin _ _ _ _ _ (.inr rfl)) hb3
  refine eqZ (iteB (fun _ => ?_) (fun _ => ?_))
  · refine asII (slZ ?_)
    refine addZZ ?_
    refine asII (slZ ?_)
    refine addZ (by have := len1 none (some (u : Int)); have := len1 (some ((u : Int) + 1)) none; omega) ?_
    have := fin none (some (u : Int)) (some ((u : Int) + 1)) none [] (.inl rfl)
    rw [List.append_nil] at this
    exact h _ _ this hb3
  · refine asII (slZ ?_)
    refine addZ (by have := len1 none (some (u : Int)); simp; omega) ?_
    refine addZZ ?_
    refine asII (slZ ?_)
    refine addZ (by have := len1 none (some (u : Int)); have := len1 (some ((u : Int) + 1)) none; simp; omega) ?_
    exact h _ _ (fin _ _ _ _ _ (.inr rfl)) hb3
theorem fil_id {l : List (Option Int)} : (l.filter fun o => o.isSome).map oiD = (l.filterMap id).map D.int := by
  induction l with
  | nil => rfl
  | cons o l ih =>
    cases o with
    | none => exact ih
    | some a => show oiD (some a) :: _ = D.int a :: _; rw [← ih]; rfl
def repK (K : List Int) (k : Nat) : Bool := match K[k]? with
  | some v => decide (v ∈ K.take k)
  | none => false
theorem rep_nd {K : List Int} : ((List.range K.length).filter (repK K)).length = 0 ↔ K.Nodup := by
  rw [List.length_eq_zero_iff, List.filter_eq_nil_iff]
  constructor
  · intro h
    rw [List.Nodup, List.pairwise_iff_getElem]
    intro i j hi hj hij e
    refine h j (List.mem_range.mpr hj) ?_
    unfold repK
    rw [List.getElem?_eq_getElem hj]
    refine decide_eq_true ?_
    rw [← e]
    exact List.mem_of_getElem? (i := i) (by rw [List.getElem?_take, if_pos hij, List.getElem?_eq_getElem hi])
  · intro nd k hk
    have hk := List.mem_range.mp hk
    unfold repK
    rw [List.getElem?_eq_getElem hk]
    intro z
    have z := of_decide_eq_true z
    obtain ⟨j, hj⟩ := List.getElem?_of_mem z
    have hjk : j < k := by
      have := (List.getElem?_eq_some_iff.mp hj).1
      rw [List.length_take] at this; omega
    rw [List.getElem?_take, if_pos hjk] at hj
    obtain ⟨hj2, e⟩ := List.getElem?_eq_some_iff.mp hj
    have := (List.getElem_inj nd).mp e
    omega
theorem dIn_int {v : Int} {l : List Int} : dIn (.int v) (l.map D.int) = decide (v ∈ l) := by
  unfold dIn
  rw [List.any_map, Bool.eq_iff_iff, List.any_eq_true, decide_eq_true_iff]
  constructor
  · rintro ⟨o, ho, e⟩
    have e : (o == v) = true := e
    rw [beq_iff_eq] at e
    rw [← e]; exact ho
  · intro h
    refine ⟨v, h, ?_⟩
    show (v == v) = true
    simp
theorem flat_int {l : List Int} : (l.map D.int).all flatD = true := by
  rw [List.all_map]
  exact List.all_eq_true.mpr fun _ _ => rfl
theorem fine_spec {n : Nat} {l : List (Option Int)} (hl : l.length ≤ 1000) {Q : D → Prop} {E : XD → Prop} (h : Q (.bl (fineZ n l))) : m__law_fine cn (rowZ l) (.int (n : Nat)) Q E := by
  unfold m__law_fine rowZ
  refine asItL ?_
  refine lcF' (xs := l) (c := oiD) oiD (fun o => o.isSome) (sz_le (by omega)) (fun i o ho emit skip a b => ?_) ?_
  · refine isN_oi ?_
    cases o with
    | none => exact tf1 (b rfl)
    | some v => exact tt1 (a rfl)
  rw [fil_id]
  have lK : (l.filterMap id).length ≤ 1000 := Nat.le_trans (List.length_filterMap_le _ _) hl
  have h : Q (.bl (decide (l.length = n ∧ (∀ v ∈ l.filterMap id, 0 ≤ v ∧ v < (n : Int)) ∧ (l.filterMap id).Nodup))) := h
  generalize l.filterMap id = K at *
  refine jn_of (α := Bool) (fun b => b = !decide (l.length = n ∧ ∀ v ∈ K, 0 ≤ v ∧ v < (n : Int))) (fun kk hk => ?_) ?_
  · refine lenRR ?_
    rw [List.length_map]
    refine neZZ (iteB (fun e => ?_) (fun e => ?_))
    · have e : ¬ l.length = n := by
        rw [Bool.not_eq_true', decide_eq_false_iff_not] at e
        omega
      refine hk _ ?_
      rw [decide_eq_false fun z => e z.1]; rfl
    have e : l.length = n := by
      rw [Bool.not_eq_false', decide_eq_true_iff] at e
      omega
    refine asItL ?_
    refine lcF' (xs := K) (c := D.int) D.int (fun v => !decide (0 ≤ v ∧ v < (n : Int))) (sz_le (by omega)) (fun i v hv emit skip a b => ?_) ?_
    · show (if (!decide (0 ≤ v ∧ v < (n : Int))) = true then emit (.int v) else skip)
      exact iteB a b
    refine lenRR ?_
    rw [List.length_map]
    refine hk _ ?_
    show decide ((0 : Int) < ((K.filter fun v => !decide (0 ≤ v ∧ v < (n : Int))).length : Nat)) = _
    by_cases q : ∀ v ∈ K, 0 ≤ v ∧ v < (n : Int)
    · have e1 : decide (l.length = n ∧ ∀ v ∈ K, 0 ≤ v ∧ v < (n : Int)) = true := decide_eq_true ⟨e, q⟩
      have e2 : (K.filter fun v => !decide (0 ≤ v ∧ v < (n : Int))) = [] := List.filter_eq_nil_iff.mpr fun v hv => by
        have : decide (0 ≤ v ∧ v < (n : Int)) = true := decide_eq_true (q v hv)
        rw [this]; decide
      rw [e1, e2]
      rfl
    · have e1 : decide (l.length = n ∧ ∀ v ∈ K, 0 ≤ v ∧ v < (n : Int)) = false := decide_eq_false fun z => q z.2
      rw [e1]
      refine decide_eq_true ?_
      rcases Nat.eq_zero_or_pos (K.filter fun v => !decide (0 ≤ v ∧ v < (n : Int))).length with z | z
      · exact absurd (fun v hv => by
          have := List.filter_eq_nil_iff.mp (List.length_eq_zero_iff.mp z) v hv
          rw [Bool.not_eq_true, Bool.not_eq_false', decide_eq_true_iff] at this
          exact this) q
      · omega
  rintro _ rfl
  refine iteB (fun e => ?_) (fun e => ?_)
  · rw [Bool.not_eq_true', decide_eq_false_iff_not] at e
    rw [decide_eq_false fun z => e ⟨z.1, z.2.1⟩] at h
    exact h
  rw [Bool.not_eq_false', decide_eq_true_iff] at e
  refine lenRR ?_
  rw [List.length_map]
  refine rng_n (by omega) ?_
  refine lcF' (xs := List.range K.length) (c := fun s => D.int (s : Nat)) (fun s => D.int (s : Nat)) (repK K) (sz_le (by simp; omega)) (fun i k hk emit skip a b => ?_) ?_
  · have hk := List.mem_range.mp (List.mem_of_getElem? hk)
    refine ixL (d := .int K[k]) (atI_nat (j := k) (by rw [List.getElem?_map, List.getElem?_eq_getElem hk]; rfl)) ?_
    refine asII ?_
    refine slI ?_
    rw [cutD_to]
    refine ⟨.inl ⟨rfl, flat_int⟩, ?_⟩
    show (if dIn (.int K[k]) ((K.take k).map D.int) = true then emit (.int (k : Nat)) else skip)
    rw [dIn_int]
    unfold repK at a b
    rw [List.getElem?_eq_getElem hk] at a b
    exact iteB a b
  refine lenRR ?_
  rw [List.length_map]
  refine eqI0 ?_
  have : decide (((List.range K.length).filter (repK K)).length = 0) = decide (l.length = n ∧ (∀ v ∈ K, 0 ≤ v ∧ v < (n : Int)) ∧ K.Nodup) := by
    rw [decide_eq_decide, rep_nd]
    exact ⟨fun z => ⟨e.1, e.2, z⟩, fun z => z.2.2⟩
  rw [this]; exact h
end T
namespace T
open PySem L2 AE AH TL
variable {cn : Str → Addr} {names : List Str} {prs : List (Str × Str)}
def BAD : List Str := ["", "else", "can", "cannot", "skip", "A", "a1", "-a", "aaaaaaa", "a b"]
def fam1 : List Str := ["b", "a", "ab", "canno"]
def fam2 : List Str := ["z", "elsea", "do", "zz"]
def ALL : List Str := BAD ++ (fam1 ++ fam2)
theorem all_ok : ∀ x ∈ ALL, x.length ≤ 7 ∧ (reprText x).length ≤ 30 ∧ PyData.strOk x = true ∧ (!snC x) = decide (x ∈ BAD) := by decide +kernel
structure RW (m : Nat) (ns : List Str) (tb : Str → List (Option Int)) : Prop where
  nd : ns.Nodup
  al : ∀ x ∈ ns, x ∈ ALL
  ok : ∀ x ∈ ns, RowOK m (tb x)
theorem RW.len {m : Nat} {ns : List Str} {tb : Str → List (Option Int)} (h : RW m ns tb) : ns.length ≤ 18 := nd_len h.nd h.al
def rwD (ns : List Str) (tb : Str → List (Option Int)) : D := .dic (ns.map fun s => (.inr s, rowZ (tb s)))
def insS (ns : List Str) (s : Str) : List Str := if s ∈ ns then ns else ns ++ [s]
def updS (tb : Str → List (Option Int)) (s : Str) (l : List (Option Int)) : Str → List (Option Int) := fun x => if x = s then l else tb x
theorem put_rw {ns : List Str} {tb : Str → List (Option Int)} {s : Str} {l : List (Option Int)} : putDk (ns.map fun s => ((.inr s : Key), rowZ (tb s))) (.inr s) (rowZ l) = (insS ns s).map fun x => ((.inr x : Key), rowZ (updS tb s l x)) := by
  unfold insS updS
  by_cases h : s ∈ ns
  · unfold putDk
    rw [if_pos h, if_pos (by
      rw [List.any_map, List.any_eq_true]
      exact ⟨s, h, decide_eq_true rfl⟩), List.map_map]
    refine List.map_congr_left fun x _ => ?_
    show (if (Sum.inr x : Key) = .inr s then _ else _) = _
    by_cases e : x = s
    · rw [if_pos (by rw [e]), if_pos e]
    · rw [if_neg fun z => e (Sum.inr.inj z), if_neg e]
  · rw [if_neg h, put_new (fun kv hkv => by
      obtain ⟨x, hx, rfl⟩ := List.mem_map.mp hkv
      exact fun z => h (Sum.inr.inj z ▸ hx)), List.map_append]
    congr 1
    · refine List.map_congr_left fun x hx => ?_
      show ((.inr x : Key), rowZ (tb x)) = (.inr x, rowZ (if x = s then l else tb x))
      rw [if_neg fun z : x = s => h (z ▸ hx)]
    · show [((.inr s : Key), rowZ l)] = [(.inr s, rowZ (if s = s then l else tb s))]
      rw [if_pos rfl]
theorem insS_mem {ns : List Str} {s x : Str} : x ∈ insS ns s ↔ x ∈ ns ∨ x = s := by
  unfold insS
  split
  · constructor
    · exact .inl
    · rintro (h | rfl)
      · exact h
      · assumption
  · rw [List.mem_append, List.mem_singleton]
theorem RW.put {m : Nat} {ns : List Str} {tb : Str → List (Option Int)} (h : RW m ns tb) {s : Str} (hs : s ∈ ALL) {l : List (Option Int)} (hl : RowOK m l) : RW m (insS ns s) (updS tb s l) := ⟨by
  unfold insS
  split
  · exact h.nd
  · rename_i hn
    refine List.nodup_append.mpr ⟨h.nd, by simp, fun a ha b hb e => ?_⟩
    rw [List.mem_singleton.mp hb] at e
    exact hn (e ▸ ha), fun x hx => by
  rcases insS_mem.mp hx with z | rfl
  · exact h.al x z
  · exact hs, fun x hx => by
  unfold updS
  split
  · exact hl
  · rename_i hn
    exact h.ok x ((insS_mem.mp hx).resolve_right hn)⟩
theorem RW.mono {m k : Nat} {ns : List Str} {tb : Str → List (Option Int)} (h : RW m ns tb) (hk : m ≤ k) : RW k ns tb := ⟨h.nd, h.al, fun x hx => (h.ok x hx).mono hk⟩
theorem tv_rw {ns : List Str} {tb : Str → List (Option Int)} {s : Str} (hm : s ∈ ns) : valD (ns.map fun s => ((Sum.inr s : Key), rowZ (tb s))) (.inr s) = some (rowZ (tb s)) := val_map (key := fun s : Str => (Sum.inr s : Key)) (v := fun s => rowZ (tb s)) hm fun b _ e => Sum.inr.inj e
theorem keys_rw {ns : List Str} {tb : Str → List (Option Int)} : keysD (ns.map fun s => ((Sum.inr s : Key), rowZ (tb s))) = ns.map D.str := by unfold keysD; rw [List.map_map]; rfl
theorem pSetW {m : Nat} {ns : List Str} {tb : Str → List (Option Int)} (h : RW m ns tb) {s : Str} {l : List (Option Int)} {R : D → Prop} (hR : R (rwD (insS ns s) (updS tb s l))) : pSet (rwD ns tb) (.str s) (rowZ l) fun t => R t := by
  have := h.len
  refine pSetD (by rw [List.length_map]; omega) ?_
  rw [put_rw]; exact hR
def dueV (s : Int) (ns : List Str) (tb : Str → List (Option Int)) : D :=
  if s < 1 then .tup [.str "states", .int s] else
  match (ns.mergeSort leS).find? (fun x => !snC x) with
  | some x => .tup [.str "name", .str x]
  | none => match (ns.mergeSort leS).find? (fun x => !fineZ s.toNat (tb x)) with
    | some x => .tup [.str "table", .str x]
    | none => .tup [.str "fine", .int s]
section
variable {s : Int} {ns : List Str} {tb : Str → List (Option Int)} {x : Str}
theorem due_s (h : s < 1) : dueV s ns tb = .tup [.str "states", .int s] := if_pos h
theorem due_n (h : 1 ≤ s) (e : (ns.mergeSort leS).find? (fun x => !snC x) = some x) : dueV s ns tb = .tup [.str "name", .str x] := by
  unfold dueV
  rw [if_neg (by omega)]
  simp only [e]
theorem due_t (h : 1 ≤ s) (e : (ns.mergeSort leS).find? (fun x => !snC x) = none) (e2 : (ns.mergeSort leS).find? (fun x => !fineZ s.toNat (tb x)) = some x) : dueV s ns tb = .tup [.str "table", .str x] := by
  unfold dueV
  rw [if_neg (by omega)]
  simp only [e, e2]
theorem due_f (h : 1 ≤ s) (e : (ns.mergeSort leS).find? (fun x => !snC x) = none) (e2 : (ns.mergeSort leS).find? (fun x => !fineZ s.toNat (tb x)) = none) : dueV s ns tb = .tup [.str "fine", .int s] := by
  unfold dueV
  rw [if_neg (by omega)]
  simp only [e, e2]
theorem due_shape {m : Nat} (w : RW m ns tb) : gnd (dueV s ns tb) = true ∧ Shp (dueV s ns tb) := by
  have hm : ∀ {p : Str → Bool} {x : Str}, (ns.mergeSort leS).find? p = some x → PyData.strOk x = true := fun e => by
    have := List.mem_of_find?_eq_some e
    exact (all_ok _ (w.al _ ((List.mergeSort_perm ns leS).mem_iff.mp this))).2.2.1
  have c1 : ∀ a : Str, PyData.strOk a = true → ∀ i : Int, gnd (.tup [.str a, .int i]) = true ∧ Shp (.tup [.str a, .int i]) := fun a ha i => ⟨rfl, by show (PyData.strOk a && _) = true; rw [ha]; rfl, by show max 1 (max 1 0) + 1 ≤ 60; decide⟩
  have c2 : ∀ a b : Str, PyData.strOk a = true → PyData.strOk b = true → gnd (.tup [.str a, .str b]) = true ∧ Shp (.tup [.str a, .str b]) := fun a b ha hb => ⟨rfl, by show (PyData.strOk a && (PyData.strOk b && _)) = true; rw [ha, hb]; rfl, by show max 1 (max 1 0) + 1 ≤ 60; decide⟩
  unfold dueV
  split
  · exact c1 _ (by decide +kernel) _
  split
  · rename_i e; exact c2 _ _ (by decide +kernel) (hm e)
  split
  · rename_i e; exact c2 _ _ (by decide +kernel) (hm e)
  · exact c1 _ (by decide +kernel) _
theorem subT {b : Bool} (e : b = true) {A B : Prop} (h : A) : tst (.bl b) fun c => if c = true then A else B := by subst e; exact h
theorem told_spec {m : Nat} (hm : m ≤ 1000) (w : RW m ns tb) (hs : s ≤ 1000) {Q : D → Prop} {E : XD → Prop} (h : Q (dueV s ns tb)) : m__law_told cn (.int s) (rwD ns tb) Q E := by
  have ln := w.len
  unfold m__law_told tryJ
  refine sysF_spec (by omega) w.nd (fun x hx => by have := (all_ok x (w.al x hx)).1; omega) (fun x hx => by have := (w.ok x hx).len; omega) (by omega) (fun h1 => ?_) (fun x h1 e => ?_) (fun x h1 e e2 => ?_) (fun ss h1 e e2 so => ?_)
  · rw [due_s h1] at h
    refine ⟨"BadStates", by decide, rfl, ?_⟩
    rw [if_pos (by decide +kernel)]
    refine jn_of (α := D) (fun d => d = .tup [.str "states", .int s]) (fun k hk => ?_) (by rintro _ rfl; exact h)
    refine jn_of (α := Bool) (fun b => b = true) (fun k2 hk2 => ?_) ?_
    · refine ⟨"BadStates", by decide, rfl, subT (by decide +kernel) ?_⟩
      exact ⟨"BadStates", by decide, rfl, hk2 _ (by decide +kernel)⟩
    · rintro _ rfl
      exact ifT ⟨rfl, _, rfl, hk _ rfl⟩
  · rw [due_n h1 e] at h
    refine ⟨"BadName", by decide, rfl, ?_⟩
    rw [if_neg (by decide +kernel)]
    refine ⟨"BadName", by decide, rfl, ?_⟩
    rw [if_pos (by decide +kernel)]
    refine jn_of (α := D) (fun d => d = .tup [.str "name", .str x]) (fun k hk => ?_) (by rintro _ rfl; exact h)
    refine ⟨"BadName", by decide, rfl, subT (by decide +kernel) ?_⟩
    exact ⟨rfl, _, rfl, hk _ rfl⟩
  · rw [due_t h1 e e2] at h
    refine ⟨"BadTable", by decide, rfl, ?_⟩
    rw [if_neg (by decide +kernel)]
    refine ⟨"BadTable", by decide, rfl, ?_⟩
    rw [if_neg (by decide +kernel)]
    refine ⟨"BadTable", by decide, rfl, ?_⟩
    rw [if_pos (by decide +kernel)]
    refine jn_of (α := D) (fun d => d = .tup [.str "table", .str x]) (fun k hk => ?_) (by rintro _ rfl; exact h)
    refine ⟨"BadTable", by decide, rfl, subT (by decide +kernel) ?_⟩
    exact ⟨rfl, _, rfl, hk _ rfl⟩
  · rw [due_f h1 e e2] at h
    refine ⟨rfl, sys_lenE ?_⟩
    refine ⟨⟨by omega, by omega⟩, ?_⟩
    rw [show ((s.toNat : Nat) : Int) = s by omega]
    exact h
theorem due_spec {m : Nat} (hm : m ≤ 1000) (w : RW m ns tb) (hs : s ≤ 1000) {Q : D → Prop} {E : XD → Prop} (h : Q (dueV s ns tb)) : m__law_due cn (.int s) (rwD ns tb) Q E := by
  have ln := w.len
  unfold m__law_due
  show (if decide (s < 1) = true then _ else _)
  refine iteB (fun e => ?_) (fun e => ?_)
  · rw [due_s (of_decide_eq_true e)] at h; exact h
  have h1 : 1 ≤ s := by have := of_decide_eq_false e; omega
  obtain ⟨n, rfl⟩ : ∃ n : Nat, s = (n : Int) := ⟨s.toNat, by omega⟩
  have hss : ∀ s, s ∈ ns.mergeSort leS → s ∈ ns := fun s => (List.mergeSort_perm ns leS).mem_iff.mp
  refine dkL ?_
  rw [keys_rw]
  refine lcM' (xs := ns) (c := D.str) D.str (sz_le (by omega)) (fun i s hi emit skip nx => nx) ?_
  refine sortL ?_
  refine asItL ?_
  refine for_find (p := fun x => !snC x) (R := fun x => Q (.tup [.str "name", .str x])) (fun x hx nx a b => ?_) (fun x e => by rw [due_n h1 e] at h; exact h) fun e => ?_
  · have ha := all_ok x (w.al x (hss x hx))
    refine ⟨.inl ⟨rfl, rfl⟩, ?_⟩
    show (if dIn (.str x) (BAD.map D.str) = true then Q (.tup [.str "name", .str x]) else nx)
    rw [dIn_str, ← ha.2.2.2]
    exact iteB a b
  refine dkL ?_
  rw [keys_rw]
  refine lcM' (xs := ns) (c := D.str) D.str (sz_le (by omega)) (fun i s hi emit skip nx => nx) ?_
  refine sortL ?_
  refine asItL ?_
  refine for_find (p := fun x => !fineZ n (tb x)) (R := fun x => Q (.tup [.str "table", .str x])) (fun x hx nx a b => ?_) (fun x e2 => by rw [due_t h1 e e2] at h; exact h) fun e2 => ?_
  · refine ixK (tv_rw (hss x hx)) ?_
    refine fine_spec (by have := (w.ok x (hss x hx)).len; omega) ?_
    show (if (!fineZ n (tb x)) = true then Q (.tup [.str "table", .str x]) else nx)
    exact iteB a b
  · rw [due_f h1 e e2] at h; exact h
theorem eqSame {d : D} (h : Shp d) {R : Bool → Prop} (hR : R true) : z2 gEq d d fun t => tst t fun b => R b := by
  refine ⟨.inr ⟨h, h⟩, ?_⟩
  show R (dEq d d)
  rw [dEq_shp h]; exact hR
theorem int_sh : ∀ k : Nat, k < 31 → (PyData.int ((k : Int) - 10)).shown.length ≤ 5 ∧ (PyData.int ((k : Int) - 10)).showable = true := by decide +kernel
theorem oi_sh {o : Option Int} (h : ∀ v, o = some v → -10 ≤ v ∧ v ≤ 20) : (toPy (oiD o)).shown.length ≤ 5 ∧ (toPy (oiD o)).showable = true ∧ (toPy (oiD o)).depth = 0 ∧ pyOk (oiD o) = true := by
  cases o with
  | none => exact ⟨by decide +kernel, rfl, rfl, rfl⟩
  | some v =>
    have hv := h v rfl
    have z := int_sh (v + 10).toNat (by omega)
    rw [show (((v + 10).toNat : Nat) : Int) - 10 = v by omega] at z
    exact ⟨z.1, z.2, rfl, rfl⟩
theorem ois_sh : ∀ {l : List (Option Int)}, (∀ v, some v ∈ l → -10 ≤ v ∧ v ≤ 20) → piled (PyData.shownAll (toPys (l.map oiD))) ≤ 7 * l.length ∧ PyData.showableAll (toPys (l.map oiD)) = true ∧ PyData.depthAll (toPys (l.map oiD)) = 0 ∧ pyOks (l.map oiD) = true
  | [], _ => ⟨by decide, rfl, rfl, rfl⟩
  | o :: l, h => by
    obtain ⟨a1, a2, a3, a4⟩ := oi_sh (o := o) fun v e => h v (by rw [e]; exact List.mem_cons_self)
    obtain ⟨b1, b2, b3, b4⟩ := ois_sh (l := l) fun v hv => h v (List.mem_cons_of_mem _ hv)
    refine ⟨?_, ?_, ?_, ?_⟩
    · show piled ((toPy (oiD o)).shown :: PyData.shownAll (toPys (l.map oiD))) ≤ _
      rw [piled_cons, List.length_cons]; omega
    · show ((toPy (oiD o)).showable && PyData.showableAll (toPys (l.map oiD))) = true
      rw [a2, b2]; rfl
    · show max (toPy (oiD o)).depth (PyData.depthAll (toPys (l.map oiD))) = 0
      rw [a3, b3]; rfl
    · show (pyOk (oiD o) && pyOks (l.map oiD)) = true
      rw [a4, b4]; rfl
theorem listText_len : ∀ ts : List Str, (listText ts).length ≤ 2 + piled ts
  | [] => by decide +kernel
  | t :: r => by
    show (textFrom 1 (("[" : Str) ++ ("" : String) ++ t) r ++ "]").length ≤ _
    rw [strLen_append, textFrom_length_pos _ _ _ (by decide), strLen_append, strLen_append, piled_cons]
    show 1 + 0 + t.length + piled r + 1 ≤ _
    omega
theorem dictText_len (ts : List Str) : (dictText ts).length ≤ 2 + piled ts := by
  have e : (dictText ts).length = 1 + (Str.join ", " ts).length + 1 := by
    unfold dictText
    rw [strLen_append, strLen_append]; rfl
  by_cases h : ts = []
  · subst h; decide +kernel
  · have := join_length_add ts h
    omega
theorem row_sh {m : Nat} {l : List (Option Int)} (h : RowOK m l) : (toPy (rowZ l)).shown.length ≤ 2 + 7 * m ∧ (toPy (rowZ l)).showable = true ∧ (toPy (rowZ l)).depth ≤ 1 ∧ pyOk (rowZ l) = true := by
  obtain ⟨b1, b2, b3, b4⟩ := ois_sh h.val
  have hl := h.len
  refine ⟨?_, b2, ?_, b4⟩
  · show (listText (PyData.shownAll (toPys (l.map oiD)))).length ≤ _
    have := listText_len (PyData.shownAll (toPys (l.map oiD)))
    omega
  · show PyData.depthAll (toPys (l.map oiD)) + 1 ≤ 1
    omega
def kvP (ns : List Str) (tb : Str → List (Option Int)) : List (PyData × PyData) := ((ns.map fun s => ((.inr s : Key), rowZ (tb s))).map (·.1)).map keyPy |>.zip (toPys ((ns.map fun s => ((.inr s : Key), rowZ (tb s))).map (·.2)))
theorem kvP_cons {s : Str} {ns : List Str} : kvP (s :: ns) tb = (.str s, toPy (rowZ (tb s))) :: kvP ns tb := rfl
theorem kvs_sh {m : Nat} : ∀ {ns : List Str}, (∀ x ∈ ns, x ∈ ALL ∧ RowOK m (tb x)) →
    piled (PyData.shownKv (kvP ns tb)) ≤ ns.length * (50 + 7 * m) ∧ PyData.showableKv (kvP ns tb) = true ∧ PyData.depthKv (kvP ns tb) ≤ 1 ∧ pyOks ((ns.map fun s => ((.inr s : Key), rowZ (tb s))).map (·.2)) = true
  | [], _ => ⟨by show piled [] ≤ _; rw [piled_nil]; omega, rfl, Nat.zero_le _, rfl⟩
  | s :: ns, h => by
    obtain ⟨hs, hr⟩ := h s List.mem_cons_self
    obtain ⟨r1, r2, r3, r4⟩ := row_sh hr
    have hn := (all_ok s hs).2.1
    obtain ⟨b1, b2, b3, b4⟩ := kvs_sh (m := m) (ns := ns) fun x hx => h x (List.mem_cons_of_mem _ hx)
    rw [kvP_cons]
    refine ⟨?_, ?_, ?_, ?_⟩
    · show piled ((reprText s ++ ": " ++ (toPy (rowZ (tb s))).shown) :: PyData.shownKv (kvP ns tb)) ≤ _
      rw [piled_cons, strLen_append, strLen_append, List.length_cons, Nat.add_mul]
      have e2 : ((": " : String) : Str).length = 2 := rfl
      rw [e2]
      omega
    · show (true && (toPy (rowZ (tb s))).showable && PyData.showableKv (kvP ns tb)) = true
      rw [r2, b2]; rfl
    · show max (max 0 (toPy (rowZ (tb s))).depth) (PyData.depthKv (kvP ns tb)) ≤ 1
      exact Nat.max_le.mpr ⟨Nat.max_le.mpr ⟨by omega, r3⟩, b3⟩
    · show (pyOk (rowZ (tb s)) && _) = true
      rw [r4]
      exact b4
def TXT (ns : List Str) (tb : Str → List (Option Int)) : Str := dkText ((ns.map fun s => ((.inr s : Key), rowZ (tb s))).map (·.1)) (toPys ((ns.map fun s => ((.inr s : Key), rowZ (tb s))).map (·.2)))
theorem repr_spec {m : Nat} (hm : m ≤ 1000) (w : RW m ns tb) {R : D → Prop} (h : R (.str (TXT ns tb))) : zN gRepr [rwD ns tb] fun t => R t := by
  obtain ⟨a, b, c, d⟩ := kvs_sh (tb := tb) (m := m) (ns := ns) fun x hx => ⟨w.al x hx, w.ok x hx⟩
  have ln := w.len
  have l1 := dictText_len (PyData.shownKv (kvP ns tb))
  have q : ns.length * (50 + 7 * m) ≤ 18 * (50 + 7 * 1000) := Nat.mul_le_mul ln (by omega)
  have l2 : (dictText (PyData.shownKv (kvP ns tb))).length ≤ sizeLine := sz_le (by omega)
  exact ⟨d, b, Nat.le_trans c (by decide), l2, h⟩
end
end T
namespace T
open PySem L2 AE AH TL
variable {cn : Str → Addr} {names : List Str} {prs : List (Str × Str)}
structure NmK (names : List Str) : Prop where
  l1 : 1 ≤ names.length
  l4 : names.length ≤ 4
  nd : names.Nodup
  al : ∀ x ∈ names, x ∈ ALL ∧ snC x = true
theorem nmk : ∀ v : Nat, v < 2 → ∀ w : Nat, w < 4 → (1 ≤ (((if v = 0 then fam1 else fam2).take (1 + w))).length ∧ (((if v = 0 then fam1 else fam2).take (1 + w))).length ≤ 4 ∧ ((if v = 0 then fam1 else fam2).take (1 + w)).Nodup) ∧ ∀ x ∈ (if v = 0 then fam1 else fam2).take (1 + w), x ∈ ALL ∧ snC x = true := by decide +kernel
theorem fam_at {v : Nat} (hv : v < 2) : atI [D.lst (fam1.map D.str), .lst (fam2.map D.str)] (v : Int) = some (.lst ((if v = 0 then fam1 else fam2).map D.str)) := by
  have : v = 0 ∨ v = 1 := by omega
  rcases this with rfl | rfl <;> rfl
theorem slS {l : List Str} {n : Nat} {R : D → Prop} (h : R (.lst ((l.take n).map D.str))) : z1 (gSl none (some (n : Int))) (.lst (l.map D.str)) fun t => R t := by
  show R (.lst (cutD (l.map D.str) none (some (n : Int))))
  rw [cutD_map, cutD_to]; exact h
theorem str_at {l : List Str} {i : Nat} (h : i < l.length) : atI (l.map D.str) (i : Int) = some (.str l[i]) := atI_nat (by rw [List.getElem?_map, List.getElem?_eq_getElem h]; rfl)
theorem law_spec {ns : List Int} {Q : D → Prop} {E : XD → Prop} (h : Q (.bl true)) : m_law cn (.scr ns) Q E := by
  unfold m_law
  refine tape_spec (k := 0) (by omega) fun b0 hb0 => ?_
  refine pick_spec (n := 5) hb0 (by omega) (by omega) fun v0 b1 hv0 hb1 => ?_
  refine addN (a := 1) ?_
  obtain ⟨n, hn⟩ : ∃ n, n = 1 + v0 := ⟨_, rfl⟩
  rw [← hn]
  have n1 : 1 ≤ n := by omega
  have n5 : n ≤ 5 := by omega
  refine pick_spec (n := 2) hb1 (by omega) (by omega) fun v b2 hv hb2 => ?_
  refine ixL (fam_at hv) ?_
  refine pick_spec (n := 4) hb2 (by omega) (by omega) fun w b3 hw hb3 => ?_
  refine addN (a := 1) ?_
  refine asII ?_
  refine slS ?_
  obtain ⟨⟨q1, q2, q3⟩, q4⟩ := nmk v hv w hw
  have nk : NmK ((if v = 0 then fam1 else fam2).take (1 + w)) := ⟨q1, q2, q3, q4⟩
  clear q1 q2 q3 q4
  generalize (if v = 0 then fam1 else fam2).take (1 + w) = names at *
  have l1 := nk.l1
  have l4 := nk.l4
  refine lenRR ?_
  rw [List.length_map]
  refine rng_n (by omega) ?_
  refine forI (fun i x => ∃ tb, x = rwD (names.take i) tb ∧ RW 5 (names.take i) tb ∧ ∀ y ∈ names.take i, fineZ n (tb y) = true) ⟨fun _ => [], rfl, ⟨by simp, fun x hx => absurd hx (by simp), fun x hx => absurd hx (by simp)⟩, fun x hx => absurd hx (by simp)⟩ ?_ ?_
  · rintro i d _ hd ⟨tb, rfl, hw5, hf⟩
    obtain ⟨hi, rfl⟩ := rngd hd
    refine addN (a := 1) ?_
    refine tape_spec (by omega) fun c0 hc0 => ?_
    refine row_spec (by omega) hc0 fun t c1 pt hc1 => ?_
    refine ixL (str_at hi) ?_
    refine pSetW hw5 ?_
    have tk : names.take (i + 1) = names.take i ++ [names[i]] := take_succ_get (List.getElem?_eq_getElem hi)
    have nin : names[i] ∉ names.take i := fun z => by
      have nd2 : (names.take (i + 1)).Nodup := nk.nd.sublist (List.take_sublist _ _)
      rw [tk] at nd2
      exact (List.nodup_append.mp nd2).2.2 _ z _ (by simp) rfl
    have ei : insS (names.take i) names[i] = names.take (i + 1) := by
      unfold insS
      rw [if_neg nin, tk]
    have w2 := hw5.put (nk.al _ (List.getElem_mem hi)).1 (pat_ok pt n5)
    rw [ei] at w2 ⊢
    refine ⟨_, rfl, w2, fun y hy => ?_⟩
    unfold updS
    split
    · exact pat_fine pt
    · rename_i hne
      rw [tk] at hy
      rcases List.mem_append.mp hy with z | z
      · exact hf y z
      · exact absurd (List.mem_singleton.mp z) hne
  rintro _ ⟨tb, rfl, hw5, hf⟩
  rw [List.length_map, List.length_range, List.take_length] at hw5 hf ⊢
  have hd : dueV (n : Int) names tb = .tup [.str "fine", .int (n : Nat)] := by
    have hm : ∀ x, x ∈ names.mergeSort leS → x ∈ names := fun x => (List.mergeSort_perm names leS).mem_iff.mp
    refine due_f (by omega) (List.find?_eq_none.mpr fun x hx => ?_) (List.find?_eq_none.mpr fun x hx => ?_)
    · rw [(nk.al x (hm x hx)).2]; decide
    · rw [Int.toNat_natCast, hf x (hm x hx)]; decide
  have hsh := due_shape (s := (n : Int)) hw5
  rw [hd] at hsh
  refine told_spec (m := 5) (by omega) hw5 (by omega) ?_
  rw [hd]
  refine ⟨hsh.1, ?_⟩
  refine neSame hsh.2 ?_
  refine ifF ?_
  clear hd hsh hf
  refine pick_spec (n := 3) hb3 (by omega) (by omega) fun u b4 hu hb4 => ?_
  refine rng_n (by omega) ?_
  refine ⟨fun i x30 x31 => Tape x30 ∧ ∃ ns tb, x31 = rwD ns tb ∧ RW (6 * 2 ^ i - 1) ns tb ∧ ∀ y ∈ names, y ∈ ns, ⟨hb4, names, tb, rfl, hw5, fun _ z => z⟩, fun i d x30 x31 hd hI => ?_, fun x30 x31 hI => ?_⟩
  · obtain ⟨ht, nsx, tbx, rfl, wx, hin⟩ := hI
    obtain ⟨hi, rfl⟩ := rngd hd
    have p1 : 2 ^ i ≤ 4 := by
      have : i = 0 ∨ i = 1 := by omega
      rcases this with rfl | rfl <;> decide
    have p0 : 1 ≤ 2 ^ i := Nat.one_le_two_pow
    refine lenRR ?_
    rw [List.length_map]
    refine pick_spec ht (by omega) (by omega) fun a c1 ha hc1 => ?_
    refine ixL (str_at ha) ?_
    have hmem := hin _ (List.getElem_mem ha)
    refine ixK (tv_rw hmem) ?_
    refine spoilt_spec (m := 6 * 2 ^ i - 1) (by omega) (wx.ok _ hmem) n1 n5 hc1 fun l' c2 hl' hc2 => ?_
    refine pSetW wx ?_
    have e : 2 * (6 * 2 ^ i - 1) + 1 = 6 * 2 ^ (i + 1) - 1 := by rw [Nat.pow_succ]; omega
    rw [e] at hl'
    refine ⟨hc2, _, _, rfl, (wx.mono (by omega)).put (nk.al _ (List.getElem_mem ha)).1 hl', fun y hy => insS_mem.mpr (.inl (hin y hy))⟩
  obtain ⟨ht, nsx, tbx, rfl, wx, hin⟩ := hI
  rw [List.length_map, List.length_range] at wx
  have wx : RW 100 nsx tbx := wx.mono (by
    have : u = 0 ∨ u = 1 ∨ u = 2 := by omega
    rcases this with rfl | rfl | rfl <;> decide)
  clear hin hw5
  refine pick_spec (n := 6) ht (by omega) (by omega) fun a c1 ha hc1 => ?_
  refine divNt (b := 2) (by omega) (by omega) ?_
  have ha2 : a / 2 ≤ 2 := by omega
  refine rng_n (by omega) ?_
  refine ⟨fun i x46 x47 => Tape x46 ∧ ∃ ns tb, x47 = rwD ns tb ∧ RW 100 ns tb, ⟨hc1, nsx, tbx, rfl, wx⟩, fun i d x46 x47 hd hI => ?_, fun x46 x47 hI => ?_⟩
  · obtain ⟨ht, nsx, tbx, rfl, wx⟩ := hI
    obtain ⟨hi, rfl⟩ := rngd hd
    refine pick_spec (n := 10) ht (by omega) (by omega) fun o c2 ho hc2 => ?_
    have ho2 : o < BAD.length := ho
    refine ixL (str_at ho2) ?_
    refine addN (a := 6) ?_
    refine tape_spec (by omega) fun c3 hc3 => ?_
    refine row_spec (by omega) hc3 fun t c4 pt hc4 => ?_
    refine pSetW wx ?_
    exact ⟨hc2, _, _, rfl, wx.put (List.mem_append_left _ (List.getElem_mem ho2)) ((pat_ok pt n5).mono (by omega))⟩
  obtain ⟨ht, nsy, tby, rfl, wy⟩ := hI
  refine jS1_of (fun d => ∃ s : Int, d = .int s ∧ s ≤ 5) (fun kk hk => ?_) ?_
  · refine pick_spec (n := 5) ht (by omega) (by omega) fun o c2 ho hc2 => ?_
    refine eqZ (iteB (fun _ => ?_) (fun _ => hk _ ⟨n, rfl, by omega⟩))
    refine pick_spec (n := 3) hc2 (by omega) (by omega) fun p c3 hp hc3 => ?_
    exact hk _ ⟨-(p : Int), rfl, by omega⟩
  rintro _ ⟨s, rfl, hs⟩
  have sh := due_shape (s := s) wy
  refine repr_spec (m := 100) (by omega) wy ?_
  refine due_spec (m := 100) (by omega) wy (by omega) ?_
  refine ⟨sh.1, ?_⟩
  refine jn_of (α := D) (fun d => d = .bl true) (fun k hk => ?_) (by rintro _ rfl; exact h)
  refine told_spec (m := 100) (by omega) wy (by omega) ?_
  refine eqSame sh.2 (ifT ?_)
  refine told_spec (m := 100) (by omega) wy (by omega) ?_
  refine eqSame sh.2 (ifT ?_)
  refine repr_spec (m := 100) (by omega) wy ?_
  refine eqStV ?_
  rw [decide_eq_true rfl]
  exact hk _ rfl
theorem pure_law (cn : Str → Addr) (ns : List Int) (_ : ns.length ≤ 63) : F_law cn [.fz (.scr ns)] (fun o _ => o = .fz (.bl true)) (fun _ _ => False) :=
  ⟨.scr ns, rfl, fun d => d = .bl true, fun _ => False, law_spec rfl, fun r hr => by rw [hr], fun x hx => hx⟩
end T
namespace T
open PySem L2 AE AH
structure Blt (mg : Str → Option Value) : Prop where
  ValueError_ : mg "ValueError" = none
  abs_ : mg "abs" = none
  all_ : mg "all" = none
  any_ : mg "any" = none
  bool_ : mg "bool" = none
  enumerate_ : mg "enumerate" = none
  int_ : mg "int" = none
  isinstance_ : mg "isinstance" = none
  len_ : mg "len" = none
  list_ : mg "list" = none
  range_ : mg "range" = none
  repr_ : mg "repr" = none
  sorted_ : mg "sorted" = none
  str_ : mg "str" = none
  tuple_ : mg "tuple" = none
def pr__law_tape : Prot := fun i => i == 0 || i == 1
theorem sc__law_tape : FnScope ["_law_script", "_law_k", "_law_cell"] ["_law_script", "_law_k"] (defScope s__law_tape) := ⟨rfl, rfl, rfl, by decide +kernel, rfl, by decide +kernel, by decide +kernel⟩
theorem ok__law_tape {P : Program} {w : World} {K : PySem.W.Frag} {mg : Str → Option Value} {base : Heap} {f : Addr} {fd : FuncData} {dvs : List V} {kws : List (Str × V)} {cn : Str → Addr} (B : Blt mg)
    (Fn : FunD K "_law_tape" "_law_tape" (defArgs s__law_tape) (defBody s__law_tape) (defScope s__law_tape) dvs kws f fd) : FnOk P w K mg base (L2N.CX P w) 1 f fd ["_law_script", "_law_k"] (spA K 2 (F__law_tape cn)) :=
  AE.FunD.okA Fn sc__law_tape pr__law_tape fun cdv A outer s H E hr => ⟨_, ewB, fun os Kd Ed _ hF => by
    obtain ⟨p__law_script, p__law_k, rfl, Q, E, h, hQ, hE⟩ := hF
    unfold m__law_tape at h
    exact (show wB _ _ _ _ _ _ [zz p__law_script, zz p__law_k, nn] from (b_cons (s_set (i := 2) sc__law_tape.nd rfl (by first | exact .inl rfl | exact .inr rfl) rfl (e_int ⟨lb_ rfl, (show wB _ _ _ _ _ _ [zz p__law_script, zz p__law_k, zz (.int 0)] from (b_j1 (fun x1 => [zz p__law_script, zz p__law_k, zz x1]) h (fun x1 h => (show wB _ _ _ _ _ _ [zz p__law_script, zz p__law_k, zz x1] from (b_cons (s_ret (e_lsto (a_cons (e_bN (ae_abs rfl B.abs_ ewA) (a_cons (e_name (pv 2) rfl (a_nil (kN (.cons VwE.z .nil) h fun t2 h => (a_cons (e_add (e_int (e_mul (e_int (e_name (pv 1) rfl (k2 VwE.z VwE.z h fun t3 h => (k2 VwE.z VwE.z h fun t4 h => (a_cons (e_add (e_int (e_mul (e_int (e_name (pv 1) rfl (k2 VwE.z VwE.z h fun t5 h => (k2 VwE.z VwE.z h fun t6 h => (a_nil (dk (.cons (.cons (.cons .nil))) (szB rfl) (hQ _ h)))))))))))))))))))))))))))))) fun h key => (s_if (t_c c_lt (e_name (pv 1) rfl (e_bN (ae_len rfl B.len_ ewA) (a_cons (e_name (pv 0) rfl (a_nil (kN (.cons VwE.z .nil) h fun t8 h => (k2 VwE.z VwE.z h fun t9 h => (tk VwE.z h fun b10 h => (itk h (fun h => (b_cons (s_set (i := 2) sc__law_tape.nd rfl (by first | exact .inl rfl | exact .inr rfl) rfl (e_at (rm64 hr) (e_name (pv 0) rfl (e_name (pv 1) rfl (k2 VwE.z VwE.z h fun t11 h => ⟨lb_ rfl, (show wB _ _ _ _ _ _ [zz p__law_script, zz p__law_k, zz t11] from (b_nil (key _ _ (.same (.same (.same .nil))) h)))⟩))))))) (fun h => (b_nil (key _ _ (.same (.same (.same .nil))) h))))))))))))))))⟩))))⟩
def pr__law_pick : Prot := fun i => i == 0 || i == 1
theorem sc__law_pick : FnScope ["_law_tape_here", "_law_many", "_law_digit"] ["_law_tape_here", "_law_many"] (defScope s__law_pick) := ⟨rfl, rfl, rfl, by decide +kernel, rfl, by decide +kernel, by decide +kernel⟩
theorem ok__law_pick {P : Program} {w : World} {K : PySem.W.Frag} {mg : Str → Option Value} {base : Heap} {f : Addr} {fd : FuncData} {dvs : List V} {kws : List (Str × V)} {cn : Str → Addr} (B : Blt mg)
    (Fn : FunD K "_law_pick" "_law_pick" (defArgs s__law_pick) (defBody s__law_pick) (defScope s__law_pick) dvs kws f fd) : FnOk P w K mg base (L2N.CX P w) 1 f fd ["_law_tape_here", "_law_many"] (spA K 2 (F__law_pick cn)) :=
  AE.FunD.okA Fn sc__law_pick pr__law_pick fun cdv A outer s H E hr => ⟨_, ewB, fun os Kd Ed _ hF => by
    obtain ⟨p__law_tape_here, p__law_many, rfl, Q, E, h, hQ, hE⟩ := hF
    unfold m__law_pick at h
    exact (show wB _ _ _ _ _ _ [oo p__law_tape_here, zz p__law_many, nn] from (b_cons (s_if (t_c c_ge (e_at (rm64 hr) (e_namep (pv 0) rfl (e_int (k2 (VwE.o rfl) VwE.z h fun t1 h => (e_pow (e_int (e_int (k2 VwE.z VwE.z h fun t2 h => (k2 VwE.z VwE.z h fun t3 h => (tk VwE.z h fun b4 h => (itk h (fun h => (b_cons (s_set (i := 2) sc__law_pick.nd rfl (by first | exact .inl rfl | exact .inr rfl) rfl (e_mod (e_bN (ae_intS rfl B.int_ ewA) (a_cons (e_at (rm64 hr) (e_namep (pv 0) rfl (e_int (k2 (VwE.o rfl) VwE.z h fun t5 h => (a_nil (kN (.cons VwE.z .nil) h fun t6 h => (e_name (pv 1) rfl (k2 VwE.z VwE.z h fun t7 h => ⟨lb_ rfl, (show wB _ _ _ _ _ _ [oo p__law_tape_here, zz p__law_many, zz t7] from (b_cons (s_asg (e_fdiv (e_at (rm64 hr) (e_namep (pv 0) rfl (e_int (k2 (VwE.o rfl) VwE.z h fun t8 h => (e_name (pv 1) rfl (k2 VwE.z VwE.z h fun t9 h => (g_sub (rm64 hr) (e_namep (pv 0) rfl (e_int (suk rfl VwE.z h fun x10 h => (show wB _ _ _ _ _ _ [oo x10, zz p__law_many, zz t7] from (b_cons (s_ret (e_name (pv 2) rfl (hQ _ _ h)))))))))))))))))))⟩)))))))))))))) (fun h => (b_nil (show wB _ _ _ _ _ _ [oo p__law_tape_here, zz p__law_many, nn] from (b_cons (s_asg (e_mod (e_bN (ae_intS rfl B.int_ ewA) (a_cons (e_add (e_add (e_mul (e_at (rm64 hr) (e_namep (pv 0) rfl (e_int (k2 (VwE.o rfl) VwE.z h fun t11 h => (e_int (k2 VwE.z VwE.z h fun t12 h => (e_mul (e_at (rm64 hr) (e_namep (pv 0) rfl (e_int (k2 (VwE.o rfl) VwE.z h fun t13 h => (e_int (k2 VwE.z VwE.z h fun t14 h => (k2 VwE.z VwE.z h fun t15 h => (e_int (k2 VwE.z VwE.z h fun t16 h => (a_nil (kN (.cons VwE.z .nil) h fun t17 h => (e_int (k2 VwE.z VwE.z h fun t18 h => (g_sub (rm64 hr) (e_namep (pv 0) rfl (e_int (suk rfl VwE.z h fun x19 h => (show wB _ _ _ _ _ _ [oo x19, zz p__law_many, nn] from (b_cons (s_asg (e_mod (e_bN (ae_intS rfl B.int_ ewA) (a_cons (e_add (e_add (e_mul (e_at (rm64 hr) (e_namep (pv 0) rfl (e_int (k2 (VwE.o rfl) VwE.z h fun t20 h => (e_int (k2 VwE.z VwE.z h fun t21 h => (e_mul (e_at (rm64 hr) (e_namep (pv 0) rfl (e_int (k2 (VwE.o rfl) VwE.z h fun t22 h => (e_int (k2 VwE.z VwE.z h fun t23 h => (k2 VwE.z VwE.z h fun t24 h => (e_int (k2 VwE.z VwE.z h fun t25 h => (a_nil (kN (.cons VwE.z .nil) h fun t26 h => (e_int (k2 VwE.z VwE.z h fun t27 h => (g_sub (rm64 hr) (e_namep (pv 0) rfl (e_int (suk rfl VwE.z h fun x28 h => (show wB _ _ _ _ _ _ [oo x28, zz p__law_many, nn] from (b_cons (s_ret (e_mod (e_bN (ae_intS rfl B.int_ ewA) (a_cons (e_fdiv (e_mod (e_bN (ae_intS rfl B.int_ ewA) (a_cons (e_add (e_mul (e_at (rm64 hr) (e_namep (pv 0) rfl (e_int (k2 (VwE.o rfl) VwE.z h fun t29 h => (e_at (rm64 hr) (e_namep (pv 0) rfl (e_int (k2 (VwE.o rfl) VwE.z h fun t30 h => (k2 VwE.z VwE.z h fun t31 h => (e_int (k2 VwE.z VwE.z h fun t32 h => (a_nil (kN (.cons VwE.z .nil) h fun t33 h => (e_int (k2 VwE.z VwE.z h fun t34 h => (e_int (k2 VwE.z VwE.z h fun t35 h => (a_nil (kN (.cons VwE.z .nil) h fun t36 h => (e_name (pv 1) rfl (k2 VwE.z VwE.z h fun t37 h => (hQ _ _ h)))))))))))))))))))))))))))))))))))))))))))))))))))))))))))))))))))))))))))))))))))))))))))))))))))))))))))))))))))))⟩
def pr__law_row : Prot := fun i => i == 0 || i == 1
theorem sc__law_row : FnScope ["_law_tape_here", "_law_spots", "_law_left", "_law_row_here", "_law_state", "_law_entry"] ["_law_tape_here", "_law_spots"] (defScope s__law_row) := ⟨rfl, rfl, rfl, by decide +kernel, rfl, by decide +kernel, by decide +kernel⟩
theorem ok__law_row {P : Program} {w : World} {K : PySem.W.Frag} {mg : Str → Option Value} {base : Heap} {f : Addr} {fd : FuncData} {dvs : List V} {kws : List (Str × V)} {cn : Str → Addr} (B : Blt mg) (C__law_pick : Cal P w K mg base 1 "_law_pick" ["_law_tape_here", "_law_many"] (F__law_pick cn))
    (Fn : FunD K "_law_row" "_law_row" (defArgs s__law_row) (defBody s__law_row) (defScope s__law_row) dvs kws f fd) : FnOk P w K mg base (L2N.CX P w) 2 f fd ["_law_tape_here", "_law_spots"] (spA K 2 (F__law_row cn)) :=
  AE.FunD.okA Fn sc__law_row pr__law_row fun cdv A outer s H E hr => ⟨_, ewB, fun os Kd Ed _ hF => by
    obtain ⟨p__law_tape_here, p__law_spots, rfl, Q, E, h, hQ, hE⟩ := hF
    unfold m__law_row at h
    exact (show wB _ _ _ _ _ _ [oo p__law_tape_here, zz p__law_spots, nn, nn, nn, nn] from (b_cons (s_set (i := 2) sc__law_row.nd rfl (by first | exact .inl rfl | exact .inr rfl) rfl (e_listRange rfl rfl B.list_ rfl B.range_ (a_cons (e_name (pv 1) rfl (a_nil (kNo (.cons VwE.z .nil) h fun t1 h => ⟨lb_ rfl, (show wB _ _ _ _ _ _ [oo p__law_tape_here, zz p__law_spots, oo t1, nn, nn, nn] from (b_cons (s_set (i := 3) sc__law_row.nd rfl (by first | exact .inl rfl | exact .inr rfl) rfl (e_lsto (a_nil (dk .nil (szB rfl) ⟨lb_ rfl, (show wB _ _ _ _ _ _ [oo p__law_tape_here, zz p__law_spots, oo t1, oo (.lst []), nn, nn] from (b_cons (s_for (passes_of rfl) rfl (i_range1 rfl B.range_ (a_cons (e_name (pv 1) rfl (a_nil (r1k VwE.z h fun l2 h => (loop3 (fun x3 x4 x5 => [oo x3, zz p__law_spots, oo x4, oo x5, nn, nn]) h (.same (.same (.same (.same (.same (.same .nil)))))) (fun d6 x3 x4 x5 n7 h => (g_name (i := 4) sc__law_row.nd rfl (by first | exact .inl rfl | exact .inr rfl) rfl (lb_ rfl) (show wB _ _ _ _ _ _ [oo x3, zz p__law_spots, oo x4, oo x5, zz d6, nn] from (b_cons (s_set (i := 5) sc__law_row.nd rfl (by first | exact .inl rfl | exact .inr rfl) rfl (e_mtL (ae_popAt ewE ewA) (e_namep (pv 2) rfl (isl rfl h fun h => (a_cons (e_call C__law_pick (hr.mono (by decide)) (L2N.takes_of rfl rfl rfl rfl) rfl (a_cons (e_namep (pv 0) rfl (a_cons (e_bN (ae_len rfl B.len_ ewA) (a_cons (e_namep (pv 2) rfl (a_nil (kN (.cons (VwE.o rfl) .nil) h fun t8 h => (a_nil (callI (.pt rfl (.ow .nil)) ⟨x3, t8, rfl, _, _, h, fun r10 x9 h => backI (.pt rfl (.ow .nil)) (ρ3 := [oo x9, zz p__law_spots, oo x4, oo x5, zz d6, nn]) rfl (a_nil (popAt rfl VwE.z h fun r12 x11 h => ⟨lb_ rfl, (show wB _ _ _ _ _ _ [oo x9, zz p__law_spots, oo x11, oo x5, zz d6, zz r12] from (b_cons (s_expr (e_mtL (ae_append ewE ewA) (e_namep (pv 3) rfl (isl rfl h fun h => (a_cons (e_j1 (fun x14 => [oo x14, zz p__law_spots, oo x11, oo x5, zz d6, zz r12]) h (fun r13 x14 h => (a_nil (app rfl h fun x15 h => (show wB _ _ _ _ _ _ [oo x14, zz p__law_spots, oo x11, oo x15, zz d6, zz r12] from (b_nil ⟨_, _, _, (.same (.same (.same (.same (.drop (.drop .nil)))))), h⟩))))) fun h key => (e_if (t_c (c_eq (rm64 hr)) (e_call C__law_pick (hr.mono (by decide)) (L2N.takes_of rfl rfl rfl rfl) rfl (a_cons (e_namep (pv 0) rfl (a_cons (e_int (a_nil (callI (.pt rfl (.ow .nil)) ⟨x9, (.int 3), rfl, _, _, h, fun r18 x17 h => backI (.pt rfl (.ow .nil)) (ρ3 := [oo x17, zz p__law_spots, oo x11, oo x5, zz d6, zz r12]) rfl (e_int (k2 VwE.z VwE.z h fun t19 h => (tk VwE.z h fun b20 h => (itk h (fun h => (e_non (key _ _ h))) (fun h => (e_name (pv 5) rfl (key _ _ h))))))), fun x h y0 => backI (.pt rfl (.ow .nil)) (ρ3 := [y0, zz p__law_spots, oo x11, oo x5, zz d6, zz r12]) rfl (hE x h _)⟩)))))))))))))))))⟩)), fun x h y0 => backI (.pt rfl (.ow .nil)) (ρ3 := [y0, zz p__law_spots, oo x4, oo x5, zz d6, nn]) rfl (hE x h _)⟩)))))))))))))))))))) (fun x3 x4 x5 ρ le h => wB.drop le (show wB _ _ _ _ _ _ [oo x3, zz p__law_spots, oo x4, oo x5, nn, nn] from (wB.frzo (i := 3) rfl (show wB _ _ _ _ _ _ [oo x3, zz p__law_spots, oo x4, zz x5, nn, nn] from (b_cons (s_ret (e_name (pv 3) rfl (hQ _ _ h)))))))))))))))))⟩))))))⟩))))))))⟩
def pr_check_states : Prot := fun i => i == 0
theorem sc_check_states : FnScope ["states"] ["states"] (defScope s_check_states) := ⟨rfl, rfl, rfl, by decide +kernel, rfl, by decide +kernel, by decide +kernel⟩
theorem ok_check_states {P : Program} {w : World} {K : PySem.W.Frag} {mg : Str → Option Value} {base : Heap} {f : Addr} {fd : FuncData} {dvs : List V} {kws : List (Str × V)} {cn : Str → Addr} (B : Blt mg) (X_BadStates : XOneK P w K mg base "BadStates" (cn "BadStates") "states" "states")
    (IT_int : IsTy K "int")
    (IT_bool : IsTy K "bool")
    (Fn : FunD K "check_states" "check_states" (defArgs s_check_states) (defBody s_check_states) (defScope s_check_states) dvs kws f fd) : FnOk P w K mg base (L2N.CX P w) 3 f fd ["states"] (spA K 1 (F_check_states cn)) :=
  AE.FunD.okA Fn sc_check_states pr_check_states fun cdv A outer s H E hr => ⟨_, ewB, fun os Kd Ed _ hF => by
    obtain ⟨p_states, rfl, Q, E, h, hQ, hE⟩ := hF
    unfold m_check_states at h
    exact (show wB _ _ _ _ _ _ [zz p_states] from (b_cons (s_if (t_j (ρ' := [zz p_states]) h (fun b1 h => (itk h (fun h => (b_cons (s_raise1 (k := 0) rfl (L2N.takes_of rfl rfl rfl rfl) X_BadStates.one (hr.mono (by decide)) rfl (e_name (pv 0) rfl (hE _ h))))) (fun h => (b_nil (b_nil (hQ _ h)))))) fun h key => (t_w (w_or (t_not (t_val (e_bN (ae_isi rfl B.isinstance_ ewA) (a_cons (e_name (pv 0) rfl (a_cons (e_ty (T := "int") rfl B.int_ (by decide +kernel) (a_nil (isTk IT_int VwE.z h fun t3 h => (tk VwE.z h fun b4 h => (itk h (fun h => (key _ h)) (fun h => (w_or (t_val (e_bN (ae_isi rfl B.isinstance_ ewA) (a_cons (e_name (pv 0) rfl (a_cons (e_ty (T := "bool") rfl B.bool_ (by decide +kernel) (a_nil (isTk IT_bool VwE.z h fun t5 h => (tk VwE.z h fun b6 h => (itk h (fun h => (key _ h)) (fun h => (w_or1 (t_c c_lt (e_name (pv 0) rfl (e_int (k2 VwE.z VwE.z h fun t7 h => (tk VwE.z h fun b8 h => (key _ h)))))))))))))))))))))))))))))))))))))⟩
def pr_is_step_name : Prot := fun i => i == 0
theorem sc_is_step_name : FnScope ["name", "char"] ["name"] (defScope s_is_step_name) := ⟨rfl, rfl, rfl, by decide +kernel, rfl, by decide +kernel, by decide +kernel⟩
theorem ok_is_step_name {P : Program} {w : World} {K : PySem.W.Frag} {mg : Str → Option Value} {base : Heap} {f : Addr} {fd : FuncData} {dvs : List V} {kws : List (Str × V)} {cn : Str → Addr} (B : Blt mg) (G_LETTERS : GlobD K mg "LETTERS" (g_LETTERS))
    (G_MOST_LETTERS : GlobD K mg "MOST_LETTERS" (g_MOST_LETTERS))
    (G_RESERVED : GlobD K mg "RESERVED" (g_RESERVED))
    (Fn : FunD K "is_step_name" "is_step_name" (defArgs s_is_step_name) (defBody s_is_step_name) (defScope s_is_step_name) dvs kws f fd) : FnOk P w K mg base (L2N.CX P w) 1 f fd ["name"] (spA K 1 (F_is_step_name cn)) :=
  AE.FunD.okA Fn sc_is_step_name pr_is_step_name fun cdv A outer s H E hr => ⟨_, ewB, fun os Kd Ed _ hF => by
    obtain ⟨p_name, rfl, Q, E, h, hQ, hE⟩ := hF
    unfold m_is_step_name at h
    exact (show wB _ _ _ _ _ _ [zz p_name, nn] from (b_cons (s_if (t_j (ρ' := [zz p_name, nn]) h (fun b1 h => (itk h (fun h => (b_cons (s_ret (e_bl (hQ _ h))))) (fun h => (b_nil (show wB _ _ _ _ _ _ [zz p_name, nn] from (b_cons (s_ret (e_bN (ae_all rfl rfl B.all_ ewA) (a_cons (wE.frz (e_lc (own := [("char", 1)]) (vs := [1]) rfl sc_is_step_name.nd (blkOk_by (by kernel_rfl)) rfl (by decide) (ltAll rfl) (i_seq (e_name (pv 0) rfl (itk_ h fun l2 h => (blc0 [zz p_name, nn] h rfl (fun d3 emit4 skip5 h => fun _ _ _ _ _ => (g_name (i := 1) sc_is_step_name.nd rfl (by first | exact .inl rfl | exact .inr rfl) rfl (lb_ rfl) (fun _ _ _ _ _ => ts_nil ((if_pos rfl).mpr (fun _ _ _ _ _ => (e_c (c_in (rm65 hr)) (e_name (pv 1) rfl (e_glob G_LETTERS rfl (k2 VwE.z VwE.z h fun t6 h => ⟨rfl, h⟩))))))))) (fun acc7 h => (zown (ρ := [zz p_name, nn]) (a_nil (kN (.cons VwE.z .nil) h fun t8 h => (hQ _ h)))))))))))))))))))) fun h key => (t_w (w_or (t_c (c_eq (rm64 hr)) (e_bN (ae_len rfl B.len_ ewA) (a_cons (e_name (pv 0) rfl (a_nil (kN (.cons VwE.z .nil) h fun t10 h => (e_int (k2 VwE.z VwE.z h fun t11 h => (tk VwE.z h fun b12 h => (itk h (fun h => (key _ h)) (fun h => (w_or (t_c c_gt (e_bN (ae_len rfl B.len_ ewA) (a_cons (e_name (pv 0) rfl (a_nil (kN (.cons VwE.z .nil) h fun t13 h => (e_glob G_MOST_LETTERS rfl (k2 VwE.z VwE.z h fun t14 h => (tk VwE.z h fun b15 h => (itk h (fun h => (key _ h)) (fun h => (w_or1 (t_c (c_in (rm65 hr)) (e_name (pv 0) rfl (e_glob G_RESERVED rfl (k2 VwE.z VwE.z h fun t16 h => (tk VwE.z h fun b17 h => (key _ h))))))))))))))))))))))))))))))))))))⟩
def pr_is_state : Prot := fun i => i == 0 || i == 1
theorem sc_is_state : FnScope ["value", "states"] ["value", "states"] (defScope s_is_state) := ⟨rfl, rfl, rfl, by decide +kernel, rfl, by decide +kernel, by decide +kernel⟩
theorem ok_is_state {P : Program} {w : World} {K : PySem.W.Frag} {mg : Str → Option Value} {base : Heap} {f : Addr} {fd : FuncData} {dvs : List V} {kws : List (Str × V)} {cn : Str → Addr} (B : Blt mg) (IT_int : IsTy K "int")
    (IT_bool : IsTy K "bool")
    (Fn : FunD K "is_state" "is_state" (defArgs s_is_state) (defBody s_is_state) (defScope s_is_state) dvs kws f fd) : FnOk P w K mg base (L2N.CX P w) 1 f fd ["value", "states"] (spA K 2 (F_is_state cn)) :=
  AE.FunD.okA Fn sc_is_state pr_is_state fun cdv A outer s H E hr => ⟨_, ewB, fun os Kd Ed _ hF => by
    obtain ⟨p_value, p_states, rfl, Q, E, h, hQ, hE⟩ := hF
    unfold m_is_state at h
    exact (show wB _ _ _ _ _ _ [zz p_value, zz p_states] from (b_cons (s_ret (e_j (ρ' := [zz p_value, zz p_states]) h (fun r1 h => (hQ _ h)) fun h key => (e_and (e_bN (ae_isi rfl B.isinstance_ ewA) (a_cons (e_name (pv 0) rfl (a_cons (e_ty (T := "int") rfl B.int_ (by decide +kernel) (a_nil (isTk IT_int VwE.z h fun t3 h => (tk VwE.z h fun b4 h => itk h (fun h => (e_and (e_not (e_bN (ae_isi rfl B.isinstance_ ewA) (a_cons (e_name (pv 0) rfl (a_cons (e_ty (T := "bool") rfl B.bool_ (by decide +kernel) (a_nil (isTk IT_bool VwE.z h fun t5 h => (tk VwE.z h fun b6 h => (tk VwE.z h fun b7 h => itk h (fun h => (e_one (e_j (ρ' := [zz p_value, zz p_states]) h (fun r8 h => (key _ h)) fun h key => (e_chD c_le c_lt (e_int (zik h fun i10 h => (e_name (pv 0) rfl (zik h fun i11 h => itk h (fun h => (e_name (pv 1) rfl (zik h fun i12 h => (key _ h)))) (fun h => (key _ h)))))))))) (fun h => (key _ h)))))))))))))) (fun h => (key _ h)))))))))))))))⟩
def pr_is_table : Prot := fun i => i == 0 || i == 1
theorem sc_is_table : FnScope ["items", "states", "led", "item"] ["items", "states"] (defScope s_is_table) := ⟨rfl, rfl, rfl, by decide +kernel, rfl, by decide +kernel, by decide +kernel⟩
theorem ok_is_table {P : Program} {w : World} {K : PySem.W.Frag} {mg : Str → Option Value} {base : Heap} {f : Addr} {fd : FuncData} {dvs : List V} {kws : List (Str × V)} {cn : Str → Addr} (B : Blt mg) (C_is_state : Cal P w K mg base 1 "is_state" ["value", "states"] (F_is_state cn))
    (IT_list : IsTy K "list")
    (IT_tuple : IsTy K "tuple")
    (Fn : FunD K "is_table" "is_table" (defArgs s_is_table) (defBody s_is_table) (defScope s_is_table) dvs kws f fd) : FnOk P w K mg base (L2N.CX P w) 2 f fd ["items", "states"] (spA K 2 (F_is_table cn)) :=
  AE.FunD.okA Fn sc_is_table pr_is_table fun cdv A outer s H E hr => ⟨_, ewB, fun os Kd Ed _ hF => by
    obtain ⟨p_items, p_states, rfl, Q, E, h, hQ, hE⟩ := hF
    unfold m_is_table at h
    exact (show wB _ _ _ _ _ _ [zz p_items, zz p_states, nn, nn] from (b_cons (s_set (i := 2) sc_is_table.nd rfl (by first | exact .inl rfl | exact .inr rfl) rfl (e_dnew ⟨lb_ rfl, (show wB _ _ _ _ _ _ [zz p_items, zz p_states, oo (.dic []), nn] from (b_cons (s_if (t_j (ρ' := [zz p_items, zz p_states, oo (.dic []), nn]) h (fun b1 h => (itk h (fun h => (b_cons (s_ret (e_bl (hQ _ h))))) (fun h => (b_nil (show wB _ _ _ _ _ _ [zz p_items, zz p_states, oo (.dic []), nn] from (b_cons (s_for (passes_of rfl) rfl (i_seq (e_name (pv 0) rfl (itk_ h fun l2 h => (loop1 (fun x3 => [zz p_items, zz p_states, oo x3, nn]) h (.same (.same (.same (.same .nil)))) (fun d4 x3 n5 h => (g_name (i := 3) sc_is_table.nd rfl (by first | exact .inl rfl | exact .inr rfl) rfl (lb_ rfl) (show wB _ _ _ _ _ _ [zz p_items, zz p_states, oo x3, zz d4] from (b_cons (s_if (t_c c_isnot (e_name (pv 3) rfl (e_non (k2 VwE.z VwE.z h fun t6 h => (tk VwE.z h fun b7 h => (itk h (fun h => (b_cons (s_if (t_j (ρ' := [zz p_items, zz p_states, oo x3, zz d4]) h (fun b8 h => (itk h (fun h => (b_cons (s_ret (e_bl (hQ _ h))))) (fun h => (b_nil (show wB _ _ _ _ _ _ [zz p_items, zz p_states, oo x3, zz d4] from (b_cons (s_asg (e_bl (g_sub (rm64 hr) (e_namep (pv 2) rfl (e_name (pv 3) rfl (suk rfl VwE.z h fun x9 h => (show wB _ _ _ _ _ _ [zz p_items, zz p_states, oo x9, zz d4] from (b_nil (b_nil ⟨_, (.same (.same (.same (.drop .nil)))), h⟩))))))))))))))) fun h key => (t_w (w_or (t_not (t_val (e_call C_is_state (hr.mono (by decide)) (L2N.takes_of rfl rfl rfl rfl) rfl (a_cons (e_name (pv 3) rfl (a_cons (e_name (pv 1) rfl (a_nil (callI (.ow (.ow .nil)) ⟨d4, p_states, rfl, _, _, h, fun r11 h => backI (.ow (.ow .nil)) (ρ3 := [zz p_items, zz p_states, oo x3, zz d4]) rfl (tk VwE.z h fun b12 h => (itk h (fun h => (key _ h)) (fun h => (w_or1 (t_c (c_in (rm65 hr)) (e_name (pv 3) rfl (e_namep (pv 2) rfl (k2 VwE.z (VwE.o rfl) h fun t13 h => (tk VwE.z h fun b14 h => (key _ h)))))))))), fun x h => backI (.ow (.ow .nil)) (ρ3 := [zz p_items, zz p_states, oo x3, zz d4]) rfl (hE x h)⟩))))))))))))))) (fun h => (b_nil (b_nil ⟨_, (.same (.same (.same (.drop .nil)))), h⟩)))))))))))))) (fun x3 ρ le h => wB.drop le (show wB _ _ _ _ _ _ [zz p_items, zz p_states, oo x3, nn] from (b_cons (s_ret (e_bl (hQ _ h))))))))))))))))) fun h key => (t_w (w_or (t_not (t_val (e_bN (ae_isi rfl B.isinstance_ ewA) (a_cons (e_name (pv 0) rfl (a_cons (e_tup (a_cons (e_ty (T := "list") rfl B.list_ (by decide +kernel) (a_cons (e_ty (T := "tuple") rfl B.tuple_ (by decide +kernel) (a_nil (dk (.cons (.cons .nil)) (szB rfl) (a_nil (isT2k IT_list IT_tuple VwE.z h fun t16 h => (tk VwE.z h fun b17 h => (itk h (fun h => (key _ h)) (fun h => (w_or1 (t_c (c_ne (rm64 hr)) (e_bN (ae_len rfl B.len_ ewA) (a_cons (e_name (pv 0) rfl (a_nil (kN (.cons VwE.z .nil) h fun t18 h => (e_name (pv 1) rfl (k2 VwE.z VwE.z h fun t19 h => (tk VwE.z h fun b20 h => (key _ h)))))))))))))))))))))))))))))))))))⟩))))⟩
def pr_turned : Prot := fun i => i == 0
theorem sc_turned : FnScope ["items", "led", "state", "target"] ["items"] (defScope s_turned) := ⟨rfl, rfl, rfl, by decide +kernel, rfl, by decide +kernel, by decide +kernel⟩
theorem ok_turned {P : Program} {w : World} {K : PySem.W.Frag} {mg : Str → Option Value} {base : Heap} {f : Addr} {fd : FuncData} {dvs : List V} {kws : List (Str × V)} {cn : Str → Addr} (B : Blt mg)
    (Fn : FunD K "turned" "turned" (defArgs s_turned) (defBody s_turned) (defScope s_turned) dvs kws f fd) : FnOk P w K mg base (L2N.CX P w) 1 f fd ["items"] (spA K 1 (F_turned cn)) :=
  AE.FunD.okA Fn sc_turned pr_turned fun cdv A outer s H E hr => ⟨_, ewB, fun os Kd Ed _ hF => by
    obtain ⟨p_items, rfl, Q, E, h, hQ, hE⟩ := hF
    unfold m_turned at h
    exact (show wB _ _ _ _ _ _ [zz p_items, nn, nn, nn] from (b_cons (s_set (i := 1) sc_turned.nd rfl (by first | exact .inl rfl | exact .inr rfl) rfl (e_dcN (own := [("state", 2), ("target", 3)]) (vs := [2, 3]) rfl sc_turned.nd (blkOk_by (by kernel_rfl)) rfl (by decide) (ltAll rfl) (i_enum rfl B.enumerate_ (a_cons (e_name (pv 0) rfl (a_nil (enk h fun l1 h => (bdcN [zz p_items, nn, nn, nn] h rfl (fun d2 emit3 skip4 h => fun _ _ _ _ _ => (asT2.g rfl h fun a5 a6 h => (gs_cons (g_name (i := 2) sc_turned.nd rfl (by first | exact .inl rfl | exact .inr rfl) rfl (lb_ rfl) (gs_cons (g_name (i := 3) sc_turned.nd rfl (by first | exact .inl rfl | exact .inr rfl) rfl (lb_ rfl) (gs_nil (fun _ _ _ _ _ => ts_nil ((if_pos rfl).mpr (fun _ _ _ _ _ => (e_name (pv 3) rfl (kynk h fun k7 h => fun _ _ _ _ _ => (e_name (pv 2) rfl (ivnk h fun i8 h => ⟨rfl, h⟩)))))))))))))) (fun acc9 h => ⟨lb_ rfl, (show wB _ _ _ _ _ _ [zz p_items, zz (dnD P w acc9), nn, nn] from (b_cons (s_ret (wE.frz (e_lc (own := [("state", 2)]) (vs := [2]) rfl sc_turned.nd (blkOk_by (by kernel_rfl)) rfl (by decide) (ltAll rfl) (i_range1 rfl B.range_ (a_cons (e_bN (ae_len rfl B.len_ ewA) (a_cons (e_name (pv 0) rfl (a_nil (kN (.cons VwE.z .nil) h fun t10 h => (a_nil (r1k VwE.z h fun l11 h => (blc0 [zz p_items, zz (dnD P w acc9), nn, nn] h rfl (fun d12 emit13 skip14 h => fun _ _ _ _ _ => (g_name (i := 2) sc_turned.nd rfl (by first | exact .inl rfl | exact .inr rfl) rfl (lb_ rfl) (fun _ _ _ _ _ => ts_nil ((if_pos rfl).mpr (fun _ _ _ _ _ => (e_getN acc9 (e_name (pv 1) rfl ⟨rfl, (e_name (pv 2) rfl (nkk VwE.z h fun t15 h => ⟨rfl, h⟩))⟩))))))) (fun acc16 h => (zown (ρ := [zz p_items, zz (dnD P w acc9), nn, nn]) (hQ _ h))))))))))))))))))⟩)))))))))))⟩
def pr_System___init__ : Prot := fun i => i == 0 || i == 1 || i == 2
theorem sc_System___init__ : FnScope ["self", "states", "tables", "names", "step", "item"] ["self", "states", "tables"] (defScope s_System___init__) := ⟨rfl, rfl, rfl, by decide +kernel, rfl, by decide +kernel, by decide +kernel⟩
theorem ok_System___init__ {P : Program} {w : World} {K : PySem.W.Frag} {mg : Str → Option Value} {base : Heap} {f : Addr} {fd : FuncData} {dvs : List V} {kws : List (Str × V)} {cn : Str → Addr} (B : Blt mg) (C_check_states : Cal P w K mg base 3 "check_states" ["states"] (F_check_states cn))
    (C_is_step_name : Cal P w K mg base 1 "is_step_name" ["name"] (F_is_step_name cn))
    (X_BadName : XOneK P w K mg base "BadName" (cn "BadName") "name" "name")
    (FO_System_numbers : FldOk K (cn "System") "numbers")
    (FO_System_led : FldOk K (cn "System") "led")
    (C_is_table : Cal P w K mg base 2 "is_table" ["items", "states"] (F_is_table cn))
    (X_BadTable : XOneK P w K mg base "BadTable" (cn "BadTable") "step" "step")
    (C_turned : Cal P w K mg base 1 "turned" ["items"] (F_turned cn))
    (Fn : FunD K "__init__" "System.__init__" (defArgs s_System___init__) (defBody s_System___init__) (defScope s_System___init__) dvs kws f fd) : FnOk P w K mg base (L2N.CX P w) 4 f fd ["self", "states", "tables"] (spA K 3 (F_System___init__ cn)) :=
  AE.FunD.okA Fn sc_System___init__ pr_System___init__ fun cdv A outer s H E hr => ⟨_, ewB, fun os Kd Ed _ hF => by
    obtain ⟨p_states, p_tables, rfl, Q, E, h, hQ, hE⟩ := hF
    unfold m_System___init__ at h
    exact (show wB _ _ _ _ _ _ [some (.ob (cn "System") []), zz p_states, zz p_tables, nn, nn, nn] from (b_cons (s_expr (e_call C_check_states (hr.mono (by decide)) (L2N.takes_of rfl rfl rfl rfl) rfl (a_cons (e_name (pv 1) rfl (a_nil (callI (.ow .nil) ⟨p_states, rfl, _, _, h, fun r1 h => backI (.ow .nil) (ρ3 := [some (.ob (cn "System") []), zz p_states, zz p_tables, nn, nn, nn]) rfl (show wB _ _ _ _ _ _ [some (.ob (cn "System") []), zz p_states, zz p_tables, nn, nn, nn] from (b_cons (s_set (i := 3) sc_System___init__.nd rfl (by first | exact .inl rfl | exact .inr rfl) rfl (e_bN (ae_sorted (rm64 hr) rfl B.sorted_ ewA) (a_cons (wE.frz (e_lcK (own := [("step", 4)]) (vs := [4]) (lw_k (pl_n (pv 2))) (has_n h rfl) rfl sc_System___init__.nd (blkOk_by (by kernel_rfl)) rfl (by decide) (ltAll rfl) h fun l2 h => (blc0 [some (.ob (cn "System") []), zz p_states, zz p_tables, nn, nn, nn] h rfl (fun d3 emit4 skip5 h => fun _ _ _ _ _ => (g_name (i := 4) sc_System___init__.nd rfl (by first | exact .inl rfl | exact .inr rfl) rfl (lb_ rfl) (fun _ _ _ _ _ => ts_nil ((if_pos rfl).mpr (fun _ _ _ _ _ => (e_bN (ae_str1 rfl B.str_ ewA) (a_cons (e_name (pv 4) rfl (a_nil (kN (.cons VwE.z .nil) h fun t6 h => ⟨rfl, h⟩)))))))))) (fun acc7 h => (zown (ρ := [some (.ob (cn "System") []), zz p_states, zz p_tables, nn, nn, nn]) (a_nil (kN (.cons VwE.z .nil) h fun t8 h => ⟨lb_ rfl, (show wB _ _ _ _ _ _ [some (.ob (cn "System") []), zz p_states, zz p_tables, zz t8, nn, nn] from (b_cons (s_for (passes_of rfl) rfl (i_seq (e_name (pv 3) rfl (itk_ h fun l9 h => (loop0 [some (.ob (cn "System") []), zz p_states, zz p_tables, zz t8, nn, nn] h (.same (.same (.same (.same (.same (.same .nil)))))) (fun d10 n11 h => (g_name (i := 4) sc_System___init__.nd rfl (by first | exact .inl rfl | exact .inr rfl) rfl (lb_ rfl) (show wB _ _ _ _ _ _ [some (.ob (cn "System") []), zz p_states, zz p_tables, zz t8, zz d10, nn] from (b_cons (s_if (t_not (t_val (e_call C_is_step_name (hr.mono (by decide)) (L2N.takes_of rfl rfl rfl rfl) rfl (a_cons (e_name (pv 4) rfl (a_nil (callI (.ow .nil) ⟨d10, rfl, _, _, h, fun r12 h => backI (.ow .nil) (ρ3 := [some (.ob (cn "System") []), zz p_states, zz p_tables, zz t8, zz d10, nn]) rfl (tk VwE.z h fun b13 h => (itk h (fun h => (b_cons (s_raise1 (k := 0) rfl (L2N.takes_of rfl rfl rfl rfl) X_BadName.one (hr.mono (by decide)) rfl (e_name (pv 4) rfl (hE _ h _))))) (fun h => (b_nil (b_nil ⟨(.same (.same (.same (.same (.drop (.same .nil)))))), h⟩))))), fun x h => backI (.ow .nil) (ρ3 := [some (.ob (cn "System") []), zz p_states, zz p_tables, zz t8, zz d10, nn]) rfl (hE x h _)⟩)))))))))))) (fun  ρ le h => wB.drop le (show wB _ _ _ _ _ _ [some (.ob (cn "System") []), zz p_states, zz p_tables, zz t8, nn, nn] from (b_cons (s_fld (pv 0) (wE.frz (e_listRange rfl rfl B.list_ rfl B.range_ (a_cons (e_name (pv 1) rfl (a_nil (kN (.cons VwE.z .nil) h fun t14 h => (flk FO_System_numbers rfl (lb_ rfl) (show wB _ _ _ _ _ _ [some (.ob (cn "System") [("numbers", .fz t14)]), zz p_states, zz p_tables, zz t8, nn, nn] from (b_cons (s_fld (pv 0) (e_dnew (flk FO_System_led rfl (lb_ rfl) (show wB _ _ _ _ _ _ [some (.ob (cn "System") [("numbers", .fz t14), ("led", ownO (.dic []))]), zz p_states, zz p_tables, zz t8, nn, nn] from (b_cons (s_for (passes_of rfl) rfl (i_seq (e_name (pv 3) rfl (itk_ h fun l15 h => (loop1 (fun x16 => [some (.ob (cn "System") [("numbers", .fz t14), ("led", ownO x16)]), zz p_states, zz p_tables, nn, nn, nn]) h (.same (.same (.same (.drop (.same (.same .nil)))))) (fun d17 x16 n18 h => (g_name (i := 4) sc_System___init__.nd rfl (by first | exact .inl rfl | exact .inr rfl) rfl (lb_ rfl) (show wB _ _ _ _ _ _ [some (.ob (cn "System") [("numbers", .fz t14), ("led", ownO x16)]), zz p_states, zz p_tables, nn, zz d17, nn] from (b_cons (s_if (t_not (t_val (e_call C_is_table (hr.mono (by decide)) (L2N.takes_of rfl rfl rfl rfl) rfl (a_cons (e_at (rm64 hr) (e_name (pv 2) rfl (e_name (pv 4) rfl (k2 VwE.z VwE.z h fun t19 h => (a_cons (e_name (pv 1) rfl (a_nil (callI (.ow (.ow .nil)) ⟨t19, p_states, rfl, _, _, h, fun r20 h => backI (.ow (.ow .nil)) (ρ3 := [some (.ob (cn "System") [("numbers", .fz t14), ("led", ownO x16)]), zz p_states, zz p_tables, nn, zz d17, nn]) rfl (tk VwE.z h fun b21 h => (itk h (fun h => (b_cons (s_raise1 (k := 0) rfl (L2N.takes_of rfl rfl rfl rfl) X_BadTable.one (hr.mono (by decide)) rfl (e_name (pv 4) rfl (hE _ h _))))) (fun h => (b_nil (show wB _ _ _ _ _ _ [some (.ob (cn "System") [("numbers", .fz t14), ("led", ownO x16)]), zz p_states, zz p_tables, nn, zz d17, nn] from (b_cons (s_if (t_val (e_bN (ae_any rfl rfl B.any_ ewA) (a_cons (wE.frz (e_lc (own := [("item", 5)]) (vs := [5]) rfl sc_System___init__.nd (blkOk_by (by kernel_rfl)) rfl (by decide) (ltAll rfl) (i_seq (e_at (rm64 hr) (e_name (pv 2) rfl (e_name (pv 4) rfl (k2 VwE.z VwE.z h fun t22 h => (itk_ h fun l23 h => (blc0 [some (.ob (cn "System") [("numbers", .fz t14), ("led", ownO x16)]), zz p_states, zz p_tables, nn, zz d17, nn] h rfl (fun d24 emit25 skip26 h => fun _ _ _ _ _ => (g_name (i := 5) sc_System___init__.nd rfl (by first | exact .inl rfl | exact .inr rfl) rfl (lb_ rfl) (fun _ _ _ _ _ => ts_nil ((if_pos rfl).mpr (fun _ _ _ _ _ => (e_c c_isnot (e_name (pv 5) rfl (e_non (k2 VwE.z VwE.z h fun t27 h => ⟨rfl, h⟩))))))))) (fun acc28 h => (zown (ρ := [some (.ob (cn "System") [("numbers", .fz t14), ("led", ownO x16)]), zz p_states, zz p_tables, nn, zz d17, nn]) (a_nil (kN (.cons VwE.z .nil) h fun t29 h => (tk VwE.z h fun b30 h => (itk h (fun h => (b_cons (s_asg (e_bN (ae_list1 rfl B.list_ ewA) (a_cons (e_at (rm64 hr) (e_name (pv 2) rfl (e_name (pv 4) rfl (k2 VwE.z VwE.z h fun t32 h => (a_nil (kN (.cons VwE.z .nil) h fun t33 h => (g_subTD (rm64 hr) (e_ftake FO_System_led (pv 0) rfl rfl fun v31 => (e_name (pv 4) rfl (sukTD (fs := [("numbers", .fz t14)]) (gs := []) rfl rfl VwE.z h fun x34 h => (show wB _ _ _ _ _ _ [some (.ob (cn "System") [("numbers", .fz t14), ("led", ownO x34)]), zz p_states, zz p_tables, nn, zz d17, nn] from (b_cons (s_asg (e_call C_turned (hr.mono (by decide)) (L2N.takes_of rfl rfl rfl rfl) rfl (a_cons (e_at (rm64 hr) (e_name (pv 2) rfl (e_name (pv 4) rfl (k2 VwE.z VwE.z h fun t36 h => (a_nil (callI (.ow .nil) ⟨t36, rfl, _, _, h, fun r37 h => backI (.ow .nil) (ρ3 := [some (.ob (cn "System") [("numbers", .fz t14), ("led", ownO x34)]), zz p_states, zz p_tables, nn, zz d17, nn]) rfl (g_subTD (rm64 hr) (e_ftake FO_System_led (pv 0) rfl rfl fun v35 => (e_add (e_str (e_name (pv 4) rfl (k2 VwE.z VwE.z h fun t38 h => (sukTD (fs := [("numbers", .fz t14)]) (gs := []) rfl rfl VwE.z h fun x39 h => (show wB _ _ _ _ _ _ [some (.ob (cn "System") [("numbers", .fz t14), ("led", ownO x39)]), zz p_states, zz p_tables, nn, zz d17, nn] from (b_nil (b_nil ⟨_, (.same (.same (.same (.same (.drop (.same .nil)))))), h⟩)))))))))), fun x h => backI (.ow .nil) (ρ3 := [some (.ob (cn "System") [("numbers", .fz t14), ("led", ownO x34)]), zz p_states, zz p_tables, nn, zz d17, nn]) rfl (hE x h _)⟩)))))))))))))))))))))))))) (fun h => (b_nil (b_nil ⟨_, (.same (.same (.same (.same (.drop (.same .nil)))))), h⟩)))))))))))))))))))))))))))), fun x h => backI (.ow (.ow .nil)) (ρ3 := [some (.ob (cn "System") [("numbers", .fz t14), ("led", ownO x16)]), zz p_states, zz p_tables, nn, zz d17, nn]) rfl (hE x h _)⟩))))))))))))))))) (fun x16 ρ le h => wB.drop le (show wB _ _ _ _ _ _ [some (.ob (cn "System") [("numbers", .fz t14), ("led", ownO x16)]), zz p_states, zz p_tables, nn, nn, nn] from (b_nil (hQ _ (by simpa only [frz, frzFs, frzF, frz_own] using h)))))))))))))))))))))))))))))))))))⟩)))))))))))), fun x h => backI (.ow .nil) (ρ3 := [some (.ob (cn "System") []), zz p_states, zz p_tables, nn, nn, nn]) rfl (hE x h _)⟩))))))))⟩
def pr_System___len__ : Prot := fun i => i == 0
theorem sc_System___len__ : FnScope ["self"] ["self"] (defScope s_System___len__) := ⟨rfl, rfl, rfl, by decide +kernel, rfl, by decide +kernel, by decide +kernel⟩
theorem ok_System___len__ {P : Program} {w : World} {K : PySem.W.Frag} {mg : Str → Option Value} {base : Heap} {f : Addr} {fd : FuncData} {dvs : List V} {kws : List (Str × V)} {cn : Str → Addr} (B : Blt mg) (FO_System_numbers : FldOk K (cn "System") "numbers")
    (Fn : FunD K "__len__" "System.__len__" (defArgs s_System___len__) (defBody s_System___len__) (defScope s_System___len__) dvs kws f fd) : FnOk P w K mg base (L2N.CX P w) 1 f fd ["self"] (spA K 1 (F_System___len__ cn)) :=
  AE.FunD.okA Fn sc_System___len__ pr_System___len__ fun cdv A outer s H E hr => ⟨_, ewB, fun os Kd Ed _ hF => by
    obtain ⟨p_self, rfl, Q, E, h, hQ, hE⟩ := hF
    unfold m_System___len__ at h
    exact (show wB _ _ _ _ _ _ [zz p_self] from (b_cons (s_ret (e_bN (ae_len rfl B.len_ ewA) (a_cons (e_fld (e_name (pv 0) rfl (fk FO_System_numbers h fun f1 h => (a_nil (kN (.cons VwE.z .nil) h fun t2 h => (hQ _ h)))))))))))⟩
def pr__law_told : Prot := fun i => i == 0 || i == 1
theorem sc__law_told : FnScope ["_law_spots", "_law_rows", "_law_system", "e"] ["_law_spots", "_law_rows"] (defScope s__law_told) := ⟨rfl, rfl, rfl, by decide +kernel, rfl, by decide +kernel, by decide +kernel⟩
theorem ok__law_told {P : Program} {w : World} {K : PySem.W.Frag} {mg : Str → Option Value} {base : Heap} {f : Addr} {fd : FuncData} {dvs : List V} {kws : List (Str × V)} {cn : Str → Addr} (B : Blt mg) (X_BadTable : XOneK P w K mg base "BadTable" (cn "BadTable") "step" "step")
    (XM_BadTable : ExM K cn exs "BadTable" (.ref (cn "BadTable")))
    (IX_StepError : IsX K cn exs "StepError" (.ref (cn "StepError")))
    (XF_BadTable : XfD K (cn "BadTable") "step")
    (G_StepError : GlobD K mg "StepError" (.cl (cn "StepError")))
    (X_BadName : XOneK P w K mg base "BadName" (cn "BadName") "name" "name")
    (XM_BadName : ExM K cn exs "BadName" (.ref (cn "BadName")))
    (XF_BadName : XfD K (cn "BadName") "name")
    (X_BadStates : XOneK P w K mg base "BadStates" (cn "BadStates") "states" "states")
    (XM_BadStates : ExM K cn exs "BadStates" (.ref (cn "BadStates")))
    (XF_BadStates : XfD K (cn "BadStates") "states")
    (IX_ValueError : IsX K cn exs "ValueError" (.type "ValueError"))
    (MB_System_p0_states_tables : MakB P w K mg base 4 "System" (cn "System") ["self", "states", "tables"] (F_System___init__ cn) 0 ["states", "tables"] [0, 1] [])
    (O_System___len__ : OwO P w K mg base 1 (cn "System") "__len__" 1 (F_System___len__ cn))
    (Fn : FunD K "_law_told" "_law_told" (defArgs s__law_told) (defBody s__law_told) (defScope s__law_told) dvs kws f fd) : FnOk P w K mg base (L2N.CX P w) 6 f fd ["_law_spots", "_law_rows"] (spA K 2 (F__law_told cn)) :=
  AE.FunD.okA Fn sc__law_told pr__law_told fun cdv A outer s H E hr => ⟨_, ewB, fun os Kd Ed _ hF => by
    obtain ⟨p__law_spots, p__law_rows, rfl, Q, E, h, hQ, hE⟩ := hF
    unfold m__law_told at h
    exact (show wB _ _ _ _ _ _ [zz p__law_spots, zz p__law_rows, nn, nn] from (b_cons (s_try h [zz p__law_spots, zz p__law_rows, nn, nn] rfl rfl sc__law_told.nd (L2N.takes_of rfl rfl rfl rfl) (.cons (i := 3) (c := .ref (cn "BadStates")) ⟨rfl, by decide, .inl X_BadStates.mgC⟩ rfl rfl rfl (.cons (i := 3) (c := .ref (cn "BadName")) ⟨rfl, by decide, .inl X_BadName.mgC⟩ rfl rfl rfl (.cons (i := 3) (c := .ref (cn "BadTable")) ⟨rfl, by decide, .inl X_BadTable.mgC⟩ rfl rfl rfl .nil))) (fun x ρ le h => (cl_as (famX := [zz p__law_spots, zz p__law_rows, nn, nn]) XM_BadStates h (lb_ rfl) le (fun h a d oe pn hz hf => (show wB _ _ _ _ _ _ [zz p__law_spots, zz p__law_rows, nn, zz (.exc a x.cls d x.fs)] from (b_cons (s_ret (e_j (ρ' := [zz p__law_spots, zz p__law_rows, nn, zz (.exc a x.cls d x.fs)]) h (fun r11 h => (hQ _ h)) fun h key => (e_if (t_j (ρ' := [zz p__law_spots, zz p__law_rows, nn, zz (.exc a x.cls d x.fs)]) h (fun b13 h => (itk h (fun h => (e_tup (a_cons (e_str (a_cons (e_xf XF_BadStates hz hf (pv 3) rfl h fun f14 h => (a_nil (dk (.cons (.cons .nil)) (szB rfl) (key _ h))))))))) (fun h => (e_tup (a_cons (e_str (a_cons (e_int (a_nil (dk (.cons (.cons .nil)) (szB rfl) (key _ h))))))))))) fun h key => (t_w (w_and (t_val (e_isX (uD := (.cl (cn "StepError"))) IX_StepError rfl hz hf B.isinstance_ rfl (pv 3) rfl (fun _ q => e_glob G_StepError rfl q) h fun t16 h => (tk VwE.z h fun b17 h => (itk h (fun h => (w_and1 (t_val (e_isX (uD := (.ty "ValueError")) IX_ValueError rfl hz hf B.isinstance_ rfl (pv 3) rfl (fun _ q => e_ty (T := "ValueError") rfl B.ValueError_ (by decide +kernel) q) h fun t18 h => (tk VwE.z h fun b19 h => (key _ h)))))) (fun h => (key _ h))))))))))))))) (fun h => (cl_as (famX := [zz p__law_spots, zz p__law_rows, nn, nn]) XM_BadName h (lb_ rfl) le (fun h a d oe pn hz hf => (show wB _ _ _ _ _ _ [zz p__law_spots, zz p__law_rows, nn, zz (.exc a x.cls d x.fs)] from (b_cons (s_ret (e_j (ρ' := [zz p__law_spots, zz p__law_rows, nn, zz (.exc a x.cls d x.fs)]) h (fun r6 h => (hQ _ h)) fun h key => (e_if (t_val (e_isX (uD := (.cl (cn "StepError"))) IX_StepError rfl hz hf B.isinstance_ rfl (pv 3) rfl (fun _ q => e_glob G_StepError rfl q) h fun t8 h => (tk VwE.z h fun b9 h => (itk h (fun h => (e_tup (a_cons (e_str (a_cons (e_xf XF_BadName hz hf (pv 3) rfl h fun f10 h => (a_nil (dk (.cons (.cons .nil)) (szB rfl) (key _ h))))))))) (fun h => (e_tup (a_cons (e_str (a_cons (e_int (a_nil (dk (.cons (.cons .nil)) (szB rfl) (key _ h))))))))))))))))))) (fun h => (cl_as (famX := [zz p__law_spots, zz p__law_rows, nn, nn]) XM_BadTable h (lb_ rfl) le (fun h a d oe pn hz hf => (show wB _ _ _ _ _ _ [zz p__law_spots, zz p__law_rows, nn, zz (.exc a x.cls d x.fs)] from (b_cons (s_ret (e_j (ρ' := [zz p__law_spots, zz p__law_rows, nn, zz (.exc a x.cls d x.fs)]) h (fun r1 h => (hQ _ h)) fun h key => (e_if (t_val (e_isX (uD := (.cl (cn "StepError"))) IX_StepError rfl hz hf B.isinstance_ rfl (pv 3) rfl (fun _ q => e_glob G_StepError rfl q) h fun t3 h => (tk VwE.z h fun b4 h => (itk h (fun h => (e_tup (a_cons (e_str (a_cons (e_xf XF_BadTable hz hf (pv 3) rfl h fun f5 h => (a_nil (dk (.cons (.cons .nil)) (szB rfl) (key _ h))))))))) (fun h => (e_tup (a_cons (e_str (a_cons (e_int (a_nil (dk (.cons (.cons .nil)) (szB rfl) (key _ h))))))))))))))))))) (fun h => (hEle le rfl (hE x h))))))))) (fun h hX W' pn xe tk' hp' => (show wB _ _ _ _ _ _ [zz p__law_spots, zz p__law_rows, nn, nn] from (b_cons (s_set (i := 2) sc__law_told.nd rfl (by first | exact .inl rfl | exact .inr rfl) rfl (e_makeB0 MB_System_p0_states_tables (hr.mono (by decide)) tk' rfl (ke_cons (e_name (pv 0) rfl (ke_cons (e_name (pv 1) rfl (ke_nil ⟨_, _, .nil, (.cons (.cons .nil)), rfl, rfl, p__law_spots, p__law_rows, rfl, mkQ h (fun o21 h => ⟨lb_ rfl, (show wB _ _ _ _ _ _ [zz p__law_spots, zz p__law_rows, zz o21, nn] from (b_nil (show wB _ _ _ _ _ _ [zz p__law_spots, zz p__law_rows, zz o21, nn] from (b_cons (s_ret (e_tup (a_cons (e_str (a_cons (e_lenO O_System___len__ (hr.mono (by decide)) rfl B.len_ (a_cons (e_name (pv 2) rfl (a_nil (isl1 h fun h => callI (.ow .nil) ⟨o21, rfl, _, _, h, fun r22 h => backI (.ow .nil) (ρ3 := [zz p__law_spots, zz p__law_rows, zz o21, nn]) rfl (lenk h fun h => (a_nil (dk (.cons (.cons .nil)) (szB rfl) (hQ _ h)))), fun x h => h.elim⟩))))))))))))))⟩) (fun x h y => (hX x _ (.same (.same (.same (.same .nil)))) h))⟩)))))))))))))⟩
def pr__law_spoilt : Prot := fun i => i == 0 || i == 1 || i == 2
theorem sc__law_spoilt : FnScope ["_law_tape_here", "_law_row_here", "_law_spots", "_law_place", "_law_kind", "_law_item"] ["_law_tape_here", "_law_row_here", "_law_spots"] (defScope s__law_spoilt) := ⟨rfl, rfl, rfl, by decide +kernel, rfl, by decide +kernel, by decide +kernel⟩
theorem ok__law_spoilt {P : Program} {w : World} {K : PySem.W.Frag} {mg : Str → Option Value} {base : Heap} {f : Addr} {fd : FuncData} {dvs : List V} {kws : List (Str × V)} {cn : Str → Addr} (B : Blt mg) (C__law_pick : Cal P w K mg base 1 "_law_pick" ["_law_tape_here", "_law_many"] (F__law_pick cn))
    (Fn : FunD K "_law_spoilt" "_law_spoilt" (defArgs s__law_spoilt) (defBody s__law_spoilt) (defScope s__law_spoilt) dvs kws f fd) : FnOk P w K mg base (L2N.CX P w) 2 f fd ["_law_tape_here", "_law_row_here", "_law_spots"] (spA K 3 (F__law_spoilt cn)) :=
  AE.FunD.okA Fn sc__law_spoilt pr__law_spoilt fun cdv A outer s H E hr => ⟨_, ewB, fun os Kd Ed _ hF => by
    obtain ⟨p__law_tape_here, p__law_row_here, p__law_spots, rfl, Q, E, h, hQ, hE⟩ := hF
    unfold m__law_spoilt at h
    exact (show wB _ _ _ _ _ _ [oo p__law_tape_here, zz p__law_row_here, zz p__law_spots, nn, nn, nn] from (b_cons (s_set (i := 3) sc__law_spoilt.nd rfl (by first | exact .inl rfl | exact .inr rfl) rfl (e_call C__law_pick (hr.mono (by decide)) (L2N.takes_of rfl rfl rfl rfl) rfl (a_cons (e_namep (pv 0) rfl (a_cons (e_add (e_bN (ae_len rfl B.len_ ewA) (a_cons (e_name (pv 1) rfl (a_nil (kN (.cons VwE.z .nil) h fun t1 h => (e_int (k2 VwE.z VwE.z h fun t2 h => (a_nil (callI (.pt rfl (.ow .nil)) ⟨p__law_tape_here, t2, rfl, _, _, h, fun r4 x3 h => backI (.pt rfl (.ow .nil)) (ρ3 := [oo x3, zz p__law_row_here, zz p__law_spots, nn, nn, nn]) rfl ⟨lb_ rfl, (show wB _ _ _ _ _ _ [oo x3, zz p__law_row_here, zz p__law_spots, zz r4, nn, nn] from (b_cons (s_set (i := 4) sc__law_spoilt.nd rfl (by first | exact .inl rfl | exact .inr rfl) rfl (e_call C__law_pick (hr.mono (by decide)) (L2N.takes_of rfl rfl rfl rfl) rfl (a_cons (e_namep (pv 0) rfl (a_cons (e_int (a_nil (callI (.pt rfl (.ow .nil)) ⟨x3, (.int 7), rfl, _, _, h, fun r6 x5 h => backI (.pt rfl (.ow .nil)) (ρ3 := [oo x5, zz p__law_row_here, zz p__law_spots, zz r4, nn, nn]) rfl ⟨lb_ rfl, (show wB _ _ _ _ _ _ [oo x5, zz p__law_row_here, zz p__law_spots, zz r4, zz r6, nn] from (b_cons (s_set (i := 5) sc__law_spoilt.nd rfl (by first | exact .inl rfl | exact .inr rfl) rfl (e_at (rm64 hr) (e_lst (a_cons (e_neg (e_int (k1 VwE.z h fun t7 h => (a_cons (e_name (pv 2) rfl (a_cons (e_int (a_cons (e_sub (e_name (pv 2) rfl (e_int (k2 VwE.z VwE.z h fun t8 h => (a_cons (e_non (a_cons (e_add (e_name (pv 2) rfl (e_int (k2 VwE.z VwE.z h fun t9 h => (a_cons (e_neg (e_int (k1 VwE.z h fun t10 h => (a_nil (dk (.cons (.cons (.cons (.cons (.cons (.cons (.cons .nil))))))) (szB rfl) (zls (e_call C__law_pick (hr.mono (by decide)) (L2N.takes_of rfl rfl rfl rfl) rfl (a_cons (e_namep (pv 0) rfl (a_cons (e_int (a_nil (callI (.pt rfl (.ow .nil)) ⟨x5, (.int 7), rfl, _, _, h, fun r12 x11 h => backI (.pt rfl (.ow .nil)) (ρ3 := [oo x11, zz p__law_row_here, zz p__law_spots, zz r4, zz r6, nn]) rfl (k2 VwE.z VwE.z h fun t13 h => ⟨lb_ rfl, (show wB _ _ _ _ _ _ [oo x11, zz p__law_row_here, zz p__law_spots, zz r4, zz r6, zz t13] from (b_cons (s_if (t_c (c_eq (rm64 hr)) (e_name (pv 4) rfl (e_int (k2 VwE.z VwE.z h fun t14 h => (tk VwE.z h fun b15 h => (itk h (fun h => (b_cons (s_ret (e_add (e_add (e_slice (e_name (pv 1) rfl (o_none (o_some (e_name (pv 3) rfl (ok_ VwE.z h fun i16 h => (k1 VwE.z h fun t17 h => (e_lst (a_cons (e_name (pv 5) rfl (a_nil (dk (.cons .nil) (szB rfl) (zls (k2 VwE.z VwE.z h fun t18 h => (e_slice (e_name (pv 1) rfl (o_some (e_name (pv 3) rfl (ok_ VwE.z h fun i19 h => (o_none (k1 VwE.z h fun t20 h => (k2 VwE.z VwE.z h fun t21 h => (hQ _ _ h)))))))))))))))))))))))))))) (fun h => (b_nil (show wB _ _ _ _ _ _ [oo x11, zz p__law_row_here, zz p__law_spots, zz r4, zz r6, zz t13] from (b_cons (s_if (t_c (c_eq (rm64 hr)) (e_name (pv 4) rfl (e_int (k2 VwE.z VwE.z h fun t22 h => (tk VwE.z h fun b23 h => (itk h (fun h => (b_cons (s_ret (e_add (e_slice (e_name (pv 1) rfl (o_none (o_some (e_name (pv 3) rfl (ok_ VwE.z h fun i24 h => (k1 VwE.z h fun t25 h => (e_slice (e_name (pv 1) rfl (o_some (e_add (e_name (pv 3) rfl (e_int (k2 VwE.z VwE.z h fun t26 h => (ok_ VwE.z h fun i27 h => (o_none (k1 VwE.z h fun t28 h => (k2 VwE.z VwE.z h fun t29 h => (hQ _ _ h))))))))))))))))))))))) (fun h => (b_nil (show wB _ _ _ _ _ _ [oo x11, zz p__law_row_here, zz p__law_spots, zz r4, zz r6, zz t13] from (b_cons (s_ret (e_add (e_add (e_slice (e_name (pv 1) rfl (o_none (o_some (e_name (pv 3) rfl (ok_ VwE.z h fun i30 h => (k1 VwE.z h fun t31 h => (e_lst (a_cons (e_name (pv 5) rfl (a_nil (dk (.cons .nil) (szB rfl) (zls (k2 VwE.z VwE.z h fun t32 h => (e_slice (e_name (pv 1) rfl (o_some (e_add (e_name (pv 3) rfl (e_int (k2 VwE.z VwE.z h fun t33 h => (ok_ VwE.z h fun i34 h => (o_none (k1 VwE.z h fun t35 h => (k2 VwE.z VwE.z h fun t36 h => (hQ _ _ h)))))))))))))))))))))))))))))))))))))))))))))))))))))⟩), fun x h y0 => backI (.pt rfl (.ow .nil)) (ρ3 := [y0, zz p__law_row_here, zz p__law_spots, zz r4, zz r6, nn]) rfl (hE x h _)⟩)))))))))))))))))))))))))))))))))))))))⟩, fun x h y0 => backI (.pt rfl (.ow .nil)) (ρ3 := [y0, zz p__law_row_here, zz p__law_spots, zz r4, nn, nn]) rfl (hE x h _)⟩))))))))))⟩, fun x h y0 => backI (.pt rfl (.ow .nil)) (ρ3 := [y0, zz p__law_row_here, zz p__law_spots, nn, nn, nn]) rfl (hE x h _)⟩)))))))))))))))))⟩
def pr__law_fine : Prot := fun i => i == 0 || i == 1
theorem sc__law_fine : FnScope ["_law_row_here", "_law_spots", "_law_known", "_law_item", "_law_k"] ["_law_row_here", "_law_spots"] (defScope s__law_fine) := ⟨rfl, rfl, rfl, by decide +kernel, rfl, by decide +kernel, by decide +kernel⟩
theorem ok__law_fine {P : Program} {w : World} {K : PySem.W.Frag} {mg : Str → Option Value} {base : Heap} {f : Addr} {fd : FuncData} {dvs : List V} {kws : List (Str × V)} {cn : Str → Addr} (B : Blt mg)
    (Fn : FunD K "_law_fine" "_law_fine" (defArgs s__law_fine) (defBody s__law_fine) (defScope s__law_fine) dvs kws f fd) : FnOk P w K mg base (L2N.CX P w) 1 f fd ["_law_row_here", "_law_spots"] (spA K 2 (F__law_fine cn)) :=
  AE.FunD.okA Fn sc__law_fine pr__law_fine fun cdv A outer s H E hr => ⟨_, ewB, fun os Kd Ed _ hF => by
    obtain ⟨p__law_row_here, p__law_spots, rfl, Q, E, h, hQ, hE⟩ := hF
    unfold m__law_fine at h
    exact (show wB _ _ _ _ _ _ [zz p__law_row_here, zz p__law_spots, nn, nn, nn] from (b_cons (s_set (i := 2) sc__law_fine.nd rfl (by first | exact .inl rfl | exact .inr rfl) rfl (wE.frz (e_lc (own := [("_law_item", 3)]) (vs := [3]) rfl sc__law_fine.nd (blkOk_by (by kernel_rfl)) rfl (by decide) (ltAll rfl) (i_seq (e_name (pv 0) rfl (itk_ h fun l1 h => (blc0 [zz p__law_row_here, zz p__law_spots, nn, nn, nn] h rfl (fun d2 emit3 skip4 h => fun _ _ _ _ _ => (g_name (i := 3) sc__law_fine.nd rfl (by first | exact .inl rfl | exact .inr rfl) rfl (lb_ rfl) (fun _ _ _ _ _ => ts_one (t_c c_isnot (e_name (pv 3) rfl (e_non (k2 VwE.z VwE.z h fun t5 h => (tk VwE.z h fun b6 h => (itk h (fun h => (fun _ _ _ _ _ => (e_name (pv 3) rfl ⟨rfl, h⟩))) (fun h => ⟨rfl, h⟩)))))))))) (fun acc7 h => (zown (ρ := [zz p__law_row_here, zz p__law_spots, nn, nn, nn]) ⟨lb_ rfl, (show wB _ _ _ _ _ _ [zz p__law_row_here, zz p__law_spots, zz (.lst acc7), nn, nn] from (b_cons (s_if (t_j (ρ' := [zz p__law_row_here, zz p__law_spots, zz (.lst acc7), nn, nn]) h (fun b8 h => (itk h (fun h => (b_cons (s_ret (e_bl (hQ _ h))))) (fun h => (b_nil (show wB _ _ _ _ _ _ [zz p__law_row_here, zz p__law_spots, zz (.lst acc7), nn, nn] from (b_cons (s_ret (e_c (c_eq (rm64 hr)) (e_bN (ae_len rfl B.len_ ewA) (a_cons (wE.frz (e_lc (own := [("_law_k", 4)]) (vs := [4]) rfl sc__law_fine.nd (blkOk_by (by kernel_rfl)) rfl (by decide) (ltAll rfl) (i_range1 rfl B.range_ (a_cons (e_bN (ae_len rfl B.len_ ewA) (a_cons (e_name (pv 2) rfl (a_nil (kN (.cons VwE.z .nil) h fun t9 h => (a_nil (r1k VwE.z h fun l10 h => (blc0 [zz p__law_row_here, zz p__law_spots, zz (.lst acc7), nn, nn] h rfl (fun d11 emit12 skip13 h => fun _ _ _ _ _ => (g_name (i := 4) sc__law_fine.nd rfl (by first | exact .inl rfl | exact .inr rfl) rfl (lb_ rfl) (fun _ _ _ _ _ => ts_one (t_c (c_in (rm65 hr)) (e_at (rm64 hr) (e_name (pv 2) rfl (e_name (pv 4) rfl (k2 VwE.z VwE.z h fun t14 h => (e_slice (e_name (pv 2) rfl (o_none (o_some (e_name (pv 4) rfl (ok_ VwE.z h fun i15 h => (k1 VwE.z h fun t16 h => (k2 VwE.z VwE.z h fun t17 h => (tk VwE.z h fun b18 h => (itk h (fun h => (fun _ _ _ _ _ => (e_name (pv 4) rfl ⟨rfl, h⟩))) (fun h => ⟨rfl, h⟩))))))))))))))))))) (fun acc19 h => (zown (ρ := [zz p__law_row_here, zz p__law_spots, zz (.lst acc7), nn, nn]) (a_nil (kN (.cons VwE.z .nil) h fun t20 h => (e_int (k2 VwE.z VwE.z h fun t21 h => (hQ _ h))))))))))))))))))))))))))))) fun h key => (t_w (w_or (t_c (c_ne (rm64 hr)) (e_bN (ae_len rfl B.len_ ewA) (a_cons (e_name (pv 0) rfl (a_nil (kN (.cons VwE.z .nil) h fun t23 h => (e_name (pv 1) rfl (k2 VwE.z VwE.z h fun t24 h => (tk VwE.z h fun b25 h => (itk h (fun h => (key _ h)) (fun h => (w_or1 (t_c c_gt (e_bN (ae_len rfl B.len_ ewA) (a_cons (wE.frz (e_lc (own := [("_law_item", 3)]) (vs := [3]) rfl sc__law_fine.nd (blkOk_by (by kernel_rfl)) rfl (by decide) (ltAll rfl) (i_seq (e_name (pv 2) rfl (itk_ h fun l26 h => (blc0 [zz p__law_row_here, zz p__law_spots, zz (.lst acc7), nn, nn] h rfl (fun d27 emit28 skip29 h => fun _ _ _ _ _ => (g_name (i := 3) sc__law_fine.nd rfl (by first | exact .inl rfl | exact .inr rfl) rfl (lb_ rfl) (fun _ _ _ _ _ => ts_one (t_notinR rfl B.range_ (e_name (pv 3) rfl (ink VwE.z h fun i30 h => (a_cons (e_name (pv 1) rfl (a_nil (inks VwE.z h fun i31 h => (tk VwE.z h fun b32 h => (itk h (fun h => (fun _ _ _ _ _ => (e_name (pv 3) rfl ⟨rfl, h⟩))) (fun h => ⟨rfl, h⟩))))))))))))) (fun acc33 h => (zown (ρ := [zz p__law_row_here, zz p__law_spots, zz (.lst acc7), nn, nn]) (a_nil (kN (.cons VwE.z .nil) h fun t34 h => (e_int (k2 VwE.z VwE.z h fun t35 h => (tk VwE.z h fun b36 h => (key _ h)))))))))))))))))))))))))))))))))))⟩)))))))))))⟩
def pr__law_due : Prot := fun i => i == 0 || i == 1
theorem sc__law_due : FnScope ["_law_spots", "_law_rows", "_law_bad", "_law_name"] ["_law_spots", "_law_rows"] (defScope s__law_due) := ⟨rfl, rfl, rfl, by decide +kernel, rfl, by decide +kernel, by decide +kernel⟩
theorem ok__law_due {P : Program} {w : World} {K : PySem.W.Frag} {mg : Str → Option Value} {base : Heap} {f : Addr} {fd : FuncData} {dvs : List V} {kws : List (Str × V)} {cn : Str → Addr} (B : Blt mg) (C__law_fine : Cal P w K mg base 1 "_law_fine" ["_law_row_here", "_law_spots"] (F__law_fine cn))
    (Fn : FunD K "_law_due" "_law_due" (defArgs s__law_due) (defBody s__law_due) (defScope s__law_due) dvs kws f fd) : FnOk P w K mg base (L2N.CX P w) 2 f fd ["_law_spots", "_law_rows"] (spA K 2 (F__law_due cn)) :=
  AE.FunD.okA Fn sc__law_due pr__law_due fun cdv A outer s H E hr => ⟨_, ewB, fun os Kd Ed _ hF => by
    obtain ⟨p__law_spots, p__law_rows, rfl, Q, E, h, hQ, hE⟩ := hF
    unfold m__law_due at h
    exact (show wB _ _ _ _ _ _ [zz p__law_spots, zz p__law_rows, nn, nn] from (b_cons (s_if (t_c c_lt (e_name (pv 0) rfl (e_int (k2 VwE.z VwE.z h fun t1 h => (tk VwE.z h fun b2 h => (itk h (fun h => (b_cons (s_ret (e_tup (a_cons (e_str (a_cons (e_name (pv 0) rfl (a_nil (dk (.cons (.cons .nil)) (szB rfl) (hQ _ h))))))))))) (fun h => (b_nil (show wB _ _ _ _ _ _ [zz p__law_spots, zz p__law_rows, nn, nn] from (b_cons (s_set (i := 2) sc__law_due.nd rfl (by first | exact .inl rfl | exact .inr rfl) rfl (e_lst (a_cons (e_str (a_cons (e_str (a_cons (e_str (a_cons (e_str (a_cons (e_str (a_cons (e_str (a_cons (e_str (a_cons (e_str (a_cons (e_str (a_cons (e_str (a_nil (dk (.cons (.cons (.cons (.cons (.cons (.cons (.cons (.cons (.cons (.cons .nil)))))))))) (szB rfl) (zls ⟨lb_ rfl, (show wB _ _ _ _ _ _ [zz p__law_spots, zz p__law_rows, zz (.lst [(.str ""), (.str "else"), (.str "can"), (.str "cannot"), (.str "skip"), (.str "A"), (.str "a1"), (.str "-a"), (.str "aaaaaaa"), (.str "a b")]), nn] from (b_cons (s_for (passes_of rfl) rfl (i_seq (e_bN (ae_sorted (rm64 hr) rfl B.sorted_ ewA) (a_cons (wE.frz (e_lcK (own := [("_law_name", 3)]) (vs := [3]) (lw_k (pl_n (pv 1))) (has_n h rfl) rfl sc__law_due.nd (blkOk_by (by kernel_rfl)) rfl (by decide) (ltAll rfl) h fun l3 h => (blc0 [zz p__law_spots, zz p__law_rows, zz (.lst [(.str ""), (.str "else"), (.str "can"), (.str "cannot"), (.str "skip"), (.str "A"), (.str "a1"), (.str "-a"), (.str "aaaaaaa"), (.str "a b")]), nn] h rfl (fun d4 emit5 skip6 h => fun _ _ _ _ _ => (g_name (i := 3) sc__law_due.nd rfl (by first | exact .inl rfl | exact .inr rfl) rfl (lb_ rfl) (fun _ _ _ _ _ => ts_nil ((if_pos rfl).mpr (fun _ _ _ _ _ => (e_bN (ae_str1 rfl B.str_ ewA) (a_cons (e_name (pv 3) rfl (a_nil (kN (.cons VwE.z .nil) h fun t7 h => ⟨rfl, h⟩)))))))))) (fun acc8 h => (zown (ρ := [zz p__law_spots, zz p__law_rows, zz (.lst [(.str ""), (.str "else"), (.str "can"), (.str "cannot"), (.str "skip"), (.str "A"), (.str "a1"), (.str "-a"), (.str "aaaaaaa"), (.str "a b")]), nn]) (a_nil (kN (.cons VwE.z .nil) h fun t9 h => (itk_ h fun l10 h => (loop0 [zz p__law_spots, zz p__law_rows, zz (.lst [(.str ""), (.str "else"), (.str "can"), (.str "cannot"), (.str "skip"), (.str "A"), (.str "a1"), (.str "-a"), (.str "aaaaaaa"), (.str "a b")]), nn] h (.same (.same (.same (.same .nil)))) (fun d11 n12 h => (g_name (i := 3) sc__law_due.nd rfl (by first | exact .inl rfl | exact .inr rfl) rfl (lb_ rfl) (show wB _ _ _ _ _ _ [zz p__law_spots, zz p__law_rows, zz (.lst [(.str ""), (.str "else"), (.str "can"), (.str "cannot"), (.str "skip"), (.str "A"), (.str "a1"), (.str "-a"), (.str "aaaaaaa"), (.str "a b")]), zz d11] from (b_cons (s_if (t_c (c_in (rm65 hr)) (e_name (pv 3) rfl (e_name (pv 2) rfl (k2 VwE.z VwE.z h fun t13 h => (tk VwE.z h fun b14 h => (itk h (fun h => (b_cons (s_ret (e_tup (a_cons (e_str (a_cons (e_name (pv 3) rfl (a_nil (dk (.cons (.cons .nil)) (szB rfl) (hQ _ h))))))))))) (fun h => (b_nil (b_nil ⟨(.same (.same (.same (.drop .nil)))), h⟩)))))))))))))) (fun  ρ le h => wB.drop le (show wB _ _ _ _ _ _ [zz p__law_spots, zz p__law_rows, zz (.lst [(.str ""), (.str "else"), (.str "can"), (.str "cannot"), (.str "skip"), (.str "A"), (.str "a1"), (.str "-a"), (.str "aaaaaaa"), (.str "a b")]), nn] from (b_cons (s_for (passes_of rfl) rfl (i_seq (e_bN (ae_sorted (rm64 hr) rfl B.sorted_ ewA) (a_cons (wE.frz (e_lcK (own := [("_law_name", 3)]) (vs := [3]) (lw_k (pl_n (pv 1))) (has_n h rfl) rfl sc__law_due.nd (blkOk_by (by kernel_rfl)) rfl (by decide) (ltAll rfl) h fun l15 h => (blc0 [zz p__law_spots, zz p__law_rows, zz (.lst [(.str ""), (.str "else"), (.str "can"), (.str "cannot"), (.str "skip"), (.str "A"), (.str "a1"), (.str "-a"), (.str "aaaaaaa"), (.str "a b")]), nn] h rfl (fun d16 emit17 skip18 h => fun _ _ _ _ _ => (g_name (i := 3) sc__law_due.nd rfl (by first | exact .inl rfl | exact .inr rfl) rfl (lb_ rfl) (fun _ _ _ _ _ => ts_nil ((if_pos rfl).mpr (fun _ _ _ _ _ => (e_bN (ae_str1 rfl B.str_ ewA) (a_cons (e_name (pv 3) rfl (a_nil (kN (.cons VwE.z .nil) h fun t19 h => ⟨rfl, h⟩)))))))))) (fun acc20 h => (zown (ρ := [zz p__law_spots, zz p__law_rows, zz (.lst [(.str ""), (.str "else"), (.str "can"), (.str "cannot"), (.str "skip"), (.str "A"), (.str "a1"), (.str "-a"), (.str "aaaaaaa"), (.str "a b")]), nn]) (a_nil (kN (.cons VwE.z .nil) h fun t21 h => (itk_ h fun l22 h => (loop0 [zz p__law_spots, zz p__law_rows, nn, nn] h (.same (.same (.drop (.same .nil)))) (fun d23 n24 h => (g_name (i := 3) sc__law_due.nd rfl (by first | exact .inl rfl | exact .inr rfl) rfl (lb_ rfl) (show wB _ _ _ _ _ _ [zz p__law_spots, zz p__law_rows, nn, zz d23] from (b_cons (s_if (t_not (t_val (e_call C__law_fine (hr.mono (by decide)) (L2N.takes_of rfl rfl rfl rfl) rfl (a_cons (e_at (rm64 hr) (e_name (pv 1) rfl (e_name (pv 3) rfl (k2 VwE.z VwE.z h fun t25 h => (a_cons (e_name (pv 0) rfl (a_nil (callI (.ow (.ow .nil)) ⟨t25, p__law_spots, rfl, _, _, h, fun r26 h => backI (.ow (.ow .nil)) (ρ3 := [zz p__law_spots, zz p__law_rows, nn, zz d23]) rfl (tk VwE.z h fun b27 h => (itk h (fun h => (b_cons (s_ret (e_tup (a_cons (e_str (a_cons (e_name (pv 3) rfl (a_nil (dk (.cons (.cons .nil)) (szB rfl) (hQ _ h))))))))))) (fun h => (b_nil (b_nil ⟨(.same (.same (.same (.drop .nil)))), h⟩))))), fun x h => backI (.ow (.ow .nil)) (ρ3 := [zz p__law_spots, zz p__law_rows, nn, zz d23]) rfl (hE x h)⟩))))))))))))))))) (fun  ρ le h => wB.drop le (show wB _ _ _ _ _ _ [zz p__law_spots, zz p__law_rows, nn, nn] from (b_cons (s_ret (e_tup (a_cons (e_str (a_cons (e_name (pv 0) rfl (a_nil (dk (.cons (.cons .nil)) (szB rfl) (hQ _ h)))))))))))))))))))))))))))))))))))))))))))⟩))))))))))))))))))))))))))))))))))))))⟩
def pr_law : Prot := fun i => i == 0
theorem sc_law : FnScope ["_law_script", "_law_tape_here", "_law_spots", "_law_names", "_law_rows", "_law_k", "_law_turn", "_law_name", "_law_odd", "_law_kept", "_law_due_here"] ["_law_script"] (defScope s_law) := ⟨rfl, rfl, rfl, by decide +kernel, rfl, by decide +kernel, by decide +kernel⟩
theorem ok_law {P : Program} {w : World} {K : PySem.W.Frag} {mg : Str → Option Value} {base : Heap} {f : Addr} {fd : FuncData} {dvs : List V} {kws : List (Str × V)} {cn : Str → Addr} (B : Blt mg) (C__law_tape : Cal P w K mg base 1 "_law_tape" ["_law_script", "_law_k"] (F__law_tape cn))
    (C__law_pick : Cal P w K mg base 1 "_law_pick" ["_law_tape_here", "_law_many"] (F__law_pick cn))
    (C__law_row : Cal P w K mg base 2 "_law_row" ["_law_tape_here", "_law_spots"] (F__law_row cn))
    (C__law_told : Cal P w K mg base 6 "_law_told" ["_law_spots", "_law_rows"] (F__law_told cn))
    (C__law_spoilt : Cal P w K mg base 2 "_law_spoilt" ["_law_tape_here", "_law_row_here", "_law_spots"] (F__law_spoilt cn))
    (C__law_due : Cal P w K mg base 2 "_law_due" ["_law_spots", "_law_rows"] (F__law_due cn))
    (Fn : FunD K "law" "law" (defArgs s_law) (defBody s_law) (defScope s_law) dvs kws f fd) : AH.FnOkG P w K mg base (L2N.CX P w) 7 f fd ["_law_script"] (spA K 1 (F_law cn)) :=
  AH.okAG Fn sc_law pr_law fun cdv A outer s H E hr hgd => ⟨_, ewB, fun os Kd Ed _ hF => by
    obtain ⟨p__law_script, rfl, Q, E, h, hQ, hE⟩ := hF
    unfold m_law at h
    exact (show wB _ _ _ _ _ _ [zz p__law_script, nn, nn, nn, nn, nn, nn, nn, nn, nn, nn] from (b_cons (s_set (i := 1) sc_law.nd rfl (by first | exact .inl rfl | exact .inr rfl) rfl (e_call C__law_tape (hr.mono (by decide)) (L2N.takes_of rfl rfl rfl rfl) rfl (a_cons (e_name (pv 0) rfl (a_cons (e_int (a_nil (callI (.ow (.ow .nil)) ⟨p__law_script, (.int 0), rfl, _, _, h, fun r1 h => backI (.ow (.ow .nil)) (ρ3 := [zz p__law_script, nn, nn, nn, nn, nn, nn, nn, nn, nn, nn]) rfl ⟨lb_ rfl, (show wB _ _ _ _ _ _ [zz p__law_script, oo r1, nn, nn, nn, nn, nn, nn, nn, nn, nn] from (b_cons (s_set (i := 2) sc_law.nd rfl (by first | exact .inl rfl | exact .inr rfl) rfl (e_add (e_int (e_call C__law_pick (hr.mono (by decide)) (L2N.takes_of rfl rfl rfl rfl) rfl (a_cons (e_namep (pv 1) rfl (a_cons (e_int (a_nil (callI (.pt rfl (.ow .nil)) ⟨r1, (.int 5), rfl, _, _, h, fun r3 x2 h => backI (.pt rfl (.ow .nil)) (ρ3 := [zz p__law_script, oo x2, nn, nn, nn, nn, nn, nn, nn, nn, nn]) rfl (k2 VwE.z VwE.z h fun t4 h => ⟨lb_ rfl, (show wB _ _ _ _ _ _ [zz p__law_script, oo x2, zz t4, nn, nn, nn, nn, nn, nn, nn, nn] from (b_cons (s_set (i := 3) sc_law.nd rfl (by first | exact .inl rfl | exact .inr rfl) rfl (e_slice (e_at (rm64 hr) (e_lst (a_cons (e_lst (a_cons (e_str (a_cons (e_str (a_cons (e_str (a_cons (e_str (a_nil (dk (.cons (.cons (.cons (.cons .nil)))) (szB rfl) (zls (a_cons (e_lst (a_cons (e_str (a_cons (e_str (a_cons (e_str (a_cons (e_str (a_nil (dk (.cons (.cons (.cons (.cons .nil)))) (szB rfl) (zls (a_nil (dk (.cons (.cons .nil)) (szB rfl) (zls (e_call C__law_pick (hr.mono (by decide)) (L2N.takes_of rfl rfl rfl rfl) rfl (a_cons (e_namep (pv 1) rfl (a_cons (e_int (a_nil (callI (.pt rfl (.ow .nil)) ⟨x2, (.int 2), rfl, _, _, h, fun r6 x5 h => backI (.pt rfl (.ow .nil)) (ρ3 := [zz p__law_script, oo x5, zz t4, nn, nn, nn, nn, nn, nn, nn, nn]) rfl (k2 VwE.z VwE.z h fun t7 h => (o_none (o_some (e_add (e_int (e_call C__law_pick (hr.mono (by decide)) (L2N.takes_of rfl rfl rfl rfl) rfl (a_cons (e_namep (pv 1) rfl (a_cons (e_int (a_nil (callI (.pt rfl (.ow .nil)) ⟨x5, (.int 4), rfl, _, _, h, fun r9 x8 h => backI (.pt rfl (.ow .nil)) (ρ3 := [zz p__law_script, oo x8, zz t4, nn, nn, nn, nn, nn, nn, nn, nn]) rfl (k2 VwE.z VwE.z h fun t10 h => (ok_ VwE.z h fun i11 h => (k1 VwE.z h fun t12 h => ⟨lb_ rfl, (show wB _ _ _ _ _ _ [zz p__law_script, oo x8, zz t4, zz t12, nn, nn, nn, nn, nn, nn, nn] from (b_cons (s_set (i := 4) sc_law.nd rfl (by first | exact .inl rfl | exact .inr rfl) rfl (e_dnew ⟨lb_ rfl, (show wB _ _ _ _ _ _ [zz p__law_script, oo x8, zz t4, zz t12, oo (.dic []), nn, nn, nn, nn, nn, nn] from (b_cons (s_for (passes_of rfl) rfl (i_range1 rfl B.range_ (a_cons (e_bN (ae_len rfl B.len_ ewA) (a_cons (e_name (pv 3) rfl (a_nil (kN (.cons VwE.z .nil) h fun t13 h => (a_nil (r1k VwE.z h fun l14 h => (loop1 (fun x15 => [zz p__law_script, oo x8, zz t4, zz t12, oo x15, nn, nn, nn, nn, nn, nn]) h (.same (.same (.same (.same (.same (.same (.same (.same (.same (.same (.same .nil))))))))))) (fun d16 x15 n17 h => (g_name (i := 5) sc_law.nd rfl (by first | exact .inl rfl | exact .inr rfl) rfl (lb_ rfl) (show wB _ _ _ _ _ _ [zz p__law_script, oo x8, zz t4, zz t12, oo x15, zz d16, nn, nn, nn, nn, nn] from (b_cons (s_asg (e_call C__law_row (hr.mono (by decide)) (L2N.takes_of rfl rfl rfl rfl) rfl (a_cons (e_call C__law_tape (hr.mono (by decide)) (L2N.takes_of rfl rfl rfl rfl) rfl (a_cons (e_name (pv 0) rfl (a_cons (e_add (e_int (e_name (pv 5) rfl (k2 VwE.z VwE.z h fun t18 h => (a_nil (callI (.ow (.ow .nil)) ⟨p__law_script, t18, rfl, _, _, h, fun r19 h => backI (.ow (.ow .nil)) (ρ3 := [zz p__law_script, oo x8, zz t4, zz t12, oo x15, zz d16, nn, nn, nn, nn, nn]) rfl (a_cons (e_name (pv 2) rfl (a_nil (callI (.ow (.ow .nil)) ⟨r19, t4, rfl, _, _, h, fun r21 x20 h => backI (.ow (.ow .nil)) (ρ3 := [zz p__law_script, oo x8, zz t4, zz t12, oo x15, zz d16, nn, nn, nn, nn, nn]) rfl (g_sub (rm64 hr) (e_namep (pv 4) rfl (e_at (rm64 hr) (e_name (pv 3) rfl (e_name (pv 5) rfl (k2 VwE.z VwE.z h fun t22 h => (suk rfl VwE.z h fun x23 h => (show wB _ _ _ _ _ _ [zz p__law_script, oo x8, zz t4, zz t12, oo x23, zz d16, nn, nn, nn, nn, nn] from (b_nil ⟨_, (.same (.same (.same (.same (.same (.drop (.same (.same (.same (.same (.same .nil))))))))))), h⟩))))))))), fun x h y0 => backI (.ow (.ow .nil)) (ρ3 := [zz p__law_script, oo x8, zz t4, zz t12, oo x15, zz d16, nn, nn, nn, nn, nn]) rfl (hE x h)⟩)))), fun x h => backI (.ow (.ow .nil)) (ρ3 := [zz p__law_script, oo x8, zz t4, zz t12, oo x15, zz d16, nn, nn, nn, nn, nn]) rfl (hE x h)⟩))))))))))))))))) (fun x15 ρ le h => wB.drop le (show wB _ _ _ _ _ _ [zz p__law_script, oo x8, zz t4, zz t12, oo x15, nn, nn, nn, nn, nn, nn] from (b_cons (s_if (t_c (c_ne (rm64 hr)) (wE.lend (.same (.drop (.same (.same (.view (flat_own _) (.drop (.drop (.drop (.drop (.drop (.drop .nil))))))))))) (e_call C__law_told (hr.mono (by decide)) (L2N.takes_of rfl rfl rfl rfl) rfl (a_cons (e_name (pv 2) rfl (a_cons (e_name (pv 4) rfl (a_nil (callI (.ow (.ow .nil)) ⟨t4, x15, rfl, _, _, h, fun r24 h => backI (.ow (.ow .nil)) (ρ3 := [zz p__law_script, nn, zz t4, zz t12, zz x15, nn, nn, nn, nn, nn, nn]) rfl (lendZG h fun h => (e_tup (a_cons (e_str (a_cons (e_name (pv 2) rfl (a_nil (dk (.cons (.cons .nil)) (szB rfl) (k2 VwE.z VwE.z h fun t25 h => (tk VwE.z h fun b26 h => (itk h (fun h => (b_cons (s_ret (e_bl (hQ _ h))))) (fun h => (b_nil (show wB _ _ _ _ _ _ [zz p__law_script, oo x8, zz t4, zz t12, oo x15, nn, nn, nn, nn, nn, nn] from (b_cons (s_for (passes_of rfl) rfl (i_range1 rfl B.range_ (a_cons (e_call C__law_pick (hr.mono (by decide)) (L2N.takes_of rfl rfl rfl rfl) rfl (a_cons (e_namep (pv 1) rfl (a_cons (e_int (a_nil (callI (.pt rfl (.ow .nil)) ⟨x8, (.int 3), rfl, _, _, h, fun r28 x27 h => backI (.pt rfl (.ow .nil)) (ρ3 := [zz p__law_script, oo x27, zz t4, zz t12, oo x15, nn, nn, nn, nn, nn, nn]) rfl (a_nil (r1k VwE.z h fun l29 h => (loop2 (fun x30 x31 => [zz p__law_script, oo x30, zz t4, zz t12, oo x31, nn, nn, nn, nn, nn, nn]) h (.same (.same (.same (.same (.same (.same (.same (.same (.same (.same (.same .nil))))))))))) (fun d32 x30 x31 n33 h => (g_name (i := 6) sc_law.nd rfl (by first | exact .inl rfl | exact .inr rfl) rfl (lb_ rfl) (show wB _ _ _ _ _ _ [zz p__law_script, oo x30, zz t4, zz t12, oo x31, nn, zz d32, nn, nn, nn, nn] from (b_cons (s_set (i := 7) sc_law.nd rfl (by first | exact .inl rfl | exact .inr rfl) rfl (e_at (rm64 hr) (e_name (pv 3) rfl (e_call C__law_pick (hr.mono (by decide)) (L2N.takes_of rfl rfl rfl rfl) rfl (a_cons (e_namep (pv 1) rfl (a_cons (e_bN (ae_len rfl B.len_ ewA) (a_cons (e_name (pv 3) rfl (a_nil (kN (.cons VwE.z .nil) h fun t34 h => (a_nil (callI (.pt rfl (.ow .nil)) ⟨x30, t34, rfl, _, _, h, fun r36 x35 h => backI (.pt rfl (.ow .nil)) (ρ3 := [zz p__law_script, oo x35, zz t4, zz t12, oo x31, nn, zz d32, nn, nn, nn, nn]) rfl (k2 VwE.z VwE.z h fun t37 h => ⟨lb_ rfl, (show wB _ _ _ _ _ _ [zz p__law_script, oo x35, zz t4, zz t12, oo x31, nn, zz d32, zz t37, nn, nn, nn] from (b_cons (s_asg (e_call C__law_spoilt (hr.mono (by decide)) (L2N.takes_of rfl rfl rfl rfl) rfl (a_cons (e_namep (pv 1) rfl (a_cons (e_at (rm64 hr) (e_namep (pv 4) rfl (e_name (pv 7) rfl (k2 (VwE.o rfl) VwE.z h fun t38 h => (a_cons (e_name (pv 2) rfl (a_nil (callI (.pt rfl (.ow (.ow .nil))) ⟨x35, t38, t4, rfl, _, _, h, fun r40 x39 h => backI (.pt rfl (.ow (.ow .nil))) (ρ3 := [zz p__law_script, oo x39, zz t4, zz t12, oo x31, nn, zz d32, zz t37, nn, nn, nn]) rfl (g_sub (rm64 hr) (e_namep (pv 4) rfl (e_name (pv 7) rfl (suk rfl VwE.z h fun x41 h => (show wB _ _ _ _ _ _ [zz p__law_script, oo x39, zz t4, zz t12, oo x41, nn, zz d32, zz t37, nn, nn, nn] from (b_nil ⟨_, _, (.same (.same (.same (.same (.same (.same (.drop (.drop (.same (.same (.same .nil))))))))))), h⟩)))))), fun x h y0 => backI (.pt rfl (.ow (.ow .nil))) (ρ3 := [zz p__law_script, y0, zz t4, zz t12, oo x31, nn, zz d32, zz t37, nn, nn, nn]) rfl (hE x h)⟩)))))))))))))))⟩), fun x h y0 => backI (.pt rfl (.ow .nil)) (ρ3 := [zz p__law_script, y0, zz t4, zz t12, oo x31, nn, zz d32, nn, nn, nn, nn]) rfl (hE x h)⟩)))))))))))))))))) (fun x30 x31 ρ le h => wB.drop le (show wB _ _ _ _ _ _ [zz p__law_script, oo x30, zz t4, zz t12, oo x31, nn, nn, nn, nn, nn, nn] from (b_cons (s_for (passes_of rfl) rfl (i_range1 rfl B.range_ (a_cons (e_fdiv (e_call C__law_pick (hr.mono (by decide)) (L2N.takes_of rfl rfl rfl rfl) rfl (a_cons (e_namep (pv 1) rfl (a_cons (e_int (a_nil (callI (.pt rfl (.ow .nil)) ⟨x30, (.int 6), rfl, _, _, h, fun r43 x42 h => backI (.pt rfl (.ow .nil)) (ρ3 := [zz p__law_script, oo x42, zz t4, zz t12, oo x31, nn, nn, nn, nn, nn, nn]) rfl (e_int (k2 VwE.z VwE.z h fun t44 h => (a_nil (r1k VwE.z h fun l45 h => (loop2 (fun x46 x47 => [zz p__law_script, oo x46, zz t4, nn, oo x47, nn, nn, nn, nn, nn, nn]) h (.same (.same (.same (.drop (.same (.same (.same (.same (.same (.same (.same .nil))))))))))) (fun d48 x46 x47 n49 h => (g_name (i := 6) sc_law.nd rfl (by first | exact .inl rfl | exact .inr rfl) rfl (lb_ rfl) (show wB _ _ _ _ _ _ [zz p__law_script, oo x46, zz t4, nn, oo x47, nn, zz d48, nn, nn, nn, nn] from (b_cons (s_set (i := 8) sc_law.nd rfl (by first | exact .inl rfl | exact .inr rfl) rfl (e_at (rm64 hr) (e_lst (a_cons (e_str (a_cons (e_str (a_cons (e_str (a_cons (e_str (a_cons (e_str (a_cons (e_str (a_cons (e_str (a_cons (e_str (a_cons (e_str (a_cons (e_str (a_nil (dk (.cons (.cons (.cons (.cons (.cons (.cons (.cons (.cons (.cons (.cons .nil)))))))))) (szB rfl) (zls (e_call C__law_pick (hr.mono (by decide)) (L2N.takes_of rfl rfl rfl rfl) rfl (a_cons (e_namep (pv 1) rfl (a_cons (e_int (a_nil (callI (.pt rfl (.ow .nil)) ⟨x46, (.int 10), rfl, _, _, h, fun r51 x50 h => backI (.pt rfl (.ow .nil)) (ρ3 := [zz p__law_script, oo x50, zz t4, nn, oo x47, nn, zz d48, nn, nn, nn, nn]) rfl (k2 VwE.z VwE.z h fun t52 h => ⟨lb_ rfl, (show wB _ _ _ _ _ _ [zz p__law_script, oo x50, zz t4, nn, oo x47, nn, zz d48, nn, zz t52, nn, nn] from (b_cons (s_asg (e_call C__law_row (hr.mono (by decide)) (L2N.takes_of rfl rfl rfl rfl) rfl (a_cons (e_call C__law_tape (hr.mono (by decide)) (L2N.takes_of rfl rfl rfl rfl) rfl (a_cons (e_name (pv 0) rfl (a_cons (e_add (e_int (e_name (pv 6) rfl (k2 VwE.z VwE.z h fun t53 h => (a_nil (callI (.ow (.ow .nil)) ⟨p__law_script, t53, rfl, _, _, h, fun r54 h => backI (.ow (.ow .nil)) (ρ3 := [zz p__law_script, oo x50, zz t4, nn, oo x47, nn, zz d48, nn, zz t52, nn, nn]) rfl (a_cons (e_name (pv 2) rfl (a_nil (callI (.ow (.ow .nil)) ⟨r54, t4, rfl, _, _, h, fun r56 x55 h => backI (.ow (.ow .nil)) (ρ3 := [zz p__law_script, oo x50, zz t4, nn, oo x47, nn, zz d48, nn, zz t52, nn, nn]) rfl (g_sub (rm64 hr) (e_namep (pv 4) rfl (e_name (pv 8) rfl (suk rfl VwE.z h fun x57 h => (show wB _ _ _ _ _ _ [zz p__law_script, oo x50, zz t4, nn, oo x57, nn, zz d48, nn, zz t52, nn, nn] from (b_nil ⟨_, _, (.same (.same (.same (.same (.same (.same (.drop (.same (.drop (.same (.same .nil))))))))))), h⟩)))))), fun x h y0 => backI (.ow (.ow .nil)) (ρ3 := [zz p__law_script, oo x50, zz t4, nn, oo x47, nn, zz d48, nn, zz t52, nn, nn]) rfl (hE x h)⟩)))), fun x h => backI (.ow (.ow .nil)) (ρ3 := [zz p__law_script, oo x50, zz t4, nn, oo x47, nn, zz d48, nn, zz t52, nn, nn]) rfl (hE x h)⟩)))))))))))))))⟩), fun x h y0 => backI (.pt rfl (.ow .nil)) (ρ3 := [zz p__law_script, y0, zz t4, nn, oo x47, nn, zz d48, nn, nn, nn, nn]) rfl (hE x h)⟩))))))))))))))))))))))))))))))))))))) (fun x46 x47 ρ le h => wB.drop le (show wB _ _ _ _ _ _ [zz p__law_script, oo x46, zz t4, nn, oo x47, nn, nn, nn, nn, nn, nn] from (b_j1 (fun x58 => [zz p__law_script, nn, zz x58, nn, oo x47, nn, nn, nn, nn, nn, nn]) h (fun x58 h => (show wB _ _ _ _ _ _ [zz p__law_script, nn, zz x58, nn, oo x47, nn, nn, nn, nn, nn, nn] from (b_cons (s_set (i := 9) sc_law.nd rfl (by first | exact .inl rfl | exact .inr rfl) rfl (e_bN (ae_repr hgd (rm64 hr) rfl B.repr_ ewA) (a_cons (e_namep (pv 4) rfl (a_nil (kN (.cons (VwE.o rfl) .nil) h fun t59 h => ⟨lb_ rfl, (show wB _ _ _ _ _ _ [zz p__law_script, nn, zz x58, nn, oo x47, nn, nn, nn, nn, zz t59, nn] from (b_cons (s_set (i := 10) sc_law.nd rfl (by first | exact .inl rfl | exact .inr rfl) rfl (wE.lend (.same (.drop (.same (.drop (.view (flat_own _) (.drop (.drop (.drop (.drop (.same (.drop .nil))))))))))) (e_call C__law_due (hr.mono (by decide)) (L2N.takes_of rfl rfl rfl rfl) rfl (a_cons (e_name (pv 2) rfl (a_cons (e_name (pv 4) rfl (a_nil (callI (.ow (.ow .nil)) ⟨x58, x47, rfl, _, _, h, fun r60 h => backI (.ow (.ow .nil)) (ρ3 := [zz p__law_script, nn, zz x58, nn, zz x47, nn, nn, nn, nn, zz t59, nn]) rfl (lendZG h fun h => ⟨lb_ rfl, (show wB _ _ _ _ _ _ [zz p__law_script, nn, zz x58, nn, oo x47, nn, nn, nn, nn, zz t59, zz r60] from (wB.frzo (i := 4) rfl (show wB _ _ _ _ _ _ [zz p__law_script, nn, zz x58, nn, zz x47, nn, nn, nn, nn, zz t59, zz r60] from (b_cons (s_ret (e_j (ρ' := [zz p__law_script, nn, zz x58, nn, zz x47, nn, nn, nn, nn, zz t59, zz r60]) h (fun r61 h => (hQ _ h)) fun h key => (e_and (e_c (c_eq (rm64 hr)) (e_call C__law_told (hr.mono (by decide)) (L2N.takes_of rfl rfl rfl rfl) rfl (a_cons (e_name (pv 2) rfl (a_cons (e_name (pv 4) rfl (a_nil (callI (.ow (.ow .nil)) ⟨x58, x47, rfl, _, _, h, fun r63 h => backI (.ow (.ow .nil)) (ρ3 := [zz p__law_script, nn, zz x58, nn, zz x47, nn, nn, nn, nn, zz t59, zz r60]) rfl (e_name (pv 10) rfl (k2 VwE.z VwE.z h fun t64 h => (tk VwE.z h fun b65 h => itk h (fun h => (e_and (e_c (c_eq (rm64 hr)) (e_call C__law_told (hr.mono (by decide)) (L2N.takes_of rfl rfl rfl rfl) rfl (a_cons (e_name (pv 2) rfl (a_cons (e_name (pv 4) rfl (a_nil (callI (.ow (.ow .nil)) ⟨x58, x47, rfl, _, _, h, fun r66 h => backI (.ow (.ow .nil)) (ρ3 := [zz p__law_script, nn, zz x58, nn, zz x47, nn, nn, nn, nn, zz t59, zz r60]) rfl (e_name (pv 10) rfl (k2 VwE.z VwE.z h fun t67 h => (tk VwE.z h fun b68 h => itk h (fun h => (e_one (e_c (c_eq (rm64 hr)) (e_bN (ae_repr hgd (rm64 hr) rfl B.repr_ ewA) (a_cons (e_name (pv 4) rfl (a_nil (kN (.cons VwE.z .nil) h fun t69 h => (e_name (pv 9) rfl (k2 VwE.z VwE.z h fun t70 h => (key _ h))))))))))) (fun h => (key _ h))))), fun x h => backI (.ow (.ow .nil)) (ρ3 := [zz p__law_script, nn, zz x58, nn, zz x47, nn, nn, nn, nn, zz t59, zz r60]) rfl (hE x h)⟩)))))))))) (fun h => (key _ h))))), fun x h => backI (.ow (.ow .nil)) (ρ3 := [zz p__law_script, nn, zz x58, nn, zz x47, nn, nn, nn, nn, zz t59, zz r60]) rfl (hE x h)⟩)))))))))))))))⟩), fun x h => backI (.ow (.ow .nil)) (ρ3 := [zz p__law_script, nn, zz x58, nn, zz x47, nn, nn, nn, nn, zz t59, nn]) rfl ⟨h.1, (have h := h.2; (hE x h))⟩⟩)))))))))))⟩))))))))) fun h key => (s_if (t_c (c_eq (rm64 hr)) (e_call C__law_pick (hr.mono (by decide)) (L2N.takes_of rfl rfl rfl rfl) rfl (a_cons (e_namep (pv 1) rfl (a_cons (e_int (a_nil (callI (.pt rfl (.ow .nil)) ⟨x46, (.int 5), rfl, _, _, h, fun r73 x72 h => backI (.pt rfl (.ow .nil)) (ρ3 := [zz p__law_script, oo x72, zz t4, nn, oo x47, nn, nn, nn, nn, nn, nn]) rfl (e_int (k2 VwE.z VwE.z h fun t74 h => (tk VwE.z h fun b75 h => (itk h (fun h => (b_cons (s_set (i := 2) sc_law.nd rfl (by first | exact .inl rfl | exact .inr rfl) rfl (e_neg (e_call C__law_pick (hr.mono (by decide)) (L2N.takes_of rfl rfl rfl rfl) rfl (a_cons (e_namep (pv 1) rfl (a_cons (e_int (a_nil (callI (.pt rfl (.ow .nil)) ⟨x72, (.int 3), rfl, _, _, h, fun r77 x76 h => backI (.pt rfl (.ow .nil)) (ρ3 := [zz p__law_script, oo x76, zz t4, nn, oo x47, nn, nn, nn, nn, nn, nn]) rfl (k1 VwE.z h fun t78 h => ⟨lb_ rfl, (show wB _ _ _ _ _ _ [zz p__law_script, oo x76, zz t78, nn, oo x47, nn, nn, nn, nn, nn, nn] from (b_nil (key _ _ (.same (.drop (.same (.same (.same (.same (.same (.same (.same (.same (.same .nil))))))))))) h)))⟩), fun x h y0 => backI (.pt rfl (.ow .nil)) (ρ3 := [zz p__law_script, y0, zz t4, nn, oo x47, nn, nn, nn, nn, nn, nn]) rfl (hE x h)⟩))))))))))) (fun h => (b_nil (key _ _ (.same (.drop (.same (.same (.same (.same (.same (.same (.same (.same (.same .nil))))))))))) h))))))), fun x h y0 => backI (.pt rfl (.ow .nil)) (ρ3 := [zz p__law_script, y0, zz t4, nn, oo x47, nn, nn, nn, nn, nn, nn]) rfl (hE x h)⟩))))))))))))))))), fun x h y0 => backI (.pt rfl (.ow .nil)) (ρ3 := [zz p__law_script, y0, zz t4, zz t12, oo x31, nn, nn, nn, nn, nn, nn]) rfl (hE x h)⟩))))))))))))))))), fun x h y0 => backI (.pt rfl (.ow .nil)) (ρ3 := [zz p__law_script, y0, zz t4, zz t12, oo x15, nn, nn, nn, nn, nn, nn]) rfl (hE x h)⟩))))))))))))))))))))))))), fun x h => backI (.ow (.ow .nil)) (ρ3 := [zz p__law_script, nn, zz t4, zz t12, zz x15, nn, nn, nn, nn, nn, nn]) rfl ⟨h.1, (have h := h.2; (hE x h))⟩⟩))))))))))))))))))))))))))⟩))))⟩))), fun x h y0 => backI (.pt rfl (.ow .nil)) (ρ3 := [zz p__law_script, y0, zz t4, nn, nn, nn, nn, nn, nn, nn, nn]) rfl (hE x h)⟩)))))))))))), fun x h y0 => backI (.pt rfl (.ow .nil)) (ρ3 := [zz p__law_script, y0, zz t4, nn, nn, nn, nn, nn, nn, nn, nn]) rfl (hE x h)⟩))))))))))))))))))))))))))))))))))))))))))⟩), fun x h y0 => backI (.pt rfl (.ow .nil)) (ρ3 := [zz p__law_script, y0, nn, nn, nn, nn, nn, nn, nn, nn, nn]) rfl (hE x h)⟩))))))))))))⟩, fun x h => backI (.ow (.ow .nil)) (ρ3 := [zz p__law_script, nn, nn, nn, nn, nn, nn, nn, nn, nn, nn]) rfl (hE x h)⟩))))))))))⟩
end T
namespace T
open PySem L2 AE AH
theorem facts {P : Program} {w : World} {K : PySem.W.Frag} {h : Heap} {mg : Str → Option Value} {fa : Addr} (X : K.In h) (G : h.Ns mainGlobals mg) (hfa : mg ("law" : Str) = some (.ref fa)) (c0 : AH.SaysC chk fn K) :
    ∃ fd : FuncData, (∀ (s : Shared) (v : Value), BindsTo s fd ⟨[v], []⟩ [("_law_script", v)]) ∧ ∀ base : Heap, K.In base → base.Ns mainGlobals mg → AH.FnOkG P w K mg base (L2N.CX P w) 7 fa fd ["_law_script"] (spA K 1 (F_law (C K))) := by
  obtain ⟨ck, c⟩ := c0
  obtain ⟨c1, ck⟩ := andB ck
  obtain ⟨c2, ck⟩ := andB ck
  obtain ⟨c3, ck⟩ := andB ck
  obtain ⟨c4, ck⟩ := andB ck
  obtain ⟨c5, ck⟩ := andB ck
  obtain ⟨c6, ck⟩ := andB ck
  obtain ⟨c7, ck⟩ := andB ck
  obtain ⟨c8, ck⟩ := andB ck
  obtain ⟨c9, ck⟩ := andB ck
  obtain ⟨c10, ck⟩ := andB ck
  obtain ⟨c11, ck⟩ := andB ck
  have fr : ∀ x ∈ frees, mg x = none := fun x hx => freeB_ok X G (List.all_eq_true.mp c1 x hx)
  have gl : ∀ x ∈ glos, mg x = some (.ref (C K x)) := fun x hx => gloB_ok X G (List.all_eq_true.mp c2 x hx)
  have cl : ∀ x ∈ owns, Cls K (C K x) := fun x hx => clsB_ok (andB (List.all_eq_true.mp c5 x hx)).1
  have ins : ∀ x ∈ owns, InsIs K (C K x) := fun x hx => insB_ok (cl x hx) (andB (List.all_eq_true.mp c5 x hx)).2
  have xis : ∀ x ∈ exs, XIs K (C K x) := by
    have h3 : ∀ x ∈ plains, XIs K (C K x) := fun x hx => (excB_ok (andB (andB (List.all_eq_true.mp c3 x hx)).2).1).xi
    have h4 : ∀ p ∈ onesL, XIs K (C K p.1) := fun p hp => (excB_ok (andB (andB (List.all_eq_true.mp c4 p hp)).2).1).xi
    have hs : ∀ x ∈ exs, x ∈ plains ∨ x ∈ onesL.map (·.1) := by decide
    intro x hx
    rcases hs x hx with z | z
    · exact h3 x z
    · obtain ⟨p, hp, rfl⟩ := List.mem_map.mp z
      exact h4 p hp
  have me : ∀ p ∈ mets, Meth K (C K p.1) p.2 (ma K (C K p.1) p.2) := fun p hp => methB_ok (List.all_eq_true.mp c7 p hp)
  have pr : ∀ p ∈ props, PropOf K (C K p.1) p.2 (ma K (C K p.1) p.2) (He5.wf K (C K p.1) "property" p.2) := fun p hp => propB_ok (List.all_eq_true.mp c8 p hp)
  have mk : ∀ x ∈ mks, Mk K (C K x) (ma K (C K x) "__init__") := fun x hx => mkB_ok (List.all_eq_true.mp c10 x hx)
  have B : Blt mg := ⟨fr "ValueError" (by decide), fr "abs" (by decide), fr "all" (by decide), fr "any" (by decide), fr "bool" (by decide), fr "enumerate" (by decide), fr "int" (by decide), fr "isinstance" (by decide), fr "len" (by decide), fr "list" (by decide), fr "range" (by decide), fr "repr" (by decide), fr "sorted" (by decide), fr "str" (by decide), fr "tuple" (by decide)⟩
  obtain ⟨fd__law_tape, D__law_tape⟩ := c.def_ 0 (d := df__law_tape) rfl
  obtain ⟨fd__law_pick, D__law_pick⟩ := c.def_ 1 (d := df__law_pick) rfl
  obtain ⟨fd__law_row, D__law_row⟩ := c.def_ 2 (d := df__law_row) rfl
  obtain ⟨fd_check_states, D_check_states⟩ := c.def_ 3 (d := df_check_states) rfl
  obtain ⟨fd_is_step_name, D_is_step_name⟩ := c.def_ 4 (d := df_is_step_name) rfl
  obtain ⟨fd_is_state, D_is_state⟩ := c.def_ 5 (d := df_is_state) rfl
  obtain ⟨fd_is_table, D_is_table⟩ := c.def_ 6 (d := df_is_table) rfl
  obtain ⟨fd_turned, D_turned⟩ := c.def_ 7 (d := df_turned) rfl
  obtain ⟨fd_System___init__, D_System___init__⟩ := c.def_ 8 (d := df_System___init__) rfl
  obtain ⟨fd_System___len__, D_System___len__⟩ := c.def_ 9 (d := df_System___len__) rfl
  obtain ⟨fd__law_told, D__law_told⟩ := c.def_ 10 (d := df__law_told) rfl
  obtain ⟨fd__law_spoilt, D__law_spoilt⟩ := c.def_ 11 (d := df__law_spoilt) rfl
  obtain ⟨fd__law_fine, D__law_fine⟩ := c.def_ 12 (d := df__law_fine) rfl
  obtain ⟨fd__law_due, D__law_due⟩ := c.def_ 13 (d := df__law_due) rfl
  obtain ⟨fd_law, D_law⟩ := c.def_ 14 (d := df_law) rfl
  obtain ⟨fd_BadName, D_BadName⟩ := c.def_ 15 (d := df_BadName) rfl
  obtain ⟨fd_BadStates, D_BadStates⟩ := c.def_ 16 (d := df_BadStates) rfl
  obtain ⟨fd_BadTable, D_BadTable⟩ := c.def_ 17 (d := df_BadTable) rfl
  obtain rfl : C K "law" = fa := by have e := (gl "law" (by decide)).symm.trans hfa; injection e with e; injection e with e
  refine ⟨fd_law, fun s v => FunD.bindsA (ps := ["_law_script"]) D_law (fun _ _ _ _ _ _ us hl => match us, hl with | [_], _ => rfl) s [v] rfl, fun base _ _ => ?_⟩
  have X_StepError : XPlain K mg "StepError" (C K "StepError") := by
    have z := List.all_eq_true.mp c3 "StepError" (by decide)
    obtain ⟨z1, z⟩ := andB z
    obtain ⟨z2, z3⟩ := andB z
    exact plain_ok X G z1 (excB_ok z2) z3
  have XX_BadName : XOneK P w K mg base "BadName" (C K "BadName") "name" "name" ∧ XfD K (C K "BadName") "name" := by
    have z := List.all_eq_true.mp c4 ("BadName", "name") (by decide)
    obtain ⟨z1, z⟩ := andB z
    obtain ⟨z2, z3⟩ := andB z
    exact (one_ok X G z1 (excB_ok z2) z3 (fun_of (st := s_BadName) D_BadName) ⟨rfl, rfl, rfl, by decide +kernel, rfl, by decide +kernel, by decide +kernel⟩ rfl (by decide) (by decide) (by first | exact .inl rfl | exact .inr rfl) (by first | exact .inl rfl | exact .inr rfl) (FunD.bindsN (ps := ["self", "name"]) D_BadName fun _ _ _ _ _ _ us hl => match us, hl with | [_, _], _ => rfl) (bindsK D_BadName fun _ _ _ _ _ _ a u => rfl))
  have X_BadName := XX_BadName.1
  have XF_BadName := XX_BadName.2
  have XX_BadStates : XOneK P w K mg base "BadStates" (C K "BadStates") "states" "states" ∧ XfD K (C K "BadStates") "states" := by
    have z := List.all_eq_true.mp c4 ("BadStates", "states") (by decide)
    obtain ⟨z1, z⟩ := andB z
    obtain ⟨z2, z3⟩ := andB z
    exact (one_ok X G z1 (excB_ok z2) z3 (fun_of (st := s_BadStates) D_BadStates) ⟨rfl, rfl, rfl, by decide +kernel, rfl, by decide +kernel, by decide +kernel⟩ rfl (by decide) (by decide) (by first | exact .inl rfl | exact .inr rfl) (by first | exact .inl rfl | exact .inr rfl) (FunD.bindsN (ps := ["self", "states"]) D_BadStates fun _ _ _ _ _ _ us hl => match us, hl with | [_, _], _ => rfl) (bindsK D_BadStates fun _ _ _ _ _ _ a u => rfl))
  have X_BadStates := XX_BadStates.1
  have XF_BadStates := XX_BadStates.2
  have XX_BadTable : XOneK P w K mg base "BadTable" (C K "BadTable") "step" "step" ∧ XfD K (C K "BadTable") "step" := by
    have z := List.all_eq_true.mp c4 ("BadTable", "step") (by decide)
    obtain ⟨z1, z⟩ := andB z
    obtain ⟨z2, z3⟩ := andB z
    exact (one_ok X G z1 (excB_ok z2) z3 (fun_of (st := s_BadTable) D_BadTable) ⟨rfl, rfl, rfl, by decide +kernel, rfl, by decide +kernel, by decide +kernel⟩ rfl (by decide) (by decide) (by first | exact .inl rfl | exact .inr rfl) (by first | exact .inl rfl | exact .inr rfl) (FunD.bindsN (ps := ["self", "step"]) D_BadTable fun _ _ _ _ _ _ us hl => match us, hl with | [_, _], _ => rfl) (bindsK D_BadTable fun _ _ _ _ _ _ a u => rfl))
  have X_BadTable := XX_BadTable.1
  have XF_BadTable := XX_BadTable.2
  have G_BadName : GlobD K mg "BadName" (.cl (C K "BadName")) := ⟨_, .ref _, X_BadName.mgC, rfl, fun _ => rfl⟩
  have G_BadStates : GlobD K mg "BadStates" (.cl (C K "BadStates")) := ⟨_, .ref _, X_BadStates.mgC, rfl, fun _ => rfl⟩
  have G_BadTable : GlobD K mg "BadTable" (.cl (C K "BadTable")) := ⟨_, .ref _, X_BadTable.mgC, rfl, fun _ => rfl⟩
  have G_StepError : GlobD K mg "StepError" (.cl (C K "StepError")) := ⟨_, .ref _, X_StepError.mgC, rfl, fun _ => rfl⟩
  obtain ⟨d0, c11⟩ := andB c11
  have G_LETTERS : GlobD K mg "LETTERS" g_LETTERS := conB_ok X G d0 fun _ => rfl
  obtain ⟨d1, c11⟩ := andB c11
  have G_MOST_LETTERS : GlobD K mg "MOST_LETTERS" g_MOST_LETTERS := conB_ok X G d1 fun _ => rfl
  obtain ⟨d2, c11⟩ := andB c11
  have G_RESERVED : GlobD K mg "RESERVED" g_RESERVED := tup_ok X G (andB d2).1 (andB d2).2 fun _ => ⟨_, _, rfl, rfl, ⟨_, _, rfl, rfl, ⟨_, _, rfl, rfl, ⟨_, _, rfl, rfl, rfl⟩⟩⟩⟩
  obtain ⟨k0, ck⟩ := andB ck
  have IT_int : IsTy K "int" := isTyB_ok k0
  obtain ⟨k1, ck⟩ := andB ck
  have IT_bool : IsTy K "bool" := isTyB_ok k1
  obtain ⟨k2, ck⟩ := andB ck
  have IT_list : IsTy K "list" := isTyB_ok k2
  obtain ⟨k3, ck⟩ := andB ck
  have IT_tuple : IsTy K "tuple" := isTyB_ok k3
  obtain ⟨k4, ck⟩ := andB ck
  have XM_BadTable : ExM K (C K) exs "BadTable" (.ref (C K "BadTable")) := exMB_ok k4
  obtain ⟨k5, ck⟩ := andB ck
  have XM_BadName : ExM K (C K) exs "BadName" (.ref (C K "BadName")) := exMB_ok k5
  obtain ⟨k6, ck⟩ := andB ck
  have XM_BadStates : ExM K (C K) exs "BadStates" (.ref (C K "BadStates")) := exMB_ok k6
  obtain ⟨k7, ck⟩ := andB ck
  have IX_StepError : IsX K (C K) exs "StepError" (.ref (C K "StepError")) := isXB_ok xis k7
  obtain ⟨k8, ck⟩ := andB ck
  have IX_ValueError : IsX K (C K) exs "ValueError" (.type "ValueError") := isXB_ok xis k8
  have FO_System_numbers : FldOk K (C K "System") "numbers" := fldB_ok (cl "System" (by decide)) (List.all_eq_true.mp c6 ("System", "numbers") (by decide))
  have FO_System_led : FldOk K (C K "System") "led" := fldB_ok (cl "System" (by decide)) (List.all_eq_true.mp c6 ("System", "led") (by decide))
  have OK__law_tape := ok__law_tape (P := P) (w := w) (base := base) (cn := C K) B  D__law_tape
  have C__law_tape : Cal P w K mg base 1 "_law_tape" ["_law_script", "_law_k"] (F__law_tape (C K)) := ⟨⟨_, _, gl "_law_tape" (by decide), D__law_tape.kp, FunD.bindsN (ps := ["_law_script", "_law_k"]) D__law_tape fun _ _ _ _ _ _ us hl => match us, hl with | [_, _], _ => rfl, OK__law_tape⟩, fun _ _ _ h => by obtain ⟨_, _, rfl, _⟩ := h; rfl⟩
  have OK__law_pick := ok__law_pick (P := P) (w := w) (base := base) (cn := C K) B  D__law_pick
  have C__law_pick : Cal P w K mg base 1 "_law_pick" ["_law_tape_here", "_law_many"] (F__law_pick (C K)) := ⟨⟨_, _, gl "_law_pick" (by decide), D__law_pick.kp, FunD.bindsN (ps := ["_law_tape_here", "_law_many"]) D__law_pick fun _ _ _ _ _ _ us hl => match us, hl with | [_, _], _ => rfl, OK__law_pick⟩, fun _ _ _ h => by obtain ⟨_, _, rfl, _⟩ := h; rfl⟩
  have OK__law_row := ok__law_row (P := P) (w := w) (base := base) (cn := C K) B C__law_pick D__law_row
  have C__law_row : Cal P w K mg base 2 "_law_row" ["_law_tape_here", "_law_spots"] (F__law_row (C K)) := ⟨⟨_, _, gl "_law_row" (by decide), D__law_row.kp, FunD.bindsN (ps := ["_law_tape_here", "_law_spots"]) D__law_row fun _ _ _ _ _ _ us hl => match us, hl with | [_, _], _ => rfl, OK__law_row⟩, fun _ _ _ h => by obtain ⟨_, _, rfl, _⟩ := h; rfl⟩
  have OK_check_states := ok_check_states (P := P) (w := w) (base := base) (cn := C K) B X_BadStates IT_int IT_bool D_check_states
  have C_check_states : Cal P w K mg base 3 "check_states" ["states"] (F_check_states (C K)) := ⟨⟨_, _, gl "check_states" (by decide), D_check_states.kp, FunD.bindsN (ps := ["states"]) D_check_states fun _ _ _ _ _ _ us hl => match us, hl with | [_], _ => rfl, OK_check_states⟩, fun _ _ _ h => by obtain ⟨_, rfl, _⟩ := h; rfl⟩
  have OK_is_step_name := ok_is_step_name (P := P) (w := w) (base := base) (cn := C K) B G_LETTERS G_MOST_LETTERS G_RESERVED D_is_step_name
  have C_is_step_name : Cal P w K mg base 1 "is_step_name" ["name"] (F_is_step_name (C K)) := ⟨⟨_, _, gl "is_step_name" (by decide), D_is_step_name.kp, FunD.bindsN (ps := ["name"]) D_is_step_name fun _ _ _ _ _ _ us hl => match us, hl with | [_], _ => rfl, OK_is_step_name⟩, fun _ _ _ h => by obtain ⟨_, rfl, _⟩ := h; rfl⟩
  have OK_is_state := ok_is_state (P := P) (w := w) (base := base) (cn := C K) B IT_int IT_bool D_is_state
  have C_is_state : Cal P w K mg base 1 "is_state" ["value", "states"] (F_is_state (C K)) := ⟨⟨_, _, gl "is_state" (by decide), D_is_state.kp, FunD.bindsN (ps := ["value", "states"]) D_is_state fun _ _ _ _ _ _ us hl => match us, hl with | [_, _], _ => rfl, OK_is_state⟩, fun _ _ _ h => by obtain ⟨_, _, rfl, _⟩ := h; rfl⟩
  have OK_is_table := ok_is_table (P := P) (w := w) (base := base) (cn := C K) B C_is_state IT_list IT_tuple D_is_table
  have C_is_table : Cal P w K mg base 2 "is_table" ["items", "states"] (F_is_table (C K)) := ⟨⟨_, _, gl "is_table" (by decide), D_is_table.kp, FunD.bindsN (ps := ["items", "states"]) D_is_table fun _ _ _ _ _ _ us hl => match us, hl with | [_, _], _ => rfl, OK_is_table⟩, fun _ _ _ h => by obtain ⟨_, _, rfl, _⟩ := h; rfl⟩
  have OK_turned := ok_turned (P := P) (w := w) (base := base) (cn := C K) B  D_turned
  have C_turned : Cal P w K mg base 1 "turned" ["items"] (F_turned (C K)) := ⟨⟨_, _, gl "turned" (by decide), D_turned.kp, FunD.bindsN (ps := ["items"]) D_turned fun _ _ _ _ _ _ us hl => match us, hl with | [_], _ => rfl, OK_turned⟩, fun _ _ _ h => by obtain ⟨_, rfl, _⟩ := h; rfl⟩
  have OK_System___init__ := ok_System___init__ (P := P) (w := w) (base := base) (cn := C K) B C_check_states C_is_step_name X_BadName FO_System_numbers FO_System_led C_is_table X_BadTable C_turned D_System___init__
  have MB_System_p0_states_tables : MakB P w K mg base 4 "System" (C K "System") ["self", "states", "tables"] (F_System___init__ (C K)) 0 ["states", "tables"] [0, 1] [] := ⟨gl "System" (by decide), ⟨_, _, mk "System" (by decide), (Bd.of0 D_System___init__ fun _ _ _ _ _ _ us ws h1 h2 => match us, ws, h1, h2 with | [_], [_, _], _, _ => rfl), OK_System___init__⟩, fun _ _ _ h => by obtain ⟨_, _, rfl, _⟩ := h; rfl⟩
  have OK_System___len__ := ok_System___len__ (P := P) (w := w) (base := base) (cn := C K) B FO_System_numbers D_System___len__
  have O_System___len__ : OwO P w K mg base 1 (C K "System") "__len__" 1 (F_System___len__ (C K)) := ⟨⟨_, _, ["self"], (me ("System", "__len__") (by decide)).at_, (me ("System", "__len__") (by decide)).fn, FunD.bindsN (ps := ["self"]) D_System___len__ fun _ _ _ _ _ _ us hl => match us, hl with | [_], _ => rfl, rfl, OK_System___len__⟩, fun _ _ _ h => by obtain ⟨_, rfl, _⟩ := h; rfl⟩
  have OK__law_told := ok__law_told (P := P) (w := w) (base := base) (cn := C K) B X_BadTable XM_BadTable IX_StepError XF_BadTable G_StepError X_BadName XM_BadName XF_BadName X_BadStates XM_BadStates XF_BadStates IX_ValueError MB_System_p0_states_tables O_System___len__ D__law_told
  have C__law_told : Cal P w K mg base 6 "_law_told" ["_law_spots", "_law_rows"] (F__law_told (C K)) := ⟨⟨_, _, gl "_law_told" (by decide), D__law_told.kp, FunD.bindsN (ps := ["_law_spots", "_law_rows"]) D__law_told fun _ _ _ _ _ _ us hl => match us, hl with | [_, _], _ => rfl, OK__law_told⟩, fun _ _ _ h => by obtain ⟨_, _, rfl, _⟩ := h; rfl⟩
  have OK__law_spoilt := ok__law_spoilt (P := P) (w := w) (base := base) (cn := C K) B C__law_pick D__law_spoilt
  have C__law_spoilt : Cal P w K mg base 2 "_law_spoilt" ["_law_tape_here", "_law_row_here", "_law_spots"] (F__law_spoilt (C K)) := ⟨⟨_, _, gl "_law_spoilt" (by decide), D__law_spoilt.kp, FunD.bindsN (ps := ["_law_tape_here", "_law_row_here", "_law_spots"]) D__law_spoilt fun _ _ _ _ _ _ us hl => match us, hl with | [_, _, _], _ => rfl, OK__law_spoilt⟩, fun _ _ _ h => by obtain ⟨_, _, _, rfl, _⟩ := h; rfl⟩
  have OK__law_fine := ok__law_fine (P := P) (w := w) (base := base) (cn := C K) B  D__law_fine
  have C__law_fine : Cal P w K mg base 1 "_law_fine" ["_law_row_here", "_law_spots"] (F__law_fine (C K)) := ⟨⟨_, _, gl "_law_fine" (by decide), D__law_fine.kp, FunD.bindsN (ps := ["_law_row_here", "_law_spots"]) D__law_fine fun _ _ _ _ _ _ us hl => match us, hl with | [_, _], _ => rfl, OK__law_fine⟩, fun _ _ _ h => by obtain ⟨_, _, rfl, _⟩ := h; rfl⟩
  have OK__law_due := ok__law_due (P := P) (w := w) (base := base) (cn := C K) B C__law_fine D__law_due
  have C__law_due : Cal P w K mg base 2 "_law_due" ["_law_spots", "_law_rows"] (F__law_due (C K)) := ⟨⟨_, _, gl "_law_due" (by decide), D__law_due.kp, FunD.bindsN (ps := ["_law_spots", "_law_rows"]) D__law_due fun _ _ _ _ _ _ us hl => match us, hl with | [_, _], _ => rfl, OK__law_due⟩, fun _ _ _ h => by obtain ⟨_, _, rfl, _⟩ := h; rfl⟩
  have OK_law := ok_law (P := P) (w := w) (base := base) (cn := C K) B C__law_tape C__law_pick C__law_row C__law_told C__law_spoilt C__law_due D_law
  exact OK_law
end T
namespace T
open PySem L2 AE AH
end T
open PySem PySem.W PySem.Calls PyProof.Rows
set_option maxRecDepth 100000 in
set_option maxHeartbeats 0 in
theorem PySem.Challenge.cw_stephulls_k21_tables_refused_holds : PySem.Challenge.rw_stephulls_k21_tables_refused.Holds := by
  w_on; o_law
  refine HandSHeadRun.head_any (r := OpenLaw.row PySem.Challenge.rw_stephulls_k21_tables_refused) (q := view (OpenLaw.row PySem.Challenge.rw_stephulls_k21_tables_refused).prog [29]) (H := T.hk) (ob := AH.seeR T.chk T.fn) (M := 12000) (loose := T.lo) (d := HandSHeadRun.topDef (OpenLaw.row PySem.Challenge.rw_stephulls_k21_tables_refused).prog 29) (kwd := []) AH.seeR_eq
    (by kernel_rfl) (fun s => by kernel_rfl) T.run (by kernel_rfl) (by kernel_rfl) (by kernel_rfl) (by rfl) (by first | assumption | decide +kernel) (by decide +kernel) ⟨rfl, rfl, rfl, rfl, rfl, by decide +kernel⟩ ?hw ?hc
  case hw => w_witness2
  case hc =>
    refine AH.walk_ofG (l := PySem.Challenge.rw_stephulls_k21_tables_refused) (n := 63) (k := 7) (x := "_law_script") (CX := fun w => L2N.CX (PySem.Challenge.rw_stephulls_k21_tables_refused).prog w) rfl (by decide) (by kernel_rfl) ⟨rfl, by decide, by decide⟩ ?F (fun _ _ _ _ _ z => AH.noCX z)
    intro w mg fa h Y G hmg0
    obtain ⟨K, KX, c⟩ := Y
    have hmg : mg ("law" : PySem.Str) = some (.ref fa) := by
      have e : (HandSHeadRun.topDef (OpenLaw.row PySem.Challenge.rw_stephulls_k21_tables_refused).prog 29).name = ("law" : PySem.Str) := by kernel_rfl
      rw [← e]
      exact hmg0
    obtain ⟨fd, hb, hF⟩ := T.facts (P := (PySem.Challenge.rw_stephulls_k21_tables_refused).prog) (w := w) KX G hmg c
    exact ⟨K, fd, _, KX, hb, fun H a ns hl hS => AH.spLaw (T.pure_law (AH.C K)) H a ns hl hS, hF⟩
