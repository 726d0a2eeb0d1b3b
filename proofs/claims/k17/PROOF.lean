import PyProof.Rows.All
import Wide.All
import OpenK.AllK
import Wide.FinOn
import HandS.ExcInit
import HandS.HotCalls
import HandS.WordsExc
import HandS.Head0
import HandS.Head1
import HandS.Head2
import HandS.HeadEnd
import HandS.HeadHook1
import HandS.HeadHook2
import PySem.Challenge.RW_nonepassed_k17_signs_exchanged_and_rever
import HandS.ForMost
import HandS.StrMore
import HandS.Style
import HandS.Wide
import HandS.WideBits
import HandS.TupAny
import HandS.TupMul
import PyProof.ListStr
import HandS.IsInst
import PyProof.Rows.StrCountLaw
import HandS.BoundDict
import KE.GoesNew
import KE.GoesEnum
import KE.KDictZip
import PyProof.Rows.SortShellAny
import PyProof.ReprRoads
import PyProof.Rows.ReprShort
import PyProof.Rows.RegFStrParts
import HandS.ExcIs
import HandS.ExcField
import HandS.ExcCtx
set_option Elab.async false
set_option linter.all false
set_option maxRecDepth 100000
set_option maxHeartbeats 0
/-! The head, by facts of names. -/
namespace DL
open PySem PySem.Spec PyProof.Rows L2
/-- facts by names, the defs, and what else is asked -/
def obsX (fa : List He.Fa) (fn : List He.FnD) (chk : PySem.W.Frag → Bool) (K : PySem.W.Frag) : Bool × He.Al := (chk K, He.obsE fa fn K)
def obsXG (n : Nat) (fa : List He.Fa) (fn : List He.FnD) (chk : PySem.W.Frag → Bool) (g : Addr → Option Obj) : Bool × He.Al := obsX fa fn chk (He.frG g (He.asD g n))
def SaysX (fa : List He.Fa) (fn : List He.FnD) (chk : PySem.W.Frag → Bool) (K : PySem.W.Frag) : Prop := chk K = true ∧ He.SaysE fa fn K
def hookX (n : Nat) (fa : List He.Fa) (fn : List He.FnD) (chk : PySem.W.Frag → Bool) : PySem.W.Hook where
  α := Bool × He.Al
  obs := fun s => obsXG n fa fn chk s.heap.get?
  val := fun _ => (true, He.valE fn)
  says := fun _ h => ∃ K : PySem.W.Frag, K.In h ∧ SaysX fa fn chk K
  of := fun _ _ e => ⟨_, He.frG_in, congrArg (fun z : Bool × He.Al => z.1) e, congrArg (fun z : Bool × He.Al => z.2) e⟩
  keeps := fun _ _ _ ⟨K, hK, c⟩ k => ⟨K, PySem.W.Frag.In.keeps hK k, c⟩
theorem obsXG_eq {n : Nat} {fa : List He.Fa} {fn : List He.FnD} {chk : PySem.W.Frag → Bool} {g : Addr → Option Obj} {s : Shared} (h : ∀ a, g a = s.heap.get? a) : obsXG n fa fn chk g = (hookX n fa fn chk).obs s := by
  have e : g = s.heap.get? := funext h
  rw [e] <;> rfl
/-- an own error class whose __init__ is a def -/
def oexB (K : PySem.W.Frag) (C : Addr) : Bool := match K.lookup C with
  | some ⟨.type "type", _, .cls cd, sl⟩ => (match cd.mro, sl.toList with
    | .ref C' :: bm, [_, _, _, _, some (.builtin n), _] => C' == C && n == "ValueError.__new__" && !cd.hasDel && cd.hasDict && PySem.HandSPX.refsVE bm
    | _, _ => false)
  | _ => false
theorem oexB_ok {K : PySem.W.Frag} {C : Addr} (q : oexB K C = true) : ∃ nm q N bs bm sn sub ab col dd k0 k1 k2 k3 k5, K.lookup C = some (excClassObj nm q C N bs bm true sn sub ab col dd k0 k1 k2 k3 k5 "ValueError.__new__") ∧ PySem.HandSPX.refsVE bm = true := by
  unfold oexB at q
  split at q
  · rename_i dd cd sl look
    split at q
    · rename_i C' bm k0 k1 k2 k3 n k5 em es
      simp only [Bool.and_eq_true, beq_iff_eq, Bool.not_eq_true'] at q
      obtain ⟨⟨⟨⟨rfl, rfl⟩, dl⟩, hd⟩, rf⟩ := q
      obtain ⟨nm, bs, mro, N, qn, hdd, sn, sub, ab, col, del⟩ := cd
      dsimp only at em dl hd
      subst em dl hd
      obtain ⟨l⟩ := sl
      simp only at es
      subst es
      exact ⟨nm, qn, N, bs, bm, sn, sub, ab, col, dd, k0, k1, k2, k3, k5, look, rf⟩
    · cases q
  · cases q
end DL
namespace K17
open PySem PySem.Spec PyProof.Rows L2 DL
abbrev Pg : Program := PySem.Challenge.pw_nonepassed_k17_signs_exchanged_and_rever
def top (i : Nat) : Stmt := Pg.main.body.getD i (.Pass ⟨0, 0, 0, 0⟩)
def clsB : Stmt → List Stmt
  | .ClassDef _ _ _ b _ _ _ _ _ _ _ => b
  | _ => []
abbrev s_strikes_last : Stmt := top 42
abbrev s_common_front : Stmt := top 43
abbrev s_free_places : Stmt := top 44
abbrev s_strikes_some : Stmt := top 45
abbrev s_other_tokens : Stmt := top 46
abbrev s_counts_ahead : Stmt := top 47
abbrev s_swap_fault : Stmt := top 48
abbrev s_shift_fault : Stmt := top 49
abbrev s_fault : Stmt := top 50
abbrev s_put : Stmt := top 51
abbrev s_leaf_place : Stmt := top 52
abbrev s_places_in : Stmt := top 53
abbrev s_crossed : Stmt := top 54
abbrev s__law_mix : Stmt := top 56
abbrev s__law_store : Stmt := top 57
abbrev s__law_take : Stmt := top 58
abbrev s__law_yes : Stmt := top 59
abbrev s__law_span : Stmt := top 60
abbrev s__law_of : Stmt := top 61
abbrev s__law_order : Stmt := top 62
abbrev s__law_wide : Stmt := top 63
abbrev s__law_outside : Stmt := top 64
abbrev s__law_beyond : Stmt := top 65
abbrev s__law_ascii : Stmt := top 66
abbrev s__law_text : Stmt := top 67
abbrev s__law_ahead : Stmt := top 68
abbrev s__law_fault : Stmt := top 69
abbrev s__law_cross : Stmt := top 70
abbrev s__law_shaken : Stmt := top 71
abbrev s__law_names_of : Stmt := top 72
abbrev s__law_due_all : Stmt := top 73
abbrev s__law_counts_alike : Stmt := top 74
abbrev s__law_fault_due : Stmt := top 75
abbrev s__law_told : Stmt := top 76
abbrev s__law_is_due : Stmt := top 77
abbrev s__law_asked : Stmt := top 78
abbrev s__law_exchanged : Stmt := top 79
abbrev s__law_pair : Stmt := top 80
abbrev s__law_puts : Stmt := top 81
abbrev s__law_none_and_rows : Stmt := top 82
abbrev s_law : Stmt := top 83
abbrev s_init : Stmt := (clsB (top 1)).getD 0 (.Pass ⟨0, 0, 0, 0⟩)
def fnd (x : Str) (st : Stmt) : He.FnD := ⟨(x, none), x, x, defArgs st, defBody st, defScope st⟩
def fn0 : List He.FnD := [fnd "strikes_last" s_strikes_last, fnd "common_front" s_common_front, fnd "free_places" s_free_places, fnd "strikes_some" s_strikes_some, fnd "other_tokens" s_other_tokens, fnd "counts_ahead" s_counts_ahead, fnd "swap_fault" s_swap_fault, fnd "shift_fault" s_shift_fault, fnd "fault" s_fault, fnd "put" s_put, fnd "leaf_place" s_leaf_place, fnd "places_in" s_places_in, fnd "crossed" s_crossed, fnd "_law_mix" s__law_mix, fnd "_law_store" s__law_store, fnd "_law_take" s__law_take, fnd "_law_yes" s__law_yes, fnd "_law_span" s__law_span, fnd "_law_of" s__law_of, fnd "_law_order" s__law_order, fnd "_law_wide" s__law_wide, fnd "_law_outside" s__law_outside, fnd "_law_beyond" s__law_beyond, fnd "_law_ascii" s__law_ascii, fnd "_law_text" s__law_text, fnd "_law_ahead" s__law_ahead, fnd "_law_fault" s__law_fault, fnd "_law_cross" s__law_cross, fnd "_law_shaken" s__law_shaken, fnd "_law_names_of" s__law_names_of]
def fn1 : List He.FnD := [fnd "_law_due_all" s__law_due_all, fnd "_law_counts_alike" s__law_counts_alike, fnd "_law_fault_due" s__law_fault_due, fnd "_law_told" s__law_told, fnd "_law_is_due" s__law_is_due, fnd "_law_asked" s__law_asked, fnd "_law_exchanged" s__law_exchanged, fnd "_law_pair" s__law_pair, fnd "_law_puts" s__law_puts, fnd "_law_none_and_rows" s__law_none_and_rows, fnd "law" s_law, ⟨("NonePassedError", some "__init__"), "__init__", "NonePassedError.__init__", defArgs s_init, defBody s_init, defScope s_init⟩]
def fn : List He.FnD := fn0 ++ fn1
def fa0 : List He.Fa := [.glo "NonePassedError", .glo "BadKinds", .glo "BadKind", .glo "BadRow", .glo "BadLot", .glo "BadParting", .glo "BadLetters", .glo "BadNumber", .glo "BadName", .glo "BadRoom", .glo "BadDay", .glo "TooLong", .glo "BadStand", .glo "BadRule", .glo "BadCall", .glo "TooManyStands", .glo "BadText", .glo "BadTree", .glo "BadRows", .glo "BadMachine", .glo "BadException", .glo "BadPolicy", .glo "BadSpeech", .glo "BadGraft", .glo "NotSame", .glo "NotGood", .glo "IsGood", .glo "BadPlaces", .glo "Passed", .glo "Empty"]
def fa1 : List He.Fa := [.glo "NotEmpty", .glo "BadPaper", .glo "TooMany", .glo "NotOneLine", .glo "Endless", .glo "BadTable", .glo "BadBook", .glo "Clash", .glo "NothingToUndo", .glo "BadLine", .glo "strikes_last", .glo "common_front", .glo "free_places", .glo "strikes_some", .glo "other_tokens", .glo "counts_ahead", .glo "swap_fault", .glo "shift_fault", .glo "fault", .glo "put", .glo "leaf_place", .glo "places_in", .glo "crossed", .glo "_law_mix", .glo "_law_store", .glo "_law_take", .glo "_law_yes", .glo "_law_span", .glo "_law_of", .glo "_law_order"]
def fa2 : List He.Fa := [.glo "_law_wide", .glo "_law_outside", .glo "_law_beyond", .glo "_law_ascii", .glo "_law_text", .glo "_law_ahead", .glo "_law_fault", .glo "_law_cross", .glo "_law_shaken", .glo "_law_names_of", .glo "_law_due_all", .glo "_law_counts_alike", .glo "_law_fault_due", .glo "_law_told", .glo "_law_is_due", .glo "_law_asked", .glo "_law_exchanged", .glo "_law_pair", .glo "_law_puts", .glo "_law_none_and_rows", .glo "law", .free "ValueError", .free "bool", .free "enumerate", .free "int", .free "isinstance", .free "len", .free "list", .free "min", .free "range"]
def fa3 : List He.Fa := [.free "repr", .free "sorted", .free "zip"]
def fa : List He.Fa := fa0 ++ fa1 ++ fa2 ++ fa3
def kept0 : List Str := ["strikes_last", "common_front", "free_places", "strikes_some", "other_tokens", "counts_ahead", "swap_fault", "shift_fault", "fault", "put", "leaf_place", "places_in", "crossed", "_law_mix", "_law_store", "_law_take", "_law_yes", "_law_span", "_law_of", "_law_order", "_law_wide", "_law_outside", "_law_beyond", "_law_ascii", "_law_text", "_law_ahead", "_law_fault", "_law_cross", "_law_shaken", "_law_names_of"]
def kept1 : List Str := ["_law_due_all", "_law_counts_alike", "_law_fault_due", "_law_told", "_law_is_due", "_law_asked", "_law_exchanged", "_law_pair", "_law_puts", "_law_none_and_rows", "law"]
def kept : List Str := kept0 ++ kept1
def others0 : List Str := ["NonePassedError", "BadKinds", "BadKind", "BadRow", "BadLot", "BadParting", "BadLetters", "BadNumber", "BadName", "BadRoom", "BadDay", "TooLong", "BadStand", "BadRule", "BadCall", "TooManyStands", "BadText", "BadTree", "BadRows", "BadMachine", "BadException", "BadPolicy", "BadSpeech", "BadGraft", "NotSame", "NotGood", "IsGood", "BadPlaces", "Passed", "Empty"]
def others1 : List Str := ["NotEmpty", "BadPaper", "TooMany", "NotOneLine", "Endless", "BadTable", "BadBook", "Clash", "NothingToUndo", "BadLine", "strikes_last", "common_front", "free_places", "strikes_some", "other_tokens", "counts_ahead", "swap_fault", "shift_fault", "fault", "put", "leaf_place", "places_in", "crossed", "_law_mix", "_law_store", "_law_take", "_law_yes", "_law_span", "_law_of", "_law_order"]
def others2 : List Str := ["_law_wide", "_law_outside", "_law_beyond", "_law_ascii", "_law_text", "_law_ahead", "_law_fault", "_law_cross", "_law_shaken", "_law_names_of", "_law_due_all", "_law_counts_alike", "_law_fault_due", "_law_told", "_law_is_due", "_law_asked", "_law_exchanged", "_law_pair", "_law_puts", "_law_none_and_rows"]
def others : List Str := others0 ++ others1 ++ others2
def errs0 : List Str := ["NonePassedError", "BadKinds", "BadKind", "BadRow", "BadLot", "BadParting", "BadLetters", "BadNumber", "BadName", "BadRoom", "BadDay", "TooLong", "BadStand", "BadRule", "BadCall", "TooManyStands", "BadText", "BadTree", "BadRows", "BadMachine", "BadException", "BadPolicy", "BadSpeech", "BadGraft", "NotSame", "NotGood", "IsGood", "BadPlaces", "Passed", "Empty"]
def errs1 : List Str := ["NotEmpty", "BadPaper", "TooMany", "NotOneLine", "Endless", "BadTable", "BadBook", "Clash", "NothingToUndo", "BadLine"]
def errs : List Str := errs0 ++ errs1
/-- the other facts -/
def factE (K : PySem.W.Frag) (x : Str) : Bool :=
  let C := He.ga K x
  let I := He.ma K (He.ga K "NonePassedError") "__init__"
  oexB K C && (He.eqO (PySem.W.findIn K (.ref C) "__setattr__") (some (some (.builtin "object.__setattr__"))) && (decide (PySem.W.subIn K (.ref C) (.type "BaseException") = some true) && (decide (PySem.W.typeIn K (.ref C) = some (.type "type")) && (PySem.W.keepIn K (.ref C) &&
  (He.eqO (PySem.W.findIn K (.ref C) "at") (some none) && (He.eqO (PySem.W.findIn K (.ref C) "__init__") (some (some (.ref I))) && (He.eqO (PySem.W.findIn K (.ref C) "__getattribute__") (some (some (.builtin "BaseException.__getattribute__"))) &&
  (He.eqO (PySem.W.findIn K (.ref C) "__getattr__") (some none) && (PySem.W.hasDictIn K C && (He.eqO (PySem.W.findIn K (.ref C) "__class__") (some (some (.builtin "object.__class__"))) && (decide (PySem.W.mroIn K C (.type "object") = some true) &&
  (decide (PySem.W.exmOne K (.ref C) (.ref (He.ga K "NonePassedError")) = some true) && (decide (PySem.W.kitOne K (.ref C) (.type "ValueError") = some true) && (errs.all fun y => (y == "NonePassedError") || decide (PySem.W.kitOne K (.ref C) (.ref (He.ga K y)) = some (y == x))))))))))))))))
def chk (K : PySem.W.Frag) : Bool := (K.all fun p => !(p.2.cls == .type "list")) && (kept.all (fun x => PySem.W.keepIn K (.ref (He.ga K x))) && (PySem.W.keepIn K (.ref (He.ma K (He.ga K "NonePassedError") "__init__")) && (decide (PySem.W.typeIn K (.ref (He.ma K (He.ga K "NonePassedError") "__init__")) = some (.type "function")) &&
  (decide (PySem.W.specialIn K (.builtin "object.__class__") "__get__" = some (some (.builtin "getset_descriptor.__get__"))) && (decide (PySem.W.takesIn K (.builtin "object.__class__") = some true) && (["BadRows", "BadNumber"] : List Str).all (factE K))))))
abbrev R : PySem.W.OpenRow := PySem.W.OpenLaw.row PySem.Challenge.rw_nonepassed_k17_signs_exchanged_and_rever
abbrev hk : PySem.W.Hook := hookX 5 fa fn chk
def ob (s : PySem.W.SharedT) : Bool × He.Al := obsXG 5 fa fn chk (HandSHeadRun.getT s)
theorem ob_eq (s : PySem.W.SharedT) : ob s = hk.obs s.abs := obsXG_eq (HandSHeadRun.getT_eq s)
end K17

set_option Elab.async false
set_option linter.all false
set_option maxRecDepth 100000
set_option maxHeartbeats 0
namespace K17
open PySem PySem.Spec PyProof.Rows L2 DL
theorem run (w : World) : HandSHeadRun.RunEq R (PySem.W.view R.prog [83]) hk ob 20000 others w := by
  intro os
  kernel_rfl
end K17

set_option Elab.async false
set_option linter.all false
set_option maxRecDepth 100000
set_option maxHeartbeats 4000000
/-! A data layer over the hand layer: values that never change are plain data (Dt), only what is changed stands in a small store (Mu). -/
namespace DL
open PySem PySem.Spec PyProof.Rows L2

/-! ### data -/
inductive Dt where
  | non | bl (b : Bool) | int (i : Int) | str (z : List Nat)
  | lst (xs : List Dt) | tup (xs : List Dt) | dk (ks : List Key) (ds : List Dt)
  | hdl (a : Addr)
  | scr (ns : List Int)
  | exc (a dd C : Addr) (d : Dt)
/-- what may be changed -/
inductive OD where
  | lst (xs : List Dt) | dk (ks : List Key) (ds : List Dt)
abbrev Mu := Addr → Option OD
def mset (μ : Mu) (a : Addr) (o : OD) : Mu := fun b => if b = a then some o else μ b
def mdel (μ : Mu) (a : Addr) : Mu := fun b => if b = a then none else μ b
theorem mset_same {μ : Mu} {a : Addr} {o : OD} : mset μ a o a = some o := if_pos rfl
theorem mset_ne {μ : Mu} {a b : Addr} {o : OD} (h : b ≠ a) : mset μ a o b = μ b := if_neg h
theorem mdel_ne {μ : Mu} {a b : Addr} (h : b ≠ a) : mdel μ a b = μ b := if_neg h
theorem mdel_same {μ : Mu} {a : Addr} : mdel μ a a = none := if_pos rfl
abbrev Hid := Addr → Prop
def mkS (z : List Nat) : Str := ⟨z.toArray⟩

mutual
inductive Rp (N : Hid) (μ : Mu) (H : Hp) : V → Dt → Prop
  | non : Rp N μ H .non .non
  | bl (b : Bool) : Rp N μ H (.bl b) (.bl b)
  | int (i : Int) : Rp N μ H (.int i) (.int i)
  | str (z : List Nat) (h : ∀ c ∈ z, c < 0x110000) : Rp N μ H (.str (mkS z)) (.str z)
  | lst {a : Addr} {vs : List V} {ds : List Dt} : ¬ N a → μ a = none → H a = some (.lst vs) → RpAll N μ H vs ds → Rp N μ H (.ref a) (.lst ds)
  | tup {a : Addr} {vs : List V} {ds : List Dt} : ¬ N a → μ a = none → H a = some (.tup vs) → RpAll N μ H vs ds → Rp N μ H (.ref a) (.tup ds)
  | dk {a : Addr} {kvs : List (Key × V)} {ds : List Dt} : ¬ N a → μ a = none → H a = some (.dK kvs) → RpAll N μ H (kvs.map (·.2)) ds → Rp N μ H (.ref a) (.dk (kvs.map (·.1)) ds)
  | hdl (a : Addr) : Rp N μ H (.ref a) (.hdl a)
  | scr {a : Addr} {o : Obj} {ns : List Int} : ¬ N a → μ a = none → H a = some (.frz o (.lst (ns.map V.int))) → Rp N μ H (.ref a) (.scr ns)
  | exc {a dd C : Addr} {fs : List (Str × V)} {v : V} {d : Dt} : ¬ N dd → μ dd = none → H dd = some (.xd fs) → fs.lookup ("at" : Str) = some v → Rp N μ H v d → Rp N μ H (.ref a) (.exc a dd C d)
inductive RpAll (N : Hid) (μ : Mu) (H : Hp) : List V → List Dt → Prop
  | nil : RpAll N μ H [] []
  | cons {v : V} {vs : List V} {d : Dt} {ds : List Dt} : Rp N μ H v d → RpAll N μ H vs ds → RpAll N μ H (v :: vs) (d :: ds)
end

/-- unowned tracked things stay -/
def Stp (μ : Mu) (H : Hp) (μ' : Mu) (H' : Hp) : Prop := ∀ a o, μ a = none → H a = some o → μ' a = none ∧ H' a = some o
theorem Stp.refl {μ : Mu} {H : Hp} : Stp μ H μ H := fun _ _ h1 h2 => ⟨h1, h2⟩
theorem Stp.trans {μ μ1 μ2 : Mu} {H H1 H2 : Hp} (a : Stp μ H μ1 H1) (b : Stp μ1 H1 μ2 H2) : Stp μ H μ2 H2 := fun x o h1 h2 => by
  obtain ⟨p, q⟩ := a x o h1 h2
  exact b x o p q
section
variable {N : Hid} {μ μ' : Mu} {H H' : Hp}
mutual
theorem Rp.mono (e : Stp μ H μ' H') : ∀ {v : V} {d : Dt}, Rp N μ H v d → Rp N μ' H' v d
  | _, _, .non => .non
  | _, _, .bl b => .bl b
  | _, _, .int i => .int i
  | _, _, .str z h => .str z h
  | _, _, .lst n m h r => .lst n (e _ _ m h).1 (e _ _ m h).2 (RpAll.mono e r)
  | _, _, .tup n m h r => .tup n (e _ _ m h).1 (e _ _ m h).2 (RpAll.mono e r)
  | _, _, .dk n m h r => .dk n (e _ _ m h).1 (e _ _ m h).2 (RpAll.mono e r)
  | _, _, .hdl a => .hdl a
  | _, _, .scr n m h => .scr n (e _ _ m h).1 (e _ _ m h).2
  | _, _, .exc n m h l r => .exc n (e _ _ m h).1 (e _ _ m h).2 l (Rp.mono e r)
theorem RpAll.mono (e : Stp μ H μ' H') : ∀ {vs : List V} {ds : List Dt}, RpAll N μ H vs ds → RpAll N μ' H' vs ds
  | _, _, .nil => .nil
  | _, _, .cons h r => .cons (Rp.mono e h) (RpAll.mono e r)
end
mutual
theorem Rp.hid {N' : Hid} (e : ∀ a o, ¬ N a → μ a = none → H a = some o → ¬ N' a) : ∀ {v : V} {d : Dt}, Rp N μ H v d → Rp N' μ H v d
  | _, _, .non => .non
  | _, _, .bl b => .bl b
  | _, _, .int i => .int i
  | _, _, .str z h => .str z h
  | _, _, .lst n m h r => .lst (e _ _ n m h) m h (RpAll.hid e r)
  | _, _, .tup n m h r => .tup (e _ _ n m h) m h (RpAll.hid e r)
  | _, _, .dk n m h r => .dk (e _ _ n m h) m h (RpAll.hid e r)
  | _, _, .hdl a => .hdl a
  | _, _, .scr n m h => .scr (e _ _ n m h) m h
  | _, _, .exc n m h l r => .exc (e _ _ n m h) m h l (Rp.hid e r)
theorem RpAll.hid {N' : Hid} (e : ∀ a o, ¬ N a → μ a = none → H a = some o → ¬ N' a) : ∀ {vs : List V} {ds : List Dt}, RpAll N μ H vs ds → RpAll N' μ H vs ds
  | _, _, .nil => .nil
  | _, _, .cons h r => .cons (Rp.hid e h) (RpAll.hid e r)
end
theorem RpAll.length : ∀ {vs : List V} {ds : List Dt}, RpAll N μ H vs ds → vs.length = ds.length
  | _, _, .nil => rfl
  | _, _, .cons _ r => by rw [List.length_cons, List.length_cons, RpAll.length r]
theorem RpAll.get : ∀ {vs : List V} {ds : List Dt} {i : Nat} {d : Dt}, RpAll N μ H vs ds → ds[i]? = some d → ∃ v, vs[i]? = some v ∧ Rp N μ H v d
  | _, _, _, _, .nil, e => by simp at e
  | _, _, 0, _, .cons h _, e => by
    simp at e
    subst e
    exact ⟨_, rfl, h⟩
  | _, _, i + 1, d, .cons _ r, e => by
    obtain ⟨v, h1, h2⟩ := RpAll.get (i := i) (d := d) r (by simpa using e)
    exact ⟨v, by simpa using h1, h2⟩
theorem RpAll.getV : ∀ {vs : List V} {ds : List Dt} {i : Nat} {v : V}, RpAll N μ H vs ds → vs[i]? = some v → ∃ d, ds[i]? = some d ∧ Rp N μ H v d
  | _, _, _, _, .nil, e => by simp at e
  | _, _, 0, _, .cons h _, e => by
    simp at e
    subst e
    exact ⟨_, rfl, h⟩
  | _, _, i + 1, d, .cons _ r, e => by
    obtain ⟨v, h1, h2⟩ := RpAll.getV (i := i) (v := d) r (by simpa using e)
    exact ⟨v, by simpa using h1, h2⟩
theorem RpAll.append : ∀ {vs ws : List V} {ds es : List Dt}, RpAll N μ H vs ds → RpAll N μ H ws es → RpAll N μ H (vs ++ ws) (ds ++ es)
  | _, _, _, _, .nil, s => s
  | _, _, _, _, .cons h r, s => .cons h (RpAll.append r s)
theorem RpAll.take : ∀ {vs : List V} {ds : List Dt} (n : Nat), RpAll N μ H vs ds → RpAll N μ H (vs.take n) (ds.take n)
  | _, _, 0, _ => .nil
  | _, _, _ + 1, .nil => .nil
  | _, _, n + 1, .cons h r => .cons h (RpAll.take n r)
theorem RpAll.drop : ∀ {vs : List V} {ds : List Dt} (n : Nat), RpAll N μ H vs ds → RpAll N μ H (vs.drop n) (ds.drop n)
  | _, _, 0, r => r
  | _, _, _ + 1, .nil => .nil
  | _, _, n + 1, .cons _ r => RpAll.drop n r
theorem RpAll.set {v : V} {d : Dt} (h : Rp N μ H v d) : ∀ {vs : List V} {ds : List Dt} (i : Nat), RpAll N μ H vs ds → RpAll N μ H (vs.set i v) (ds.set i d)
  | _, _, _, .nil => .nil
  | _, _, 0, .cons _ r => .cons h r
  | _, _, i + 1, .cons q r => .cons q (RpAll.set h i r)
theorem RpAll.reverse {vs : List V} {ds : List Dt} (h : RpAll N μ H vs ds) : RpAll N μ H vs.reverse ds.reverse := by
  induction vs generalizing ds with
  | nil => cases h; exact .nil
  | cons v vs ih =>
    cases h with
    | cons h r =>
      rw [List.reverse_cons, List.reverse_cons]
      exact (ih r).append (.cons h .nil)
end

/-- what is owned stands in the heap; what is hidden is tracked and not owned -/
def OdRp (N : Hid) (μ : Mu) (H : Hp) (a : Addr) : OD → Prop
  | .lst ds => ∃ vs, H a = some (.lst vs) ∧ RpAll N μ H vs ds
  | .dk ks ds => ∃ kvs : List (Key × V), H a = some (.dK kvs) ∧ kvs.map (·.1) = ks ∧ RpAll N μ H (kvs.map (·.2)) ds
structure Rep (N : Hid) (μ : Mu) (H : Hp) : Prop where
  own : ∀ a o, μ a = some o → ¬ N a ∧ OdRp N μ H a o
  trk : ∀ a, N a → μ a = none ∧ ∃ o, H a = some o
theorem OdRp.some {N : Hid} {μ : Mu} {H : Hp} {a : Addr} {o : OD} (h : OdRp N μ H a o) : ∃ u, H a = some u := by
  cases o with
  | lst ds => obtain ⟨vs, e, _⟩ := h; exact ⟨_, e⟩
  | dk ks ds => obtain ⟨vs, e, _⟩ := h; exact ⟨_, e⟩
theorem OdRp.mono {N : Hid} {μ μ' : Mu} {H H' : Hp} (e : Stp μ H μ' H') {a : Addr} {o : OD} (k : H' a = H a) (h : OdRp N μ H a o) : OdRp N μ' H' a o := by
  cases o with
  | lst ds => obtain ⟨vs, h1, h2⟩ := h; exact ⟨vs, k.trans h1, h2.mono e⟩
  | dk ks ds => obtain ⟨vs, h1, h3, h2⟩ := h; exact ⟨vs, k.trans h1, h3, h2.mono e⟩
section
variable {N : Hid} {μ : Mu} {H : Hp} {p : Addr} {o : HO}
theorem Rep.fresh (R : Rep N μ H) (hp : H p = none) : ¬ N p ∧ μ p = none := by
  refine ⟨fun n => ?_, ?_⟩
  · obtain ⟨_, o, e⟩ := R.trk p n
    rw [hp] at e
    cases e
  · cases q : μ p with
    | none => rfl
    | some o =>
      obtain ⟨u, e⟩ := (R.own p o q).2.some
      rw [hp] at e
      cases e
theorem stp_new (hp : H p = none) : Stp μ H μ (upd H p o) := fun a u h1 h2 => ⟨h1, by rw [upd_ne (ne_of_none h2 hp)]; exact h2⟩
theorem Rep.new (R : Rep N μ H) (hp : H p = none) : Rep N μ (upd H p o) := by
  refine ⟨fun a u h => ?_, fun a n => ?_⟩
  · obtain ⟨h1, h2⟩ := R.own a u h
    obtain ⟨w, e⟩ := h2.some
    exact ⟨h1, h2.mono (stp_new hp) (upd_ne (ne_of_none e hp))⟩
  · obtain ⟨h1, u, e⟩ := R.trk a n
    exact ⟨h1, u, by rw [upd_ne (ne_of_none e hp)]; exact e⟩
/-- an owned thing is changed -/
theorem stp_own {q : OD} (hm : ∃ x, μ p = some x) : Stp μ H (mset μ p q) (upd H p o) := fun a u h1 h2 => by
  have ne : a ≠ p := fun e => by
    subst e
    obtain ⟨x, hx⟩ := hm
    rw [hx] at h1
    cases h1
  exact ⟨by rw [mset_ne ne]; exact h1, by rw [upd_ne ne]; exact h2⟩
theorem Rep.put {q : OD} (R : Rep N μ H) (hm : ∃ x, μ p = some x) (h : OdRp N (mset μ p q) (upd H p o) p q) : Rep N (mset μ p q) (upd H p o) := by
  refine ⟨fun a u e => ?_, fun a n => ?_⟩
  · by_cases ha : a = p
    · subst ha
      rw [mset_same] at e
      cases e
      obtain ⟨x, hx⟩ := hm
      exact ⟨(R.own _ _ hx).1, h⟩
    · rw [mset_ne ha] at e
      obtain ⟨h1, h2⟩ := R.own a u e
      exact ⟨h1, h2.mono (stp_own hm) (upd_ne ha)⟩
  · obtain ⟨h1, u, e⟩ := R.trk a n
    have ne : a ≠ p := fun z => by
      subst z
      obtain ⟨x, hx⟩ := hm
      rw [hx] at h1
      cases h1
    exact ⟨by rw [mset_ne ne]; exact h1, u, by rw [upd_ne ne]; exact e⟩
/-- a new thing, owned -/
theorem stp_newOwn {q : OD} (hp : H p = none) : Stp μ H (mset μ p q) (upd H p o) := fun a u h1 h2 => by
  have ne : a ≠ p := ne_of_none h2 hp
  exact ⟨by rw [mset_ne ne]; exact h1, by rw [upd_ne ne]; exact h2⟩
theorem Rep.newOwn {q : OD} (R : Rep N μ H) (hp : H p = none) (h : OdRp N (mset μ p q) (upd H p o) p q) : Rep N (mset μ p q) (upd H p o) := by
  refine ⟨fun a u e => ?_, fun a n => ?_⟩
  · by_cases ha : a = p
    · subst ha
      rw [mset_same] at e
      cases e
      exact ⟨(R.fresh hp).1, h⟩
    · rw [mset_ne ha] at e
      obtain ⟨h1, h2⟩ := R.own a u e
      exact ⟨h1, h2.mono (stp_newOwn hp) (upd_ne ha)⟩
  · obtain ⟨h1, u, e⟩ := R.trk a n
    have ne : a ≠ p := ne_of_none e hp
    exact ⟨by rw [mset_ne ne]; exact h1, u, by rw [upd_ne ne]; exact e⟩
/-- an owned thing is given up: it is data from then on -/
theorem stp_free : Stp μ H (mdel μ p) H := fun a u h1 h2 => ⟨by unfold mdel; split <;> first | rfl | exact h1, h2⟩
theorem Rep.free (R : Rep N μ H) : Rep N (mdel μ p) H := by
  refine ⟨fun a u e => ?_, fun a n => ?_⟩
  · have ha : a ≠ p := fun z => by
      subst z
      rw [mdel_same] at e
      cases e
    rw [mdel_ne ha] at e
    obtain ⟨h1, h2⟩ := R.own a u e
    exact ⟨h1, h2.mono stp_free rfl⟩
  · obtain ⟨h1, x⟩ := R.trk a n
    exact ⟨by unfold mdel; split <;> first | rfl | exact h1, x⟩
end

/-! ### slots -/
abbrev DEnv := List (Option Dt)
def Sl (N : Hid) (μ : Mu) (H : Hp) (σ : L2.St) (ρ : DEnv) : Prop := σ.length = ρ.length ∧ ∀ (i : Nat) (d : Dt), ρ[i]? = some (some d) → ∃ v, σ[i]? = some (some v) ∧ Rp N μ H v d
section
variable {N : Hid} {μ μ' : Mu} {H H' : Hp} {σ : L2.St} {ρ : DEnv}
theorem Sl.mono (e : Stp μ H μ' H') (h : Sl N μ H σ ρ) : Sl N μ' H' σ ρ := ⟨h.1, fun i d q => by
  obtain ⟨v, h1, h2⟩ := h.2 i d q
  exact ⟨v, h1, h2.mono e⟩⟩
theorem Sl.set {i : Nat} {v : V} {d : Dt} (h : Sl N μ H σ ρ) (r : Rp N μ H v d) : Sl N μ H (σ.set i (some v)) (ρ.set i (some d)) := by
  refine ⟨by rw [List.length_set, List.length_set]; exact h.1, fun j e q => ?_⟩
  by_cases hj : i = j
  · subst hj
    have hl : i < ρ.length := by
      have := (List.getElem?_eq_some_iff.mp q).1
      rw [List.length_set] at this
      exact this
    rw [List.getElem?_set_self hl] at q
    cases q
    exact ⟨v, by rw [List.getElem?_set_self (by rw [h.1]; exact hl)], r⟩
  · rw [List.getElem?_set_ne hj] at q
    obtain ⟨w, h1, h2⟩ := h.2 j e q
    exact ⟨w, by rw [List.getElem?_set_ne hj]; exact h1, h2⟩
theorem Sl.unset {i : Nat} (h : Sl N μ H σ ρ) : Sl N μ H (σ.set i none) (ρ.set i none) := by
  refine ⟨by rw [List.length_set, List.length_set]; exact h.1, fun j e q => ?_⟩
  by_cases hj : i = j
  · subst hj
    have hl : i < ρ.length := by
      have := (List.getElem?_eq_some_iff.mp q).1
      rw [List.length_set] at this
      exact this
    rw [List.getElem?_set_self hl] at q
    cases q
  · rw [List.getElem?_set_ne hj] at q
    obtain ⟨w, h1, h2⟩ := h.2 j e q
    exact ⟨w, by rw [List.getElem?_set_ne hj]; exact h1, h2⟩
end
def dwipe (ρ : DEnv) : List Nat → DEnv
  | [] => ρ
  | v :: vs => (dwipe ρ vs).set v none
theorem Sl.wipe {N : Hid} {μ : Mu} {H : Hp} {σ : L2.St} {ρ : DEnv} (h : Sl N μ H σ ρ) : ∀ vs : List Nat, Sl N μ H (wipe σ vs) (dwipe ρ vs)
  | [] => h
  | v :: vs => (Sl.wipe h vs).unset
end DL

set_option Elab.async false
set_option linter.all false
set_option maxRecDepth 100000
set_option maxHeartbeats 4000000
namespace DL
open PySem PySem.Spec PyProof.Rows L2

/-! ### readings over data -/
abbrev KD := Dt → Mu → Prop
abbrev DE := DEnv → Mu → KD → Prop
abbrev DT := DEnv → Mu → (Bool → Mu → Prop) → Prop
abbrev DA := DEnv → Mu → (List Dt → Mu → Prop) → Prop
structure DEnds where
  nx : DEnv → Mu → Prop
  rt : KD
  bk : DEnv → Mu → Prop := fun _ _ => False
  ct : DEnv → Mu → Prop := fun _ _ => False
  rx : Addr → Dt → DEnv → Mu → Prop := fun _ _ _ _ => False
abbrev DS := DEnds → DEnv → Mu → Prop

def AE (te : TE) (de : DE) : Prop := ∀ (N : Hid) (σ : L2.St) (H : Hp) (ρ : DEnv) (μ : Mu) (Kd : KD) (Q : VK), Rep N μ H → Sl N μ H σ ρ → de ρ μ Kd →
  (∀ v H' μ' d, Stp μ H μ' H' → Rep N μ' H' → Rp N μ' H' v d → Kd d μ' → Q v H') → te σ H Q
def AT (tt : TT) (dt : DT) : Prop := ∀ (N : Hid) (σ : L2.St) (H : Hp) (ρ : DEnv) (μ : Mu) (Kd : Bool → Mu → Prop) (Q : Bool → Hp → Prop), Rep N μ H → Sl N μ H σ ρ → dt ρ μ Kd →
  (∀ b H' μ', Stp μ H μ' H' → Rep N μ' H' → Kd b μ' → Q b H') → tt σ H Q
def AA (ta : TA) (da : DA) : Prop := ∀ (N : Hid) (σ : L2.St) (H : Hp) (ρ : DEnv) (μ : Mu) (Kd : List Dt → Mu → Prop) (Q : List V → Hp → Prop), Rep N μ H → Sl N μ H σ ρ → da ρ μ Kd →
  (∀ vs H' μ' ds, Stp μ H μ' H' → Rep N μ' H' → RpAll N μ' H' vs ds → Kd ds μ' → Q vs H') → ta σ H Q
/-- what is wanted behind a statement, over data, is what is wanted -/
structure Lk (W : WX) (N : Hid) (μ : Mu) (H : Hp) (D : Ends) (F : DEnds) : Prop where
  nx : ∀ σ' H' ρ' μ', Stp μ H μ' H' → Rep N μ' H' → Sl N μ' H' σ' ρ' → F.nx ρ' μ' → D.nx σ' H'
  rt : ∀ v H' d μ', Stp μ H μ' H' → Rep N μ' H' → Rp N μ' H' v d → F.rt d μ' → D.rt v H'
  bk : ∀ σ' H' ρ' μ', Stp μ H μ' H' → Rep N μ' H' → Sl N μ' H' σ' ρ' → F.bk ρ' μ' → D.bk σ' H'
  ct : ∀ σ' H' ρ' μ', Stp μ H μ' H' → Rep N μ' H' → Sl N μ' H' σ' ρ' → F.ct ρ' μ' → D.ct σ' H'
  rx : ∀ (C dd : Addr) (fs : List (Str × V)) (v : V) (dv : Dt) (σ' : L2.St) (H' : Hp) (ρ' : DEnv) (μ' : Mu), Stp μ H μ' H' → Rep N μ' H' → Sl N μ' H' σ' ρ' → ¬ N dd → μ' dd = none → H' dd = some (.xd fs) → fs.lookup ("at" : Str) = some v → Rp N μ' H' v dv → F.rx C dv ρ' μ' → W (.ref C) (some dd) σ' H'
theorem Lk.mono {W : WX} {N : Hid} {μ μ1 : Mu} {H H1 : Hp} {D : Ends} {F : DEnds} (e : Stp μ H μ1 H1) (l : Lk W N μ H D F) : Lk W N μ1 H1 D F :=
  ⟨fun σ' H' ρ' μ' s => l.nx σ' H' ρ' μ' (e.trans s), fun v H' d μ' s => l.rt v H' d μ' (e.trans s), fun σ' H' ρ' μ' s => l.bk σ' H' ρ' μ' (e.trans s), fun σ' H' ρ' μ' s => l.ct σ' H' ρ' μ' (e.trans s), fun C dd fs v dv σ' H' ρ' μ' s => l.rx C dd fs v dv σ' H' ρ' μ' (e.trans s)⟩
def AS (W : WX) (ts : TS) (ds : DS) : Prop := ∀ (N : Hid) (σ : L2.St) (H : Hp) (ρ : DEnv) (μ : Mu) (D : Ends) (F : DEnds), Rep N μ H → Sl N μ H σ ρ → Lk W N μ H D F → ds F ρ μ → ts D σ H

/-- an expression, a test, arguments, a statement, a block with its reading over data -/
structure DP (X : Cx) (e : Expr) (te : TE) (de : DE) : Prop where
  p : PE X e te
  a : AE te de
structure DPt (X : Cx) (e : Expr) (tt : TT) (dt : DT) : Prop where
  p : PT X e tt
  a : AT tt dt
structure DPw (X : Cx) (e : Expr) (tt : TT) (dt : DT) : Prop where
  p : PW X e tt
  a : AT tt dt
structure DPa (X : Cx) (es : List Expr) (ta : TA) (da : DA) : Prop where
  p : PA X es ta
  a : AA ta da
structure DPs (X : Cx) (W : WX) (st : Stmt) (ds : DS) : Prop where
  ex : ∃ ts, PS X st ts ∧ AS W ts ds
structure DPss (X : Cx) (W : WX) (st : List Stmt) (ds : DS) : Prop where
  ex : ∃ ts, PSs X st ts ∧ AS W ts ds

/-! ### names and constants -/
def dget : DEnv → Nat → Option Dt
  | [], _ => none
  | x :: _, 0 => x
  | _ :: r, i + 1 => dget r i
theorem dget_eq : ∀ {ρ : DEnv} {i : Nat} {d : Dt}, dget ρ i = some d → ρ[i]? = some (some d)
  | [], _, _, h => by simp [dget] at h
  | x :: _, 0, d, h => by
    have h : x = some d := h
    subst h
    rfl
  | _ :: r, i + 1, d, h => by
    have h : dget r i = some d := h
    simpa using dget_eq h
def dVar (i : Nat) : DE := fun ρ μ K => ∃ d, dget ρ i = some d ∧ K d μ
def dC (d : Dt) : DE := fun _ μ K => K d μ
section
variable {X : Cx} {pos : Pos}
theorem ae_var {i : Nat} : AE (tVar i) (dVar i) := fun N σ H ρ μ Kd Q R S h q => by
  obtain ⟨d, e, k⟩ := h
  obtain ⟨v, h1, h2⟩ := S.2 i d (dget_eq e)
  exact ⟨v, h1, q v H μ d Stp.refl R h2 k⟩
theorem d_var (i : Nat) {x : Str} (hN : X.N[i]? = some x := by rfl) (hv : Vis X.env.scope x := by first | exact Or.inl rfl | exact Or.inr (Or.inl rfl) | exact Or.inr (Or.inr rfl)) (hd : (x == ("__debug__" : Str)) = false := by decide)
    (hcd : (x == ("__classdict__" : Str)) = false := by decide) : DP X (.Name x pos) (tVar i) (dVar i) := ⟨pe_var hN hv hd hcd, ae_var⟩
theorem ae_c {v : V} {d : Dt} (r : ∀ N μ H, Rp N μ H v d) : AE (tC v) (dC d) := fun N σ H ρ μ Kd Q R S h q => q v H μ d Stp.refl R (r N μ H) h
theorem d_int {i : Int} {j} : DP X (.Constant (.int i) j pos) (tC (.int i)) (dC (.int i)) := ⟨pe_int, ae_c fun _ _ _ => .int i⟩
theorem d_bl {b : Bool} {j} : DP X (.Constant (.bool b) j pos) (tC (.bl b)) (dC (.bl b)) := ⟨pe_bl, ae_c fun _ _ _ => .bl b⟩
theorem d_non {j} : DP X (.Constant .none j pos) (tC .non) (dC .non) := ⟨pe_non, ae_c fun _ _ _ => .non⟩
theorem mkS_tl (x : Str) : mkS x.cps.toList = x := by
  cases x with
  | mk a => rfl
theorem Rp.ofStr {N : Hid} {μ : Mu} {H : Hp} (x : Str) (hx : ∀ c ∈ x.cps.toList, c < 0x110000) : Rp N μ H (.str x) (.str x.cps.toList) := by
  have h := Rp.str (N := N) (μ := μ) (H := H) x.cps.toList hx
  rw [mkS_tl] at h
  exact h
theorem d_str {x : Str} {j} (hx : ∀ c ∈ x.cps.toList, c < 0x110000 := by decide +kernel) : DP X (.Constant (.str x) j pos) (tC (.str x)) (dC (.str x.cps.toList)) := ⟨pe_str, ae_c fun _ _ _ => Rp.ofStr x hx⟩
end

/-! ### operators -/
abbrev R2D := Dt → Dt → Mu → KD → Prop
def AR2 (r : R2) (rd : R2D) : Prop := ∀ (N : Hid) (H : Hp) (μ : Mu) (x y : V) (dx dy : Dt) (Kd : KD) (Q : VK), Rep N μ H → Rp N μ H x dx → Rp N μ H y dy → rd dx dy μ Kd →
  (∀ v H' μ' d, Stp μ H μ' H' → Rep N μ' H' → Rp N μ' H' v d → Kd d μ' → Q v H') → r x y H Q
structure DOp (X : Cx) (f : Value → Value → Sem Value) (r : R2) (rd : R2D) : Prop where
  p : OpR X f r
  a : AR2 r rd
def dOp (rd : R2D) (da db : DE) : DE := fun ρ μ K => da ρ μ fun x μ1 => db ρ μ1 fun y μ2 => rd x y μ2 K
theorem ae_op {r : R2} {rd : R2D} {ta tb : TE} {da db : DE} (hr : AR2 r rd) (ha : AE ta da) (hb : AE tb db) : AE (tOp r ta tb) (dOp rd da db) := fun N σ H ρ μ Kd Q R S h q => by
  refine ha N σ H ρ μ _ _ R S h fun x H1 μ1 dx e1 R1 rx h1 => ?_
  refine hb N σ H1 ρ μ1 _ _ R1 (S.mono e1) h1 fun y H2 μ2 dy e2 R2 ry h2 => ?_
  exact hr N H2 μ2 x y dx dy Kd Q R2 (rx.mono e2) ry h2 fun v H' μ' d e3 => q v H' μ' d ((e1.trans e2).trans e3)
section
variable {X : Cx} {a b : Expr} {ta tb : TE} {da db : DE} {r : R2} {rd : R2D} {pos : Pos}
theorem d_op {op : Operator} (ho : DOp X (binaryOp op) r rd) (ha : DP X a ta da) (hb : DP X b tb db) : DP X (.BinOp a op b pos) (tOp r ta tb) (dOp rd da db) := ⟨pe_op ho.p ha.p hb.p, ae_op ho.a ha.a hb.a⟩
theorem d_cmp {op : CmpOp} (ho : DOp X (compareOp op) r rd) (ha : DP X a ta da) (hb : DP X b tb db) (hm : behindInMarks op b = false) : DP X (.Compare a [op] [b] pos) (tOp r ta tb) (dOp rd da db) := ⟨pe_cmpR ho.p ha.p hb.p hm, ae_op ho.a ha.a hb.a⟩
def dTest (de : DE) : DT := fun ρ μ K => de ρ μ fun x μ1 => ∃ k, x = .bl k ∧ K k μ1
theorem Rp.blInv {N : Hid} {μ : Mu} {H : Hp} {v : V} {b : Bool} (h : Rp N μ H v (.bl b)) : v = .bl b := by
  cases h
  rfl
theorem at_test {te : TE} {de : DE} (h : AE te de) : AT (tTest te) (dTest de) := fun N σ H ρ μ Kd Q R S h1 q => by
  refine h N σ H ρ μ _ _ R S h1 fun v H' μ' d e R' r ⟨k, ed, hk⟩ => ?_
  subst ed
  exact ⟨k, r.blInv, q k H' μ' e R' hk⟩
theorem dt_cmp {op : CmpOp} (ho : DOp X (compareOp op) r rd) (ha : DP X a ta da) (hb : DP X b tb db) (hm : behindInMarks op b = false) : DPt X (.Compare a [op] [b] pos) (tTest (tOp r ta tb)) (dTest (dOp rd da db)) := ⟨pt_cmpR ho.p ha.p hb.p hm, at_test (ae_op ho.a ha.a hb.a)⟩
/-- an expression that is a bool, as a test -/
theorem dt_val {e : Expr} {te : TE} {de : DE} (h : DP X e te de) (he : ∀ whole, isTrue e X.env whole = (do let v ← whole; standAt e.pos; holding [v] (truthy v)) := by intro _; rfl) : DPt X e (tB te) (dTest de) := ⟨pt_val h.p he, at_test h.a⟩
/-- a op b op c -/
def dChain (r r' : R2D) (da db dc : DE) : DE := fun ρ μ K => da ρ μ fun x μ1 => db ρ μ1 fun y μ2 => r x y μ2 fun z μ3 => ∃ k, z = .bl k ∧ (k = true → dc ρ μ3 fun w μ4 => r' y w μ4 K) ∧ (k = false → K (.bl false) μ3)
theorem ae_chain {r r' : R2} {rd rd' : R2D} {ta tb tc : TE} {da db dc : DE} (hr : AR2 r rd) (hr' : AR2 r' rd') (ha : AE ta da) (hb : AE tb db) (hc : AE tc dc) : AE (tChain r r' ta tb tc) (dChain rd rd' da db dc) := fun N σ H ρ μ Kd Q R S h q => by
  refine ha N σ H ρ μ _ _ R S h fun x H1 μ1 dx e1 R1 rx h1 => ?_
  refine hb N σ H1 ρ μ1 _ _ R1 (S.mono e1) h1 fun y H2 μ2 dy e2 R2 ry h2 => ?_
  refine hr N H2 μ2 x y dx dy _ _ R2 (rx.mono e2) ry h2 fun z H3 μ3 dz e3 R3 rz ⟨k, ek, ht, hf⟩ => ?_
  subst ek
  refine ⟨k, rz.blInv, ?_⟩
  cases k with
  | true =>
    refine iteT (hc N σ H3 ρ μ3 _ _ R3 (((S.mono e1).mono e2).mono e3) (ht rfl) fun w H4 μ4 dw e4 R4 rw' h4 => ?_)
    exact hr' N H4 μ4 y w dy dw Kd Q R4 ((ry.mono e3).mono e4) rw' h4 fun v H' μ' d e5 => q v H' μ' d ((((e1.trans e2).trans e3).trans e4).trans e5)
  | false => exact iteF (q _ H3 μ3 _ ((e1.trans e2).trans e3) R3 (.bl false) (hf rfl))
theorem d_chain {c : Expr} {tc : TE} {dc : DE} {r' : R2} {rd' : R2D} {op op' : CmpOp} (ho : DOp X (compareOp op) r rd) (ho' : DOp X (compareOp op') r' rd') (ha : DP X a ta da) (hb : DP X b tb db) (hc : DP X c tc dc)
    (hm : lastMarks [op, op'] [b, c] = false := by with_unfolding_all rfl) : DP X (.Compare a [op, op'] [b, c] pos) (tChain r r' ta tb tc) (dChain rd rd' da db dc) := ⟨pe_chain ho.p ho'.p ha.p hb.p hc.p hm, ae_chain ho.a ho'.a ha.a hb.a hc.a⟩
theorem dt_chain {c : Expr} {tc : TE} {dc : DE} {r' : R2} {rd' : R2D} {op op' : CmpOp} (ho : DOp X (compareOp op) r rd) (ho' : DOp X (compareOp op') r' rd') (ha : DP X a ta da) (hb : DP X b tb db) (hc : DP X c tc dc)
    (hm : lastMarks [op, op'] [b, c] = false := by with_unfolding_all rfl) : DPt X (.Compare a [op, op'] [b, c] pos) (tTest (tChain r r' ta tb tc)) (dTest (dChain rd rd' da db dc)) := ⟨pt_chain ho.p ho'.p ha.p hb.p hc.p hm, at_test (ae_chain ho.a ho'.a ha.a hb.a hc.a)⟩

/-! ### and, or, not, if -/
def dAnd (t u : DT) : DT := fun ρ μ K => t ρ μ fun c μ1 => (c = true → u ρ μ1 K) ∧ (c = false → K false μ1)
def dOr (t u : DT) : DT := fun ρ μ K => t ρ μ fun c μ1 => (c = true → K true μ1) ∧ (c = false → u ρ μ1 K)
def dNot (t : DT) : DT := fun ρ μ K => t ρ μ fun c μ1 => K (!c) μ1
variable {tA tB' : TT} {dA dB : DT} {rest : List Expr}
theorem at_and {t u : TT} {dt du : DT} (h1 : AT t dt) (h2 : AT u du) : AT (tAnd t u) (dAnd dt du) := fun N σ H ρ μ Kd Q R S h q => by
  refine h1 N σ H ρ μ _ _ R S h fun b H1 μ1 e1 R1 ⟨ht, hf⟩ => ?_
  cases b with
  | true => exact iteT (h2 N σ H1 ρ μ1 Kd Q R1 (S.mono e1) (ht rfl) fun b H' μ' e2 => q b H' μ' (e1.trans e2))
  | false => exact iteF (q false H1 μ1 e1 R1 (hf rfl))
theorem at_or {t u : TT} {dt du : DT} (h1 : AT t dt) (h2 : AT u du) : AT (tOr t u) (dOr dt du) := fun N σ H ρ μ Kd Q R S h q => by
  refine h1 N σ H ρ μ _ _ R S h fun b H1 μ1 e1 R1 ⟨ht, hf⟩ => ?_
  cases b with
  | true => exact iteT (q true H1 μ1 e1 R1 (ht rfl))
  | false => exact iteF (h2 N σ H1 ρ μ1 Kd Q R1 (S.mono e1) (hf rfl) fun b H' μ' e2 => q b H' μ' (e1.trans e2))
theorem DPw.pt {e : Expr} {tt : TT} {dt : DT} (h : DPw X e tt dt) : DPt X e tt dt := ⟨h.p.pt, h.a⟩
theorem dw_and1 (ha : DPt X a tA dA) : DPw X (.BoolOp .And [a] pos) tA dA := ⟨pw_and1 ha.p, ha.a⟩
theorem dw_or1 (ha : DPt X a tA dA) : DPw X (.BoolOp .Or [a] pos) tA dA := ⟨pw_or1 ha.p, ha.a⟩
theorem dw_and (ha : DPt X a tA dA) (hb : DPw X (.BoolOp .And (b :: rest) pos) tB' dB) : DPw X (.BoolOp .And (a :: b :: rest) pos) (tAnd tA tB') (dAnd dA dB) := ⟨pw_and ha.p hb.p, at_and ha.a hb.a⟩
theorem dw_or (ha : DPt X a tA dA) (hb : DPw X (.BoolOp .Or (b :: rest) pos) tB' dB) : DPw X (.BoolOp .Or (a :: b :: rest) pos) (tOr tA tB') (dOr dA dB) := ⟨pw_or ha.p hb.p, at_or ha.a hb.a⟩
theorem dt_not (ha : DPt X a tA dA) : DPt X (.UnaryOp .Not a pos) (tNot tA) (dNot dA) := ⟨pt_not ha.p, fun N σ H ρ μ Kd Q R S h q => ha.a N σ H ρ μ _ _ R S h fun b H' μ' e R' k => q (!b) H' μ' e R' k⟩
def dAndV (da db : DE) : DE := fun ρ μ K => da ρ μ fun x μ1 => ∃ c, x = .bl c ∧ (c = true → db ρ μ1 K) ∧ (c = false → K (.bl false) μ1)
def dOrV (da db : DE) : DE := fun ρ μ K => da ρ μ fun x μ1 => ∃ c, x = .bl c ∧ (c = true → K (.bl true) μ1) ∧ (c = false → db ρ μ1 K)
def dNotV (da : DE) : DE := fun ρ μ K => da ρ μ fun x μ1 => ∃ c, x = .bl c ∧ K (.bl (!c)) μ1
theorem d_one {op} (h : DP X a ta da) : DP X (.BoolOp op [a] pos) ta da := ⟨pe_one h.p, h.a⟩
theorem d_and (ha : DP X a ta da) (hb : DP X (.BoolOp .And (b :: rest) pos) tb db) : DP X (.BoolOp .And (a :: b :: rest) pos) (tAndV ta tb) (dAndV da db) := by
  obtain ⟨h1, h2⟩ := ha
  obtain ⟨g1, g2⟩ := hb
  refine ⟨pe_and h1 g1, fun N σ H ρ μ Kd Q R S h q => h2 N σ H ρ μ _ _ R S h fun v H1 μ1 d e1 R1 r ⟨c, ec, ht, hf⟩ => ?_⟩
  subst ec
  refine ⟨c, r.blInv, ?_⟩
  cases c with
  | true => exact iteT (g2 N σ H1 ρ μ1 Kd Q R1 (S.mono e1) (ht rfl) fun v H' μ' d e2 => q v H' μ' d (e1.trans e2))
  | false => exact iteF (q _ H1 μ1 _ e1 R1 (.bl false) (hf rfl))
theorem d_or (ha : DP X a ta da) (hb : DP X (.BoolOp .Or (b :: rest) pos) tb db) : DP X (.BoolOp .Or (a :: b :: rest) pos) (tOrV ta tb) (dOrV da db) := by
  obtain ⟨h1, h2⟩ := ha
  obtain ⟨g1, g2⟩ := hb
  refine ⟨pe_or h1 g1, fun N σ H ρ μ Kd Q R S h q => h2 N σ H ρ μ _ _ R S h fun v H1 μ1 d e1 R1 r ⟨c, ec, ht, hf⟩ => ?_⟩
  subst ec
  refine ⟨c, r.blInv, ?_⟩
  cases c with
  | true => exact iteT (q _ H1 μ1 _ e1 R1 (.bl true) (ht rfl))
  | false => exact iteF (g2 N σ H1 ρ μ1 Kd Q R1 (S.mono e1) (hf rfl) fun v H' μ' d e2 => q v H' μ' d (e1.trans e2))
theorem d_not (ha : DP X a ta da) : DP X (.UnaryOp .Not a pos) (tNotV ta) (dNotV da) := by
  obtain ⟨h1, h2⟩ := ha
  refine ⟨pe_not h1, fun N σ H ρ μ Kd Q R S h q => h2 N σ H ρ μ _ _ R S h fun v H1 μ1 d e1 R1 r ⟨c, ec, k⟩ => ?_⟩
  subst ec
  exact ⟨c, r.blInv, q _ H1 μ1 _ e1 R1 (.bl _) k⟩
def dIf (t : DT) (da db : DE) : DE := fun ρ μ K => t ρ μ fun c μ1 => (c = true → da ρ μ1 K) ∧ (c = false → db ρ μ1 K)
theorem d_if {c : Expr} (hc : DPt X c tA dA) (ha : DP X a ta da) (hb : DP X b tb db) : DP X (.IfExp c a b pos) (tIf tA ta tb) (dIf dA da db) := by
  obtain ⟨h1, h2⟩ := hc
  obtain ⟨a1, a2⟩ := ha
  obtain ⟨b1, b2⟩ := hb
  refine ⟨pe_ifExp h1 a1 b1, fun N σ H ρ μ Kd Q R S h q => h2 N σ H ρ μ _ _ R S h fun b H1 μ1 e1 R1 ⟨ht, hf⟩ => ?_⟩
  cases b with
  | true => exact iteT (a2 N σ H1 ρ μ1 Kd Q R1 (S.mono e1) (ht rfl) fun v H' μ' d e2 => q v H' μ' d (e1.trans e2))
  | false => exact iteF (b2 N σ H1 ρ μ1 Kd Q R1 (S.mono e1) (hf rfl) fun v H' μ' d e2 => q v H' μ' d (e1.trans e2))
end

/-! ### arguments, displays -/
def dNil : DA := fun _ μ K => K [] μ
def dCons (da : DE) (dr : DA) : DA := fun ρ μ K => da ρ μ fun x μ1 => dr ρ μ1 fun xs μ2 => K (x :: xs) μ2
section
variable {X : Cx} {e : Expr} {es : List Expr} {te : TE} {de : DE} {ta : TA} {da : DA} {pos : Pos}
theorem da_nil : DPa X [] tNil dNil := ⟨pa_nil, fun N σ H ρ μ Kd Q R S h q => q [] H μ [] Stp.refl R .nil h⟩
theorem da_cons (ha : DP X e te de) (hr : DPa X es ta da) (hs : starEach (e :: es) X.env = (false, eval e X.env) :: starEach es X.env := by rfl) : DPa X (e :: es) (tCons te ta) (dCons de da) := by
  obtain ⟨h1, h2⟩ := ha
  obtain ⟨g1, g2⟩ := hr
  refine ⟨pa_cons h1 g1 hs, fun N σ H ρ μ Kd Q R S h q => ?_⟩
  refine h2 N σ H ρ μ _ _ R S h fun x H1 μ1 dx e1 R1 rx k1 => ?_
  refine g2 N σ H1 ρ μ1 _ _ R1 (S.mono e1) k1 fun xs H2 μ2 ds e2 R2 rs k2 => ?_
  exact q _ H2 μ2 _ (e1.trans e2) R2 (.cons (rx.mono e2) rs) k2
theorem szl {n : Nat} (h : n ≤ 1000000) : n ≤ sizeLine := by rw [sizeLine_eq]; omega
theorem szl' {n : Nat} (h : n < 1000000) : n < sizeLine := by rw [sizeLine_eq]; omega
def dTup (da : DA) : DE := fun ρ μ K => da ρ μ fun xs μ1 => xs.length ≤ 1000000 ∧ K (.tup xs) μ1
def dLst (da : DA) : DE := fun ρ μ K => da ρ μ fun xs μ1 => xs.length ≤ 1000000 ∧ K (.lst xs) μ1
theorem Rp.newTup {N : Hid} {μ : Mu} {H : Hp} {p : Addr} {vs : List V} {ds : List Dt} (R : Rep N μ H) (hp : H p = none) (r : RpAll N μ H vs ds) : Rp N μ (upd H p (.tup vs)) (.ref p) (.tup ds) :=
  .tup (R.fresh hp).1 (R.fresh hp).2 upd_same (r.mono (stp_new hp))
theorem Rp.newLst {N : Hid} {μ : Mu} {H : Hp} {p : Addr} {vs : List V} {ds : List Dt} (R : Rep N μ H) (hp : H p = none) (r : RpAll N μ H vs ds) : Rp N μ (upd H p (.lst vs)) (.ref p) (.lst ds) :=
  .lst (R.fresh hp).1 (R.fresh hp).2 upd_same (r.mono (stp_new hp))
theorem d_tup {x1} (h : DPa X es ta da) : DP X (.Tuple es x1 pos) (tTup ta) (dTup da) := by
  obtain ⟨h1, h2⟩ := h
  refine ⟨pe_tup h1, fun N σ H ρ μ Kd Q R S h q => h2 N σ H ρ μ _ _ R S h fun vs H1 μ1 ds e1 R1 rs ⟨hl, k⟩ => ?_⟩
  exact ⟨szl (by rw [rs.length]; exact hl), fun p hp => q _ _ μ1 _ (e1.trans (stp_new hp)) (R1.new hp) (Rp.newTup R1 hp rs) k⟩
theorem d_lst (h : DPa X es ta da) : DP X (.List es pos) (tLst ta) (dLst da) := by
  obtain ⟨h1, h2⟩ := h
  refine ⟨pe_lst h1, fun N σ H ρ μ Kd Q R S h q => h2 N σ H ρ μ _ _ R S h fun vs H1 μ1 ds e1 R1 rs ⟨hl, k⟩ => ?_⟩
  exact ⟨szl (by rw [rs.length]; exact hl), fun p hp => q _ _ μ1 _ (e1.trans (stp_new hp)) (R1.new hp) (Rp.newLst R1 hp rs) k⟩
/-- a new list, owned by the one that makes it -/
def dLstO (da : DA) : DE := fun ρ μ K => da ρ μ fun xs μ1 => xs.length ≤ 1000000 ∧ ∀ p, μ1 p = none → K (.hdl p) (mset μ1 p (.lst xs))
theorem OdRp.newLst {N : Hid} {μ : Mu} {H : Hp} {p : Addr} {vs : List V} {ds : List Dt} (hp : H p = none) (r : RpAll N μ H vs ds) : OdRp N (mset μ p (.lst ds)) (upd H p (.lst vs)) p (.lst ds) :=
  ⟨vs, upd_same, r.mono (stp_newOwn hp)⟩
theorem d_lstO (h : DPa X es ta da) : DP X (.List es pos) (tLst ta) (dLstO da) := by
  obtain ⟨h1, h2⟩ := h
  refine ⟨pe_lst h1, fun N σ H ρ μ Kd Q R S h q => h2 N σ H ρ μ _ _ R S h fun vs H1 μ1 ds e1 R1 rs ⟨hl, k⟩ => ?_⟩
  exact ⟨szl (by rw [rs.length]; exact hl), fun p hp => q _ _ _ _ (e1.trans (stp_newOwn hp)) (R1.newOwn hp (OdRp.newLst hp rs)) (.hdl p) (k p (R1.fresh hp).2)⟩
end

/-! ### calls of built-ins by values -/
abbrev RCD := List Dt → Mu → KD → Prop
def ARC (r : List V → Hp → VK → Prop) (rd : RCD) : Prop := ∀ (N : Hid) (H : Hp) (μ : Mu) (xs : List V) (ds : List Dt) (Kd : KD) (Q : VK), Rep N μ H → RpAll N μ H xs ds → rd ds μ Kd →
  (∀ v H' μ' d, Stp μ H μ' H' → Rep N μ' H' → Rp N μ' H' v d → Kd d μ' → Q v H') → r xs H Q
structure DCall (X : Cx) (f : Value) (r : List V → Hp → VK → Prop) (rd : RCD) : Prop where
  p : CallR X f r
  a : ARC r rd
def dCB (rd : RCD) (da : DA) : DE := fun ρ μ K => da ρ μ fun xs μ1 => rd xs μ1 K
theorem ae_cb {r : List V → Hp → VK → Prop} {rd : RCD} {ta : TA} {da : DA} (hr : ARC r rd) (ha : AA ta da) : AE (tCB r ta) (dCB rd da) := fun N σ H ρ μ Kd Q R S h q =>
  ha N σ H ρ μ _ _ R S h fun xs H1 μ1 ds e1 R1 rs k => hr N H1 μ1 xs ds Kd Q R1 rs k fun v H' μ' d e2 => q v H' μ' d (e1.trans e2)
section
variable {X : Cx} {x : Str} {p pos : Pos} {e : Expr} {es : List Expr} {ta : TA} {da : DA} {id T : String} {r : List V → Hp → VK → Prop} {rd : RCD}
theorem d_callB (hc : DCall X (.builtin id) r rd) (hg : Gl X x) (hm : X.mg x = none) (hv : bootBuiltins x = some (.builtin id)) (ha : DPa X (e :: es) ta da) (hn : x ≠ "__name__" := by decide) (hdb : (x == ("__debug__" : Str)) = false := by decide)
    (he : starEach (e :: es) X.env = (false, eval e X.env) :: starEach es X.env := by rfl) (hpl : (backTo pos (starEach es X.env)).any (·.1) = false := by rfl) : DP X (.Call (.Name x p) (e :: es) [] pos) (tCB r ta) (dCB rd da) := ⟨pe_callB hc.p hg hm hv ha.p hn hdb he hpl, ae_cb hc.a ha.a⟩
theorem d_callTy (hc : DCall X (.type T) r rd) (hg : Gl X x) (hm : X.mg x = none) (hv : bootBuiltins x = some (.type T)) (ha : DPa X (e :: es) ta da) (hn : x ≠ "__name__" := by decide) (hdb : (x == ("__debug__" : Str)) = false := by decide)
    (he : starEach (e :: es) X.env = (false, eval e X.env) :: starEach es X.env := by rfl) (hpl : (backTo pos (starEach es X.env)).any (·.1) = false := by rfl) : DP X (.Call (.Name x p) (e :: es) [] pos) (tCB r ta) (dCB rd da) := ⟨pe_callTy hc.p hg hm hv ha.p hn hdb he hpl, ae_cb hc.a ha.a⟩
end

/-! ### calls of defs -/
/-- a def's promise over data -/
abbrev SpD := List Dt → Mu → KD → Prop
def spOf (spd : SpD) : Sp := fun vs H Q _ => ∃ (N : Hid) (μ : Mu) (ds : List Dt) (Kd : KD), Rep N μ H ∧ RpAll N μ H vs ds ∧ spd ds μ Kd ∧ ∀ v H' μ' d, Stp μ H μ' H' → Rep N μ' H' → Rp N μ' H' v d → Kd d μ' → Q v H'
theorem ae_call {spd : SpD} {ta : TA} {da : DA} (ha : AA ta da) : AE (tCall (spOf spd) [] E0 ta) (dCB spd da) := fun N σ H ρ μ Kd Q R S h q =>
  ha N σ H ρ μ _ _ R S h fun xs H1 μ1 ds e1 R1 rs k => by
    show spOf spd (xs ++ []) H1 Q E0
    rw [List.append_nil]
    exact ⟨N, μ1, ds, Kd, R1, rs, k, fun v H' μ' d e2 => q v H' μ' d (e1.trans e2)⟩
section
variable {X : Cx} {k : Nat} {f : Addr} {fd : FuncData} {ps : List Str} {spd : SpD} {x : Str} {p pos : Pos} {e : Expr} {es : List Expr} {ta : TA} {da : DA}
theorem d_call (F : FnOk X.prog X.w X.K X.mg X.base CX0 k f fd ps (spOf spd)) (hr : Room k X.A) (hg : Gl X x) (hm : X.mg x = some (.ref f)) (hk : PySem.W.keepIn X.K (.ref f) = true) (hb : Binds X.K fd ps [])
    (ha : DPa X (e :: es) ta da) (hdb : (x == ("__debug__" : Str)) = false := by decide) (he : starEach (e :: es) X.env = (false, eval e X.env) :: starEach es X.env := by rfl) (hpl : (backTo pos (starEach es X.env)).any (·.1) = false := by rfl) :
    DP X (.Call (.Name x p) (e :: es) [] pos) (tCall (spOf spd) [] E0 ta) (dCB spd da) := ⟨pe_call F hr hg hm hk hb .nil pass0 ha.p hdb he hpl, ae_call ha.a⟩
theorem d_call0 (F : FnOk X.prog X.w X.K X.mg X.base CX0 k f fd ps (spOf spd)) (hr : Room k X.A) (hg : Gl X x) (hm : X.mg x = some (.ref f)) (hk : PySem.W.keepIn X.K (.ref f) = true) (hb : Binds X.K fd ps [])
    (hdb : (x == ("__debug__" : Str)) = false := by decide) : DP X (.Call (.Name x p) [] [] pos) (tCall (spOf spd) [] E0 tNil) (dCB spd dNil) :=
  ⟨pe_call0 F hr hg hm hk hb .nil pass0 hdb, ae_call fun N σ H ρ μ Kd Q R S h q => q [] H μ [] Stp.refl R .nil h⟩
end

/-! ### statements -/
def dNext : DS := fun F ρ μ => F.nx ρ μ
def dSeq (t u : DS) : DS := fun F ρ μ => t { F with nx := u F } ρ μ
def dRet (de : DE) : DS := fun F ρ μ => de ρ μ F.rt
def dRetN : DS := fun F _ μ => F.rt .non μ
def dDrop (de : DE) : DS := fun F ρ μ => de ρ μ fun _ μ1 => F.nx ρ μ1
def dSet (i : Nat) (de : DE) : DS := fun F ρ μ => de ρ μ fun d μ1 => F.nx (ρ.set i (some d)) μ1
def dIfS (c : DT) (t u : DS) : DS := fun F ρ μ => c ρ μ fun b μ1 => (b = true → t F ρ μ1) ∧ (b = false → u F ρ μ1)
def dBrk : DS := fun F ρ μ => F.bk ρ μ
def dCnt : DS := fun F ρ μ => F.ct ρ μ
def dNever : DS := fun _ _ _ => False
section
variable {X : Cx} {W : WX} {st : Stmt} {rest : List Stmt} {t u : DS} {e : Expr} {te : TE} {de : DE} {pos : Pos}
theorem dss_nil : DPss X W [] dNext := ⟨_, pss_nil, fun N σ H ρ μ D F R S l h => l.nx σ H ρ μ Stp.refl R S h⟩
theorem as_seq {t u : TS} {dt du : DS} (h1 : AS W t dt) (h2 : AS W u du) : AS W (tSeq t u) (dSeq dt du) := fun N σ H ρ μ D F R S l h =>
  h1 N σ H ρ μ _ { F with nx := du F } R S ⟨fun σ' H' ρ' μ' e R' S' k => h2 N σ' H' ρ' μ' D F R' S' (l.mono e) k, l.rt, l.bk, l.ct, l.rx⟩ h
theorem dss_cons (h1 : DPs X W st t) (h2 : DPss X W rest u) : DPss X W (st :: rest) (dSeq t u) := by
  obtain ⟨a, a1, a2⟩ := h1.ex
  obtain ⟨b, b1, b2⟩ := h2.ex
  exact ⟨_, pss_cons a1 b1, as_seq a2 b2⟩
theorem dss_one (h1 : DPs X W st t) : DPss X W [st] t := by
  obtain ⟨a, a1, a2⟩ := h1.ex
  exact ⟨_, pss_one a1, a2⟩
theorem dss_never {sts : List Stmt} : DPss X W sts dNever := ⟨_, pss_never, fun _ _ _ _ _ _ _ _ _ _ h => h.elim⟩
theorem ds_never : DPs X W st dNever := ⟨_, ps_never, fun _ _ _ _ _ _ _ _ _ _ h => h.elim⟩
theorem ds_pass : DPs X W (.Pass pos) dNext := ⟨_, ps_pass, fun N σ H ρ μ D F R S l h => l.nx σ H ρ μ Stp.refl R S h⟩
theorem ds_brk : DPs X W (.Break pos) dBrk := ⟨_, ps_break, fun N σ H ρ μ D F R S l h => l.bk σ H ρ μ Stp.refl R S h⟩
theorem ds_cont : DPs X W (.Continue pos) dCnt := ⟨_, ps_continue, fun N σ H ρ μ D F R S l h => l.ct σ H ρ μ Stp.refl R S h⟩
theorem ds_expr (he : DP X e te de) (hs : swapsWith e none pos.line X.env = pure false := by rfl) : DPs X W (.Expr e pos) (dDrop de) := by
  obtain ⟨a1, a2⟩ := he
  exact ⟨_, ps_expr a1 hs, fun N σ H ρ μ D F R S l h => a2 N σ H ρ μ _ _ R S h fun v H' μ' d e R' r k => l.nx σ H' ρ μ' e R' (S.mono e) k⟩
theorem ds_ret (he : DP X e te de) : DPs X W (.Return (some e) pos) (dRet de) := by
  obtain ⟨a1, a2⟩ := he
  exact ⟨_, ps_ret a1, fun N σ H ρ μ D F R S l h => a2 N σ H ρ μ _ _ R S h fun v H' μ' d e R' r k => l.rt v H' d μ' e R' r k⟩
theorem ds_retN : DPs X W (.Return none pos) dRetN := ⟨_, ps_retN, fun N σ H ρ μ D F R S l h => l.rt .non H .non μ Stp.refl R .non h⟩
theorem ds_if {c : Expr} {a b : List Stmt} {tc : TT} {dc : DT} (hc : DPt X c tc dc) (ha : DPss X W a t) (hb : DPss X W b u) : DPs X W (.If c a b pos) (dIfS dc t u) := by
  obtain ⟨c1, c2⟩ := hc
  obtain ⟨ta, a1, a2⟩ := ha.ex
  obtain ⟨tb, b1, b2⟩ := hb.ex
  refine ⟨_, ps_if c1 a1 b1, fun N σ H ρ μ D F R S l h => c2 N σ H ρ μ _ _ R S h fun b H1 μ1 e1 R1 ⟨ht, hf⟩ => ?_⟩
  cases b with
  | true => exact iteT (a2 N σ H1 ρ μ1 D F R1 (S.mono e1) (l.mono e1) (ht rfl))
  | false => exact iteF (b2 N σ H1 ρ μ1 D F R1 (S.mono e1) (l.mono e1) (hf rfl))
theorem ds_set {i : Nat} {x : Str} {pos' : Pos} (hN : X.N.Nodup) (he : DP X e te de) (hi : X.N[i]? = some x := by rfl) (hx : Loc X.env.scope x := by first | exact Or.inl rfl | exact Or.inr rfl) (hs : swapsWith e (some (.Name x pos')) pos.line X.env = pure false := by rfl)
    (hf : X.fn x = true ∨ X.env.scope.names.lookup x = some .local := by first | exact .inl rfl | exact .inr rfl | assumption) : DPs X W (.Assign [.Name x pos'] e pos) (dSet i de) := by
  obtain ⟨a1, a2⟩ := he
  exact ⟨_, ps_set hN hi hx a1 hs hf, fun N σ H ρ μ D F R S l h => a2 N σ H ρ μ _ _ R S h fun v H' μ' d e R' r k => l.nx _ H' _ μ' e R' ((S.mono e).set r) k⟩
/-- op= on a name -/
def dAug (i : Nat) (rd : R2D) (de : DE) : DS := fun F ρ μ => ∃ x, dget ρ i = some x ∧ de ρ μ fun y μ1 => rd x y μ1 fun z μ2 => F.nx (ρ.set i (some z)) μ2
structure DIp (X : Cx) (op : Operator) (r : R2) (rd : R2D) : Prop where
  p : PIp X op r
  a : AR2 r rd
theorem ds_aug {i : Nat} {x : Str} {op : Operator} {r : R2} {rd : R2D} {pos' : Pos} (hN : X.N.Nodup) (he : DP X e te de) (ho : DIp X op r rd) (hi : X.N[i]? = some x := by rfl) (hx : Loc X.env.scope x := by first | exact Or.inl rfl | exact Or.inr rfl)
    (hf : X.fn x = true ∨ X.env.scope.names.lookup x = some .local := by first | exact .inl rfl | exact .inr rfl | assumption) : DPs X W (.AugAssign (.Name x pos') op e pos) (dAug i rd de) := by
  obtain ⟨a1, a2⟩ := he
  obtain ⟨o1, o2⟩ := ho
  refine ⟨_, ps_aug hN hi hx a1 o1 hf, fun N σ H ρ μ D F R S l h => ?_⟩
  obtain ⟨x, hx, h⟩ := h
  obtain ⟨v, h1, h2⟩ := S.2 i x (dget_eq hx)
  refine ⟨v, h1, a2 N σ H ρ μ _ _ R S h fun w H1 μ1 dw e1 R1 rw' k => ?_⟩
  exact o2 N H1 μ1 v w x dw _ _ R1 (h2.mono e1) rw' k fun z H2 μ2 dz e2 R2 rz k2 => l.nx _ H2 _ μ2 (e1.trans e2) R2 ((S.mono (e1.trans e2)).set rz) k2
/-- at any place what is owned may be given up: the slot i, which held its handle, holds its data -/
def dGive (i : Nat) (ds : DS) : DS := fun F ρ μ => ∃ (a : Addr) (xs : List Dt), dget ρ i = some (.hdl a) ∧ μ a = some (.lst xs) ∧ ds F (ρ.set i (some (.lst xs))) (mdel μ a)
theorem dss_give (i : Nat) {sts : List Stmt} {ds : DS} (h : DPss X W sts ds) : DPss X W sts (dGive i ds) := by
  obtain ⟨t, h1, h2⟩ := h.ex
  refine ⟨t, h1, fun N σ H ρ μ D F R S l h => ?_⟩
  obtain ⟨a, xs, e1, e2, h⟩ := h
  obtain ⟨v, s1, s2⟩ := S.2 i _ (dget_eq e1)
  have hv : v = .ref a := by
    cases s2
    rfl
  subst hv
  obtain ⟨n, vs, g1, g2⟩ := R.own a _ e2
  have r : Rp N (mdel μ a) H (.ref a) (.lst xs) := .lst n mdel_same g1 (g2.mono stp_free)
  have S2 := (S.mono (stp_free (p := a))).set (i := i) r
  have es : σ.set i (some (.ref a)) = σ := by
    apply List.ext_getElem?
    intro j
    by_cases hj : i = j
    · subst hj
      rw [s1, List.getElem?_set_self (List.getElem?_eq_some_iff.mp s1).1]
    · rw [List.getElem?_set_ne hj]
  rw [es] at S2
  exact h2 N σ H _ _ D F R.free S2 (l.mono stp_free) h
end

/-! ### a def keeps its promise over data -/
def dstart (N : List Str) (ds : List Dt) : DEnv := ds.map some ++ List.replicate (N.length - ds.length) none
theorem sl_start {N : Hid} {μ : Mu} {H : Hp} {vs : List V} {ds : List Dt} (r : RpAll N μ H vs ds) (names : List Str) : Sl N μ H (L2.start names vs) (dstart names ds) := by
  have hl := r.length
  refine ⟨by unfold L2.start dstart; simp [hl], fun i d e => ?_⟩
  unfold dstart at e
  by_cases hi : i < ds.length
  · rw [List.getElem?_append_left (by rw [List.length_map]; exact hi), List.getElem?_map, List.getElem?_eq_getElem hi] at e
    have e' : ds[i] = d := by simpa using e
    obtain ⟨v, h1, h2⟩ := r.get (i := i) (d := d) (by rw [List.getElem?_eq_getElem hi, e'])
    refine ⟨v, ?_, h2⟩
    unfold L2.start
    rw [List.getElem?_append_left (by rw [List.length_map, hl]; exact hi), List.getElem?_map, h1]
    rfl
  · rw [List.getElem?_append_right (by rw [List.length_map]; omega)] at e
    rw [List.getElem?_replicate] at e
    split at e <;> cases e
section
variable {P : Program} {w : World} {K : PySem.W.Frag} {mg : Str → Option Value} {base : Heap}
theorem fn_data {x qual : Str} {st : Stmt} {f : Addr} {fd : FuncData} {N ps : List Str} {k : Nat} {spd : SpD} (F : Fun K x qual st f fd) (S : FnScope N ps (defScope st)) (len : ∀ ds μ Kd, spd ds μ Kd → ds.length = ps.length)
    (hbody : ∀ (cdv : Value) (A : Around) (outer : List Env) (s : Shared) (H : Hp) (E : XK), Room k (A.deeper (envOfC qual (defScope st) s.heap.objs.size f cdv)) →
      ∃ d, DPss (cxOf CX0 P w K mg base N qual (defScope st) f cdv A outer s H E).nox (fun _ _ _ _ => False) (defBody st) d ∧ ∀ ds μ Kd, spd ds μ Kd → d { nx := fun _ μ' => Kd .non μ', rt := Kd } (dstart N ds) μ) :
    FnOk P w K mg base CX0 (k + 1) f fd ps (spOf spd) := by
  refine F.ok S (fun vs H Q E h => ?_) (fun cdv A outer s H vs Q E hr h => ?_)
  · obtain ⟨Nh, μ, ds, Kd, R, r, h, _⟩ := h
    rw [r.length]
    exact len ds μ Kd h
  · obtain ⟨Nh, μ, ds, Kd, R, r, h, q⟩ := h
    obtain ⟨d, hd, hh⟩ := hbody cdv A outer s H E hr
    obtain ⟨t, h1, h2⟩ := hd.ex
    refine ⟨t, h1, h2 Nh _ H _ μ _ _ R (sl_start r N) ⟨fun σ' H' ρ' μ' e R' S' k => q .non H' μ' .non e R' .non k, fun v H' d' μ' e R' rr k => q v H' μ' d' e R' rr k, fun _ _ _ _ _ _ _ k => (show False from k).elim, fun _ _ _ _ _ _ _ k => (show False from k).elim, fun _ _ _ _ _ _ _ _ _ _ _ _ _ _ _ _ _ k => (show False from k).elim⟩ (hh ds μ Kd h)⟩
end
end DL

set_option Elab.async false
set_option linter.all false
set_option maxRecDepth 100000
set_option maxHeartbeats 4000000
namespace DL
open PySem PySem.Spec PyProof.Rows L2

/-! ### texts as lists of signs -/
theorem mkS_length (z : List Nat) : (mkS z).length = z.length := by simp [mkS, Str.length]
theorem mkS_append (a b : List Nat) : mkS a ++ mkS b = mkS (a ++ b) := TL.ext_tl (by rw [TL.tl_append]; rfl)
theorem mkS_toList (z : List Nat) : (mkS z).cps.toList = z := rfl
theorem mkS_inj {a b : List Nat} (h : mkS a = mkS b) : a = b := by
  have := congrArg (fun x : Str => x.cps.toList) h
  exact this
theorem Rp.strInv {N : Hid} {μ : Mu} {H : Hp} {v : V} {z : List Nat} (h : Rp N μ H v (.str z)) : v = .str (mkS z) ∧ ∀ c ∈ z, c < 0x110000 := by
  cases h with
  | str z h => exact ⟨rfl, h⟩
theorem Rp.lstInv {N : Hid} {μ : Mu} {H : Hp} {v : V} {ds : List Dt} (h : Rp N μ H v (.lst ds)) : ∃ a vs, v = .ref a ∧ ¬ N a ∧ μ a = none ∧ H a = some (.lst vs) ∧ RpAll N μ H vs ds := by
  cases h with
  | lst n m h r => exact ⟨_, _, rfl, n, m, h, r⟩
theorem Rp.tupInv {N : Hid} {μ : Mu} {H : Hp} {v : V} {ds : List Dt} (h : Rp N μ H v (.tup ds)) : ∃ a vs, v = .ref a ∧ ¬ N a ∧ μ a = none ∧ H a = some (.tup vs) ∧ RpAll N μ H vs ds := by
  cases h with
  | tup n m h r => exact ⟨_, _, rfl, n, m, h, r⟩
theorem Rp.intInv {N : Hid} {μ : Mu} {H : Hp} {v : V} {i : Int} (h : Rp N μ H v (.int i)) : v = .int i := by
  cases h
  rfl
theorem Rp.hdlInv {N : Hid} {μ : Mu} {H : Hp} {v : V} {a : Addr} (h : Rp N μ H v (.hdl a)) : v = .ref a := by
  cases h
  rfl
theorem RpAll.ints {N : Hid} {μ : Mu} {H : Hp} : ∀ {ns : List Int} {vs : List V}, RpAll N μ H vs (ns.map .int) → vs = ns.map .int
  | [], _, h => by
    cases h
    rfl
  | n :: ns, _, h => by
    cases h with
    | cons h r => rw [h.intInv, RpAll.ints r, List.map_cons]
theorem RpAll.strs {N : Hid} {μ : Mu} {H : Hp} : ∀ {zs : List (List Nat)} {vs : List V}, RpAll N μ H vs (zs.map .str) → vs = (zs.map mkS).map .str ∧ ∀ z ∈ zs, ∀ c ∈ z, c < 0x110000
  | [], _, h => by
    cases h
    exact ⟨rfl, fun _ h => nomatch h⟩
  | z :: zs, _, h => by
    cases h with
    | cons h r =>
      obtain ⟨e1, e2⟩ := RpAll.strs r
      obtain ⟨f1, f2⟩ := h.strInv
      refine ⟨by rw [f1, e1, List.map_cons, List.map_cons], fun y hy => ?_⟩
      rcases List.mem_cons.mp hy with rfl | hy
      · exact f2
      · exact e2 y hy

/-! ### ints -/
def rdI (C : Int → Int → Prop) (g : Int → Int → Dt) : R2D := fun x y μ K => ∃ i j, x = .int i ∧ y = .int j ∧ C i j ∧ K (g i j) μ
def rdI0 (g : Int → Int → Dt) : R2D := fun x y μ K => ∃ i j, x = .int i ∧ y = .int j ∧ K (g i j) μ
theorem ar_I {C : Int → Int → Prop} {g : Int → Int → V} {gd : Int → Int → Dt} (hg : ∀ N μ H i j, Rp N μ H (g i j) (gd i j)) : AR2 (rI C g) (rdI C gd) := fun N H μ x y dx dy Kd Q R rx ry h q => by
  obtain ⟨i, j, ei, ej, c, k⟩ := h
  subst ei ej
  exact ⟨i, j, rx.intInv, ry.intInv, c, q _ H μ _ Stp.refl R (hg N μ H i j) k⟩
theorem ar_I0 {g : Int → Int → V} {gd : Int → Int → Dt} (hg : ∀ N μ H i j, Rp N μ H (g i j) (gd i j)) : AR2 (rI0 g) (rdI0 gd) := fun N H μ x y dx dy Kd Q R rx ry h q => by
  obtain ⟨i, j, ei, ej, k⟩ := h
  subst ei ej
  exact ⟨i, j, rx.intInv, ry.intInv, q _ H μ _ Stp.refl R (hg N μ H i j) k⟩
def rdSub : R2D := rdI0 fun i j => .int (i - j)
def rdFdiv : R2D := rdI CDivW fun i j => .int (i / j)
def rdMod : R2D := rdI (fun _ j => 0 < j) fun i j => .int (i % j)
def rdPow : R2D := rdI CPow fun i j => .int (i ^ j.toNat)
def rdXor : R2D := rdI0 fun i j => .int (Builtin.bitXor i j)
def rdLt : R2D := rdI0 fun i j => .bl (decide (i < j))
def rdLe : R2D := rdI0 fun i j => .bl (decide (i ≤ j))
def rdGt : R2D := rdI0 fun i j => .bl (decide (j < i))
def rdGe : R2D := rdI0 fun i j => .bl (decide (j ≤ i))
section
variable {X : Cx}
theorem dop_sub : DOp X (binaryOp .Sub) (rI0 fun i j => .int (i - j)) rdSub := ⟨op_sub, ar_I0 fun _ _ _ _ _ => .int _⟩
theorem dop_fdiv : DOp X (binaryOp .FloorDiv) (rI CDivW fun i j => .int (i / j)) rdFdiv := ⟨op_fdivW, ar_I fun _ _ _ _ _ => .int _⟩
theorem dop_mod : DOp X (binaryOp .Mod) (rI (fun _ j => 0 < j) fun i j => .int (i % j)) rdMod := ⟨op_mod, ar_I fun _ _ _ _ _ => .int _⟩
theorem dop_pow : DOp X (binaryOp .Pow) (rI CPow fun i j => .int (i ^ j.toNat)) rdPow := ⟨op_pow, ar_I fun _ _ _ _ _ => .int _⟩
theorem dop_xor : DOp X (binaryOp .BitXor) (rI0 fun i j => .int (Builtin.bitXor i j)) rdXor := ⟨op_xor, ar_I0 fun _ _ _ _ _ => .int _⟩
theorem dop_lt : DOp X (compareOp .Lt) (rI0 fun i j => .bl (decide (i < j))) rdLt := ⟨op_lt, ar_I0 fun _ _ _ _ _ => .bl _⟩
theorem dop_le : DOp X (compareOp .LtE) (rI0 fun i j => .bl (decide (i ≤ j))) rdLe := ⟨op_le, ar_I0 fun _ _ _ _ _ => .bl _⟩
theorem dop_gt : DOp X (compareOp .Gt) (rI0 fun i j => .bl (decide (j < i))) rdGt := ⟨op_gt, ar_I0 fun _ _ _ _ _ => .bl _⟩
theorem dop_ge : DOp X (compareOp .GtE) (rI0 fun i j => .bl (decide (j ≤ i))) rdGe := ⟨op_ge, ar_I0 fun _ _ _ _ _ => .bl _⟩
end

/-! ### + -/
def rdAdd : R2D
  | .int i, .int j, μ, K => K (.int (i + j)) μ
  | .str a, .str b, μ, K => a.length + b.length ≤ 1000000 ∧ K (.str (a ++ b)) μ
  | .lst a, .lst b, μ, K => a.length + b.length ≤ 1000000 ∧ K (.lst (a ++ b)) μ
  | .tup a, .tup b, μ, K => a.length + b.length ≤ 1000000 ∧ K (.tup (a ++ b)) μ
  | _, _, _, _ => False
def rAddA (K : PySem.W.Frag) : R2 := fun x y H Q => (rI0 (fun i j => .int (i + j)) x y H Q ∨ (∃ i j, x = .str i ∧ y = .str j ∧ i.length + j.length ≤ sizeLine ∧ Q (.str (i ++ j)) H)) ∨ (rCat x y H Q ∨ rCatA K x y H Q)
theorem ar_add {K : PySem.W.Frag} : AR2 (rAddA K) rdAdd := fun N H μ x y dx dy Kd Q R rx ry h q => by
  cases dx <;> cases dy <;> try exact (show False from h).elim
  · rename_i i j
    exact .inl (.inl ⟨i, j, rx.intInv, ry.intInv, q _ H μ _ Stp.refl R (.int _) h⟩)
  · rename_i a b
    obtain ⟨e1, f1⟩ := rx.strInv
    obtain ⟨e2, f2⟩ := ry.strInv
    obtain ⟨hl, k⟩ := h
    refine .inl (.inr ⟨mkS a, mkS b, e1, e2, ?_, ?_⟩)
    · rw [mkS_length, mkS_length]
      exact szl hl
    · rw [mkS_append]
      exact q _ H μ _ Stp.refl R (.str _ fun c hc => (List.mem_append.mp hc).elim (f1 c) (f2 c)) k
  · rename_i xs ys
    obtain ⟨a, vs, rfl, n1, m1, h1, r1⟩ := rx.lstInv
    obtain ⟨b, ws, rfl, n2, m2, h2, r2⟩ := ry.lstInv
    obtain ⟨hl, k⟩ := h
    refine .inr (.inl ⟨a, b, vs, ws, rfl, rfl, h1, h2, by rw [r1.length, r2.length]; exact szl hl, fun p hp => ?_⟩)
    exact q _ _ μ _ (stp_new hp) (R.new hp) (Rp.newLst R hp (r1.append r2)) k
  · rename_i xs ys
    obtain ⟨a, vs, rfl, n1, m1, h1, r1⟩ := rx.tupInv
    obtain ⟨b, ws, rfl, n2, m2, h2, r2⟩ := ry.tupInv
    obtain ⟨hl, k⟩ := h
    refine .inr (.inr ⟨a, b, vs, ws, rfl, rfl, .of h1, .of h2, by rw [r1.length, r2.length]; exact szl hl, fun e => ?_, fun _ e => ?_, fun _ _ p hp => ?_⟩)
    · subst e
      have : xs = [] := by
        cases r1
        rfl
      subst this
      exact q _ H μ _ Stp.refl R ry k
    · subst e
      have : ys = [] := by
        cases r2
        rfl
      subst this
      rw [List.append_nil] at k
      exact q _ H μ _ Stp.refl R rx k
    · exact q _ _ μ _ (stp_new hp) (R.new hp) (Rp.newTup R hp (r1.append r2)) k
theorem dop_add {X : Cx} : DOp X (binaryOp .Add) (rAddA X.K) rdAdd := ⟨(op_add.or op_add_str).or (op_cat.or op_catA), ar_add⟩
theorem dip_add {X : Cx} : DIp X .Add (ipI fun i j => i + j) (rdI0 fun i j => .int (i + j)) := ⟨ip_add, ar_I0 fun _ _ _ _ _ => .int _⟩
theorem dip_sub {X : Cx} : DIp X .Sub (ipI fun i j => i - j) (rdI0 fun i j => .int (i - j)) := ⟨ip_sub, ar_I0 fun _ _ _ _ _ => .int _⟩

/-! ### * -/
theorem flat_cps (z : List Nat) : ∀ n : Nat, (List.replicate n (mkS z).cps).foldl (· ++ ·) #[] = (List.replicate n z).flatten.toArray := by
  have key : ∀ (n : Nat) (acc : Array Nat), (List.replicate n (mkS z).cps).foldl (· ++ ·) acc = acc ++ (List.replicate n z).flatten.toArray := by
    intro n
    induction n with
    | zero => intro acc; simp
    | succ n ih =>
      intro acc
      rw [List.replicate_succ, List.foldl_cons, ih, List.replicate_succ, List.flatten_cons]
      show (acc ++ z.toArray) ++ _ = _
      simp
  intro n
  rw [key n #[]]
  simp
/-- a text * an int -/
def rMulS : R2 := fun x y H Q => ∃ (z : List Nat) (n : Int), x = .str (mkS z) ∧ y = .int n ∧ 0 ≤ n ∧ n ≤ 1000000 ∧ z.length * n.toNat ≤ 1000000 ∧ Q (.str (mkS (List.replicate n.toNat z).flatten)) H
theorem len_rep (z : List Nat) (n : Nat) : (List.replicate n z).flatten.length = z.length * n := by
  induction n with
  | zero => simp
  | succ n ih => rw [List.replicate_succ, List.flatten_cons, List.length_append, ih, Nat.mul_succ, Nat.add_comm]
theorem op_mulS {X : Cx} : OpR X (binaryOp .Mult) rMulS := by
  intro pins s σ H x y v u Q I rx ry h
  obtain ⟨z, n, rfl, rfl, h0, h1, hz, q⟩ := h
  obtain ⟨t, rfl⟩ := rx
  obtain ⟨t', rfl⟩ := ry
  have hs : sizeLine = 16777216 := sizeLine_eq
  refine PySem.P.mul_str (by rw [decide_eq_false (by omega), decide_eq_false (by omega)] <;> rfl) (fun hn _ => ?_) (fun hn _ => ?_) ?_
  · rw [mkS_length]
    have hl : (z.length : Int) * n ≤ 1000000 := by
      have : ((z.length * n.toNat : Nat) : Int) ≤ 1000000 := by omega
      rw [Int.natCast_mul] at this
      rw [show ((n.toNat : Nat) : Int) = n by omega] at this
      exact this
    have : (z.length : Int) ≤ (2 ^ 63 - 1) / n := by
      refine (Int.le_ediv_iff_mul_le (by omega)).mpr ?_
      omega
    omega
  · rw [mkS_length]
    unfold Builtin.Str.tooLong
    rw [hs]
    exact decide_eq_false (by omega)
  · by_cases hn : n < 1
    · rw [if_pos hn]
      have e : n.toNat = 0 := by omega
      rw [e] at q
      exact ⟨by decide, .str _, H, I.tok _, ⟨_, rfl⟩, q⟩
    · rw [if_neg hn]
      by_cases hc : (n == 1 || (mkS z).length == 0) = true
      · rw [if_pos hc]
        refine ⟨.str (mkS z), H, I, ⟨t, rfl⟩, ?_⟩
        have e : (List.replicate n.toNat z).flatten = z := by
          rcases Bool.or_eq_true_iff.mp hc with hc | hc
          · have : n = 1 := by simpa using hc
            subst this
            simp
          · have : z = [] := by
              have : z.length = 0 := by
                rw [mkS_length] at hc
                simpa using hc
              exact List.length_eq_zero_iff.mp this
            subst this
            simp
        rw [e] at q
        exact q
      · rw [if_neg hc, flat_cps]
        refine ⟨?_, .str _, H, I.tok _, ⟨_, rfl⟩, q⟩
        show ((List.replicate n.toNat z).flatten.toArray).size ≤ sizeLine
        rw [List.size_toArray, len_rep, hs]
        omega
def rdMul : R2D
  | .int i, .int j, μ, K => CMulW i j ∧ K (.int (i * j)) μ
  | .str a, .int n, μ, K => (0 ≤ n ∧ n ≤ 1000000 ∧ a.length * n.toNat ≤ 1000000) ∧ K (.str (List.replicate n.toNat a).flatten) μ
  | _, _, _, _ => False
def rMulA : R2 := fun x y H Q => rI CMulW (fun i j => .int (i * j)) x y H Q ∨ rMulS x y H Q
theorem dop_mul {X : Cx} : DOp X (binaryOp .Mult) rMulA rdMul := by
  refine ⟨op_mulW.or op_mulS, fun N H μ x y dx dy Kd Q R rx ry h q => ?_⟩
  cases dx <;> cases dy <;> try exact (show False from h).elim
  · rename_i i j
    exact .inl ⟨i, j, rx.intInv, ry.intInv, h.1, q _ H μ _ Stp.refl R (.int _) h.2⟩
  · rename_i a n
    obtain ⟨e1, f1⟩ := rx.strInv
    obtain ⟨⟨h0, h1, h2⟩, k⟩ := h
    refine .inr ⟨a, n, e1, ry.intInv, h0, h1, h2, q _ H μ _ Stp.refl R (.str _ fun c hc => ?_) k⟩
    obtain ⟨l, hl, hc⟩ := List.mem_flatten.mp hc
    rw [List.eq_of_mem_replicate hl] at hc
    exact f1 c hc
end DL

set_option Elab.async false
set_option linter.all false
set_option maxRecDepth 100000
set_option maxHeartbeats 4000000
namespace DL
open PySem PySem.Spec PyProof.Rows L2

/-! ### == -/
mutual
def deq : Dt → Dt → Bool
  | .non, .non => true
  | .bl a, .bl b => a == b
  | .bl a, .int j => (if a then 1 else 0) == j
  | .int i, .bl b => i == (if b then 1 else 0)
  | .int i, .int j => i == j
  | .str a, .str b => a == b
  | .lst xs, .lst ys => deqAll xs ys
  | .tup xs, .tup ys => deqAll xs ys
  | _, _ => false
def deqAll : List Dt → List Dt → Bool
  | [], [] => true
  | x :: xs, y :: ys => deq x y && deqAll xs ys
  | _, _ => false
end
mutual
def toPy : Dt → PyData
  | .non => .none
  | .bl b => .bool b
  | .int i => .int i
  | .str z => .str (mkS z)
  | .lst xs => .list (toPyAll xs)
  | .tup xs => .tuple (toPyAll xs)
  | .dk _ _ => .none
  | .hdl _ => .none
  | .scr _ => .none
  | .exc _ _ _ _ => .none
def toPyAll : List Dt → List PyData
  | [] => []
  | x :: xs => toPy x :: toPyAll xs
end
mutual
/-- plain data, at most n deep -/
def shl : Nat → Dt → Bool
  | _, .non => true
  | _, .bl _ => true
  | _, .int _ => true
  | _, .str _ => true
  | n, .lst xs => decide (0 < n) && shlAll (n - 1) xs
  | n, .tup xs => decide (0 < n) && shlAll (n - 1) xs
  | _, .dk _ _ => false
  | _, .hdl _ => false
  | _, .scr _ => false
  | _, .exc _ _ _ _ => false
def shlAll : Nat → List Dt → Bool
  | _, [] => true
  | n, x :: xs => shl n x && shlAll n xs
end
theorem shlAll_iff (n : Nat) : ∀ xs : List Dt, shlAll n xs = true ↔ ∀ x ∈ xs, shl n x = true
  | [] => by simp [shlAll]
  | x :: xs => by
    rw [shlAll, Bool.and_eq_true, shlAll_iff n xs]
    simp
theorem beq_mkS (a b : List Nat) : (mkS a == mkS b) = (a == b) := by
  rw [Bool.eq_iff_iff, beq_iff_eq, beq_iff_eq]
  exact ⟨mkS_inj, fun e => by rw [e]⟩
mutual
theorem eqv_toPy : ∀ (n m : Nat) (a b : Dt), shl n a = true → shl m b = true → PyData.eqv (toPy a) (toPy b) = deq a b
  | n, m, a, b, ha, hb => by
    cases a <;> cases b <;> first
      | exact absurd (show false = true from ha) Bool.false_ne_true
      | exact absurd (show false = true from hb) Bool.false_ne_true
      | (simp only [toPy, PyData.eqv, deq]; done)
      | skip
    · rename_i x y
      simp only [toPy, PyData.eqv, deq]
      exact beq_mkS x y
    · rename_i xs ys
      simp only [shl, Bool.and_eq_true] at ha hb
      simp only [toPy, PyData.eqv, deq]
      exact eqvAll_toPy (n - 1) (m - 1) xs ys ha.2 hb.2
    · rename_i xs ys
      simp only [shl, Bool.and_eq_true] at ha hb
      simp only [toPy, PyData.eqv, deq]
      exact eqvAll_toPy (n - 1) (m - 1) xs ys ha.2 hb.2
theorem eqvAll_toPy : ∀ (n m : Nat) (xs ys : List Dt), shlAll n xs = true → shlAll m ys = true → PyData.eqvAll (toPyAll xs) (toPyAll ys) = deqAll xs ys
  | _, _, [], [], _, _ => by simp [toPyAll, PyData.eqvAll, deqAll]
  | _, _, [], _ :: _, _, _ => by simp [toPyAll, PyData.eqvAll, deqAll]
  | _, _, _ :: _, [], _, _ => by simp [toPyAll, PyData.eqvAll, deqAll]
  | n, m, x :: xs, y :: ys, ha, hb => by
    rw [shlAll, Bool.and_eq_true] at ha hb
    simp only [toPyAll, PyData.eqvAll, deqAll]
    rw [eqv_toPy n m x y ha.1 hb.1, eqvAll_toPy n m xs ys ha.2 hb.2]
end
theorem strOk_of {z : List Nat} (h : ∀ c ∈ z, c < 0x110000) : PyData.strOk (mkS z) = true := by
  show (z.toArray).all (fun x => decide (x < 0x110000)) = true
  rw [List.all_toArray, List.all_eq_true]
  intro x hx
  exact decide_eq_true (h x hx)
section
variable {K : PySem.W.Frag} {N : Hid} {μ : Mu} {H : Hp}
mutual
theorem Rp.dp : ∀ {v : V} {d : Dt} (n : Nat), Rp N μ H v d → shl n d = true → Dp K H v (toPy d) ∧ (toPy d).canLay0 = true ∧ (toPy d).depth ≤ n
  | _, _, n, .non, _ => ⟨.non, by simp [toPy, PyData.canLay0], by simp [toPy, PyData.depth]⟩
  | _, _, n, .bl b, _ => ⟨.bl b, by simp [toPy, PyData.canLay0], by simp [toPy, PyData.depth]⟩
  | _, _, n, .int i, _ => ⟨.int i, by simp [toPy, PyData.canLay0], by simp [toPy, PyData.depth]⟩
  | _, _, n, .str z h, _ => ⟨.str _, by simp only [toPy, PyData.canLay0]; exact strOk_of h, by simp [toPy, PyData.depth]⟩
  | _, _, n, .lst na m h r, hs => by
    simp only [shl, Bool.and_eq_true, decide_eq_true_eq] at hs
    obtain ⟨h1, h2, h3⟩ := RpAll.dp (n - 1) r hs.2
    simp only [toPy]
    exact ⟨.lst (SqL.of h) h1, by simp only [PyData.canLay0]; exact h2, by simp only [PyData.depth]; omega⟩
  | _, _, n, .tup na m h r, hs => by
    simp only [shl, Bool.and_eq_true, decide_eq_true_eq] at hs
    obtain ⟨h1, h2, h3⟩ := RpAll.dp (n - 1) r hs.2
    simp only [toPy]
    exact ⟨.tup (SqT.of h) h1, by simp only [PyData.canLay0]; exact h2, by simp only [PyData.depth]; omega⟩
  | _, _, n, .dk _ _ _ _, hs => absurd (show false = true from hs) Bool.false_ne_true
  | _, _, n, .hdl _, hs => absurd (show false = true from hs) Bool.false_ne_true
  | _, _, n, .scr _ _ _, hs => absurd (show false = true from hs) Bool.false_ne_true
  | _, _, n, .exc _ _ _ _ _, hs => absurd (show false = true from hs) Bool.false_ne_true
theorem RpAll.dp : ∀ {vs : List V} {ds : List Dt} (n : Nat), RpAll N μ H vs ds → shlAll n ds = true → DpAll K H vs (toPyAll ds) ∧ PyData.canLayAll0 (toPyAll ds) = true ∧ PyData.depthAll (toPyAll ds) ≤ n
  | _, _, n, .nil, _ => ⟨.nil, by simp [toPyAll, PyData.canLayAll0], by simp [toPyAll, PyData.depthAll]⟩
  | _, _, n, .cons h r, hs => by
    rw [shlAll, Bool.and_eq_true] at hs
    obtain ⟨h1, h2, h3⟩ := Rp.dp n h hs.1
    obtain ⟨g1, g2, g3⟩ := RpAll.dp n r hs.2
    simp only [toPyAll]
    exact ⟨.cons h1 g1, by simp only [PyData.canLayAll0, h2, g2, Bool.and_self], by simp only [PyData.depthAll]; omega⟩
end
theorem shaped_of {d : PyData} (h1 : d.canLay0 = true) (h2 : d.depth ≤ 60) : SeqAt.shaped d = true := by
  unfold SeqAt.shaped
  rw [h1, decide_eq_true (show d.depth ≤ 64 by omega)]
  rfl
end
/-- x == y of plain data -/
def rdEq : R2D := fun x y μ K => (shl 60 x = true ∧ shl 60 y = true) ∧ K (.bl (deq x y)) μ
def rdNe : R2D := fun x y μ K => (shl 60 x = true ∧ shl 60 y = true) ∧ K (.bl (!deq x y)) μ
section
variable {X : Cx}
theorem dop_eq (hu : X.A.units + 64 < cLine) : DOp X (compareOp .Eq) (rEqD X.K) rdEq := ⟨op_eqD hu, fun N H μ x y dx dy Kd Q R rx ry h q => by
  obtain ⟨⟨hx, hy⟩, k⟩ := h
  obtain ⟨p1, p2, p3⟩ := rx.dp (K := X.K) 60 hx
  obtain ⟨q1, q2, q3⟩ := ry.dp (K := X.K) 60 hy
  refine ⟨_, _, p1, q1, shaped_of p2 p3, shaped_of q2 q3, ?_⟩
  rw [eqv_toPy 60 60 dx dy hx hy]
  exact q _ H μ _ Stp.refl R (.bl _) k⟩
theorem dop_ne (hu : X.A.units + 64 < cLine) : DOp X (compareOp .NotEq) (rNeD X.K) rdNe := ⟨op_neD hu, fun N H μ x y dx dy Kd Q R rx ry h q => by
  obtain ⟨⟨hx, hy⟩, k⟩ := h
  obtain ⟨p1, p2, p3⟩ := rx.dp (K := X.K) 60 hx
  obtain ⟨q1, q2, q3⟩ := ry.dp (K := X.K) 60 hy
  refine ⟨_, _, p1, q1, shaped_of p2 p3, shaped_of q2 q3, ?_⟩
  rw [eqv_toPy 60 60 dx dy hx hy]
  exact q _ H μ _ Stp.refl R (.bl _) k⟩
/-- is None -/
def isNon : Dt → Bool
  | .non => true
  | _ => false
def rdIsN : R2D := fun x y μ K => y = .non ∧ K (.bl (isNon x)) μ
def rdNotN : R2D := fun x y μ K => y = .non ∧ K (.bl (!isNon x)) μ
theorem Rp.non_iff {N : Hid} {μ : Mu} {H : Hp} {v : V} {d : Dt} (h : Rp N μ H v d) : decide (v = .non) = isNon d := by
  cases h <;> simp [isNon]
theorem Rp.nonInv {N : Hid} {μ : Mu} {H : Hp} {v : V} (h : Rp N μ H v .non) : v = .non := by
  cases h
  rfl
theorem dop_isN : DOp X (compareOp .Is) (fun x y H Q => y = .non ∧ Q (.bl (decide (x = .non))) H) rdIsN := ⟨op_isN, fun N H μ x y dx dy Kd Q R rx ry h q => by
  obtain ⟨ey, k⟩ := h
  subst ey
  refine ⟨ry.nonInv, ?_⟩
  rw [rx.non_iff]
  exact q _ H μ _ Stp.refl R (.bl _) k⟩
theorem dop_notN : DOp X (compareOp .IsNot) (fun x y H Q => y = .non ∧ Q (.bl (!decide (x = .non))) H) rdNotN := ⟨op_notN, fun N H μ x y dx dy Kd Q R rx ry h q => by
  obtain ⟨ey, k⟩ := h
  subst ey
  refine ⟨ry.nonInv, ?_⟩
  rw [rx.non_iff]
  exact q _ H μ _ Stp.refl R (.bl _) k⟩

/-! ### in -/
def flatD : Dt → Bool
  | .non => true
  | .bl _ => true
  | .int _ => true
  | .str _ => true
  | _ => false
theorem Rp.flat {N : Hid} {μ : Mu} {H : Hp} {v : V} {d : Dt} (h : Rp N μ H v d) (f : flatD d = true) : flatV v = true := by
  cases h <;> first | rfl | exact absurd (show false = true from f) Bool.false_ne_true
theorem Rp.eqV {N : Hid} {μ : Mu} {H : Hp} {v w : V} {d e : Dt} (h : Rp N μ H v d) (h' : Rp N μ H w e) (f : flatD d = true) (f' : flatD e = true) : eqV v w = deq d e := by
  cases h <;> cases h' <;> first
    | exact absurd (show false = true from f) Bool.false_ne_true
    | exact absurd (show false = true from f') Bool.false_ne_true
    | (simp only [L2.eqV, deq]; done)
    | (simp only [L2.eqV, deq]; exact beq_mkS _ _)
theorem RpAll.flat {N : Hid} {μ : Mu} {H : Hp} : ∀ {vs : List V} {ds : List Dt}, RpAll N μ H vs ds → ds.all flatD = true → vs.all flatV = true
  | _, _, .nil, _ => rfl
  | _, _, .cons h r, f => by
    rw [List.all_cons, Bool.and_eq_true] at f
    rw [List.all_cons, h.flat f.1, RpAll.flat r f.2]
    rfl
theorem RpAll.inV {N : Hid} {μ : Mu} {H : Hp} {x : V} {dx : Dt} (hx : Rp N μ H x dx) (fx : flatD dx = true) : ∀ {vs : List V} {ds : List Dt}, RpAll N μ H vs ds → ds.all flatD = true → L2.inV x vs = ds.any fun y => deq y dx
  | _, _, .nil, _ => rfl
  | _, _, .cons h r, f => by
    rw [List.all_cons, Bool.and_eq_true] at f
    unfold L2.inV
    rw [List.any_cons, List.any_cons, h.eqV hx f.1 fx]
    have := RpAll.inV hx fx r f.2
    unfold L2.inV at this
    rw [this]
def rdInB (neg : Bool) : R2D
  | x, .lst ys, μ, K => (flatD x = true ∧ ys.all flatD = true) ∧ K (.bl (if neg then !(ys.any fun y => deq y x) else ys.any fun y => deq y x)) μ
  | x, .tup ys, μ, K => (flatD x = true ∧ ys.all flatD = true) ∧ K (.bl (if neg then !(ys.any fun y => deq y x) else ys.any fun y => deq y x)) μ
  | _, _, _, _ => False
def rdIn : R2D := rdInB false
def rdNotIn : R2D := rdInB true
theorem ar_inB {K : PySem.W.Frag} {neg : Bool} : AR2 (L2.rIn K neg) (rdInB neg) := fun N H μ x y dx dy Kd Q R rx ry h q => by
  cases dy <;> try exact (show False from h).elim
  · rename_i ys
    obtain ⟨a, vs, rfl, n1, m1, h1, r1⟩ := ry.lstInv
    obtain ⟨⟨f1, f2⟩, k⟩ := h
    refine ⟨a, vs, rfl, .inl (.of h1), rx.flat f1, r1.flat f2, ?_⟩
    rw [RpAll.inV rx f1 r1 f2]
    exact q _ H μ _ Stp.refl R (.bl _) k
  · rename_i ys
    obtain ⟨a, vs, rfl, n1, m1, h1, r1⟩ := ry.tupInv
    obtain ⟨⟨f1, f2⟩, k⟩ := h
    refine ⟨a, vs, rfl, .inr (.of h1), rx.flat f1, r1.flat f2, ?_⟩
    rw [RpAll.inV rx f1 r1 f2]
    exact q _ H μ _ Stp.refl R (.bl _) k
theorem dop_in : DOp X (compareOp .In) (L2.rIn X.K false) rdIn := ⟨op_in_seq, ar_inB⟩
theorem dop_notIn : DOp X (compareOp .NotIn) (L2.rIn X.K true) rdNotIn := ⟨op_notIn_seq, ar_inB⟩
end

/-! ### a[i] -/
structure DIx (X : Cx) (r : R2) (rd : R2D) : Prop where
  p : IxR X r
  a : AR2 r rd
theorem d_ix {X : Cx} {a b : Expr} {ta tb : TE} {da db : DE} {r : R2} {rd : R2D} {pos : Pos} (ho : DIx X r rd) (ha : DP X a ta da) (hb : DP X b tb db) (hs : PlainIx b := by exact fun _ _ => rfl) : DP X (.Subscript a b pos) (tOp r ta tb) (dOp rd da db) :=
  ⟨pe_ix ho.p ha.p hb.p hs, ae_op ho.a ha.a hb.a⟩
theorem RpAll.atI {N : Hid} {μ : Mu} {H : Hp} {vs : List V} {ds : List Dt} {i : Int} {d : Dt} (r : RpAll N μ H vs ds) (h : L2.atI ds i = some d) : ∃ v, L2.atI vs i = some v ∧ Rp N μ H v d := by
  unfold L2.atI at h ⊢
  rw [r.length]
  cases e : ixN ds.length i with
  | none =>
    rw [e] at h
    cases h
  | some j =>
    rw [e] at h
    exact r.get (i := j) (d := d) h
theorem atI_map {α β : Type} {f : α → β} {xs : List α} {i : Int} {c : α} (h : L2.atI xs i = some c) : L2.atI (xs.map f) i = some (f c) := by
  unfold L2.atI at h ⊢
  rw [List.length_map]
  cases e : ixN xs.length i with
  | none =>
    rw [e] at h
    cases h
  | some j =>
    rw [e] at h
    show (xs.map f)[j]? = some (f c)
    rw [List.getElem?_map, show xs[j]? = some c from h]
    rfl
/-- an item of data, or of an owned list -/
def rdIx : R2D
  | .lst xs, .int i, μ, K => ∃ d, L2.atI xs i = some d ∧ K d μ
  | .tup xs, .int i, μ, K => ∃ d, L2.atI xs i = some d ∧ K d μ
  | .str z, .int i, μ, K => z.length ≤ 1000000 ∧ ∃ c, L2.atI z i = some c ∧ K (.str [c]) μ
  | .hdl a, .int i, μ, K => ∃ xs d, μ a = some (.lst xs) ∧ L2.atI xs i = some d ∧ K d μ
  | .scr ns, .int i, μ, K => ∃ d, L2.atI ns i = some d ∧ K (.int d) μ
  | _, _, _, _ => False
theorem mem_atI {α : Type} {xs : List α} {i : Int} {c : α} (h : L2.atI xs i = some c) : c ∈ xs := by
  obtain ⟨j, _, h2, _⟩ := atI_get h
  exact List.mem_of_getElem? h2
theorem dix {X : Cx} : DIx X (rIx X.K) rdIx := ⟨ix_seq, fun N H μ x y dx dy Kd Q R rx ry h q => by
  cases dx <;> cases dy <;> try exact (show False from h).elim
  · rename_i z i
    obtain ⟨e1, f1⟩ := rx.strInv
    obtain ⟨hl, c, hc, k⟩ := h
    refine .inr (.inr ⟨mkS z, i, c, e1, ry.intInv, by rw [mkS_length]; exact szl hl, hc, ?_⟩)
    exact q (.str ⟨#[c]⟩) H μ _ Stp.refl R (Rp.str [c] fun b hb => by
      rw [List.mem_singleton.mp hb]
      exact f1 c (mem_atI hc)) k
  · rename_i xs i
    obtain ⟨a, vs, rfl, n1, m1, h1, r1⟩ := rx.lstInv
    obtain ⟨d, hd, k⟩ := h
    obtain ⟨v, hv, rv⟩ := r1.atI hd
    exact .inl ⟨a, vs, i, v, rfl, ry.intInv, .of h1, hv, q _ H μ _ Stp.refl R rv k⟩
  · rename_i xs i
    obtain ⟨a, vs, rfl, n1, m1, h1, r1⟩ := rx.tupInv
    obtain ⟨d, hd, k⟩ := h
    obtain ⟨v, hv, rv⟩ := r1.atI hd
    exact .inr (.inl ⟨a, vs, i, v, rfl, ry.intInv, .of h1, hv, q _ H μ _ Stp.refl R rv k⟩)
  · rename_i a i
    obtain ⟨xs, d, hm, hd, k⟩ := h
    obtain ⟨_, vs, h1, r1⟩ := R.own a _ hm
    obtain ⟨v, hv, rv⟩ := r1.atI hd
    exact .inl ⟨a, vs, i, v, rx.hdlInv, ry.intInv, .of h1, hv, q _ H μ _ Stp.refl R rv k⟩
  · rename_i ns i
    obtain ⟨d, hd, k⟩ := h
    cases rx with
    | scr n m hh => exact .inl ⟨_, ns.map V.int, i, .int d, rfl, ry.intInv, .inl (.inr ⟨_, hh⟩), atI_map hd, q _ H μ _ Stp.refl R (.int _) k⟩⟩
/-- o[i] = v of an owned list -/
abbrev RSetD := Dt → Dt → Dt → Mu → (Mu → Prop) → Prop
def rdSetL : RSetD
  | .hdl a, .int i, v, μ, K => ∃ xs j, μ a = some (.lst xs) ∧ ixN xs.length i = some j ∧ K (mset μ a (.lst (xs.set j v)))
  | _, _, _, _, _ => False
def dPut (dv do' di : DE) : DS := fun F ρ μ => dv ρ μ fun v μ1 => do' ρ μ1 fun o μ2 => di ρ μ2 fun i μ3 => rdSetL o i v μ3 fun μ4 => F.nx ρ μ4
theorem OdRp.setLst {N : Hid} {μ : Mu} {H : Hp} {p : Addr} {vs : List V} {ds : List Dt} (hm : ∃ x, μ p = Option.some x) (r : RpAll N μ H vs ds) : OdRp N (mset μ p (.lst ds)) (upd H p (.lst vs)) p (.lst ds) :=
  ⟨vs, upd_same, r.mono (stp_own hm)⟩
theorem ds_put {X : Cx} {W : WX} {o i e : Expr} {te to ti : TE} {dv do' di : DE} {pos tpos : Pos} (he : DP X e te dv) (ho : DP X o to do') (hi : DP X i ti di) (hs : swapsWithSole [.Subscript o i tpos] e pos.line X.env = pure false := by rfl) (hw : swappedStores [.Subscript o i tpos] e X.env = pure none := by rfl)
    (h1 : (assignEach [.Subscript o i tpos] X.env).map (·.2) = [assign (.Subscript o i tpos) X.env] := by rfl)
    (ha : ∀ v, assign (.Subscript o i tpos) X.env v = (do
      let ov ← holding [v] (eval o X.env)
      let iv ← holding [v, ov] (eval i X.env)
      standAt tpos
      holding [v, ov, iv] (setItem ov iv v)
      release [v, ov, iv] []) := by intro _; rfl) : DPs X W (.Assign [.Subscript o i tpos] e pos) (dPut dv do' di) := by
  obtain ⟨e1, e2⟩ := he
  obtain ⟨o1, o2⟩ := ho
  obtain ⟨i1, i2⟩ := hi
  refine ⟨_, ps_asg e1 (pg_sub o1 i1 set_list ha) hs hw h1, fun N σ H ρ μ D F R S l h => ?_⟩
  refine e2 N σ H ρ μ _ _ R S h fun v H1 μ1 d a1 R1 rv h1 => ?_
  refine o2 N σ H1 ρ μ1 _ _ R1 (S.mono a1) h1 fun ov H2 μ2 dO a2 R2 ro h2 => ?_
  refine i2 N σ H2 ρ μ2 _ _ R2 ((S.mono a1).mono a2) h2 fun iv H3 μ3 dI a3 R3 ri h3 => ?_
  cases dO <;> cases dI <;> try exact (show False from h3).elim
  rename_i a i
  obtain ⟨xs, j, hm, hj, k⟩ := h3
  obtain ⟨_, vs, g1, g2⟩ := R3.own a _ hm
  have eov : ov = .ref a := ro.hdlInv
  refine ⟨a, vs, i, j, eov, ri.intInv, g1, by rw [g2.length]; exact hj, ?_⟩
  have hx : ∃ x, μ3 a = some x := ⟨_, hm⟩
  have st := stp_own (H := H3) (o := .lst (vs.set j v)) (q := OD.lst (xs.set j d)) hx
  exact l.nx σ _ ρ _ (((a1.trans a2).trans a3).trans st) (R3.put hx (OdRp.setLst hx (g2.set ((rv.mono a2).mono a3) j))) ((((S.mono a1).mono a2).mono a3).mono st) k
end DL

set_option Elab.async false
set_option linter.all false
set_option maxRecDepth 100000
set_option maxHeartbeats 4000000
namespace DL
open PySem PySem.Spec PyProof.Rows L2

section
variable {N : Hid} {μ : Mu} {H : Hp} {p : Addr} {o : HO}
mutual
/-- a hidden thing is changed -/
theorem Rp.over (hp : N p) : ∀ {v : V} {d : Dt}, Rp N μ H v d → Rp N μ (upd H p o) v d
  | _, _, .non => .non
  | _, _, .bl b => .bl b
  | _, _, .int i => .int i
  | _, _, .str z h => .str z h
  | _, _, .lst n m h r => .lst n m (by rw [upd_ne fun e => n (by rw [e]; exact hp)]; exact h) (RpAll.over hp r)
  | _, _, .tup n m h r => .tup n m (by rw [upd_ne fun e => n (by rw [e]; exact hp)]; exact h) (RpAll.over hp r)
  | _, _, .dk n m h r => .dk n m (by rw [upd_ne fun e => n (by rw [e]; exact hp)]; exact h) (RpAll.over hp r)
  | _, _, .hdl a => .hdl a
  | _, _, .scr n m h => .scr n m (by rw [upd_ne fun e => n (by rw [e]; exact hp)]; exact h)
  | _, _, .exc n m h l r => .exc n m (by rw [upd_ne fun e => n (by rw [e]; exact hp)]; exact h) l (Rp.over hp r)
theorem RpAll.over (hp : N p) : ∀ {vs : List V} {ds : List Dt}, RpAll N μ H vs ds → RpAll N μ (upd H p o) vs ds
  | _, _, .nil => .nil
  | _, _, .cons h r => .cons (Rp.over hp h) (RpAll.over hp r)
end
theorem Rep.over (R : Rep N μ H) (hp : N p) : Rep N μ (upd H p o) := by
  refine ⟨fun a u ha => ?_, fun a n => ?_⟩
  · obtain ⟨n, od⟩ := R.own a u ha
    have ne : a ≠ p := fun z => n (by rw [z]; exact hp)
    refine ⟨n, ?_⟩
    cases u with
    | lst ds =>
      obtain ⟨vs, g1, g2⟩ := od
      exact ⟨vs, by rw [upd_ne ne]; exact g1, g2.over hp⟩
    | dk ks ds =>
      obtain ⟨vs, g1, g3, g2⟩ := od
      exact ⟨vs, by rw [upd_ne ne]; exact g1, g3, g2.over hp⟩
  · obtain ⟨m, u, hu⟩ := R.trk a n
    by_cases ne : a = p
    · rw [ne] at m
      rw [ne]
      exact ⟨m, _, upd_same⟩
    · exact ⟨m, u, by rw [upd_ne ne]; exact hu⟩
/-- less is hidden -/
theorem OdRp.hid {N' : Hid} {a : Addr} {u : OD} (e : ∀ b o', ¬ N b → μ b = none → H b = Option.some o' → ¬ N' b) (h : OdRp N μ H a u) : OdRp N' μ H a u := by
  cases u with
  | lst ds =>
    obtain ⟨vs, g1, g2⟩ := h
    exact ⟨vs, g1, g2.hid e⟩
  | dk ks ds =>
    obtain ⟨vs, g1, g3, g2⟩ := h
    exact ⟨vs, g1, g3, g2.hid e⟩
theorem Rep.less {N' : Hid} (R : Rep N μ H) (e : ∀ b, N' b → N b) : Rep N' μ H :=
  ⟨fun a u ha => ⟨fun n => (R.own a u ha).1 (e a n), (R.own a u ha).2.hid fun b _ nb _ _ k => nb (e b k)⟩, fun a n => R.trk a (e a n)⟩
/-- a new thing, hidden -/
theorem Rep.hideNew (R : Rep N μ H) (hp : H p = none) : Rep (fun a => N a ∨ a = p) μ (upd H p o) := by
  have key : ∀ b o', ¬ N b → μ b = none → H b = some o' → ¬ (N b ∨ b = p) := fun b o' nb _ hb k => k.elim nb fun z => by
    rw [z, hp] at hb
    cases hb
  refine ⟨fun a u ha => ?_, fun a n => ?_⟩
  · obtain ⟨n1, od⟩ := R.own a u ha
    obtain ⟨w, hw⟩ := od.some
    have ne : a ≠ p := ne_of_none hw hp
    exact ⟨fun k => k.elim n1 ne, (od.hid key).mono (stp_new hp) (upd_ne ne)⟩
  · rcases n with n | n
    · obtain ⟨m, u, hu⟩ := R.trk a n
      exact ⟨m, u, by rw [upd_ne (ne_of_none hu hp)]; exact hu⟩
    · rw [n]
      exact ⟨(R.fresh hp).2, _, upd_same⟩
end

/-! ### what is walked: data, item by item -/
structure Yld (N : Hid) (μ0 : Mu) (H0 : Hp) (J : It) (xs : List Dt) : Prop where
  go : ∀ (N' : Hid) (i : Nat) (μ : Mu) (H : Hp), (∀ a, N' a → N a ∨ H0 a = none) → Stp μ0 H0 μ H → Rep N' μ H → i < xs.length → J.go i H
  yl : ∀ (N' : Hid) (i : Nat) (μ : Mu) (H : Hp) (v : V) (H' : Hp), (∀ a, N' a → N a ∨ H0 a = none) → Stp μ0 H0 μ H → Rep N' μ H → i < xs.length → J.yld i H v H' → Stp μ H μ H' ∧ Rep N' μ H' ∧ ∃ d, xs[i]? = some d ∧ Rp N' μ H' v d
  st : ∀ (N' : Hid) (μ : Mu) (H : Hp), (∀ a, N' a → N a ∨ H0 a = none) → Stp μ0 H0 μ H → Rep N' μ H → J.stop xs.length H
abbrev DI := DEnv → Mu → (List Dt → Mu → Prop) → Prop
def AI (wi : TI) (di : DI) : Prop := ∀ (N : Hid) (σ : L2.St) (H : Hp) (ρ : DEnv) (μ : Mu) (Kd : List Dt → Mu → Prop) (R : It → Hp → Prop), Rep N μ H → Sl N μ H σ ρ → di ρ μ Kd →
  (∀ J H' μ' xs, Stp μ H μ' H' → Rep N μ' H' → Yld N μ' H' J xs → Kd xs μ' → R J H') → wi σ H R
structure DPi (X : Cx) (tg iter : Expr) (wi : TI) (di : DI) : Prop where
  p : PI X tg iter wi
  a : AI wi di
section
variable {N N' : Hid} {μ0 μ : Mu} {H0 H : Hp}
theorem RpAll.later {vs : List V} {ds : List Dt} (r : RpAll N μ0 H0 vs ds) (hn : ∀ a, N' a → N a ∨ H0 a = none) (e : Stp μ0 H0 μ H) : RpAll N' μ H vs ds :=
  (r.hid fun a o n m h k => (hn a k).elim n fun z => by
    rw [z] at h
    cases h).mono e
theorem yld_lst {K : PySem.W.Frag} {a : Addr} {vs : List V} {ds : List Dt} (m : μ0 a = none) (h : H0 a = some (.lst vs)) (r : RpAll N μ0 H0 vs ds) : Yld N μ0 H0 (Itl K a) ds where
  go := fun N' i μ H hn e R hi => by
    obtain ⟨d, hd⟩ : ∃ d, ds[i]? = some d := ⟨_, List.getElem?_eq_getElem hi⟩
    obtain ⟨v, hv, _⟩ := r.get hd
    exact ⟨vs, v, .of (e _ _ m h).2, hv⟩
  yl := fun N' i μ H v H' hn e R hi y => by
    obtain ⟨d, hd⟩ : ∃ d, ds[i]? = some d := ⟨_, List.getElem?_eq_getElem hi⟩
    obtain ⟨e1, y⟩ := y
    subst e1
    obtain ⟨w, hw, rw'⟩ := (r.later hn e).get hd
    have hv := y vs (.of (e _ _ m h).2)
    rw [hw] at hv
    cases hv
    exact ⟨Stp.refl, R, d, hd, rw'⟩
  st := fun N' μ H hn e R => ⟨vs, .of (e _ _ m h).2, by rw [r.length]; exact Nat.le_refl _⟩
theorem yld_tup {K : PySem.W.Frag} {a : Addr} {vs : List V} {ds : List Dt} (m : μ0 a = none) (h : H0 a = some (.tup vs)) (r : RpAll N μ0 H0 vs ds) : Yld N μ0 H0 (Itt K a) ds where
  go := fun N' i μ H hn e R hi => by
    obtain ⟨d, hd⟩ : ∃ d, ds[i]? = some d := ⟨_, List.getElem?_eq_getElem hi⟩
    obtain ⟨v, hv, _⟩ := r.get hd
    exact ⟨vs, v, .of (e _ _ m h).2, hv⟩
  yl := fun N' i μ H v H' hn e R hi y => by
    obtain ⟨d, hd⟩ : ∃ d, ds[i]? = some d := ⟨_, List.getElem?_eq_getElem hi⟩
    obtain ⟨e1, y⟩ := y
    subst e1
    obtain ⟨w, hw, rw'⟩ := (r.later hn e).get hd
    have hv := y vs (.of (e _ _ m h).2)
    rw [hw] at hv
    cases hv
    exact ⟨Stp.refl, R, d, hd, rw'⟩
  st := fun N' μ H hn e R => ⟨vs, .of (e _ _ m h).2, by rw [r.length]; exact Nat.le_refl _⟩
def sgn (z : List Nat) : List Dt := z.map fun c => .str [c]
theorem sgn_length (z : List Nat) : (sgn z).length = z.length := List.length_map ..
theorem sgn_get {z : List Nat} {i : Nat} (h : i < z.length) : (sgn z)[i]? = some (.str [z[i]]) := by
  unfold sgn
  rw [List.getElem?_map, List.getElem?_eq_getElem h]
  rfl
theorem yld_str {z : List Nat} (hz : ∀ c ∈ z, c < 0x110000) : Yld N μ0 H0 (Its (mkS z)) (sgn z) where
  go := fun N' i μ H hn e R hi => by
    rw [sgn_length] at hi
    exact hi
  yl := fun N' i μ H v H' hn e R hi y => by
    obtain ⟨e1, c, hc, ev⟩ := y
    subst e1 ev
    rw [sgn_length] at hi
    have hc' : z[i]? = some c := by
      have : (mkS z).cps[i]? = z[i]? := by simp [mkS]
      rw [← this]
      exact hc
    rw [List.getElem?_eq_getElem hi] at hc'
    cases hc'
    refine ⟨Stp.refl, R, _, sgn_get hi, Rp.str [z[i]] fun b hb => ?_⟩
    rw [List.mem_singleton.mp hb]
    exact hz _ (List.getElem_mem hi)
  st := fun N' μ H hn e R => by
    show (mkS z).cps.size ≤ (sgn z).length
    rw [sgn_length]
    simp [mkS]
def rngD (lo : Int) (n : Nat) : List Dt := (List.range n).map fun (i : Nat) => Dt.int (lo + i)
theorem rngD_length (lo : Int) (n : Nat) : (rngD lo n).length = n := by simp [rngD]
theorem rngD_get {lo : Int} {n i : Nat} (h : i < n) : (rngD lo n)[i]? = some (.int (lo + i)) := by
  unfold rngD
  rw [List.getElem?_map, List.getElem?_range h]
  rfl
theorem yld_rng {lo : Int} {n : Nat} : Yld N μ0 H0 (Itr lo n) (rngD lo n) where
  go := fun N' i μ H hn e R hi => by
    rw [rngD_length] at hi
    exact hi
  yl := fun N' i μ H v H' hn e R hi y => by
    obtain ⟨e1, ev⟩ := y
    subst e1 ev
    rw [rngD_length] at hi
    exact ⟨Stp.refl, R, _, rngD_get hi, .int _⟩
  st := fun N' μ H hn e R => by
    show n ≤ (rngD lo n).length
    rw [rngD_length]
    exact Nat.le_refl _
end
section
variable {X : Cx} {tg l : Expr} {te : TE} {de : DE} {pos p : Pos}
/-- over a list, over a tuple, over a text -/
def iLst (de : DE) : DI := fun ρ μ K => de ρ μ fun x μ1 => ∃ xs, x = .lst xs ∧ K xs μ1
def iTupD (de : DE) : DI := fun ρ μ K => de ρ μ fun x μ1 => ∃ xs, x = .tup xs ∧ K xs μ1
def iStrD (de : DE) : DI := fun ρ μ K => de ρ μ fun x μ1 => ∃ z, x = .str z ∧ K (sgn z) μ1
theorem di_lst (h : DP X l te de) : DPi X tg l (iList X.K te) (iLst de) := ⟨pi_list h.p, fun N σ H ρ μ Kd R Rp' S h1 q => h.a N σ H ρ μ _ _ Rp' S h1 fun v H1 μ1 d e1 R1 r ⟨xs, ed, k⟩ => by
  subst ed
  obtain ⟨a, vs, rfl, n, m, hh, r1⟩ := r.lstInv
  exact ⟨a, rfl, ⟨vs, .of hh⟩, q _ H1 μ1 xs e1 R1 (yld_lst m hh r1) k⟩⟩
theorem di_tup (h : DP X l te de) : DPi X tg l (iTup X.K te) (iTupD de) := ⟨pi_tup h.p, fun N σ H ρ μ Kd R Rp' S h1 q => h.a N σ H ρ μ _ _ Rp' S h1 fun v H1 μ1 d e1 R1 r ⟨xs, ed, k⟩ => by
  subst ed
  obtain ⟨a, vs, rfl, n, m, hh, r1⟩ := r.tupInv
  exact ⟨a, rfl, ⟨vs, .of hh⟩, q _ H1 μ1 xs e1 R1 (yld_tup m hh r1) k⟩⟩
theorem di_str (h : DP X l te de) : DPi X tg l (iStr te) (iStrD de) := ⟨pi_str h.p, fun N σ H ρ μ Kd R Rp' S h1 q => h.a N σ H ρ μ _ _ Rp' S h1 fun v H1 μ1 d e1 R1 r ⟨z, ed, k⟩ => by
  subst ed
  obtain ⟨ev, hz⟩ := r.strInv
  exact ⟨mkS z, ev, q _ H1 μ1 (sgn z) e1 R1 (yld_str hz) k⟩⟩
/-- over range -/
def iR1 (da : DA) : DI := fun ρ μ K => da ρ μ fun xs μ1 => ∃ j : Int, xs = [.int j] ∧ (-(2 ^ 62) ≤ j ∧ j < 2 ^ 62) ∧ K (rngD 0 j.toNat) μ1
def iR2 (da : DA) : DI := fun ρ μ K => da ρ μ fun xs μ1 => ∃ i j : Int, xs = [.int i, .int j] ∧ (-(2 ^ 62) ≤ i ∧ i < 2 ^ 62 ∧ -(2 ^ 62) ≤ j ∧ j < 2 ^ 62) ∧ K (rngD i (j - i).toNat) μ1
variable {a b : Expr} {ta : TA} {da : DA}
theorem di_range1 (hg : Gl X "range") (hm : X.mg "range" = none) (ha : DPa X [a] ta da) (hs : starEach [a] X.env = [(false, eval a X.env)] := by rfl) : DPi X tg (.Call (.Name "range" p) [a] [] pos) (iRng1 ta) (iR1 da) :=
  ⟨pi_range1 hg hm ha.p hs, fun N σ H ρ μ Kd R Rp' S h1 q => ha.a N σ H ρ μ _ _ Rp' S h1 fun vs H1 μ1 ds e1 R1 r ⟨j, ed, hb, k⟩ => by
    subst ed
    have ev := RpAll.ints (ns := [j]) r
    exact ⟨j, ev, hb.1, hb.2, q _ H1 μ1 _ e1 R1 yld_rng k⟩⟩
theorem di_range2 (hg : Gl X "range") (hm : X.mg "range" = none) (ha : DPa X [a, b] ta da) (hs : starEach [a, b] X.env = [(false, eval a X.env), (false, eval b X.env)] := by rfl) (hs2 : starEach [b] X.env = [(false, eval b X.env)] := by rfl) :
    DPi X tg (.Call (.Name "range" p) [a, b] [] pos) (iRng2 ta) (iR2 da) :=
  ⟨pi_range2 hg hm ha.p hs hs2, fun N σ H ρ μ Kd R Rp' S h1 q => ha.a N σ H ρ μ _ _ Rp' S h1 fun vs H1 μ1 ds e1 R1 r ⟨i, j, ed, hb, k⟩ => by
    subst ed
    have ev := RpAll.ints (ns := [i, j]) r
    exact ⟨i, j, ev, hb, q _ H1 μ1 _ e1 R1 yld_rng k⟩⟩
end

/-! ### targets -/
abbrev DG := Dt → DEnv → Mu → (DEnv → Mu → Prop) → Prop
def Dif (js : List Nat) (σ σ' : L2.St) : Prop := σ'.length = σ.length ∧ ∀ k : Nat, k ∉ js → σ'[k]? = σ[k]?
def AG (js : List Nat) (g : TG) (dg : DG) : Prop := ∀ (N : Hid) (σ : L2.St) (H : Hp) (ρ : DEnv) (μ : Mu) (v : V) (d : Dt) (Kd : DEnv → Mu → Prop) (Q : L2.St → Hp → Prop), Rep N μ H → Sl N μ H σ ρ → Rp N μ H v d → dg d ρ μ Kd →
  (∀ σ' H' ρ' μ', Stp μ H μ' H' → Rep N μ' H' → Sl N μ' H' σ' ρ' → Dif js σ σ' → Kd ρ' μ' → Q σ' H') → g v σ H Q
structure DPg (X : Cx) (tg : Expr) (js : List Nat) (g : TG) (dg : DG) : Prop where
  p : PG X tg g
  a : AG js g dg
abbrev DGs := List Dt → DEnv → Mu → (DEnv → Mu → Prop) → Prop
def AGs (js : List Nat) (g : TGs) (dg : DGs) : Prop := ∀ (N : Hid) (σ : L2.St) (H : Hp) (ρ : DEnv) (μ : Mu) (vs : List V) (ds : List Dt) (Kd : DEnv → Mu → Prop) (Q : L2.St → Hp → Prop), Rep N μ H → Sl N μ H σ ρ → RpAll N μ H vs ds → dg ds ρ μ Kd →
  (∀ σ' H' ρ' μ', Stp μ H μ' H' → Rep N μ' H' → Sl N μ' H' σ' ρ' → Dif js σ σ' → Kd ρ' μ' → Q σ' H') → g vs σ H Q
structure DPgs (X : Cx) (ts : List Expr) (js : List Nat) (g : TGs) (dg : DGs) : Prop where
  p : PGs X ts g
  a : AGs js g dg
def gNm (i : Nat) : DG := fun d ρ μ K => K (ρ.set i (some d)) μ
def gNilD : DGs := fun ds ρ μ K => ds = [] ∧ K ρ μ
def gConsD (t : DG) (u : DGs) : DGs := fun ds ρ μ K => ∃ d r, ds = d :: r ∧ t d ρ μ fun ρ' μ' => u r ρ' μ' K
def gTupD (n : Nat) (t : DGs) : DG := fun d ρ μ K => ∃ xs, d = .tup xs ∧ xs.length = n ∧ t xs ρ μ K
theorem Dif.set (σ : L2.St) (i : Nat) (v : Option V) : Dif [i] σ (σ.set i v) := ⟨List.length_set .., fun k hk => by
  rw [List.getElem?_set_ne]
  intro e
  exact hk (by simp [e])⟩
theorem Dif.trans {js ks : List Nat} {σ σ1 σ2 : L2.St} (a : Dif js σ σ1) (b : Dif ks σ1 σ2) : Dif (js ++ ks) σ σ2 := ⟨b.1.trans a.1, fun k hk => by
  rw [List.mem_append, not_or] at hk
  rw [b.2 k hk.2, a.2 k hk.1]⟩
section
variable {X : Cx} {pos : Pos}
theorem dg_name (i : Nat) {x : Str} (hN : X.N.Nodup) (hi : X.N[i]? = some x := by rfl) (hx : Loc X.env.scope x := by first | exact Or.inl rfl | exact Or.inr rfl) (hf : X.fn x = true ∨ X.env.scope.names.lookup x = some .local := by first | exact .inl rfl | exact .inr rfl | assumption) :
    DPg X (.Name x pos) [i] (gName i) (gNm i) := ⟨pg_name hN hi hx hf, fun N σ H ρ μ v d Kd Q R S r h q => q _ H _ μ Stp.refl R (S.set r) (Dif.set σ i _) h⟩
theorem dgs_nil : DPgs X [] [] gNil gNilD := ⟨pgs_nil, fun N σ H ρ μ vs ds Kd Q R S r h q => by
  obtain ⟨e, k⟩ := h
  subst e
  cases r
  exact ⟨rfl, q σ H ρ μ Stp.refl R S ⟨rfl, fun _ _ => rfl⟩ k⟩⟩
theorem dgs_cons {e : Expr} {es : List Expr} {js ks : List Nat} {t : TG} {u : TGs} {dt : DG} {du : DGs} (h1 : DPg X e js t dt) (h2 : DPgs X es ks u du)
    (hs : (assignEach (e :: es) X.env).map (·.2) = assign e X.env :: (assignEach es X.env).map (·.2) := by rfl) : DPgs X (e :: es) (js ++ ks) (gCons t u) (gConsD dt du) := ⟨pgs_cons h1.p h2.p hs, fun N σ H ρ μ vs ds Kd Q R S r h q => by
  obtain ⟨d, dr, e1, h⟩ := h
  subst e1
  cases r with
  | cons r rr =>
    refine ⟨_, _, rfl, h1.a N σ H ρ μ _ d _ _ R S r h fun σ1 H1 ρ1 μ1 a1 R1 S1 f1 k1 => ?_⟩
    exact h2.a N σ1 H1 ρ1 μ1 _ dr Kd Q R1 S1 (rr.mono a1) k1 fun σ2 H2 ρ2 μ2 a2 R2 S2 f2 k2 => q σ2 H2 ρ2 μ2 (a1.trans a2) R2 S2 (f1.trans f2) k2⟩
theorem dg_tup {es : List Expr} {k : Nat} {js : List Nat} {t : TGs} {dt : DGs} {n : Nat} (hc : X.calm = true) (h : DPgs X es js t dt)
    (hn : (assignEach es X.env).length = n := by rfl) (hst : (assignEach es X.env).findIdx? (·.1) = none := by rfl) : DPg X (.Tuple es k pos) js (gTup X.K n t) (gTupD n dt) := ⟨pg_tup hc h.p hn hst, fun N σ H ρ μ v d Kd Q R S r hw q => by
  obtain ⟨xs, e1, hl, hw⟩ := hw
  subst e1
  obtain ⟨a, vs, rfl, n1, m1, h1, r1⟩ := r.tupInv
  exact ⟨a, vs, rfl, .of h1, by rw [r1.length]; exact hl, h.a N σ H ρ μ vs xs Kd Q R S r1 hw q⟩⟩
/-- a, b, .. = a tuple -/
def dAsg (de : DE) (dg : DG) : DS := fun F ρ μ => de ρ μ fun x μ1 => dg x ρ μ1 F.nx
theorem ds_asg {W : WX} {tg e : Expr} {js : List Nat} {te : TE} {de : DE} {g : TG} {dg : DG} (he : DP X e te de) (hg : DPg X tg js g dg) (hs : swapsWithSole [tg] e pos.line X.env = pure false := by rfl) (hw : swappedStores [tg] e X.env = pure none := by rfl)
    (h1 : (assignEach [tg] X.env).map (·.2) = [assign tg X.env] := by rfl) : DPs X W (.Assign [tg] e pos) (dAsg de dg) := by
  refine ⟨_, ps_asg he.p hg.p hs hw h1, fun N σ H ρ μ D F R S l h => ?_⟩
  refine he.a N σ H ρ μ _ _ R S h fun v H1 μ1 d e1 R1 r k => ?_
  exact hg.a N σ H1 ρ μ1 v d _ _ R1 (S.mono e1) r k fun σ2 H2 ρ2 μ2 e2 R2 S2 _ k2 => l.nx σ2 H2 ρ2 μ2 (e1.trans e2) R2 S2 k2
end

/-! ### for -/
def dFor (di : DI) (dg : DG) (body : DS) : DS := fun F ρ μ => di ρ μ fun xs μ1 => ∃ Iv : Nat → DEnv → Mu → Prop, Iv 0 ρ μ1 ∧
  (∀ i x ρ' μ', xs[i]? = some x → Iv i ρ' μ' → dg x ρ' μ' fun ρ2 μ2 => body { F with nx := Iv (i + 1), ct := Iv (i + 1), bk := F.nx } ρ2 μ2) ∧ ∀ ρ' μ', Iv xs.length ρ' μ' → F.nx ρ' μ'
theorem as_for {W : WX} {wi : TI} {di : DI} {js : List Nat} {g : TG} {dg : DG} {tb : TS} {db : DS} (hi : AI wi di) (hg : AG js g dg) (hb : AS W tb db) : AS W (tFor wi g tb) (dFor di dg db) := fun N σ H ρ μ D F R S l h => by
  refine hi N σ H ρ μ _ _ R S h fun J H1 μ1 xs e1 R1 Y ⟨Iv, i0, turn, done⟩ => ?_
  have l1 := l.mono e1
  refine ⟨fun i m σ' H' => m = xs.length - i ∧ i ≤ xs.length ∧ ∃ ρ' μ', Stp μ1 H1 μ' H' ∧ Rep N μ' H' ∧ Sl N μ' H' σ' ρ' ∧ Iv i ρ' μ', ⟨xs.length, rfl, Nat.zero_le _, ρ, μ1, Stp.refl, R1, S.mono e1, i0⟩, ?_⟩
  rintro i m σ' H' ⟨rfl, hi', ρ', μ', e2, R2, S2, hI⟩
  by_cases hlt : i < xs.length
  · refine .inr ⟨Y.go N i μ' H' (fun a n => .inl n) e2 R2 hlt, fun σ3 H3 => ∃ ρ3 μ3, Stp μ1 H1 μ3 H3 ∧ Rep N μ3 H3 ∧ Sl N μ3 H3 σ3 ρ3 ∧ Iv (i + 1) ρ3 μ3, fun σ3 H3 h3 => ⟨xs.length - (i + 1), by omega, rfl, hlt, h3⟩, fun v H4 y => ?_⟩
    obtain ⟨e4, R4, d, hd, r⟩ := Y.yl N i μ' H' v H4 (fun a n => .inl n) e2 R2 hlt y
    refine hg N σ' H4 ρ' μ' v d _ _ R4 (S2.mono e4) r (turn i d ρ' μ' hd hI) fun σ5 H5 ρ5 μ5 e5 R5 S5 _ k5 => ?_
    have e15 := (e2.trans e4).trans e5
    refine hb N σ5 H5 ρ5 μ5 _ { F with nx := Iv (i + 1), ct := Iv (i + 1), bk := F.nx } R5 S5 ⟨fun σ6 H6 ρ6 μ6 e6 R6 S6 k6 => ⟨ρ6, μ6, e15.trans e6, R6, S6, k6⟩, (l1.mono e15).rt, (l1.mono e15).nx, fun σ6 H6 ρ6 μ6 e6 R6 S6 k6 => ⟨ρ6, μ6, e15.trans e6, R6, S6, k6⟩, (l1.mono e15).rx⟩ k5
  · have ei : i = xs.length := by omega
    subst ei
    exact .inl ⟨Y.st N μ' H' (fun a n => .inl n) e2 R2, l1.nx σ' H' ρ' μ' e2 R2 S2 (done ρ' μ' hI)⟩
theorem ds_for {X : Cx} {W : WX} {tg iter : Expr} {body : List Stmt} {wi : TI} {di : DI} {js : List Nat} {g : TG} {dg : DG} {db : DS} {pos : Pos} (hi : DPi X tg iter wi di) (hg : DPg X tg js g dg) (hb : DPss X W body db)
    (hp : PassesOwn (model X.prog X.w) X.A X.env X.xe := by exact PassesOwn.never) (hc : X.calm = true := by rfl) (hs : ∀ x, foldedSetIterable iter X.env x = pure x := by intro _; rfl) : DPs X W (.For tg iter body [] pos) (dFor di dg db) := by
  obtain ⟨tb, b1, b2⟩ := hb.ex
  exact ⟨_, ps_for hp hc hi.p hg.p b1 hs, as_for hi.a hg.a b2⟩
/-- while -/
def dWhile (c : DT) (body : DS) : DS := fun F ρ μ => ∃ Iv : Nat → DEnv → Mu → Prop, (∃ m, Iv m ρ μ) ∧ ∀ m ρ' μ', Iv m ρ' μ' → c ρ' μ' fun b μ1 =>
  (b = true → body { F with nx := fun ρ2 μ2 => ∃ m', m' < m ∧ Iv m' ρ2 μ2, ct := fun ρ2 μ2 => ∃ m', m' < m ∧ Iv m' ρ2 μ2, bk := F.nx } ρ' μ1) ∧ (b = false → F.nx ρ' μ1)
theorem as_while {W : WX} {tc : TT} {dc : DT} {tb : TS} {db : DS} (hc : AT tc dc) (hb : AS W tb db) : AS W (tWhile tc tb) (dWhile dc db) := fun N σ H ρ μ D F R S l h => by
  obtain ⟨Iv, ⟨m0, h0⟩, turn⟩ := h
  refine ⟨fun m σ' H' => ∃ ρ' μ', Stp μ H μ' H' ∧ Rep N μ' H' ∧ Sl N μ' H' σ' ρ' ∧ Iv m ρ' μ', ⟨m0, ρ, μ, Stp.refl, R, S, h0⟩, ?_⟩
  rintro m σ' H' ⟨ρ', μ', e2, R2, S2, hI⟩
  refine hc N σ' H' ρ' μ' _ _ R2 S2 (turn m ρ' μ' hI) fun b H3 μ3 e3 R3 ⟨ht, hf⟩ => ?_
  cases b with
  | true =>
    refine iteT ⟨fun σ4 H4 => ∃ m', m' < m ∧ ∃ ρ4 μ4, Stp μ H μ4 H4 ∧ Rep N μ4 H4 ∧ Sl N μ4 H4 σ4 ρ4 ∧ Iv m' ρ4 μ4, fun σ4 H4 h4 => h4, ?_⟩
    have e13 := e2.trans e3
    have again : ∀ σ6 H6 ρ6 μ6, Stp μ3 H3 μ6 H6 → Rep N μ6 H6 → Sl N μ6 H6 σ6 ρ6 → (∃ m', m' < m ∧ Iv m' ρ6 μ6) → ∃ m', m' < m ∧ ∃ ρ4 μ4, Stp μ H μ4 H6 ∧ Rep N μ4 H6 ∧ Sl N μ4 H6 σ6 ρ4 ∧ Iv m' ρ4 μ4 :=
      fun σ6 H6 ρ6 μ6 e6 R6 S6 ⟨m', hm, k6⟩ => ⟨m', hm, ρ6, μ6, e13.trans e6, R6, S6, k6⟩
    exact hb N σ' H3 ρ' μ3 _ { F with nx := fun ρ2 μ2 => ∃ m', m' < m ∧ Iv m' ρ2 μ2, ct := fun ρ2 μ2 => ∃ m', m' < m ∧ Iv m' ρ2 μ2, bk := F.nx } R3 (S2.mono e3) ⟨fun σ6 H6 ρ6 μ6 e6 R6 S6 k6 => again σ6 H6 ρ6 μ6 e6 R6 S6 k6, (l.mono e13).rt, (l.mono e13).nx, fun σ6 H6 ρ6 μ6 e6 R6 S6 k6 => again σ6 H6 ρ6 μ6 e6 R6 S6 k6, (l.mono e13).rx⟩ (ht rfl)
  | false => exact iteF (l.nx σ' H3 ρ' μ3 (e2.trans e3) R3 (S2.mono e3) (hf rfl))
theorem ds_while {X : Cx} {W : WX} {c : Expr} {body : List Stmt} {tc : TT} {dc : DT} {db : DS} {pos : Pos} (hc : DPt X c tc dc) (hb : DPss X W body db) (hp : PassesOwn (model X.prog X.w) X.A X.env X.xe := by exact PassesOwn.never) : DPs X W (.While c body [] pos) (dWhile dc db) := by
  obtain ⟨tb, b1, b2⟩ := hb.ex
  exact ⟨_, ps_while hp hc.p b1, as_while hc.a b2⟩

/-! ### list comprehensions -/
theorem wipe_get (σ : L2.St) (k : Nat) : ∀ vs : List Nat, (wipe σ vs)[k]? = if k ∈ vs then (if k < σ.length then some none else none) else σ[k]?
  | [] => by simp [wipe]
  | v :: vs => by
    unfold wipe
    by_cases e : v = k
    · subst e
      rw [List.getElem?_set_self']
      by_cases hl : v < σ.length
      · rw [List.getElem?_eq_getElem (by rw [wipe_length]; exact hl)]
        simp [hl]
      · rw [List.getElem?_eq_none (by rw [wipe_length]; omega)]
        simp [hl]
    · rw [List.getElem?_set_ne e, wipe_get σ k vs]
      have : (k ∈ v :: vs) ↔ k ∈ vs := by simp [Ne.symm e]
      simp only [this]
theorem wipe_dif {σ σ2 : L2.St} {vs js : List Nat} (hj : ∀ j ∈ js, j ∈ vs) (d : Dif js (wipe σ vs) σ2) : wipe σ2 vs = wipe σ vs := by
  apply List.ext_getElem?
  intro k
  rw [wipe_get, wipe_get]
  by_cases hk : k ∈ vs
  · rw [if_pos hk, if_pos hk, d.1, wipe_length]
  · rw [if_neg hk, if_neg hk, d.2 k fun h => hk (hj k h), wipe_get, if_neg hk]
structure DPts (X : Cx) (ifs : List Expr) (t : TT) (dt : DT) : Prop where
  p : PTs X ifs t
  a : AT t dt
def dYes : DT := fun _ μ K => K true μ
theorem dts_nil {X : Cx} : DPts X [] tYes dYes := ⟨pts_nil, fun N σ H ρ μ Kd Q R S h q => q true H μ Stp.refl R h⟩
theorem dts_one {X : Cx} {c : Expr} {t : TT} {dt : DT} (h : DPt X c t dt) : DPts X [c] t dt := ⟨pts_one h.p, h.a⟩
/-- the state at a comprehension's turn: the list so far, what is owned -/
def dLc (di : DI) (dg : DG) (dt : DT) (de : DE) (vs : List Nat) : DE := fun ρ μ K => di ρ μ fun xs μ1 => xs.length ≤ 1000000 ∧ ∃ Iv : Nat → List Dt → Mu → Prop, Iv 0 [] μ1 ∧
  (∀ i x acc μ', xs[i]? = some x → Iv i acc μ' → dg x (dwipe ρ vs) μ' fun ρ2 μ2 => dt ρ2 μ2 fun b μ3 => (b = true → de ρ2 μ3 fun y μ4 => Iv (i + 1) (acc ++ [y]) μ4) ∧ (b = false → Iv (i + 1) acc μ3)) ∧
  ∀ acc μ', Iv xs.length acc μ' → K (.lst acc) μ'
theorem ae_lc {wi : TI} {di : DI} {js : List Nat} {g : TG} {dg : DG} {tt : TT} {dt : DT} {te : TE} {de : DE} {vs : List Nat} (hj : ∀ j ∈ js, j ∈ vs) (hi : AI wi di) (hg : AG js g dg) (ht : AT tt dt) (he : AE te de) : AE (tLc wi g tt te vs) (dLc di dg dt de vs) := fun N σ H ρ μ Kd Q R S h q => by
  refine hi N σ H ρ μ _ _ R S h fun J H1 μ1 xs e1 R1 Y ⟨hz, Iv, i0, turn, done⟩ D hD => ?_
  have hDN := R1.fresh hD
  have hid : ∀ a, (N a ∨ a = D) → N a ∨ H1 a = none := fun a h => h.elim .inl fun e => .inr (by rw [e]; exact hD)
  have key : ∀ b o', ¬ N b → μ1 b = none → H1 b = some o' → ¬ (N b ∨ b = D) := fun b o' nb _ hb k => k.elim nb fun z => by
    rw [z, hD] at hb
    cases hb
  refine ⟨fun i m H' => m = xs.length - i ∧ i ≤ xs.length ∧ ∃ (acc : List V) (ds : List Dt) (μ' : Mu), acc.length ≤ i ∧ H' D = some (.lst acc) ∧ Stp μ1 H1 μ' H' ∧ Rep (fun a => N a ∨ a = D) μ' H' ∧ RpAll (fun a => N a ∨ a = D) μ' H' acc ds ∧ Iv i ds μ',
    ⟨xs.length, rfl, Nat.zero_le _, [], [], μ1, Nat.le_refl _, upd_same, stp_new hD, R1.hideNew hD, .nil, i0⟩, ?_⟩
  rintro i m H' ⟨rfl, hi', acc, ds, μ', hacc, hD', e2, R2, r2, hI⟩
  have hDm : μ' D = none := (R2.trk D (.inr rfl)).1
  by_cases hlt : i < xs.length
  · refine .inr ⟨Y.go _ i μ' H' hid e2 R2 hlt, fun H3 => ∃ (acc : List V) (ds : List Dt) (μ3 : Mu), acc.length ≤ i + 1 ∧ H3 D = some (.lst acc) ∧ Stp μ1 H1 μ3 H3 ∧ Rep (fun a => N a ∨ a = D) μ3 H3 ∧ RpAll (fun a => N a ∨ a = D) μ3 H3 acc ds ∧ Iv (i + 1) ds μ3, fun H3 h3 => ⟨xs.length - (i + 1), by omega, rfl, hlt, h3⟩, fun v H4 y => ?_⟩
    obtain ⟨e4, R4, d, hd, r⟩ := Y.yl _ i μ' H' v H4 hid e2 R2 hlt y
    have S1 : Sl (fun a => N a ∨ a = D) μ1 H1 σ ρ := ⟨S.1, fun j d' hd' => by
      obtain ⟨w, w1, w2⟩ := (S.mono e1).2 j d' hd'
      exact ⟨w, w1, w2.hid key⟩⟩
    refine hg _ (wipe σ vs) H4 (dwipe ρ vs) μ' v d _ _ R4 (((S1.mono e2).mono e4).wipe vs) r (turn i d ds μ' hd hI) fun σ5 H5 ρ5 μ5 e5 R5 S5 f5 k5 => ?_
    refine ⟨wipe_dif hj f5, ?_⟩
    refine ht _ σ5 H5 ρ5 μ5 _ _ R5 S5 k5 fun b H6 μ6 e6 R6 ⟨kt, kf⟩ => ?_
    have e46 := (e4.trans e5).trans e6
    cases b with
    | false => exact iteF ⟨acc, ds, μ6, by omega, (e46 D _ hDm hD').2, e2.trans e46, R6, r2.mono e46, kf rfl⟩
    | true =>
      refine iteT (he _ σ5 H6 ρ5 μ6 _ _ R6 (S5.mono e6) (kt rfl) fun w H7 μ7 dw e7 R7 rw' k7 => ?_)
      have e47 := e46.trans e7
      obtain ⟨hDm7, hD7⟩ := e47 D _ hDm hD'
      refine ⟨acc, hD7, szl' (by omega), acc ++ [w], ds ++ [dw], μ7, by rw [List.length_append]; simpa using hacc, upd_same, fun a o h1 h2 => ?_, R7.over (.inr rfl), ((r2.mono e47).append (.cons rw' .nil)).over (.inr rfl), k7⟩
      obtain ⟨p1, p2⟩ := (e2.trans e47) a o h1 h2
      exact ⟨p1, by rw [upd_ne (ne_of_none h2 hD)]; exact p2⟩
  · have ei : i = xs.length := by omega
    subst ei
    refine .inl ⟨Y.st _ μ' H' hid e2 R2, ?_⟩
    exact q _ H' μ' _ (e1.trans e2) (R2.less fun b n => .inl n) (.lst hDN.1 hDm hD' (r2.hid fun b _ nb _ _ k => nb (.inl k))) (done ds μ' hI)
section
variable {X : Cx} {elt tg iter : Expr} {ifs : List Expr} {scope : Scope} {own : List (Str × Nat)} {pos : Pos} {wi : TI} {di : DI} {js : List Nat} {g : TG} {dg : DG} {tt : TT} {dt : DT} {te : TE} {de : DE}
theorem d_lc (hN : X.N.Nodup) (hi : DPi X tg iter wi di) (ok : blkC X.N X.env.scope scope own = true)
    (hg : ∀ (s : Shared) (H : Hp) (C : Addr) (cl : List (Str × Addr)) (fp : List Addr), DPg (X.blk s H scope (compEnvC scope cl C X.env) fp) tg js g dg) (ht : ∀ (s : Shared) (H : Hp) (C : Addr) (cl : List (Str × Addr)) (fp : List Addr), DPts (X.blk s H scope (compEnvC scope cl C X.env) fp) ifs tt dt)
    (he : ∀ (s : Shared) (H : Hp) (C : Addr) (cl : List (Str × Addr)) (fp : List Addr), DP (X.blk s H scope (compEnvC scope cl C X.env) fp) elt te de) (hc : X.calm = true := by rfl) (hj : ∀ j ∈ js, j ∈ own.map (·.2) := by decide) (hs : ∀ x, foldedSetIterable iter X.env x = pure x := by intro _; rfl) :
    DP X (.ListComp elt [⟨tg, iter, ifs, 0⟩] scope pos) (tLc wi g tt te (own.map (·.2))) (dLc di dg dt de (own.map (·.2))) :=
  ⟨pe_lc hc hN hi.p (blkOk_by ok) (fun s H C cl fp => (hg s H C cl fp).p) (fun s H C cl fp => (ht s H C cl fp).p) (fun s H C cl fp => (he s H C cl fp).p) hs,
    ae_lc hj hi.a (hg X.s_0 X.H_0 0 [] []).a (ht X.s_0 X.H_0 0 [] []).a (he X.s_0 X.H_0 0 [] []).a⟩
theorem ds_setLc {W : WX} {i : Nat} {y : Str} {py : Pos} {spos : Pos} (hN : X.N.Nodup) (hsw : swapsWith (.ListComp elt [⟨tg, iter, ifs, 0⟩] scope pos) (some (.Name y py)) spos.line X.env = pure true) (hi : DPi X tg iter wi di) (ok : blkC X.N X.env.scope scope own = true)
    (hg : ∀ (s : Shared) (H : Hp) (C : Addr) (cl : List (Str × Addr)) (fp : List Addr), DPg (X.blk s H scope (compEnvC scope cl C X.env) fp) tg js g dg) (ht : ∀ (s : Shared) (H : Hp) (C : Addr) (cl : List (Str × Addr)) (fp : List Addr), DPts (X.blk s H scope (compEnvC scope cl C X.env) fp) ifs tt dt)
    (he : ∀ (s : Shared) (H : Hp) (C : Addr) (cl : List (Str × Addr)) (fp : List Addr), DP (X.blk s H scope (compEnvC scope cl C X.env) fp) elt te de) (hy : X.N[i]? = some y := by rfl) (hyl : X.env.scope.names.lookup y = some .local := by rfl) (hc : X.calm = true := by rfl) (hj : ∀ j ∈ js, j ∈ own.map (·.2) := by decide)
    (hs : ∀ x, foldedSetIterable iter X.env x = pure x := by intro _; rfl) : DPs X W (.Assign [.Name y py] (.ListComp elt [⟨tg, iter, ifs, 0⟩] scope pos) spos) (dSet i (dLc di dg dt de (own.map (·.2)))) := by
  refine ⟨_, ps_setLc hc hN hy hyl hsw hi.p (blkOk_by ok) (fun s H C cl fp => (hg s H C cl fp).p) (fun s H C cl fp => (ht s H C cl fp).p) (fun s H C cl fp => (he s H C cl fp).p) hs, fun N σ H ρ μ D F R S l h => ?_⟩
  exact ae_lc hj hi.a (hg X.s_0 X.H_0 0 [] []).a (ht X.s_0 X.H_0 0 [] []).a (he X.s_0 X.H_0 0 [] []).a N σ H ρ μ _ _ R S h fun v H' μ' d e R' r k => l.nx _ H' _ μ' e R' ((S.mono e).set r) k
end
end DL

set_option Elab.async false
set_option linter.all false
set_option maxRecDepth 100000
set_option maxHeartbeats 4000000
/-! A def's promise where nothing is being shown (no repr runs around): what repr of nested data asks. -/
namespace DL
open PySem PySem.Spec PyProof.Rows L2

/-- no repr runs around -/
def NoG (A : Around) : Prop := A.guards = some []
structure FnG (P : Program) (w : World) (K : PySem.W.Frag) (mg : Str → Option Value) (base : Heap) (CX : CXT) (k : Nat) (f : Addr) (fd : FuncData) (ps : List Str) (sp : Sp) : Prop where
  len : ∀ vs H Q E, sp vs H Q E → vs.length = ps.length
  run : ∀ (A : Around) (fr : List Env) (s : Shared) (H : Hp) (args : Args) (us : List Value) (vs : List V) (Q : VK) (E : XK), Room k A → NoG A → Env0 P w K mg base A fr s H →
    BindsTo s fd args (ps.zip us) → Vals vs us → sp vs H Q E → codeAny (model P w) A (.call (.ref f) args) (CR CX fr P w H s Q E) s
section
variable {P : Program} {w : World} {K : PySem.W.Frag} {mg : Str → Option Value} {base : Heap} {CX : CXT} {k : Nat} {f : Addr} {fd : FuncData} {ps : List Str} {sp : Sp}
theorem FnG.of (F : FnOk P w K mg base CX k f fd ps sp) : FnG P w K mg base CX k f fd ps sp := ⟨F.len, fun A fr s H args us vs Q E hr _ => F.run A fr s H args us vs Q E hr⟩
theorem FnG.mono {j : Nat} (F : FnG P w K mg base CX j f fd ps sp) (h : j ≤ k) : FnG P w K mg base CX k f fd ps sp := ⟨F.len, fun A fr s H args us vs Q E hr => F.run A fr s H args us vs Q E (hr.mono h)⟩
/-- a def of the text by its body -/
theorem Fun.okG {x qual : Str} {st : Stmt} {N : List Str} (F : Fun K x qual st f fd) (S : FnScope N ps (defScope st)) (len : ∀ vs H Q E, sp vs H Q E → vs.length = ps.length)
    (hbody : ∀ (cdv : Value) (A : Around) (fr : List Env) (s : Shared) (H : Hp) (vs : List V) (Q : VK) (E : XK), Room k (A.deeper (envOfC qual (defScope st) s.heap.objs.size f cdv)) → NoG (A.deeper (envOfC qual (defScope st) s.heap.objs.size f cdv)) → sp vs H Q E →
      ∃ t, PSs (cxOf CX0 P w K mg base N qual (defScope st) f cdv A fr s H E).nox (defBody st) t ∧ t { nx := fun _ H' => Q .non H', rt := Q } (L2.start N vs) H) : FnG P w K mg base CX0 (k + 1) f fd ps sp := by
  obtain ⟨oc, od, kV, doc, pm, an, cdv, ct, osl, rfl, lk, code⟩ := F.ex
  constructor
  · exact len
  intro A fr s H args us vs Q E room nog e0 bind rel prom
  have lens := len vs H Q E prom
  have inK : K.In s.heap := e0.mod.kin.keeps fun a o h => (e0.bs a o h).1
  have kinds : ∀ y ∈ ps.zip us, (defScope st).names.lookup y.1 = some .local ∨ ((defScope st).names.lookup y.1 = some .cell ∧ ((cellsFrom (s.heap.objs.size + 1) (defScope st).names []).lookup y.1).isSome = true) := by
    intro y hy
    have hm : y.1 ∈ ps := (List.of_mem_zip (a := y.1) (b := y.2) hy).1
    cases S.par y.1 hm with
    | inl h => exact .inl h
    | inr h => exact .inr ⟨h, PySem.W.cellsFrom_some _ _ _ (.inl h)⟩
  apply codeAny_call_function room.depth (inK _ _ lk) rfl S.co S.gen rfl (PySem.W.codeRec_of inK code)
  apply bind
  apply wpAny_newFunctionEnv_cells S.kind kinds
  intro env henv s1 x
  subst henv
  refine ⟨(e0.mod.nolimit.keeps fun a o h => (e0.bs a o h).1).keeps x.toInCall.keep, ?_⟩
  apply codeAny_func
  obtain ⟨t, ht, hq⟩ := hbody cdv A fr s H vs Q E (room.deeper _) nog prom
  have iv := inv_start (CX := CX0) (E := E) S room.hd e0 lens rel x
  refine wpAny_mono (ht.nox.run [] s1 _ H _ iv hq) ?_ (fun _ _ h => h)
  intro fl s' h
  match fl, h with
  | .ret u, ⟨v, σ', H', J, rv, q⟩ => exact ⟨v, H', J.os, J.bare, J.base, J.hok, rv, q⟩
  | .next, ⟨σ', H', J, q⟩ => exact ⟨.non, H', J.os, J.bare, J.base, J.hok, rfl, q⟩
  | .brk, ⟨_, _, _, q⟩ => exact q.elim
  | .cont, ⟨_, _, _, q⟩ => exact q.elim
end
section
variable {X : Cx} {CX : CXT} {k : Nat} {f : Addr} {fd : FuncData} {ps : List Str} {sp : Sp} {ds : List Value} {dvs : List V} {E : XK}
theorem runG {pins : List (Addr × Obj)} {σ : L2.St} {H : Hp} {s : Shared} {Q : VK} {us : List Value} {vs : List V} (F : FnG X.prog X.w X.K X.mg X.base CX k f fd ps sp) (hr : Room k X.A) (hG : NoG X.A) (hb : Binds X.K fd ps ds) (hd : Vals dvs ds) (hx : Passes CX X E)
    (I : L2.Inv X pins σ H s) (r : Vals vs us) (h : sp (vs ++ dvs) H Q E) : wpAny (model X.prog X.w) X.A (call (.ref f) us) (EP X pins σ Q) X.xe s := by
  have both := r.append hd
  have lens : (us ++ ds).length = ps.length := both.length.symm.trans (F.len _ _ _ _ h)
  apply wpAny_call
  refine codeAny_mono (F.run X.A X.stack s H ⟨us, []⟩ (us ++ ds) (vs ++ dvs) Q E hr hG I.env0 (hb s us I.kIn lens) both h) ?_
  intro res s' q
  match res, q with
  | .error e, q => exact hx pins σ H s e s' I q
  | .ok (.ret u), q => exact I.after q
  | .ok .next, q => exact q.elim
  | .ok .brk, q => exact q.elim
  | .ok .cont, q => exact q.elim
variable {x : Str} {p pos : Pos} {e : Expr} {es : List Expr} {t : TA}
theorem pe_callG (F : FnG X.prog X.w X.K X.mg X.base CX k f fd ps sp) (hr : Room k X.A) (hG : NoG X.A) (hg : Gl X x) (hm : X.mg x = some (.ref f)) (hk : PySem.W.keepIn X.K (.ref f) = true) (hb : Binds X.K fd ps ds) (hd : Vals dvs ds) (hx : Passes CX X E)
    (ha : PA X (e :: es) t) (hdb : (x == ("__debug__" : Str)) = false := by decide) (he : starEach (e :: es) X.env = (false, eval e X.env) :: starEach es X.env := by rfl) (hpl : (backTo pos (starEach es X.env)).any (·.1) = false := by rfl) :
    PE X (.Call (.Name x p) (e :: es) [] pos) (tCall sp dvs E t) := by
  constructor
  intro pins s σ H Q I h
  apply wpAny_Call_Name_kw
  apply ld_glob I hg hm _ hdb
  apply PySem.W.callWith_K (h₀ := X.base) I.ok.mod.kin hk _ he hpl
  refine thn (ha.run pos pins s σ H _ I h) ?_
  intro us s1 ⟨vs, H1, I1, r, q⟩
  exact ⟨I1.kIn, runG F hr hG hb hd hx I1 r q⟩
theorem pe_callG0 (F : FnG X.prog X.w X.K X.mg X.base CX k f fd ps sp) (hr : Room k X.A) (hG : NoG X.A) (hg : Gl X x) (hm : X.mg x = some (.ref f)) (hk : PySem.W.keepIn X.K (.ref f) = true) (hb : Binds X.K fd ps ds) (hd : Vals dvs ds) (hx : Passes CX X E)
    (hdb : (x == ("__debug__" : Str)) = false := by decide) : PE X (.Call (.Name x p) [] [] pos) (tCall sp dvs E tNil) := by
  constructor
  intro pins s σ H Q I h
  apply wpAny_Call_Name_kw
  apply ld_glob I hg hm _ hdb
  exact PySem.W.callWith_K0 I.kIn hk (runG (us := []) F hr hG hb hd hx I .nil h)
end
section
variable {X : Cx} {k : Nat} {f : Addr} {fd : FuncData} {ps : List Str} {spd : SpD} {x : Str} {p pos : Pos} {e : Expr} {es : List Expr} {ta : TA} {da : DA}
theorem d_callG (F : FnG X.prog X.w X.K X.mg X.base CX0 k f fd ps (spOf spd)) (hr : Room k X.A) (hG : NoG X.A) (hg : Gl X x) (hm : X.mg x = some (.ref f)) (hk : PySem.W.keepIn X.K (.ref f) = true) (hb : Binds X.K fd ps [])
    (ha : DPa X (e :: es) ta da) (hdb : (x == ("__debug__" : Str)) = false := by decide) (he : starEach (e :: es) X.env = (false, eval e X.env) :: starEach es X.env := by rfl) (hpl : (backTo pos (starEach es X.env)).any (·.1) = false := by rfl) :
    DP X (.Call (.Name x p) (e :: es) [] pos) (tCall (spOf spd) [] E0 ta) (dCB spd da) := ⟨pe_callG F hr hG hg hm hk hb .nil pass0 ha.p hdb he hpl, ae_call ha.a⟩
theorem d_callG0 (F : FnG X.prog X.w X.K X.mg X.base CX0 k f fd ps (spOf spd)) (hr : Room k X.A) (hG : NoG X.A) (hg : Gl X x) (hm : X.mg x = some (.ref f)) (hk : PySem.W.keepIn X.K (.ref f) = true) (hb : Binds X.K fd ps [])
    (hdb : (x == ("__debug__" : Str)) = false := by decide) : DP X (.Call (.Name x p) [] [] pos) (tCall (spOf spd) [] E0 tNil) (dCB spd dNil) :=
  ⟨pe_callG0 F hr hG hg hm hk hb .nil pass0 hdb, ae_call fun N σ H ρ μ Kd Q R S h q => q [] H μ [] Stp.refl R .nil h⟩
end
section
variable {P : Program} {w : World} {K : PySem.W.Frag} {mg : Str → Option Value} {base : Heap}
/-- a def keeps its promise over data -/
theorem fnG_data {x qual : Str} {st : Stmt} {f : Addr} {fd : FuncData} {N ps : List Str} {k : Nat} {spd : SpD} (F : Fun K x qual st f fd) (S : FnScope N ps (defScope st)) (len : ∀ ds μ Kd, spd ds μ Kd → ds.length = ps.length)
    (hbody : ∀ (cdv : Value) (A : Around) (fr : List Env) (s : Shared) (H : Hp) (E : XK), Room k (A.deeper (envOfC qual (defScope st) s.heap.objs.size f cdv)) → NoG (A.deeper (envOfC qual (defScope st) s.heap.objs.size f cdv)) →
      ∃ d, DPss (cxOf CX0 P w K mg base N qual (defScope st) f cdv A fr s H E).nox (fun _ _ _ _ => False) (defBody st) d ∧ ∀ ds μ Kd, spd ds μ Kd → d { nx := fun _ μ' => Kd .non μ', rt := Kd } (dstart N ds) μ) :
    FnG P w K mg base CX0 (k + 1) f fd ps (spOf spd) := by
  refine Fun.okG F S (fun vs H Q E h => ?_) (fun cdv A fr s H vs Q E hr hG h => ?_)
  · obtain ⟨Nh, μ, ds, Kd, R, r, h, _⟩ := h
    rw [r.length]
    exact len ds μ Kd h
  · obtain ⟨Nh, μ, ds, Kd, R, r, h, q⟩ := h
    obtain ⟨d, hd, hh⟩ := hbody cdv A fr s H E hr hG
    obtain ⟨t, h1, h2⟩ := hd.ex
    refine ⟨t, h1, h2 Nh _ H _ μ _ _ R (sl_start r N) ⟨fun σ' H' ρ' μ' e R' S' k => q .non H' μ' .non e R' .non k, fun v H' d' μ' e R' rr k => q v H' μ' d' e R' rr k, fun _ _ _ _ _ _ _ k => (show False from k).elim, fun _ _ _ _ _ _ _ k => (show False from k).elim, fun _ _ _ _ _ _ _ _ _ _ _ _ _ _ _ _ _ k => (show False from k).elim⟩ (hh ds μ Kd h)⟩
end

/-! ### the end of a law -/
theorem callG_law {P : Program} {w : World} {K : PySem.W.Frag} {mg mb : Str → Option Value} {k : Nat} {fa a : Addr} {fd : FuncData} {x : Str} {sp : Sp} {s1 : Shared} {vs : List Value} {ns : List Int}
    (inK : K.In s1.heap) (hmg : s1.heap.Ns mainGlobals mg) (hmb : s1.heap.Ns builtinsNs mb) (hbb : ∀ x : Str, x ≠ "__name__" → mb x = bootBuiltins x) (lim : s1.heap.NoLimit) (gens : s1.gens = #[])
    (obj : s1.heap.get? a = some { cls := .type "list", data := .seq vs.toArray }) (hi : IntsAre vs ns) (len : ns.length ≤ sizeLine) (room : Room k callerA)
    (F : ∀ base : Heap, K.In base → base.Ns mainGlobals mg → FnG P w K mg base CX0 k fa fd [x] sp) (bind : ∀ (s : Shared) (u : Value), BindsTo s fd ⟨[u], []⟩ [(x, u)])
    (hsp : ∀ H : Hp, Only H → SqL K H a (ns.map V.int) → sp [.ref a] H (fun v _ => v = .bl true) fun _ _ _ => False) :
    codeAny (model P w) callerA (.call (.ref fa) ⟨[.ref a], []⟩) (fun r s' => r = .ok (.ret (.bool true)) ∧ OldK s1.heap s'.heap ∧ s'.os = s1.os ∧ AllBare s'.gens) s1 := by
  have rel := vals_ints hi
  -- nothing is tracked but, it may be, the script
  have go : ∀ H : Hp, Only H → SqL K H a (ns.map V.int) → HOk P w H s1.heap → (∀ b, H b ≠ none → b = a ∧ K.lookup a = none) →
      codeAny (model P w) callerA (.call (.ref fa) ⟨[.ref a], []⟩) (fun r s' => r = .ok (.ret (.bool true)) ∧ OldK s1.heap s'.heap ∧ s'.os = s1.os ∧ AllBare s'.gens) s1 := by
    intro H only sq ok own
    have keepB : ∀ {b : Addr} {o : Obj}, s1.heap.get? b = some o → H b = none → (hidT s1.heap H).get? b = some o := fun e n => hidT_get e n
    have untr : ∀ {b : Addr} {o : Obj} {es : Array DictEntry} {ep : Nat}, s1.heap.get? b = some o → o.data = .dict es ep → H b = none := by
      intro b o es ep e d
      by_cases h : H b = none
      · exact h
      · obtain ⟨hb, _⟩ := own b h
        rw [hb, obj] at e
        cases e
        cases d
    have ns : ∀ {b : Addr} {m : Str → Option Value}, s1.heap.Ns b m → (hidT s1.heap H).Ns b m := by
      rintro b m ⟨o, es, ep, e, d, r⟩
      exact ⟨o, es, ep, keepB e (untr e d), d, r⟩
    have inB : K.In (hidT s1.heap H) := by
      intro b o e
      refine keepB (inK b o e) ?_
      by_cases h : H b = none
      · exact h
      · obtain ⟨hb, hk⟩ := own b h
        rw [hb, hk] at e
        cases e
    have mod : Mod K mg (hidT s1.heap H) := ⟨inB, ns hmg, ⟨mb, ns hmb, hbb⟩, by
      obtain ⟨mc, l1, l2⟩ := lim
      exact ⟨mc, ns l1, l2⟩⟩
    have none_in : ∀ (b : Addr), b ∉ ([] : List Addr) := fun b h => by cases h
    have e0 : Env0 P w K mg (hidT s1.heap H) callerA [] s1 H := ⟨rfl, mod, fun b o e => of_hidT e, Nat.le_of_eq (hidT_size _ _), trivial, fun b hb => (none_in b hb).elim, ok, .of_eq gens⟩
    refine codeAny_mono ((F _ inB (ns hmg)).run callerA [] s1 H ⟨[.ref a], []⟩ [.ref a] [.ref a] _ _ room rfl e0 (bind s1 (.ref a)) (.cons rfl .nil) (hsp H only sq)) ?_
    intro res s' h
    match res, h with
    | .error e, h => exact (show False from h).elim
    | .ok .next, h => exact h.elim
    | .ok .brk, h => exact h.elim
    | .ok .cont, h => exact h.elim
    | .ok (.ret u), ⟨v, H', os, bare, un, ok', ru, q⟩ =>
      have q : v = .bl true := q
      subst q
      have ru : u = Value.bool true := ru
      subst ru
      refine ⟨rfl, OldK.of_keep fun b o e => ?_, os, bare⟩
      rcases only b with z | ⟨ob, xs, z⟩
      · exact un.keep b o e z (none_in b) (none_in b)
      · obtain ⟨e1, _⟩ := ok b _ z
        obtain ⟨e2, _⟩ := ok' b _ (un.frzs b ob _ z)
        rw [e] at e1
        cases e1
        exact e2
  cases hk : K.lookup a with
  | some o =>
    have e := inK a o hk
    rw [obj] at e
    cases e
    exact go (fun _ => none) (fun _ => .inl rfl) (.inr ⟨_, vs.toArray, _, hk, rfl, rfl, rfl, by rw [List.size_toArray, hi.length]; exact len, by simpa using rel⟩) (fun b u z => by cases z) (fun b z => (z rfl).elim)
  | none =>
    have at_a : ∀ b, b = a → (fun b => if b = a then some (HO.frz { cls := .type "list", data := .seq vs.toArray } (.lst (ns.map V.int))) else none) b = some (HO.frz { cls := .type "list", data := .seq vs.toArray } (.lst (ns.map V.int))) := fun b h => if_pos h
    refine go (fun b => if b = a then some (HO.frz { cls := .type "list", data := .seq vs.toArray } (.lst (ns.map V.int))) else none) (fun b => ?_) (.inl (.inr ⟨_, if_pos rfl⟩)) (fun b u z => ?_) (fun b z => ?_)
    · by_cases hb : b = a
      · exact .inr ⟨_, _, if_pos hb⟩
      · exact .inl (if_neg hb)
    · by_cases hb : b = a
      · rw [at_a b hb] at z
        cases z
        subst hb
        exact ⟨obj, by rw [List.length_map]; exact len, vs, _, rel, obj⟩
      · have z' : (none : Option HO) = some u := (if_neg hb).symm.trans z
        cases z'
    · by_cases hb : b = a
      · exact ⟨hb, hk⟩
      · exact (z (if_neg hb)).elim
theorem walkG {l : PySem.W.OpenLaw} {n k : Nat} {q : Program} {loose : List Str} {XP : (Str → Option Value) → Heap → Prop} {YP : World → Heap → Prop} {d : DefRec} {x : Str}
    (hn : l.most = some n) (hn2 : n ≤ sizeLine) (hdf : d.params.defaults = []) (hr : Room k callerA)
    (F : ∀ (w : World) (mg : Str → Option Value) (fa : Addr) (h : Heap), YP w h → h.Ns mainGlobals mg → mg d.name = some (.ref fa) →
      ∃ (K : PySem.W.Frag) (sp : Sp) (fd : FuncData), K.In h ∧ (∀ (s : Shared) (u : Value), BindsTo s fd ⟨[u], []⟩ [(x, u)]) ∧
        (∀ base : Heap, K.In base → base.Ns mainGlobals mg → FnG l.prog w K mg base CX0 k fa fd [x] sp) ∧
        ∀ (H : Hp) (a : Addr) (ns : List Int), ns.length ≤ n → Only H → SqL K H a (ns.map V.int) → sp [.ref a] H (fun v _ => v = .bl true) fun _ _ _ => False) :
    PySem.W.WalkO q loose XP YP l.row.toRowW d [] (fun f vs => PySem.call f vs) := by
  refine Att.attach_call hn hdf fun w s0 s1 mg mb fa o pm cd doc a vs ns G Y ho hd hcd hmg hobj hints hlen hg => ?_
  obtain ⟨K, sp, fd, inK, bind, hF, hsp⟩ := F w mg fa _ Y G.T.g hmg
  exact callG_law inK G.T.g G.T.b G.T.builtins G.T.nolimit hg hobj hints (Nat.le_trans hlen hn2) hr hF bind (fun H hO hS => hsp H a ns hlen hO hS)
end DL

set_option Elab.async false
set_option linter.all false
set_option maxRecDepth 100000
set_option maxHeartbeats 4000000
/-! Slices, len, list, int, min, isinstance(x, bool). -/
namespace DL
open PySem PySem.Spec PyProof.Rows L2

/-! ### slices -/
abbrev DO := DEnv → Mu → (Option Int → Mu → Prop) → Prop
def AO (to : TO) (d : DO) : Prop := ∀ (N : Hid) (σ : L2.St) (H : Hp) (ρ : DEnv) (μ : Mu) (Kd : Option Int → Mu → Prop) (Q : Option Int → Hp → Prop), Rep N μ H → Sl N μ H σ ρ → d ρ μ Kd →
  (∀ o H' μ', Stp μ H μ' H' → Rep N μ' H' → Kd o μ' → Q o H') → to σ H Q
structure DPo (X : Cx) (e : Option Expr) (to : TO) (d : DO) : Prop where
  p : PO X e to
  a : AO to d
def oNo : DO := fun _ μ K => K none μ
def oInt (de : DE) : DO := fun ρ μ K => de ρ μ fun x μ1 => ∃ i, x = .int i ∧ K (some i) μ1
theorem do_none {X : Cx} : DPo X none tNoPart oNo := ⟨po_none, fun N σ H ρ μ Kd Q R S h q => q none H μ Stp.refl R h⟩
theorem do_some {X : Cx} {e : Expr} {te : TE} {de : DE} (h : DP X e te de) : DPo X (some e) (tPart te) (oInt de) := ⟨po_some h.p, fun N σ H ρ μ Kd Q R S h1 q => h.a N σ H ρ μ _ _ R S h1 fun v H1 μ1 d e1 R1 r ⟨i, ed, k⟩ => by
  subst ed
  exact ⟨i, r.intInv, q (some i) H1 μ1 e1 R1 k⟩⟩
def cutD {α : Type} (xs : List α) (lo hi : Option Int) : List α := (xs.drop (HT.sIx xs.length 0 lo)).take (HT.sIx xs.length xs.length hi - HT.sIx xs.length 0 lo)
def rdSl : Dt → Option Int → Option Int → Mu → KD → Prop
  | .lst xs, lo, hi, μ, K => K (.lst (cutD xs lo hi)) μ
  | .tup xs, lo, hi, μ, K => K (.tup (cutD xs lo hi)) μ
  | .str z, lo, hi, μ, K => z.length ≤ 1000000 ∧ K (.str (cutD z lo hi)) μ
  | _, _, _, _, _ => False
def rSlAll (K : PySem.W.Frag) : V → Option Int → Option Int → Hp → VK → Prop := fun x lo hi H Q => (rSlL K x lo hi H Q ∨ rSlA K x lo hi H Q) ∨ rSlS x lo hi H Q
theorem RpAll.cut {N : Hid} {μ : Mu} {H : Hp} {vs : List V} {ds : List Dt} (r : RpAll N μ H vs ds) (lo hi : Option Int) : RpAll N μ H (cutV vs lo hi) (cutD ds lo hi) := by
  unfold cutV cutD
  rw [r.length]
  exact (r.drop _).take _
theorem cutD_mem {α : Type} {xs : List α} {lo hi : Option Int} {c : α} (h : c ∈ cutD xs lo hi) : c ∈ xs := List.mem_of_mem_drop (List.mem_of_mem_take h)
theorem cutS_mkS (z : List Nat) (lo hi : Option Int) : cutS (mkS z) lo hi = mkS (cutD z lo hi) := by
  unfold cutS cutD
  rw [mkS_length]
  rfl
def dSl (de : DE) (dl du : DO) : DE := fun ρ μ K => de ρ μ fun x μ1 => dl ρ μ1 fun l μ2 => du ρ μ2 fun u μ3 => rdSl x l u μ3 K
theorem d_slice {X : Cx} {e : Expr} {te : TE} {de : DE} {lo hi : Option Expr} {tl tu : TO} {dl du : DO} {p2 pos : Pos} (he : DP X e te de) (hl : DPo X lo tl dl) (hu : DPo X hi tu du) : DP X (.Subscript e (.Slice lo hi none p2) pos) (tSl (rSlAll X.K) te tl tu) (dSl de dl du) := by
  refine ⟨pe_slice (.or (.or sl_list sl_tupA) sl_str) he.p hl.p hu.p, fun N σ H ρ μ Kd Q R S h q => ?_⟩
  refine he.a N σ H ρ μ _ _ R S h fun v H1 μ1 d e1 R1 r h1 => ?_
  refine hl.a N σ H1 ρ μ1 _ _ R1 (S.mono e1) h1 fun l H2 μ2 e2 R2 h2 => ?_
  refine hu.a N σ H2 ρ μ2 _ _ R2 ((S.mono e1).mono e2) h2 fun u H3 μ3 e3 R3 h3 => ?_
  have r3 := (r.mono e2).mono e3
  have e13 := (e1.trans e2).trans e3
  cases d <;> try exact (show False from h3).elim
  · rename_i z
    obtain ⟨ev, hz⟩ := r3.strInv
    refine .inr ⟨mkS z, ev, by rw [mkS_length]; exact szl h3.1, ?_⟩
    rw [cutS_mkS]
    exact q _ H3 μ3 _ e13 R3 (.str _ fun c hc => hz c (cutD_mem hc)) h3.2
  · rename_i xs
    obtain ⟨a, vs, rfl, n, m, hh, rr⟩ := r3.lstInv
    exact .inl (.inl ⟨a, vs, rfl, .of hh, fun p hp => q _ _ μ3 _ (e13.trans (stp_new hp)) (R3.new hp) (Rp.newLst R3 hp (rr.cut l u)) h3⟩)
  · rename_i xs
    obtain ⟨a, vs, rfl, n, m, hh, rr⟩ := r3.tupInv
    refine .inl (.inr ⟨a, vs, rfl, .of hh, fun hw => ?_, fun _ p hp => q _ _ μ3 _ (e13.trans (stp_new hp)) (R3.new hp) (Rp.newTup R3 hp (rr.cut l u)) h3⟩)
    have ec : cutD xs l u = xs := by
      unfold cutD
      rw [← rr.length, hw.1, hw.2, rr.length]
      simp
    have h3' : Kd (.tup (cutD xs l u)) μ3 := h3
    rw [ec] at h3'
    exact q _ H3 μ3 _ e13 R3 r3 h3'
/-- the forms that come up -/
theorem cutD_to {α : Type} (xs : List α) (n : Nat) : cutD xs none (some (n : Int)) = xs.take n := by
  show (xs.drop 0).take (HT.sIx xs.length xs.length (some (n : Int)) - 0) = _
  rw [HT.sIx_nat, List.drop_zero, Nat.sub_zero]
  exact List.take_eq_take_iff.mpr (by omega)
theorem cutD_from {α : Type} (xs : List α) (n : Nat) : cutD xs (some (n : Int)) none = xs.drop n := by
  show (xs.drop (HT.sIx xs.length 0 (some (n : Int)))).take (xs.length - HT.sIx xs.length 0 (some (n : Int))) = _
  rw [HT.sIx_nat, List.take_of_length_le (by rw [List.length_drop]; exact Nat.le_refl _)]
  by_cases h : n ≤ xs.length
  · rw [Nat.min_eq_left h]
  · rw [Nat.min_eq_right (by omega), List.drop_eq_nil_of_le (Nat.le_refl _), List.drop_eq_nil_of_le (by omega)]
theorem cutD_all {α : Type} (xs : List α) : cutD xs none none = xs := by
  show (xs.drop 0).take (xs.length - 0) = xs
  simp
theorem sliceRev (n : Nat) : Builtin.Str.strSliceIndices none none (-1) n = (List.range n).reverse := by
  unfold Builtin.Str.strSliceIndices
  show sliceRange ((n : Int) - 1) (-1) (-1) = _
  rw [PySem.W.krv_sliceRange, PySem.W.krv_range]

/-! ### text[::-1] -/
def tRevS (te : TE) : TE := fun σ H Q => te σ H fun x H1 => ∃ z, x = .str z ∧ z.length ≤ sizeLine ∧ Q (.str (mkS z.cps.toList.reverse)) H1
theorem rangeFM (z : Str) : (List.range z.length).filterMap (z.cps[·]?) = z.cps.toList := by
  apply List.ext_getElem?
  intro i
  have key : ∀ n, n ≤ z.cps.size → ((List.range n).filterMap (z.cps[·]?)) = z.cps.toList.take n := by
    intro n
    induction n with
    | zero => intro _; simp
    | succ n ih =>
      intro hn
      rw [List.range_succ, List.filterMap_append, ih (by omega)]
      have hl : n < z.cps.toList.length := by rw [Array.length_toList]; omega
      rw [List.take_succ]
      simp [Array.getElem?_eq_getElem (show n < z.cps.size by omega)]
  have e := key z.cps.size (Nat.le_refl _)
  have e' : (List.range z.length).filterMap (z.cps[·]?) = z.cps.toList := by
    refine e.trans ?_
    rw [List.take_of_length_le (by simp)]
  rw [e']
theorem revFM (z : Str) : ((Builtin.Str.strSliceIndices none none (-1) z.length).filterMap (z.cps[·]?)) = z.cps.toList.reverse := by
  rw [sliceRev, List.filterMap_reverse, rangeFM]
theorem pe_revS {X : Cx} {e : Expr} {te : TE} {k : Nat} {p1 p2 p3 pos : Pos} (he : PE X e te) : PE X (.Subscript e (.Slice none none (some (.UnaryOp .USub (.Constant (.int 1) k p1) p2)) p3) pos) (tRevS te) := by
  refine ⟨fun pins s σ H Q I h => ?_⟩
  refine Subscript_ (thn (he.run pins s σ H _ I h) fun v s1 ⟨x, H1, I1, r1, q1⟩ => ?_)
  obtain ⟨z, ex, hz, q⟩ := q1
  subst ex
  obtain ⟨t, rfl⟩ := r1
  have hst : PO X (some (.UnaryOp .USub (.Constant (.int 1) k p1) p2)) (tPart (tUn (rU fun i => .int (-i)) (tC (.int 1)))) := po_some (pe_un un_neg pe_int)
  refine wpAny_Slice (thn (po_none.run pins s1 σ H1 (fun o H2 => o = none ∧ H2 = H1) I1 ⟨rfl, rfl⟩) fun vl s2 ⟨l, H2, I2, pl, el, e2⟩ => ?_)
  subst el e2
  refine thn (po_none.run pins s2 σ H2 (fun o H3 => o = none ∧ H3 = H2) I2 ⟨rfl, rfl⟩) fun vu s3 ⟨u, H3, I3, pu, eu, e3⟩ => ?_
  subst eu e3
  refine thn (hst.run pins s3 σ H3 (fun o H4 => o = some (-1) ∧ H4 = H3) I3 ⟨1, rfl, -1, rfl, rfl, rfl⟩) fun vs s4 ⟨o, H4, I4, ps, eo, e4⟩ => ?_
  subst eo e4
  have I5 : Inv X pins σ H4 { s4 with heap := s4.heap.push { cls := .type "slice", data := .fields #[vl, vu, vs] } } := I4.kept (t' := s4.toks) fun b ob q => Heap.get?_push_of_some _ q
  obtain ⟨l, rfl, el⟩ := IsPart.raw pl
  obtain ⟨u, rfl, eu⟩ := IsPart.raw pu
  obtain ⟨o, rfl, eo⟩ := IsPart.raw ps
  have hl' : l.map (·.1) = none := by rw [el]
  have hu' : u.map (·.1) = none := by rw [eu]
  have ho' : o.map (·.1) = some (-1) := by rw [eo]
  show wpAny (model X.prog X.w) X.A (subscriptTail e (.Slice none none (some (.UnaryOp .USub (.Constant (.int 1) k p1) p2)) p3) (.str z t) (.ref s4.heap.objs.size)) (EP X pins σ Q) X.xe { s4 with heap := s4.heap.push { cls := .type "slice", data := .fields #[_, _, _] } }
  refine tail_any (ops := [.str z t, .ref s4.heap.objs.size]) (typeIs_str _ _ _) (F.slot_str_getitem.lookup) ?_ (by with_unfolding_all rfl)
  refine wpAny_getItem_str_slice (l := l) (u := u) (st := o) ⟨_, Heap.get?_push_size _ rfl, rfl, rfl⟩ (by rw [ho']; rfl) ?_
  have e1 : sliceMade z t l u o = Made.str (mkS z.cps.toList.reverse) := by
    unfold sliceMade slicePicked
    rw [hl', hu', ho']
    show (if ((-1 : Int) == 1 && _) = true then _ else _) = _
    rw [if_neg (by simp)]
    show Made.str ⟨((Builtin.Str.strSliceIndices none none (-1) z.length).filterMap (z.cps[·]?)).toArray⟩ = _
    rw [revFM]
    rfl
  rw [e1]
  exact ⟨by rw [mkS_length, List.length_reverse, Array.length_toList]; exact hz, .str _, H4, I5.tok _, ⟨_, rfl⟩, q⟩
def dRevS (de : DE) : DE := fun ρ μ K => de ρ μ fun x μ1 => ∃ z, x = .str z ∧ z.length ≤ 1000000 ∧ K (.str z.reverse) μ1
theorem d_revS {X : Cx} {e : Expr} {te : TE} {de : DE} {k : Nat} {p1 p2 p3 pos : Pos} (he : DP X e te de) : DP X (.Subscript e (.Slice none none (some (.UnaryOp .USub (.Constant (.int 1) k p1) p2)) p3) pos) (tRevS te) (dRevS de) :=
  ⟨pe_revS he.p, fun N σ H ρ μ Kd Q R S h q => he.a N σ H ρ μ _ _ R S h fun v H1 μ1 d e1 R1 r ⟨z, ed, hz, k⟩ => by
    subst ed
    obtain ⟨ev, hc⟩ := r.strInv
    exact ⟨mkS z, ev, by rw [mkS_length]; exact szl hz, q _ H1 μ1 _ e1 R1 (.str _ fun c h => hc c (List.mem_reverse.mp h)) k⟩⟩
end DL

set_option Elab.async false
set_option linter.all false
set_option maxRecDepth 100000
set_option maxHeartbeats 4000000
/-! len, list, int, min, isinstance(x, bool). -/
namespace DL
open PySem PySem.Spec PyProof.Rows L2
section
variable {X : Cx}
theorem RpAll.inv1 {N : Hid} {μ : Mu} {H : Hp} {xs : List V} {d : Dt} (h : RpAll N μ H xs [d]) : ∃ x, xs = [x] ∧ Rp N μ H x d := by
  cases h with
  | cons h r =>
    cases r
    exact ⟨_, rfl, h⟩
theorem RpAll.inv2 {N : Hid} {μ : Mu} {H : Hp} {xs : List V} {d e : Dt} (h : RpAll N μ H xs [d, e]) : ∃ x y, xs = [x, y] ∧ Rp N μ H x d ∧ Rp N μ H y e := by
  cases h with
  | cons h r =>
    obtain ⟨y, e, r'⟩ := r.inv1
    subst e
    exact ⟨_, _, rfl, h, r'⟩

/-! ### len -/
def rdLen : RCD
  | [.str z], μ, K => z.length ≤ 1000000 ∧ K (.int z.length) μ
  | [.lst xs], μ, K => K (.int xs.length) μ
  | [.tup xs], μ, K => K (.int xs.length) μ
  | [.scr ns], μ, K => K (.int ns.length) μ
  | [.hdl a], μ, K => ∃ xs, μ a = some (.lst xs) ∧ K (.int xs.length) μ
  | _, _, _ => False
theorem dc_len : DCall X (.builtin "len") (fun xs H Q => ∃ x n, xs = [x] ∧ LenV X.K x H n ∧ Q (.int n) H) rdLen := ⟨call_len, fun N H μ xs ds Kd Q R rs h q => by
  match ds, h with
  | [.str z], h =>
    obtain ⟨x, rfl, r⟩ := rs.inv1
    obtain ⟨ev, hz⟩ := r.strInv
    subst ev
    exact ⟨_, z.length, rfl, ⟨by rw [mkS_length]; exact szl h.1, by rw [mkS_length]⟩, q _ H μ _ Stp.refl R (.int _) h.2⟩
  | [.lst ys], h =>
    obtain ⟨x, rfl, r⟩ := rs.inv1
    obtain ⟨a, vs, rfl, n, m, hh, rr⟩ := r.lstInv
    exact ⟨_, ys.length, rfl, .inl ⟨vs, .of hh, rr.length.symm⟩, q _ H μ _ Stp.refl R (.int _) h⟩
  | [.tup ys], h =>
    obtain ⟨x, rfl, r⟩ := rs.inv1
    obtain ⟨a, vs, rfl, n, m, hh, rr⟩ := r.tupInv
    exact ⟨_, ys.length, rfl, .inr ⟨vs, .of hh, rr.length.symm⟩, q _ H μ _ Stp.refl R (.int _) h⟩
  | [.scr ns], h =>
    obtain ⟨x, rfl, r⟩ := rs.inv1
    cases r with
    | scr n m hh => exact ⟨_, ns.length, rfl, .inl ⟨ns.map V.int, .inl (.inr ⟨_, hh⟩), by rw [List.length_map]⟩, q _ H μ _ Stp.refl R (.int _) h⟩
  | [.hdl a], h =>
    obtain ⟨x, rfl, r⟩ := rs.inv1
    obtain ⟨ys, hm, k⟩ := h
    obtain ⟨_, vs, h1, r1⟩ := R.own a _ hm
    have ex := r.hdlInv
    subst ex
    exact ⟨_, ys.length, rfl, .inl ⟨vs, .of h1, r1.length.symm⟩, q _ H μ _ Stp.refl R (.int _) k⟩⟩

/-! ### int, min -/
def rdInt : RCD
  | [.int i], μ, K => K (.int i) μ
  | [.bl k], μ, K => K (.int (if k then 1 else 0)) μ
  | _, _, _ => False
theorem dc_int : DCall X (.type "int") (fun xs H Q => (∃ i, xs = [.int i] ∧ Q (.int i) H) ∨ ∃ k, xs = [.bl k] ∧ Q (.int (if k then 1 else 0)) H) rdInt := ⟨call_int1, fun N H μ xs ds Kd Q R rs h q => by
  match ds, h with
  | [.int i], h =>
    obtain ⟨x, rfl, r⟩ := rs.inv1
    rw [r.intInv]
    exact .inl ⟨i, rfl, q _ H μ _ Stp.refl R (.int _) h⟩
  | [.bl k], h =>
    obtain ⟨x, rfl, r⟩ := rs.inv1
    rw [r.blInv]
    exact .inr ⟨k, rfl, q _ H μ _ Stp.refl R (.int _) h⟩⟩
def rdMin : RCD
  | [.int i, .int j], μ, K => K (.int (if j < i then j else i)) μ
  | _, _, _ => False
theorem dc_min (hc : X.calm = true) : DCall X (.builtin "min") (fun xs H Q => ∃ i j, xs = [.int i, .int j] ∧ Q (.int (if j < i then j else i)) H) rdMin := ⟨call_min2 hc, fun N H μ xs ds Kd Q R rs h q => by
  match ds, h with
  | [.int i, .int j], h =>
    obtain ⟨x, y, rfl, r1, r2⟩ := rs.inv2
    rw [r1.intInv, r2.intInv]
    exact ⟨i, j, rfl, q _ H μ _ Stp.refl R (.int _) h⟩⟩

/-! ### isinstance(x, bool) -/
def isBlD : Dt → Bool
  | .bl _ => true
  | _ => false
theorem Rp.ty {K : PySem.W.Frag} {N : Hid} {μ : Mu} {H : Hp} {v : V} {d : Dt} (r : Rp N μ H v d) (f : flatD d = true) : ∃ T, TyOf K H v (.type T) ∧ PySem.W.kitOne K (.type T) (.type "bool") = some (isBlD d) := by
  cases r with
  | non => exact ⟨"NoneType", .non, kit_ty (show kitB "NoneType" "bool" = some false by decide +kernel)⟩
  | bl b => exact ⟨"bool", .bl b, kit_ty (show kitB "bool" "bool" = some true by decide +kernel)⟩
  | int i => exact ⟨"int", .int i, kit_ty (show kitB "int" "bool" = some false by decide +kernel)⟩
  | str z h => exact ⟨"str", .str _, kit_ty (show kitB "str" "bool" = some false by decide +kernel)⟩
  | lst => exact absurd (show false = true from f) Bool.false_ne_true
  | tup => exact absurd (show false = true from f) Bool.false_ne_true
  | dk => exact absurd (show false = true from f) Bool.false_ne_true
  | hdl => exact absurd (show false = true from f) Bool.false_ne_true
  | scr => exact absurd (show false = true from f) Bool.false_ne_true
  | exc => exact absurd (show false = true from f) Bool.false_ne_true
def dIsB (de : DE) : DE := fun ρ μ K => de ρ μ fun x μ1 => flatD x = true ∧ K (.bl (isBlD x)) μ1
theorem d_isB {e : Expr} {te : TE} {de : DE} {p p2 pos : Pos} (he : DP X e te de) (hg : Gl X "isinstance") (hm : X.mg "isinstance" = none) (hgb : Gl X "bool") (hmb : X.mg "bool" = none)
    (h1 : starEach [e, .Name "bool" p2] X.env = (false, eval e X.env) :: starEach [.Name "bool" p2] X.env := by rfl) (h2 : (backTo pos (starEach [.Name "bool" p2] X.env)).any (·.1) = false := by rfl)
    (h3 : starEach [.Name "bool" p2] X.env = (false, eval (.Name "bool" p2) X.env) :: starEach [] X.env := by rfl) :
    DP X (.Call (.Name "isinstance" p) [e, .Name "bool" p2] [] pos) (tCB (rIsi X.K) (tCons te (tCons (tC (.ty "bool")) tNil))) (dIsB de) :=
  ⟨pe_callB call_isi hg hm (by rfl) (pa_cons he.p (pa_cons (pe_bltn hgb hmb (by rfl) rfl) pa_nil h3) h1) (by decide) (by decide) h1 h2,
  fun N σ H ρ μ Kd Q R S h q => he.a N σ H ρ μ _ _ R S h fun v H1 μ1 d e1 R1 r ⟨f, k⟩ => by
    obtain ⟨T, t1, t2⟩ := r.ty (K := X.K) f
    exact ⟨v, .ty "bool", .type T, .type "bool", isBlD d, rfl, .ty _, .base t1, t2, q _ H1 μ1 _ e1 R1 (.bl _) k⟩⟩

/-! ### list(x) -/
theorem signs_vals {x : Str} {acc : Array Value} (h : ItemsOf (SignAt x) acc x.cps.size) : Vals (x.cps.toList.map fun c => V.str (mkS [c])) acc.toList := by
  obtain ⟨hs, hv⟩ := h
  have key : ∀ (l : List Nat) (us : List Value), us.length = l.length → (∀ (j : Nat) u, us[j]? = some u → ∃ c t, l[j]? = some c ∧ u = .str ⟨#[c]⟩ t) → Vals (l.map fun c => V.str (mkS [c])) us := by
    intro l
    induction l with
    | nil =>
      intro us e _
      cases us with
      | nil => exact .nil
      | cons u us => cases e
    | cons c l ih =>
      intro us e hu
      cases us with
      | nil => cases e
      | cons u us =>
        obtain ⟨c', t, hc, eu⟩ := hu 0 u rfl
        have hc : some c = some c' := hc
        cases hc
        subst eu
        refine .cons ⟨t, rfl⟩ (ih us (by simpa using e) fun j u hj => hu (j + 1) u (by simpa using hj))
  refine key _ _ (by rw [Array.length_toList, Array.length_toList]; exact hs) fun j u hj => ?_
  obtain ⟨c, t, hc, e⟩ := hv j u (by rw [← Array.getElem?_toList]; exact hj)
  exact ⟨c, t, by rw [Array.getElem?_toList]; exact hc, e⟩
theorem call_list_signs (hc : X.calm = true) : CallR X (.type "list") (fun xs H Q => ∃ x, xs = [.str x] ∧ x.length ≤ sizeLine ∧ ∀ l, H l = none → Q (.ref l) (upd H l (.lst (x.cps.toList.map fun c => V.str (mkS [c]))))) := by
  intro pins s σ H xs us Q I r h
  obtain ⟨x, rfl, hz, q⟩ := h
  obtain ⟨u, rfl, t, rfl⟩ := vals1 r
  refine call_list_str (I.ok.hd hc) x t (fun h' tk acc c kp e hi => ?_) hz
  refine ⟨.ref s.heap.objs.size, _, I.laid (t' := tk) kp (Nat.le_refl _) (show ObjOk X.prog X.w _ h' _ (.lst _) from ⟨?_, acc.toList, c, signs_vals hi, e⟩), rfl, q _ (I.hok.fresh (Nat.le_refl _))⟩
  rw [List.length_map, Array.length_toList]
  exact hz
/-- list(x): what it holds -/
def rdItems (rest : List Dt → Mu → Prop) : List Dt → Mu → Prop
  | [.lst xs], μ => rest xs μ
  | [.tup xs], μ => rest xs μ
  | [.str z], μ => z.length ≤ 1000000 ∧ rest (sgn z) μ
  | [.hdl a], μ => ∃ xs, μ a = some (.lst xs) ∧ rest xs μ
  | _, _ => False
def rdListD : RCD := fun ds μ K => rdItems (fun xs μ => K (.lst xs) μ) ds μ
def rdListO : RCD := fun ds μ K => rdItems (fun xs μ => ∀ p, μ p = none → K (.hdl p) (mset μ p (.lst xs))) ds μ
abbrev rList (K : PySem.W.Frag) : List V → Hp → VK → Prop := fun xs H Q => (∃ p ys, xs = [.ref p] ∧ (SqL K H p ys ∨ SqT K H p ys) ∧ ∀ l, H l = none → Q (.ref l) (upd H l (.lst ys))) ∨
  (∃ x, xs = [.str x] ∧ x.length ≤ sizeLine ∧ ∀ l, H l = none → Q (.ref l) (upd H l (.lst (x.cps.toList.map fun c => V.str (mkS [c])))))
theorem rp_sgn {N : Hid} {μ : Mu} {H : Hp} {z : List Nat} (h : ∀ c ∈ z, c < 0x110000) : RpAll N μ H (z.map fun c => V.str (mkS [c])) (sgn z) := by
  induction z with
  | nil => exact .nil
  | cons c z ih =>
    exact .cons (Rp.str [c] fun b hb => by
      rw [List.mem_singleton.mp hb]
      exact h c List.mem_cons_self) (ih fun b hb => h b (List.mem_cons_of_mem _ hb))
theorem items_get {K : PySem.W.Frag} {N : Hid} {H : Hp} {μ : Mu} {xs : List V} {ds : List Dt} {rest : List Dt → Mu → Prop} {Q : VK} (R : Rep N μ H) (rs : RpAll N μ H xs ds) (h : rdItems rest ds μ)
    (q : ∀ vs ys, RpAll N μ H vs ys → rest ys μ → ∀ l, H l = none → Q (.ref l) (upd H l (.lst vs))) : rList K xs H Q := by
  match ds, h with
  | [.lst ys], h =>
    obtain ⟨x, rfl, r⟩ := rs.inv1
    obtain ⟨a, vs, rfl, n, m, hh, rr⟩ := r.lstInv
    exact .inl ⟨a, vs, rfl, .inl (.of hh), q vs ys rr h⟩
  | [.tup ys], h =>
    obtain ⟨x, rfl, r⟩ := rs.inv1
    obtain ⟨a, vs, rfl, n, m, hh, rr⟩ := r.tupInv
    exact .inl ⟨a, vs, rfl, .inr (.of hh), q vs ys rr h⟩
  | [.str z], h =>
    obtain ⟨x, rfl, r⟩ := rs.inv1
    obtain ⟨ev, hz⟩ := r.strInv
    subst ev
    exact .inr ⟨_, rfl, by rw [mkS_length]; exact szl h.1, q _ _ (rp_sgn hz) h.2⟩
  | [.hdl a], h =>
    obtain ⟨x, rfl, r⟩ := rs.inv1
    obtain ⟨ys, hm, k⟩ := h
    obtain ⟨_, vs, h1, r1⟩ := R.own a _ hm
    have ex := r.hdlInv
    subst ex
    exact .inl ⟨a, vs, rfl, .inl (.of h1), q vs ys r1 k⟩
theorem dc_listD (hc : X.calm = true) : DCall X (.type "list") (rList X.K) rdListD := ⟨.or call_list_of (call_list_signs hc), fun N H μ xs ds Kd Q R rs h q =>
  items_get R rs h fun vs ys rr k l hl => q _ _ μ _ (stp_new hl) (R.new hl) (Rp.newLst R hl rr) k⟩
theorem dc_listO (hc : X.calm = true) : DCall X (.type "list") (rList X.K) rdListO := ⟨.or call_list_of (call_list_signs hc), fun N H μ xs ds Kd Q R rs h q =>
  items_get R rs h fun vs ys rr k l hl => q _ _ _ _ (stp_newOwn hl) (R.newOwn hl (OdRp.newLst hl rr)) (.hdl l) (k l (R.fresh hl).2)⟩
end
end DL

set_option Elab.async false
set_option linter.all false
set_option maxRecDepth 100000
set_option maxHeartbeats 4000000
/-! Methods of texts and lists. -/
namespace DL
open PySem PySem.Spec PyProof.Rows L2

/-! ### the plain words -/
/-- the place of the last c, or -1 -/
def rfindD : List Nat → Nat → Int
  | [], _ => -1
  | x :: r, c => if 0 ≤ rfindD r c then rfindD r c + 1 else if x = c then 0 else -1
theorem rfindD_ge (c : Nat) : ∀ z : List Nat, -1 ≤ rfindD z c
  | [] => by simp [rfindD]
  | x :: r => by
    have := rfindD_ge c r
    unfold rfindD
    split
    · omega
    · split <;> omega
theorem rfindD_none (c : Nat) : ∀ z : List Nat, rfindD z c < 0 → c ∉ z
  | [], _ => by simp
  | x :: r, h => by
    unfold rfindD at h
    split at h
    · omega
    · rename_i h1
      split at h
      · exact absurd h (by decide)
      · rename_i h2
        intro hm
        rcases List.mem_cons.mp hm with e | hm
        · exact h2 e.symm
        · exact rfindD_none c r (by have := rfindD_ge c r; omega) hm
theorem rfindD_some (c : Nat) : ∀ (z : List Nat) (i : Nat), rfindD z c = i → z[i]? = some c ∧ ∀ k, i < k → z[k]? ≠ some c
  | [], i, h => by
    simp [rfindD] at h
  | x :: r, i, h => by
    unfold rfindD at h
    split at h
    · rename_i h1
      obtain ⟨j, hj⟩ : ∃ j : Nat, rfindD r c = j := ⟨(rfindD r c).toNat, by omega⟩
      obtain ⟨e1, e2⟩ := rfindD_some c r j hj
      have : i = j + 1 := by omega
      subst this
      refine ⟨by simpa using e1, fun k hk => ?_⟩
      cases k with
      | zero => omega
      | succ k => simpa using e2 k (by omega)
    · rename_i h1
      split at h
      · rename_i h2
        have : i = 0 := by omega
        subst this
        refine ⟨by simp [h2], fun k hk => ?_⟩
        cases k with
        | zero => omega
        | succ k =>
          have := rfindD_none c r (by have := rfindD_ge c r; omega)
          intro e
          exact this (List.mem_of_getElem? (by simpa using e))
      · omega
theorem at_one {z : List Nat} {c i : Nat} : StrLaws.At (mkS z) (mkS [c]) (mkS z).length i ↔ z[i]? = some c := StrLaws.subAt_one (mkS z) c i
theorem rfind_mkS (z : List Nat) (c : Nat) : Txt.rfind (mkS z) (mkS [c]) = rfindD z c := by
  unfold Txt.rfind
  rcases StrLaws.last_spec (mkS z) (mkS [c]) with ⟨h0, hn⟩ | ⟨i, h0, hi, hn⟩
  · rw [h0]
    have hge := rfindD_ge c z
    by_cases h : rfindD z c < 0
    · show (-1 : Int) = _
      omega
    · obtain ⟨j, hj⟩ : ∃ j : Nat, rfindD z c = j := ⟨(rfindD z c).toNat, by omega⟩
      exact absurd (at_one.mpr (rfindD_some c z j hj).1) (hn j)
  · rw [h0]
    have hi := at_one.mp hi
    show (i : Int) = _
    by_cases h : rfindD z c < 0
    · exact absurd (List.mem_of_getElem? hi) (rfindD_none c z h)
    · obtain ⟨j, hj⟩ : ∃ j : Nat, rfindD z c = j := ⟨(rfindD z c).toNat, by omega⟩
      obtain ⟨e1, e2⟩ := rfindD_some c z j hj
      have h1 : ¬ j < i := fun q => e2 i q hi
      have h2 : ¬ i < j := fun q => hn j q (at_one.mpr e1)
      omega
theorem countIn_mkS (z : List Nat) (c : Nat) : cnt c z = z.count c := by
  induction z with
  | nil => rfl
  | cons x r ih =>
    rw [cnt_cons, ih, List.count_cons]
    by_cases h : x = c
    · subst h
      simp
      omega
    · simp [h]
theorem count_mkS (z : List Nat) (c : Nat) : Txt.count (mkS z) (mkS [c]) = z.count c := (count_is (mkS z) c).trans (countIn_mkS z c)
theorem join_mkS : ∀ zs : List (List Nat), Txt.join (mkS []) (zs.map mkS) = mkS zs.flatten
  | [] => rfl
  | z :: zs => by
    unfold Txt.join Builtin.Str.glued
    have key : ∀ (zs : List (List Nat)) (acc : Array Nat), (zs.map mkS).foldl (fun acc p => acc ++ (mkS []).cps ++ p.cps) acc = acc ++ zs.flatten.toArray := by
      intro zs
      induction zs with
      | nil => intro acc; simp
      | cons y ys ih =>
        intro acc
        rw [List.map_cons, List.foldl_cons, ih]
        simp [mkS]
    show (⟨_⟩ : Str) = _
    congr 1
    have := key zs (mkS z).cps
    simp only [List.map_cons, List.drop_one, List.tail_cons, List.headD_cons]
    rw [this]
    simp [mkS]
section
variable {X : Cx} {o e : Expr} {to te : TE} {do' de : DE} {apos pos : Pos}

/-! ### a text's method with one argument -/
def AM1 (r : V → List V → Hp → VK → Prop) (rd : R2D) : Prop := ∀ (N : Hid) (H : Hp) (μ : Mu) (x y : V) (dx dy : Dt) (Kd : KD) (Q : VK), Rep N μ H → Rp N μ H x dx → Rp N μ H y dy → rd dx dy μ Kd →
  (∀ v H' μ' d, Stp μ H μ' H' → Rep N μ' H' → Rp N μ' H' v d → Kd d μ' → Q v H') → r x [y] H Q
structure DM1 (X : Cx) (id : String) (r : V → List V → Hp → VK → Prop) (rd : R2D) : Prop where
  p : MtR X id r
  a : AM1 r rd
def dM1 (rd : R2D) (do' de : DE) : DE := fun ρ μ K => do' ρ μ fun x μ1 => (∃ z, x = .str z) ∧ de ρ μ1 fun y μ2 => rd x y μ2 K
theorem d_m1 {id : String} {name : Str} {r : V → List V → Hp → VK → Prop} {rd : R2D} (slot : Slot "str" name id) (ty : typeOf (.builtin id) = pure (.type "method_descriptor")) (m : DM1 X id r rd) (ho : DP X o to do') (he : DP X e te de)
    (hs : starEach [e] X.env = [(false, eval e X.env)] := by rfl) (hbase : attributeBase o name X.env (eval o X.env) = eval o X.env := by rfl) (hline : (apos.endLine == pos.line) = true := by rfl) :
    DP X (.Call (.Attribute o name apos) [e] [] pos) (tM1 r to te) (dM1 rd do' de) := by
  refine ⟨pe_m1 slot ty m.p ho.p he.p hs hbase hline, fun N σ H ρ μ Kd Q R S h q => ?_⟩
  refine ho.a N σ H ρ μ _ _ R S h fun x H1 μ1 dx e1 R1 rx ⟨⟨z, ez⟩, h1⟩ => ?_
  subst ez
  refine ⟨⟨_, rx.strInv.1⟩, he.a N σ H1 ρ μ1 _ _ R1 (S.mono e1) h1 fun y H2 μ2 dy e2 R2 ry h2 => ?_⟩
  exact m.a N H2 μ2 x y _ dy Kd Q R2 (rx.mono e2) ry h2 fun v H' μ' d e3 => q v H' μ' d ((e1.trans e2).trans e3)
/-- one sign in a text -/
def rdSign (g : List Nat → Nat → Int) : R2D
  | .str z, .str [c], μ, K => K (.int (g z c)) μ
  | _, _, _, _ => False
theorem am_sign {f : Str → Str → Int} {g : List Nat → Nat → Int} (hg : ∀ z c, f (mkS z) (mkS [c]) = g z c) : AM1 (fun x xs H Q => ∃ a b, x = .str a ∧ xs = [.str b] ∧ Q (.int (f a b)) H) (rdSign g) := fun N H μ x y dx dy Kd Q R rx ry h q => by
  match dx, dy, h with
  | .str z, .str [c], h =>
    refine ⟨mkS z, mkS [c], rx.strInv.1, by rw [ry.strInv.1], ?_⟩
    rw [hg]
    exact q _ H μ _ Stp.refl R (.int _) h
def rdCountS : R2D := rdSign fun z c => z.count c
def rdRfindS : R2D := rdSign rfindD
theorem dm_count : DM1 X "str.count" (fun x xs H Q => ∃ a b, x = .str a ∧ xs = [.str b] ∧ Q (.int (Txt.count a b)) H) rdCountS := ⟨mt_count, am_sign count_mkS⟩
theorem dm_rfind : DM1 X "str.rfind" (fun x xs H Q => ∃ a b, x = .str a ∧ xs = [.str b] ∧ Q (.int (Txt.rfind a b)) H) rdRfindS := ⟨mt_rfind, am_sign rfind_mkS⟩
theorem d_count (ho : DP X o to do') (he : DP X e te de) (hs : starEach [e] X.env = [(false, eval e X.env)] := by rfl) (hbase : attributeBase o "count" X.env (eval o X.env) = eval o X.env := by rfl) (hline : (apos.endLine == pos.line) = true := by rfl) :
    DP X (.Call (.Attribute o "count" apos) [e] [] pos) (tM1 (fun x xs H Q => ∃ a b, x = .str a ∧ xs = [.str b] ∧ Q (.int (Txt.count a b)) H) to te) (dM1 rdCountS do' de) := d_m1 PySem.F.slot_str_count PySem.F.type_str_count dm_count ho he hs hbase hline
theorem d_rfind (ho : DP X o to do') (he : DP X e te de) (hs : starEach [e] X.env = [(false, eval e X.env)] := by rfl) (hbase : attributeBase o "rfind" X.env (eval o X.env) = eval o X.env := by rfl) (hline : (apos.endLine == pos.line) = true := by rfl) :
    DP X (.Call (.Attribute o "rfind" apos) [e] [] pos) (tM1 (fun x xs H Q => ∃ a b, x = .str a ∧ xs = [.str b] ∧ Q (.int (Txt.rfind a b)) H) to te) (dM1 rdRfindS do' de) := d_m1 PySem.F.slot_str_rfind PySem.F.type_str_rfind dm_rfind ho he hs hbase hline
/-- ''.join(texts) -/
def rdJoin : R2D := fun x y μ K => ∃ zs : List (List Nat), x = .str [] ∧ y = .lst (zs.map .str) ∧ zs.flatten.length ≤ 1000000 ∧ K (.str zs.flatten) μ
theorem dm_join : DM1 X "str.join" (fun x xs H Q => ∃ a p, ∃ ys : List Str, x = .str a ∧ xs = [.ref p] ∧ (SqL X.K H p (ys.map V.str) ∨ SqT X.K H p (ys.map V.str)) ∧ (ys.map (·.length)).sum + ys.length * a.length ≤ 16777216 ∧ Q (.str (Txt.join a ys)) H) rdJoin := ⟨mt_join, fun N H μ x y dx dy Kd Q R rx ry h q => by
  obtain ⟨zs, ex, ey, hl, k⟩ := h
  subst ex ey
  obtain ⟨a, vs, rfl, n, m, hh, rr⟩ := ry.lstInv
  obtain ⟨ev, hz⟩ := rr.strs
  subst ev
  refine ⟨mkS [], a, zs.map mkS, rx.strInv.1, rfl, .inl (.of hh), ?_, ?_⟩
  · rw [List.map_map, show ((fun x : Str => x.length) ∘ mkS) = List.length from funext mkS_length, mkS_length, List.length_nil, Nat.mul_zero, Nat.add_zero, ← List.length_flatten]
    omega
  · rw [join_mkS]
    refine q _ H μ _ Stp.refl R (.str _ fun c hc => ?_) k
    obtain ⟨z, h1, h2⟩ := List.mem_flatten.mp hc
    exact hz z h1 c h2⟩
theorem d_join (ho : DP X o to do') (he : DP X e te de) (hs : starEach [e] X.env = [(false, eval e X.env)] := by rfl) (hbase : attributeBase o "join" X.env (eval o X.env) = eval o X.env := by rfl) (hline : (apos.endLine == pos.line) = true := by rfl) :
    DP X (.Call (.Attribute o "join" apos) [e] [] pos) (tM1 (fun x xs H Q => ∃ a p, ∃ ys : List Str, x = .str a ∧ xs = [.ref p] ∧ (SqL X.K H p (ys.map V.str) ∨ SqT X.K H p (ys.map V.str)) ∧ (ys.map (·.length)).sum + ys.length * a.length ≤ 16777216 ∧ Q (.str (Txt.join a ys)) H) to te) (dM1 rdJoin do' de) := d_m1 PySem.F.slot_str_join PySem.F.type_str_join dm_join ho he hs hbase hline

/-! ### xs.append(y), xs.index(y) -/
def dApp (do' de : DE) : DE := fun ρ μ K => do' ρ μ fun x μ1 => ∃ a, x = .hdl a ∧ (∃ xs, μ1 a = some (.lst xs)) ∧ de ρ μ1 fun y μ2 => ∃ xs, μ2 a = some (.lst xs) ∧ xs.length < 1000000 ∧ K .non (mset μ2 a (.lst (xs ++ [y])))
theorem d_append (ho : DP X o to do') (he : DP X e te de) (hs : starEach [e] X.env = (false, eval e X.env) :: starEach [] X.env := by rfl) (hbase : attributeBase o "append" X.env (eval o X.env) = eval o X.env := by rfl) (hline : (apos.endLine == pos.line) = true := by rfl)
    (hfew : ((backTo pos (starEach [e] X.env)).all (fun x => !x.1) && (backToKw pos (keywordEach [] X.env)).all (fun x => x.1.isSome) && decide (([e] : List Expr).length + ([] : List Keyword).length + (if ([] : List Keyword).isEmpty then 0 else 1) < 30)) = true := by rfl)
    (hplain : (backTo pos (starEach [] X.env)).any (·.1) = false := by rfl) :
    DP X (.Call (.Attribute o "append" apos) [e] [] pos) (tBM X.K "list" rAppend to (tCons te tNil)) (dApp do' de) := by
  refine ⟨pe_bm PySem.F.plainAttrs_list PySem.F.slot_list_append PySem.F.type_list_append mt_append ho.p (pa_cons he.p pa_nil hs) hbase hfew hline hs hplain, fun N σ H ρ μ Kd Q R S h q => ?_⟩
  refine ho.a N σ H ρ μ _ _ R S h fun x H1 μ1 dx e1 R1 rx ⟨a, ex, ⟨xs, hm⟩, h1⟩ => ?_
  subst ex
  obtain rfl := rx.hdlInv
  obtain ⟨_, vs, g1, _⟩ := R1.own a _ hm
  refine ⟨.inl ⟨rfl, _, SqL.of g1⟩, ?_⟩
  refine he.a N σ H1 ρ μ1 _ _ R1 (S.mono e1) h1 fun y H2 μ2 dy e2 R2 ry ⟨ys, hm2, hl, k⟩ => ?_
  obtain ⟨_, ws, g2, r2⟩ := R2.own a _ hm2
  refine ⟨a, ws, y, rfl, rfl, g2, szl' (by rw [r2.length]; exact hl), ?_⟩
  have hx : ∃ x, μ2 a = some x := ⟨_, hm2⟩
  have st := stp_own (H := H2) (o := .lst (ws ++ [y])) (q := OD.lst (ys ++ [dy])) hx
  exact q _ _ _ .non ((e1.trans e2).trans st) (R2.put hx (OdRp.setLst hx (r2.append (.cons ry .nil)))) .non k
/-- the first place -/
def rdIndex : Dt → Dt → Mu → KD → Prop
  | .lst xs, y, μ, K => xs.all flatD = true ∧ flatD y = true ∧ ∃ j, xs.findIdx? (fun z => deq z y) = some j ∧ K (.int j) μ
  | _, _, _, _ => False
def dIndex (do' de : DE) : DE := fun ρ μ K => do' ρ μ fun x μ1 => (∃ xs, x = .lst xs) ∧ de ρ μ1 fun y μ2 => rdIndex x y μ2 K
theorem d_index (ho : DP X o to do') (he : DP X e te de) (hs : starEach [e] X.env = (false, eval e X.env) :: starEach [] X.env := by rfl) (hbase : attributeBase o "index" X.env (eval o X.env) = eval o X.env := by rfl) (hline : (apos.endLine == pos.line) = true := by rfl)
    (hfew : ((backTo pos (starEach [e] X.env)).all (fun x => !x.1) && (backToKw pos (keywordEach [] X.env)).all (fun x => x.1.isSome) && decide (([e] : List Expr).length + ([] : List Keyword).length + (if ([] : List Keyword).isEmpty then 0 else 1) < 30)) = true := by rfl)
    (hplain : (backTo pos (starEach [] X.env)).any (·.1) = false := by rfl) :
    DP X (.Call (.Attribute o "index" apos) [e] [] pos) (tBM X.K "list" (rIndex X.K) to (tCons te tNil)) (dIndex do' de) := by
  refine ⟨pe_bm PySem.F.plainAttrs_list PySem.F.slot_list_index PySem.F.type_list_index mt_index ho.p (pa_cons he.p pa_nil hs) hbase hfew hline hs hplain, fun N σ H ρ μ Kd Q R S h q => ?_⟩
  refine ho.a N σ H ρ μ _ _ R S h fun x H1 μ1 dx e1 R1 rx ⟨⟨xs, ex⟩, h1⟩ => ?_
  subst ex
  obtain ⟨a, vs, rfl, n, m, hh, rr⟩ := rx.lstInv
  refine ⟨.inl ⟨rfl, _, SqL.of hh⟩, ?_⟩
  refine he.a N σ H1 ρ μ1 _ _ R1 (S.mono e1) h1 fun y H2 μ2 dy e2 R2 ry ⟨f1, f2, j, hj, k⟩ => ?_
  have hh2 := (e2 _ _ m hh).2
  have rr2 := rr.mono e2
  obtain ⟨hlt, hz, hno⟩ := List.findIdx?_eq_some_iff_getElem.mp hj
  obtain ⟨z, hz1, hz2⟩ := rr2.get (i := j) (List.getElem?_eq_getElem hlt)
  have fl : ∀ {i : Nat} (hi : i < xs.length), flatD xs[i] = true := fun hi => List.all_eq_true.mp f1 _ (List.getElem_mem hi)
  refine ⟨a, vs, y, j, z, rfl, rfl, SqL.of hh2, ry.flat f2, rr2.flat f1, hz1, (hz2.eqV ry (fl hlt) f2).trans hz, fun m' z' hm' hz' => ?_, q _ H2 μ2 _ (e1.trans e2) R2 (.int _) k⟩
  obtain ⟨d', hd1, hd2⟩ := rr2.getV hz'
  have hlt' : m' < xs.length := by omega
  rw [List.getElem?_eq_getElem hlt'] at hd1
  cases hd1
  rw [hd2.eqV ry (fl hlt') f2]
  simpa using hno m' hm'
end
end DL

set_option Elab.async false
set_option linter.all false
set_option maxRecDepth 100000
set_option maxHeartbeats 4000000
/-! Dicts with ints and texts as keys. -/
namespace DL
open PySem PySem.Spec PyProof.Rows L2

def keyD : Dt → Option Key
  | .int i => some (.inl i)
  | .str z => some (.inr (mkS z))
  | _ => none
def valD : List Key → List Dt → Key → Option Dt
  | k' :: ks, d :: ds, k => if k' = k then some d else valD ks ds k
  | _, _, _ => none
def putAt : List Key → List Dt → Key → Dt → List Dt
  | k' :: ks, d' :: ds, k, d => (if k' = k then d else d') :: putAt ks ds k d
  | _, _, _, _ => []
def putD (ks : List Key) (ds : List Dt) (k : Key) (d : Dt) : OD := if ks.any (fun x => decide (x = k)) then .dk ks (putAt ks ds k d) else .dk (ks ++ [k]) (ds ++ [d])
section
variable {N : Hid} {μ : Mu} {H : Hp}
theorem Rp.key {v : V} {d : Dt} {k : Key} (r : Rp N μ H v d) (h : keyD d = some k) : v = kV k := by
  cases r <;> first | (cases h; done) | (cases h; rfl)
theorem valD_V : ∀ {kvs : List (Key × V)} {ds : List Dt} {k : Key}, RpAll N μ H (kvs.map (·.2)) ds → match valD (kvs.map (·.1)) ds k with | some d => ∃ v, valV kvs k = some v ∧ Rp N μ H v d | none => valV kvs k = none
  | [], ds, k, r => by
    cases r
    simp [valD]
    exact valV_nil
  | (k', v) :: kvs, _, k, r => by
    cases r with
    | @cons _ _ d ds h r =>
      have ih := valD_V (kvs := kvs) (ds := ds) (k := k) r
      show match (if k' = k then some d else valD (kvs.map (·.1)) ds k) with | some d => _ | none => _
      by_cases e : k' = k
      · rw [if_pos e]
        exact ⟨v, valV_pos e, h⟩
      · rw [if_neg e, valV_neg e]
        exact ih
theorem valD_some {kvs : List (Key × V)} {ds : List Dt} {k : Key} {d : Dt} (r : RpAll N μ H (kvs.map (·.2)) ds) (h : valD (kvs.map (·.1)) ds k = some d) : ∃ v, valV kvs k = some v ∧ Rp N μ H v d := by
  have := valD_V (k := k) r
  rw [h] at this
  exact this
theorem valD_none {kvs : List (Key × V)} {ds : List Dt} {k : Key} (r : RpAll N μ H (kvs.map (·.2)) ds) (h : valD (kvs.map (·.1)) ds k = none) : valV kvs k = none := by
  have := valD_V (k := k) r
  rw [h] at this
  exact this
theorem any_keys (kvs : List (Key × V)) (k : Key) : ((kvs.map (·.1)).any fun x => decide (x = k)) = (kvs.any fun kv => decide (kv.1 = k)) := by
  rw [List.any_map]
  rfl
theorem rp_putAt {k : Key} {v : V} {d : Dt} (h : Rp N μ H v d) : ∀ {kvs : List (Key × V)} {ds : List Dt}, RpAll N μ H (kvs.map (·.2)) ds →
    RpAll N μ H ((kvs.map (fun kv => if kv.1 = k then (kv.1, v) else kv)).map (·.2)) (putAt (kvs.map (·.1)) ds k d)
  | [], ds, r => by
    cases r
    exact .nil
  | (k', v') :: kvs, _, r => by
    cases r with
    | @cons _ _ d' ds h' r =>
      refine RpAll.cons ?_ (rp_putAt h r)
      show Rp N μ H (if k' = k then (k', v) else (k', v')).2 (if k' = k then d else d')
      by_cases e : k' = k
      · rw [if_pos e, if_pos e]
        exact h
      · rw [if_neg e, if_neg e]
        exact h'
theorem OdRp.putK {a : Addr} {kvs : List (Key × V)} {ds : List Dt} {k : Key} {v : V} {d : Dt} (h : H a = Option.some (HO.dK (L2.putK kvs k v))) (r : RpAll N μ H (kvs.map (·.2)) ds) (rv : Rp N μ H v d) : OdRp N μ H a (putD (kvs.map (·.1)) ds k d) := by
  unfold putD
  unfold L2.putK at h
  rw [any_keys]
  by_cases e : (kvs.any fun kv => decide (kv.1 = k)) = true
  · rw [if_pos e]
    rw [if_pos e] at h
    refine ⟨_, h, ?_, rp_putAt rv r⟩
    rw [List.map_map]
    apply List.map_congr_left
    intro x _
    show (if x.1 = k then (x.1, v) else x).1 = x.1
    split <;> rfl
  · rw [if_neg e]
    rw [if_neg e] at h
    refine ⟨_, h, by rw [List.map_append]; rfl, ?_⟩
    rw [List.map_append]
    exact r.append (.cons rv .nil)
end

section
variable {X : Cx} {W : WX} {o i e f : Expr} {to ti te tf : TE} {do' di de df : DE} {pos apos tpos : Pos}
/-- d[k] -/
def rdDGet : R2D
  | .dk ks ds, y, μ, K => ∃ k d, keyD y = some k ∧ valD ks ds k = some d ∧ K d μ
  | .hdl a, y, μ, K => ∃ ks ds k d, μ a = some (.dk ks ds) ∧ keyD y = some k ∧ valD ks ds k = some d ∧ K d μ
  | _, _, _, _ => False
theorem d_dget (hu : X.A.units + 1 < cLine) (ho : DP X o to do') (hi : DP X i ti di) (hs : NoSl i := by exact fun _ _ => rfl) : DP X (.Subscript o i pos) (tDGet to ti) (dOp rdDGet do' di) := by
  refine ⟨pe_dget hu ho.p hi.p hs, fun N σ H ρ μ Kd Q R S h q => ?_⟩
  refine ho.a N σ H ρ μ _ _ R S h fun x H1 μ1 dx e1 R1 rx h1 => ?_
  refine hi.a N σ H1 ρ μ1 _ _ R1 (S.mono e1) h1 fun y H2 μ2 dy e2 R2 ry h2 => ?_
  cases dx <;> try exact (show False from h2).elim
  · rename_i ks ds
    obtain ⟨k, d, ek, ev, kk⟩ := h2
    cases rx.mono e2 with
    | dk n m hh rr =>
      obtain ⟨v, hv, rv⟩ := valD_some rr ev
      refine ⟨_, v, rfl, ?_, q v H2 μ2 d (e1.trans e2) R2 rv kk⟩
      rw [ry.key ek, ← hv]
      exact DGet.k hh
  · rename_i a
    obtain ⟨ks, ds, k, d, hm, ek, ev, kk⟩ := h2
    obtain ⟨_, kvs, g1, g2, g3⟩ := R2.own a _ hm
    subst g2
    obtain ⟨v, hv, rv⟩ := valD_some g3 ev
    refine ⟨a, v, rx.hdlInv, ?_, q v H2 μ2 d (e1.trans e2) R2 rv kk⟩
    rw [ry.key ek, ← hv]
    exact DGet.k g1
/-- d.get(k, e), d owned -/
def dDGet2 (do' di de : DE) : DE := fun ρ μ K => do' ρ μ fun x μ1 => ∃ a, x = .hdl a ∧ (∃ ks ds, μ1 a = some (.dk ks ds)) ∧ di ρ μ1 fun y μ2 => de ρ μ2 fun z μ3 => ∃ ks ds k, μ3 a = some (.dk ks ds) ∧ keyD y = some k ∧ K ((valD ks ds k).getD z) μ3
theorem d_dget2 (hu : X.A.units + 1 < cLine) (ho : DP X o to do') (hi : DP X i ti di) (he : DP X e te de) (m : M2 X o "get" apos i e pos := by exact ⟨by rfl, by rfl, by rfl, by rfl⟩) : DP X (.Call (.Attribute o "get" apos) [i, e] [] pos) (tDGet2 to ti te) (dDGet2 do' di de) := by
  refine ⟨pe_dget2 hu ho.p hi.p he.p m, fun N σ H ρ μ Kd Q R S h q => ?_⟩
  refine ho.a N σ H ρ μ _ _ R S h fun x H1 μ1 dx e1 R1 rx ⟨a, ex, ⟨ks, ds, hm⟩, h1⟩ => ?_
  subst ex
  obtain ⟨_, kvs, g1, g2, g3⟩ := R1.own a _ hm
  refine ⟨a, rx.hdlInv, .inl ⟨kvs, .inl g1⟩, ?_⟩
  refine hi.a N σ H1 ρ μ1 _ _ R1 (S.mono e1) h1 fun y H2 μ2 dy e2 R2 ry h2 => ?_
  refine he.a N σ H2 ρ μ2 _ _ R2 ((S.mono e1).mono e2) h2 fun z H3 μ3 dz e3 R3 rz ⟨ks3, ds3, k, hm3, ek, kk⟩ => ?_
  obtain ⟨_, kv3, g1, g2, g3⟩ := R3.own a _ hm3
  subst g2
  refine ⟨valV kv3 k, ?_, ?_⟩
  · rw [(ry.mono e3).key ek]
    exact DGet.k g1
  · have e13 := (e1.trans e2).trans e3
    cases ev : valD (kv3.map (·.1)) ds3 k with
    | none =>
      rw [valD_none g3 ev]
      rw [ev] at kk
      exact q _ H3 μ3 _ e13 R3 rz kk
    | some d =>
      obtain ⟨v, hv, rv⟩ := valD_some g3 ev
      rw [hv]
      rw [ev] at kk
      exact q _ H3 μ3 _ e13 R3 rv kk
/-- {} -/
def dDNew : DE := fun _ μ K => ∀ p, μ p = none → K (.hdl p) (mset μ p (.dk [] []))
theorem d_dnew : DP X (.Dict [] [] pos) tDNewK dDNew := ⟨pe_dnewK, fun N σ H ρ μ Kd Q R S h q p hp =>
  q _ _ _ _ (stp_newOwn hp) (R.newOwn hp (show OdRp N _ _ p (.dk [] []) from ⟨[], upd_same, rfl, .nil⟩)) (.hdl p) (h p (R.fresh hp).2)⟩
/-- d[k] = v, d owned -/
def rdSetD : RSetD
  | .hdl a, y, v, μ, K => ∃ ks ds k, μ a = some (.dk ks ds) ∧ keyD y = some k ∧ ks.length < 1000000 ∧ K (mset μ a (putD ks ds k v))
  | _, _, _, _, _ => False
def dPutD (dv do' di : DE) : DS := fun F ρ μ => dv ρ μ fun v μ1 => do' ρ μ1 fun o μ2 => di ρ μ2 fun i μ3 => rdSetD o i v μ3 fun μ4 => F.nx ρ μ4
theorem ds_dput (hu : X.A.units + 1 < cLine) (he : DP X e te de) (ho : DP X o to do') (hi : DP X i ti di) (hs : swapsWith e (some (.Subscript o i tpos)) pos.line X.env = pure false := by rfl) : DPs X W (.Assign [.Subscript o i tpos] e pos) (dPutD de do' di) := by
  refine ⟨_, ps_dput hu ho.p hi.p he.p hs, fun N σ H ρ μ D F R S l h => ?_⟩
  refine he.a N σ H ρ μ _ _ R S h fun v H1 μ1 d e1 R1 rv h1 => ?_
  refine ho.a N σ H1 ρ μ1 _ _ R1 (S.mono e1) h1 fun x H2 μ2 dx e2 R2 rx h2 => ?_
  refine hi.a N σ H2 ρ μ2 _ _ R2 ((S.mono e1).mono e2) h2 fun y H3 μ3 dy e3 R3 ry h3 => ?_
  cases dx <;> try exact (show False from h3).elim
  rename_i a
  obtain ⟨ks, ds, k, hm, ek, hl, kk⟩ := h3
  obtain ⟨_, kvs, g1, g2, g3⟩ := R3.own a _ hm
  subst g2
  rw [List.length_map] at hl
  have hx : ∃ x, μ3 a = some x := ⟨_, hm⟩
  have rv3 := (rv.mono e2).mono e3
  have st := stp_own (H := H3) (o := .dK (putK kvs k v)) (q := putD (kvs.map (·.1)) ds k d) hx
  refine ⟨a, _, rx.hdlInv, ?_, l.nx σ _ ρ _ (((e1.trans e2).trans e3).trans st) (R3.put hx (OdRp.putK upd_same (g3.mono st) (rv3.mono st))) ((((S.mono e1).mono e2).mono e3).mono st) kk⟩
  rw [ry.key ek]
  exact DPut.k g1 (szl' hl)
/-- an owned dict given up -/
def dGiveD (i : Nat) (ds : DS) : DS := fun F ρ μ => ∃ (a : Addr) (ks : List Key) (xs : List Dt), dget ρ i = some (.hdl a) ∧ μ a = some (.dk ks xs) ∧ ds F (ρ.set i (some (.dk ks xs))) (mdel μ a)
theorem dss_giveD (i : Nat) {sts : List Stmt} {ds : DS} (h : DPss X W sts ds) : DPss X W sts (dGiveD i ds) := by
  obtain ⟨t, h1, h2⟩ := h.ex
  refine ⟨t, h1, fun N σ H ρ μ D F R S l h => ?_⟩
  obtain ⟨a, ks, xs, e1, e2, h⟩ := h
  obtain ⟨v, s1, s2⟩ := S.2 i _ (dget_eq e1)
  have hv := s2.hdlInv
  subst hv
  obtain ⟨n, kvs, g1, g2, g3⟩ := R.own a _ e2
  subst g2
  have r : Rp N (mdel μ a) H (.ref a) (.dk (kvs.map (·.1)) xs) := .dk n mdel_same g1 (g3.mono stp_free)
  have S2 := (S.mono (stp_free (p := a))).set (i := i) r
  have es : σ.set i (some (.ref a)) = σ := by
    apply List.ext_getElem?
    intro j
    by_cases hj : i = j
    · subst hj
      rw [s1, List.getElem?_set_self (List.getElem?_eq_some_iff.mp s1).1]
    · rw [List.getElem?_set_ne hj]
  rw [es] at S2
  exact h2 N σ H _ _ D F R.free S2 (l.mono stp_free) h

/-! ### d.setdefault(k, v) -/
theorem mt_setdefault : MtR X "dict.setdefault" rSetd := by
  intro pins s σ H x vs v us Q I rx rv h
  obtain ⟨a, kvs, k, v, rfl, rfl, ea, hl, w1, w2⟩ := h
  cases rx
  cases rv with
  | cons ry rv =>
    cases rv with
    | cons rd rv =>
      cases rv
      obtain ⟨z, hd, vs0, rel, dd⟩ := dk_of I.hok ea
      have hz : vs0.length ≤ sizeLine := by rw [← rel.length]; exact z
      refine call_meetsIn PySem.F.slot_dict_setdefault dd.typeIs PySem.F.entry_dict_setdefault (PySem.F.args_dict_setdefault_3 _ _ _) (kt_meets_setdefault (mixKind X.prog X.w) _ (kV_is ry) hd _) ⟨vs0, dd, hz, fun u hu => ?_, fun hn h' dd' hs => ?_⟩
      · have rr := rel.val k
        rw [hu] at rr
        cases hv : valV kvs k with
        | none => rw [hv] at rr; exact False.elim rr
        | some x =>
          rw [hv] at rr
          exact (⟨x, H, I.tok _, rr, w1 x hv⟩ : EP X pins σ Q u _)
      · have rr := rel.val k
        rw [hn] at rr
        cases hv : valV kvs k with
        | some x => rw [hv] at rr; exact False.elim rr
        | none =>
          have hl2 : (putK kvs k v).length ≤ sizeLine := by have := length_putK kvs k v; omega
          exact (⟨v, _, d_write (t' := s.toks + 1) I (by rw [ea]; exact True.intro) hs (let ⟨q, _, _, hq, _⟩ := dd'; ⟨q, hq⟩) (dk_new hl2 hd (rel.put k rd) dd'), rd, w2 hv⟩ : EP X pins σ Q _ _)
def dSetd (do' di de : DE) : DE := fun ρ μ K => do' ρ μ fun x μ1 => ∃ a, x = .hdl a ∧ (∃ ks ds, μ1 a = some (.dk ks ds)) ∧ di ρ μ1 fun y μ2 => de ρ μ2 fun z μ3 => ∃ ks ds k, μ3 a = some (.dk ks ds) ∧ keyD y = some k ∧ ks.length < 1000000 ∧
  (∀ d, valD ks ds k = some d → K d μ3) ∧ (valD ks ds k = none → K z (mset μ3 a (putD ks ds k z)))
theorem d_setdefault (ho : DP X o to do') (hi : DP X i ti di) (he : DP X e te de) (hs : starEach [i, e] X.env = (false, eval i X.env) :: starEach [e] X.env := by rfl) (hs2 : starEach [e] X.env = (false, eval e X.env) :: starEach [] X.env := by rfl)
    (hbase : attributeBase o "setdefault" X.env (eval o X.env) = eval o X.env := by rfl) (hline : (apos.endLine == pos.line) = true := by rfl)
    (hfew : ((backTo pos (starEach [i, e] X.env)).all (fun x => !x.1) && (backToKw pos (keywordEach [] X.env)).all (fun x => x.1.isSome) && decide (([i, e] : List Expr).length + ([] : List Keyword).length + (if ([] : List Keyword).isEmpty then 0 else 1) < 30)) = true := by rfl)
    (hplain : (backTo pos (starEach [e] X.env)).any (·.1) = false := by rfl) :
    DP X (.Call (.Attribute o "setdefault" apos) [i, e] [] pos) (tBM X.K "dict" rSetd to (tCons ti (tCons te tNil))) (dSetd do' di de) := by
  refine ⟨pe_bm PySem.F.plainAttrs_dict PySem.F.slot_dict_setdefault PySem.F.type_dict_setdefault mt_setdefault ho.p (pa_cons hi.p (pa_cons he.p pa_nil hs2) hs) hbase hfew hline hs hplain, fun N σ H ρ μ Kd Q R S h q => ?_⟩
  refine ho.a N σ H ρ μ _ _ R S h fun x H1 μ1 dx e1 R1 rx ⟨a, ex, ⟨ks, ds, hm⟩, h1⟩ => ?_
  subst ex
  obtain rfl := rx.hdlInv
  obtain ⟨_, kvs, g1, g2, g3⟩ := R1.own a _ hm
  refine ⟨.inr (.inr (.inl ⟨rfl, .inl ⟨kvs, g1⟩⟩)), ?_⟩
  refine hi.a N σ H1 ρ μ1 _ _ R1 (S.mono e1) h1 fun y H2 μ2 dy e2 R2 ry h2 => ?_
  refine he.a N σ H2 ρ μ2 _ _ R2 ((S.mono e1).mono e2) h2 fun z H3 μ3 dz e3 R3 rz ⟨ks3, ds3, k, hm3, ek, hl, k1, k2⟩ => ?_
  obtain ⟨_, kv3, g1, g2, g3⟩ := R3.own a _ hm3
  subst g2
  rw [List.length_map] at hl
  have hx : ∃ x, μ3 a = some x := ⟨_, hm3⟩
  have e13 := (e1.trans e2).trans e3
  refine ⟨a, kv3, k, z, rfl, by rw [(ry.mono e3).key ek], g1, szl' hl, fun u hu => ?_, fun hn => ?_⟩
  · cases ev : valD (kv3.map (·.1)) ds3 k with
    | none =>
      rw [valD_none g3 ev] at hu
      cases hu
    | some d =>
      obtain ⟨v, hv, rv⟩ := valD_some g3 ev
      rw [hv] at hu
      cases hu
      exact q _ H3 μ3 _ e13 R3 rv (k1 d ev)
  · cases ev : valD (kv3.map (·.1)) ds3 k with
    | some d =>
      obtain ⟨v, hv, rv⟩ := valD_some g3 ev
      rw [hv] at hn
      cases hn
    | none =>
      have st := stp_own (H := H3) (o := .dK (putK kv3 k z)) (q := putD (kv3.map (·.1)) ds3 k dz) hx
      exact q _ _ _ _ (e13.trans st) (R3.put hx (OdRp.putK upd_same (g3.mono st) (rz.mono st))) (rz.mono st) (k2 ev)
end
end DL

set_option Elab.async false
set_option linter.all false
set_option maxRecDepth 100000
set_option maxHeartbeats 4000000
/-! for a, b in zip(v1, v2), for i, a in enumerate(v): lists, tuples, texts in any mix. -/
namespace DL
open PySem PySem.Spec PyProof.Rows L2

/-- what is walked -/
inductive SrcV where
  | lst (a : Addr) | tup (a : Addr) | str (x : Str)
def SrcV.v : SrcV → V
  | .lst a => .ref a
  | .tup a => .ref a
  | .str x => .str x
def SrcV.ad : SrcV → List Addr
  | .lst a => [a]
  | .tup a => [a]
  | .str _ => []
def SrcV.At (K : PySem.W.Frag) (S : SrcV) (H : Hp) (vs : List V) : Prop := match S with
  | .lst a => SqL K H a vs
  | .tup a => SqT K H a vs
  | .str x => vs = x.cps.toList.map fun c => V.str ⟨#[c]⟩
def SrcV.It (S : SrcV) (it : Addr) (i : Nat) (h : Heap) : Prop := match S with
  | .lst a => h.IsListIter it a i
  | .tup a => h.IsTupleIter it a i
  | .str x => ∃ t, h.IsStrIter it (strIterType x) x t i
theorem SrcV.It.obj {S : SrcV} {it : Addr} {i : Nat} {h : Heap} (q : S.It it i h) : ∃ o, h.get? it = some o ∧ ∀ v, o.data ≠ .cell v := by
  cases S with
  | lst a => obtain ⟨o, e, c, d⟩ := q; exact ⟨o, e, fun v z => by rw [d] at z; cases z⟩
  | tup a => obtain ⟨o, e, c, d⟩ := q; exact ⟨o, e, fun v z => by rw [d] at z; cases z⟩
  | str x => obtain ⟨t, o, e, c, d⟩ := q; exact ⟨o, e, fun v z => by rw [d] at z; cases z⟩
theorem SrcV.It.keep {S : SrcV} {it : Addr} {i : Nat} {h h' : Heap} (q : S.It it i h) (k : ∀ o, h.get? it = some o → h'.get? it = some o) : S.It it i h' := by
  cases S with
  | lst a => obtain ⟨o, e, c⟩ := q; exact ⟨o, k o e, c⟩
  | tup a => obtain ⟨o, e, c⟩ := q; exact ⟨o, k o e, c⟩
  | str x => obtain ⟨t, o, e, c⟩ := q; exact ⟨t, o, k o e, c⟩
section
variable {P : Program} {w : World} {A : Around} {it : Addr} {fp : List Addr} {n : Nat} {St : Nat → Heap → Prop}
theorem draws_mono {Pd Pd' : Nat → Value → Prop} (D : Draws P w A it fp n Pd St) (h : ∀ i v, Pd i v → Pd' i v) : Draws P w A it fp n Pd' St :=
  ⟨D.live, D.frame, fun i s Q E hi st hQ => D.item i s Q E hi st fun x h' tk hp => hQ x h' tk (h i x hp), D.done⟩
end
section
variable {X : Cx} {pins : List (Addr × Obj)} {σ : L2.St} {H : Hp} {s : Shared}
/-- the items, drawn by an iterator at it -/
theorem src_drawsA {S : SrcV} {vs : List V} {it : Addr} {A' : Around} (hh : A'.handled = none) (I : L2.Inv X pins σ H s) (h : S.At X.K H vs) (hit : it ∉ S.ad) : ∀ i0, S.It it i0 s.heap →
    ∃ St : Nat → Heap → Prop, Draws X.prog X.w A' it (it :: S.ad) vs.length (fun i v => ∃ x, vs[i]? = some x ∧ RelV x v) St ∧ St i0 s.heap ∧ ∀ i h, St i h → S.It it i h := by
  cases S with
  | lst a =>
    intro i0 q
    obtain ⟨its, rv, p, hz⟩ := I.list h
    have hne : a ≠ it := fun e => hit (by rw [e]; exact List.mem_cons_self)
    have D := Draws.list (prog := X.prog) (w := X.w) hh it a hne its.toArray
    have el : its.toArray.size = vs.length := by rw [List.size_toArray]; exact rv.length.symm
    rw [el] at D
    refine ⟨_, draws_mono D fun i v e => ?_, ⟨q, p.isList⟩, fun i h st => st.1⟩
    have e' : its[i]? = some v := by simpa using e
    have hlt : i < vs.length := by rw [rv.length]; exact (List.getElem?_eq_some_iff.mp e').1
    obtain ⟨u, hu, ru⟩ := rv.get (List.getElem?_eq_getElem hlt)
    rw [e'] at hu
    cases hu
    exact ⟨_, List.getElem?_eq_getElem hlt, ru⟩
  | tup a =>
    intro i0 q
    obtain ⟨its, rv, p, hz⟩ := I.tuple h
    have hne : a ≠ it := fun e => hit (by rw [e]; exact List.mem_cons_self)
    have D := Draws.tuple (prog := X.prog) (w := X.w) hh it a hne its.toArray
    have el : its.toArray.size = vs.length := by rw [List.size_toArray]; exact rv.length.symm
    rw [el] at D
    refine ⟨_, draws_mono D fun i v e => ?_, ⟨q, p⟩, fun i h st => st.1⟩
    have e' : its[i]? = some v := by simpa using e
    have hlt : i < vs.length := by rw [rv.length]; exact (List.getElem?_eq_some_iff.mp e').1
    obtain ⟨u, hu, ru⟩ := rv.get (List.getElem?_eq_getElem hlt)
    rw [e'] at hu
    cases hu
    exact ⟨_, List.getElem?_eq_getElem hlt, ru⟩
  | str x =>
    intro i0 q
    obtain ⟨t, q⟩ := q
    have D := Draws.text (prog := X.prog) (w := X.w) hh it x t
    have ev : vs = x.cps.toList.map fun c => V.str ⟨#[c]⟩ := h
    subst ev
    have el : x.cps.size = (x.cps.toList.map fun c => V.str ⟨#[c]⟩).length := by simp
    rw [el] at D
    refine ⟨_, draws_mono D fun i v ⟨c, u, e1, e2⟩ => ⟨.str ⟨#[c]⟩, by simp [e1], u, e2⟩, q, fun i h st => ⟨t, st⟩⟩
theorem src_draws {S : SrcV} {vs : List V} {it : Addr} (I : L2.Inv X pins σ H s) (hc : X.calm = true) (h : S.At X.K H vs) (hit : it ∉ S.ad) : ∀ i0, S.It it i0 s.heap →
    ∃ St : Nat → Heap → Prop, Draws X.prog X.w X.A.in1 it (it :: S.ad) vs.length (fun i v => ∃ x, vs[i]? = some x ∧ RelV x v) St ∧ St i0 s.heap ∧ ∀ i h, St i h → S.It it i h :=
  src_drawsA (A' := X.A.in1) (I.ok.hd hc) I h hit
theorem src_inj {S : SrcV} {vs ws : List V} (I : L2.Inv X pins σ H s) (h : S.At X.K H vs) (h' : S.At X.K H ws) : vs = ws := by
  cases S with
  | lst a => exact I.list_inj h h'
  | tup a => exact I.tuple_inj h h'
  | str x => exact (show vs = _ from h).trans (show ws = _ from h').symm
/-- how it begins -/
theorem src_begins {S : SrcV} {vs : List V} {u : Value} (I : L2.Inv X pins σ H s) (h : S.At X.K H vs) (r : RelV S.v u) : ∃ (o : Obj) (Hb : Heap → Prop), Begins u o Hb ∧ Hb s.heap ∧ ∀ (h' : Heap) (it : Addr), h'.get? it = some o → S.It it 0 h' := by
  cases S with
  | lst a =>
    obtain ⟨its, rv, p, hz⟩ := I.list h
    cases (show u = Value.ref a from r)
    exact ⟨_, _, begins_list a its.toArray, p.isList, fun h' it e => ⟨_, e, rfl, rfl⟩⟩
  | tup a =>
    obtain ⟨its, rv, p, hz⟩ := I.tuple h
    cases (show u = Value.ref a from r)
    exact ⟨_, _, begins_tuple a its.toArray, p, fun h' it e => ⟨_, e, rfl, rfl⟩⟩
  | str x =>
    obtain ⟨t, rfl⟩ := (show ∃ t, u = Value.str x t from r)
    exact ⟨_, _, begins_text x t, trivial, fun h' it e => ⟨t, _, e, rfl, rfl⟩⟩
theorem src_lt {S : SrcV} {vs : List V} (I : L2.Inv X pins σ H s) (h : S.At X.K H vs) : ∀ a ∈ S.ad, a < s.heap.objs.size := by
  cases S with
  | lst a =>
    intro b hb
    rw [List.mem_singleton.mp hb]
    obtain ⟨its, rv, p, hz⟩ := I.list h
    exact p.lt
  | tup a =>
    intro b hb
    rw [List.mem_singleton.mp hb]
    obtain ⟨its, rv, ⟨o, e, _⟩, hz⟩ := I.tuple h
    exact Heap.lt_size e
  | str x => intro b hb; cases hb
end

/-! ### zip -/
def ItzS (K : PySem.W.Frag) (S1 S2 : SrcV) : L2.It :=
  ⟨fun i H => ∃ xs ys, S1.At K H xs ∧ S2.At K H ys ∧ i < xs.length ∧ i < ys.length,
    fun i H v H' => ∃ T x y, v = .ref T ∧ H T = none ∧ H' = upd H T (.tup [x, y]) ∧ (∀ xs, S1.At K H xs → xs[i]? = some x) ∧ ∀ ys, S2.At K H ys → ys[i]? = some y,
    fun i H => ∃ xs ys, S1.At K H xs ∧ S2.At K H ys ∧ i = min xs.length ys.length⟩
structure ZApart (S1 S2 : SrcV) (z TI TO i1 i2 : Addr) : Prop where
  a1 : ∀ a ∈ S1.ad, a ∉ [z, TI, TO, i1, i2]
  a2 : ∀ a ∈ S2.ad, a ∉ [z, TI, TO, i1, i2]
  nd : [z, TI, TO, i1, i2].Nodup
theorem ZApart.sep {S1 S2 : SrcV} {z TI TO i1 i2 : Addr} (D : ZApart S1 S2 z TI TO i1 i2) : ZipSep2 z TI TO i1 i2 (i1 :: S1.ad) (i2 :: S2.ad) := by
  have nd := D.nd
  simp only [List.nodup_cons, List.mem_cons, List.not_mem_nil, or_false, not_or, not_false_eq_true, List.nodup_nil, and_true] at nd
  obtain ⟨⟨n1, n2, n3, n4⟩, ⟨n5, n6, n7⟩, ⟨n8, n9⟩, n10⟩ := nd
  have q1 : ∀ b, b ∈ [z, TI, TO, i1, i2] → b ∉ S1.ad := fun b hb h => D.a1 b h hb
  have q2 : ∀ b, b ∈ [z, TI, TO, i1, i2] → b ∉ S2.ad := fun b hb h => D.a2 b h hb
  have mk : ∀ {b c : Addr} {l : List Addr}, b ≠ c → b ∉ l → b ∉ c :: l := fun h1 h2 h => (List.mem_cons.mp h).elim h1 h2
  exact ⟨Ne.symm n1, Ne.symm n2, n5, n6, List.mem_cons_self, mk n3 (q1 _ (by simp)), mk n8 (q1 _ (by simp)), n7, List.mem_cons_self, mk n4 (q2 _ (by simp)), mk n9 (q2 _ (by simp)), mk n10 (q2 _ (by simp)), mk (Ne.symm n10) (q1 _ (by simp))⟩
theorem turn_zipS {P : Program} {w : World} {K : PySem.W.Frag} {elts : List Expr} {kk : Nat} {tpos : Pos} {S1 S2 : SrcV} {z TI TO i1 i2 : Addr} (D : ZApart S1 S2 z TI TO i1 i2) :
    Turn P w K (.Tuple elts kk tpos) (ItzS K S1 S2) [z, TI, TO, i1, i2] z (fun i h => IsZip h z TI TO .none ∧ IsTupOf2 h TI (.ref i1) (.ref i2) ∧ (∃ x y, IsTupOf2 h TO x y) ∧ S1.It i1 i h ∧ S2.It i2 i h) where
  mem := by simp
  obj := fun i h st c hc => by
    obtain ⟨hz, hTI, ⟨x, y, hTO⟩, h1, h2⟩ := st
    have e' : c = z ∨ c = TI ∨ c = TO ∨ c = i1 ∨ c = i2 := by simpa using hc
    rcases e' with q | q | q | q | q
    · rw [q]; exact ⟨_, hz, fun v q => nomatch q⟩
    · rw [q]; exact ⟨_, hTI, fun v q => nomatch q⟩
    · rw [q]; exact ⟨_, hTO, fun v q => nomatch q⟩
    · rw [q]; exact h1.obj
    · rw [q]; exact h2.obj
  keep := fun i h h' st k => by
    obtain ⟨hz, hTI, ⟨x, y, hTO⟩, h1, h2⟩ := st
    exact ⟨k z (by simp) _ hz, k TI (by simp) _ hTI, ⟨x, y, k TO (by simp) _ hTO⟩, h1.keep fun o q => k i1 (by simp) o q, h2.keep fun o q => k i2 (by simp) o q⟩
  item := by
    intro X hP hw hK hc i pins s σ H E I hf st hg
    subst hP hw hK
    obtain ⟨hz, hTI, ⟨x0, y0, hTO⟩, h1, h2⟩ := st
    obtain ⟨xs, ys, hqx, hqy, hx, hy⟩ := hg
    have m : ∀ b ∈ [z, TI, TO, i1, i2], b < s.heap.objs.size := fun b hb => by
      have e' : b = z ∨ b = TI ∨ b = TO ∨ b = i1 ∨ b = i2 := by simpa using hb
      rcases e' with q | q | q | q | q
      · rw [q]; exact Heap.lt_size hz
      · rw [q]; exact Heap.lt_size hTI
      · rw [q]; exact Heap.lt_size hTO
      · rw [q]; obtain ⟨_, e1, _⟩ := h1.obj; exact Heap.lt_size e1
      · rw [q]; obtain ⟨_, e2, _⟩ := h2.obj; exact Heap.lt_size e2
    obtain ⟨St1, D1, st1, b1⟩ := src_draws I hc hqx (fun h => D.a1 _ h (by simp)) i h1
    obtain ⟨St2, D2, st2, b2⟩ := src_draws I hc hqy (fun h => D.a2 _ h (by simp)) i h2
    refine (GoesN.zip2 (elts := elts) (x1 := kk) (pos := tpos) D.sep D1 D2).goes i s _ E (by omega) ⟨hz, hTI, ⟨_, _, hTO⟩, st1, st2⟩ fun v h' tk hY st' hk htk => ?_
    obtain ⟨T, u1, u2, rfl, hT, ⟨x, ex, rx⟩, ⟨y, ey, ry⟩, hp⟩ := hY
    obtain ⟨z', TI', TO', t1, t2⟩ := st'
    have new : ObjOk X.prog X.w (upd H T (.tup [x, y])) h' T (.tup [x, y]) := ⟨by show 2 ≤ sizeLine; decide, [u1, u2], .cons rx (.cons ry .nil), hp⟩
    have I1 : L2.Inv X pins σ (upd H T (.tup [x, y])) { s with heap := h', toks := tk } :=
      I.turnedNew (ch := [z, TI, TO, i1, i2]) (fun c o hb q => hk c o (fun q' => hb (by
        have e' : c = z ∨ c = TO ∨ c = i1 ∨ c = i2 := by simpa using q'
        rcases e' with e | e | e | e <;> simp [e])) q) hf hT new
    refine ⟨.ref T, _, I1, rfl, ⟨T, x, y, rfl, I.hok.fresh hT, rfl, fun l hl => by rw [src_inj I hl hqx]; exact ex, fun l hl => by rw [src_inj I hl hqy]; exact ey⟩, ⟨z', TI', TO', b1 _ _ t1, b2 _ _ t2⟩, fun c hcm => ?_⟩
    rw [upd_ne (Nat.ne_of_lt (Nat.lt_of_lt_of_le (m c hcm) hT))]
    exact (hf c hcm).1
  done := by
    intro X hP hw hK hc i pins s σ H E I hf st hg
    subst hP hw hK
    obtain ⟨hz, hTI, ⟨x0, y0, hTO⟩, h1, h2⟩ := st
    obtain ⟨xs, ys, hqx, hqy, hi⟩ := hg
    obtain ⟨St1, D1, st1, b1⟩ := src_draws I hc hqx (fun h => D.a1 _ h (by simp)) i h1
    obtain ⟨St2, D2, st2, b2⟩ := src_draws I hc hqy (fun h => D.a2 _ h (by simp)) i h2
    subst hi
    exact (GoesN.zip2 (elts := elts) (x1 := kk) (pos := tpos) D.sep D1 D2).stops s _ E ⟨hz, hTI, ⟨_, _, hTO⟩, st1, st2⟩ fun h' tk hk htk => I.turnedL (ch := [z, TI, TO, i1, i2]) (fun c o hb q => hk c o (fun q' => hb (by
        have e' : c = z ∨ c = TO ∨ c = i1 ∨ c = i2 := by simpa using q'
        rcases e' with e | e | e | e <;> simp [e])) q) hf
  self := fun A i s Q E st h => wpAny_pyIter_zip st.1 h
def iZipS (K : PySem.W.Frag) (ta : TA) : TI := fun σ H R => ta σ H fun vs H1 => ∃ S1 S2 xs ys, vs = [S1.v, S2.v] ∧ S1.At K H1 xs ∧ S2.At K H1 ys ∧ R (ItzS K S1 S2) H1
theorem pi_zipS {X : Cx} {e e2 : Expr} {ta : TA} {p pos tpos : Pos} {elts : List Expr} {kk : Nat} (hg : Gl X "zip") (hm : X.mg "zip" = none) (ha : PA X [e, e2] ta)
    (hs : starEach [e, e2] X.env = (false, eval e X.env) :: starEach [e2] X.env := by rfl) (hpl : (backTo pos (starEach [e2] X.env)).any (·.1) = false := by rfl) :
    PI X (.Tuple elts kk tpos) (.Call (.Name "zip" p) [e, e2] [] pos) (iZipS X.K ta) := by
  refine ⟨fun pins s σ H R I h => ?_⟩
  refine Call_ (ld_blt I hg hm PyProof.Rows.boot_zip (PyProof.Rows.callWith_type1 (thn (ha.run pos pins s σ H _ I h) fun us s1 ⟨vs, H1, I1, r1, q1⟩ => ?_) hs hpl))
  obtain ⟨S1, S2, xs, ys, ex, hqx, hqy, q⟩ := q1
  subst ex
  obtain ⟨u1, u2, rfl, ru1, ru2⟩ := Vals.two r1
  obtain ⟨o1, Hb1, B1, k1, f1⟩ := src_begins I1 hqx ru1
  obtain ⟨o2, Hb2, B2, k2, f2⟩ := src_begins I1 hqy ru2
  have l1 := src_lt I1 hqx
  have l2 := src_lt I1 hqy
  refine zip_begins2 B1 B2 k1 k2 fun h' hz hTI hTO h1 h2 hsz hk => wpAny_pyIter_zip hz ?_
  have I2 : L2.Inv X pins σ H1 { s1 with heap := h' } := I1.kept (t' := s1.toks) hk
  have hD : ZApart S1 S2 (s1.heap.objs.size + 4) (s1.heap.objs.size + 2) (s1.heap.objs.size + 3) s1.heap.objs.size (s1.heap.objs.size + 1) := by
    refine ⟨fun a ha hm => ?_, fun a ha hm => ?_, ?_⟩
    · have e' : a = s1.heap.objs.size + 4 ∨ a = s1.heap.objs.size + 2 ∨ a = s1.heap.objs.size + 3 ∨ a = s1.heap.objs.size ∨ a = s1.heap.objs.size + 1 := by simpa using hm
      have := l1 a ha
      have e2 : a < s1.heap.objs.size := this
      rcases e' with z | z | z | z | z <;> rw [z] at e2 <;> exact absurd e2 (by simp [Addr] <;> omega)
    · have e' : a = s1.heap.objs.size + 4 ∨ a = s1.heap.objs.size + 2 ∨ a = s1.heap.objs.size + 3 ∨ a = s1.heap.objs.size ∨ a = s1.heap.objs.size + 1 := by simpa using hm
      have := l2 a ha
      have e2 : a < s1.heap.objs.size := this
      rcases e' with z | z | z | z | z <;> rw [z] at e2 <;> exact absurd e2 (by simp [Addr] <;> omega)
    · simp [Addr]
  refine ⟨s1.heap.objs.size + 4, [s1.heap.objs.size + 4, s1.heap.objs.size + 2, s1.heap.objs.size + 3, s1.heap.objs.size, s1.heap.objs.size + 1], _, _, H1, rfl, I2, turn_zipS hD, ⟨hz, hTI, ⟨_, _, hTO⟩, f1 _ _ h1, f2 _ _ h2⟩, fun c hcm => ?_, q⟩
  have e' : c = s1.heap.objs.size + 4 ∨ c = s1.heap.objs.size + 2 ∨ c = s1.heap.objs.size + 3 ∨ c = s1.heap.objs.size ∨ c = s1.heap.objs.size + 1 := by simpa using hcm
  have hle : s1.heap.objs.size ≤ c := by
    rcases e' with z | z | z | z | z
    · rw [z]; exact Nat.le_add_right _ _
    · rw [z]; exact Nat.le_add_right _ _
    · rw [z]; exact Nat.le_add_right _ _
    · rw [z]; exact Nat.le_refl _
    · rw [z]; exact Nat.le_add_right _ _
  exact I1.fpOk hle (I1.hok.fresh hle)
end DL

set_option Elab.async false
set_option linter.all false
set_option maxRecDepth 100000
set_option maxHeartbeats 4000000
/-! for i, a in enumerate(v). -/
namespace DL
open PySem PySem.Spec PyProof.Rows L2

theorem new_enum1 {v : Value} {o : Obj} {Hb : Heap → Prop} (B : Begins v o Hb) :
    Meets (Builtin.«enumerate.__new__» ⟨[.type "enumerate", v], []⟩) (fun _ R s => Hb s.heap ∧
      R (.ok (.ret (.ref (s.heap.push o).objs.size))) { s with heap := (s.heap.push o).push { cls := .type "enumerate", data := .fields #[.none, .bool false, .ref s.heap.objs.size, rawInt 0, .none, .none] } }) :=
  .of_wp fun P w A R s h => by
    obtain ⟨hp, gs, dr, tk, os⟩ := s
    obtain ⟨hb, h⟩ := h
    have sub := sub_enumerate
    have it : ∀ {A' : Around} {E : Value → Shared → Prop} {Q : Value → Shared → Prop}, Q (.ref hp.objs.size) ⟨hp.push o, gs, dr, tk, os⟩ → wpAny (model P w) A' (pyIter v) Q E ⟨hp, gs, dr, tk, os⟩ :=
      fun q => B.iter P w _ _ ⟨hp, gs, dr, tk, os⟩ _ hb q
    wp_walk using it
    refine wpAny_stack_any fun st => wpAny_pure ?_
    split
    · rename_i c _ _ _ _ _
      cases (c == Value.type "enumerate")
      all_goals (wp_walk using it; exact ⟨_, rfl, h⟩)
    · wp_walk using it
      exact ⟨_, rfl, h⟩
section
variable {P : Program} {w : World} {A : Around} {E : Value → Shared → Prop} {s : Shared}
theorem call_enum1 {v : Value} {o : Obj} {Hb : Heap → Prop} {Q : Value → Shared → Prop} (B : Begins v o Hb) (hb : Hb s.heap)
    (h : ∀ h', IsEnum h' (s.heap.objs.size + 1) s.heap.objs.size 0 .none → h'.get? s.heap.objs.size = some o → (∀ b o, s.heap.get? b = some o → h'.get? b = some o) → Q (.ref (s.heap.objs.size + 1)) { s with heap := h' }) :
    wpAny (model P w) A (call (.type "enumerate") [v]) Q E s := by
  refine callType_new F.called_enumerate (by decide) (F.typeCall_enumerate_1 _) (F.newCall_enumerate_1 _) (fun obj => F.args_object_init_2 obj _) F.entry_enumerate_new (new_enum1 B) ⟨hb, ?_⟩
  have sz : (s.heap.push o).objs.size = s.heap.objs.size + 1 := Heap.size_push ..
  have at' := Heap.get?_push_size (s.heap.push o) (o := { cls := .type "enumerate", data := .fields #[.none, .bool false, .ref s.heap.objs.size, rawInt 0, .none, .none] }) rfl
  show _ ∧ _
  rw [sz] at at' ⊢
  exact ⟨⟨_, at', rfl⟩, h _ at' (Heap.get?_push_of_some _ (Heap.get?_push_size _ B.free)) fun b o q => Heap.get?_push_of_some _ (Heap.get?_push_of_some _ q)⟩
end
def IteS (K : PySem.W.Frag) (S : SrcV) : L2.It :=
  ⟨fun i H => ∃ xs, S.At K H xs ∧ i < xs.length,
    fun i H v H' => ∃ T x, v = .ref T ∧ H T = none ∧ H' = upd H T (.tup [.int (i : Nat), x]) ∧ ∀ xs, S.At K H xs → xs[i]? = some x,
    fun i H => ∃ xs, S.At K H xs ∧ i = xs.length⟩
theorem turn_enumS {P : Program} {w : World} {K : PySem.W.Frag} {elts : List Expr} {kk : Nat} {tpos : Pos} {S : SrcV} {e it : Addr} (ne : e ≠ it) (D1 : e ∉ S.ad) (D2 : it ∉ S.ad) :
    Turn P w K (.Tuple elts kk tpos) (IteS K S) [e, it] e (fun i h => (∃ old, IsEnum h e it ((0 : Int) + (i : Int)) old) ∧ S.It it i h) where
  mem := by simp
  obj := fun i h st b hb => by
    obtain ⟨⟨old, he⟩, hi⟩ := st
    rcases (by simpa using hb : b = e ∨ b = it) with z | z
    · rw [z]; exact ⟨_, he, fun v q => nomatch q⟩
    · rw [z]; exact hi.obj
  keep := fun i h h' st k => by
    obtain ⟨⟨old, he⟩, hi⟩ := st
    exact ⟨⟨old, k e (by simp) _ he⟩, hi.keep fun o q => k it (by simp) o q⟩
  item := by
    intro X hP hw hK hc i pins s σ H E I hf st hg
    subst hP hw hK
    obtain ⟨⟨old, he⟩, hi⟩ := st
    obtain ⟨xs, hq, hx⟩ := hg
    obtain ⟨St1, D, st1, b1⟩ := src_draws I hc hq D2 i hi
    have hef : e ∉ it :: S.ad := fun h => (List.mem_cons.mp h).elim ne D1
    refine (GoesN.enumFrom (elts := elts) (x1 := kk) (pos := tpos) 0 D e ne hef List.mem_cons_self).goes i s _ E hx ⟨⟨old, he⟩, st1⟩ fun v h' tk hY st' hk htk => ?_
    obtain ⟨T, t, u, rfl, hT, ⟨x, ex, rx⟩, hp⟩ := hY
    obtain ⟨⟨old', he'⟩, t1⟩ := st'
    have e0 : (0 : Int) + (i : Int) = (i : Nat) := by omega
    rw [e0] at hp
    have new : ObjOk X.prog X.w (upd H T (.tup [.int (i : Nat), x])) h' T (.tup [.int (i : Nat), x]) := ⟨by show 2 ≤ sizeLine; decide, [.int (i : Nat) t, u], .cons ⟨t, rfl⟩ (.cons rx .nil), hp⟩
    have I1 : L2.Inv X pins σ (upd H T (.tup [.int (i : Nat), x])) { s with heap := h', toks := tk } := I.turnedNew (ch := [e, it]) hk hf hT new
    refine ⟨.ref T, _, I1, rfl, ⟨T, x, rfl, I.hok.fresh hT, rfl, fun l hl => by rw [src_inj I hl hq]; exact ex⟩, ⟨⟨old', he'⟩, b1 _ _ t1⟩, fun c hcm => ?_⟩
    have hlt : c < s.heap.objs.size := by
      rcases (by simpa using hcm : c = e ∨ c = it) with z | z
      · rw [z]; exact Heap.lt_size he
      · rw [z]; obtain ⟨_, e1, _⟩ := hi.obj; exact Heap.lt_size e1
    rw [upd_ne (Nat.ne_of_lt (Nat.lt_of_lt_of_le hlt hT))]
    exact (hf c hcm).1
  done := by
    intro X hP hw hK hc i pins s σ H E I hf st hg
    subst hP hw hK
    obtain ⟨⟨old, he⟩, hi⟩ := st
    obtain ⟨xs, hq, hx⟩ := hg
    obtain ⟨St1, D, st1, b1⟩ := src_draws I hc hq D2 i hi
    have hef : e ∉ it :: S.ad := fun h => (List.mem_cons.mp h).elim ne D1
    subst hx
    exact (GoesN.enumFrom (elts := elts) (x1 := kk) (pos := tpos) 0 D e ne hef List.mem_cons_self).stops s _ E ⟨⟨old, he⟩, st1⟩ fun h' tk hk htk => I.turnedL (ch := [e, it]) hk hf
  self := fun A i s Q E st h => let ⟨⟨_, he⟩, _⟩ := st; wpAny_pyIter_enum he h
def iEnumS (K : PySem.W.Frag) (ta : TA) : TI := fun σ H R => ta σ H fun vs H1 => ∃ S xs, vs = [S.v] ∧ S.At K H1 xs ∧ R (IteS K S) H1
theorem pi_enumS {X : Cx} {e : Expr} {ta : TA} {p pos tpos : Pos} {elts : List Expr} {kk : Nat} (hg : Gl X "enumerate") (hm : X.mg "enumerate" = none) (ha : PA X [e] ta) (hs : starEach [e] X.env = [(false, eval e X.env)] := by rfl) :
    PI X (.Tuple elts kk tpos) (.Call (.Name "enumerate" p) [e] [] pos) (iEnumS X.K ta) := by
  refine ⟨fun pins s σ H R I h => ?_⟩
  refine Call_ (ld_blt I hg hm boot_enumerate (PyProof.Rows.callWith_type1 (thn (ha.run pos pins s σ H _ I h) fun us s1 ⟨vs, H1, I1, r1, q1⟩ => ?_) hs rfl))
  obtain ⟨S, xs, ex, hq, q⟩ := q1
  subst ex
  obtain ⟨u, rfl, ru⟩ := Vals.one r1
  obtain ⟨o, Hb, B, k1, f1⟩ := src_begins I1 hq ru
  have l1 := src_lt I1 hq
  refine call_enum1 B k1 fun h' he ho hk => wpAny_pyIter_enum he ?_
  have I2 : L2.Inv X pins σ H1 { s1 with heap := h' } := I1.kept (t' := s1.toks) hk
  have n1 : (s1.heap.objs.size + 1 : Nat) ∉ S.ad := fun h => absurd (l1 _ h) (Nat.not_lt.mpr (Nat.le_succ _))
  have n2 : (s1.heap.objs.size : Nat) ∉ S.ad := fun h => absurd (l1 _ h) (Nat.lt_irrefl _)
  refine ⟨s1.heap.objs.size + 1, [s1.heap.objs.size + 1, s1.heap.objs.size], _, _, H1, rfl, I2, turn_enumS (Nat.succ_ne_self _) n1 n2, ⟨⟨.none, he⟩, f1 _ _ ho⟩, fun b hb => ?_, q⟩
  have hle : s1.heap.objs.size ≤ b := by
    rcases (by simpa using hb : b = s1.heap.objs.size + 1 ∨ b = s1.heap.objs.size) with z | z <;> rw [z]
    · exact Nat.le_succ _
    · exact Nat.le_refl _
  exact I1.fpOk hle (I1.hok.fresh hle)

/-! ### over data -/
section
variable {K : PySem.W.Frag} {N : Hid} {μ : Mu} {H : Hp}
/-- what data is walked -/
def srcD : Dt → Option (List Dt)
  | .lst xs => some xs
  | .tup xs => some xs
  | .str z => some (sgn z)
  | _ => none
theorem sgnV_rp {z : List Nat} (h : ∀ c ∈ z, c < 0x110000) : RpAll N μ H ((mkS z).cps.toList.map fun c => V.str ⟨#[c]⟩) (sgn z) := rp_sgn h
/-- a source, as it stands from here on -/
theorem Rp.src {v : V} {d : Dt} {xs : List Dt} (r : Rp N μ H v d) (h : srcD d = some xs) : ∃ S vs, v = SrcV.v S ∧ RpAll N μ H vs xs ∧ ∀ μ' H', Stp μ H μ' H' → S.At K H' vs := by
  cases r with
  | lst n m hh rr =>
    cases h
    exact ⟨.lst _, _, rfl, rr, fun μ' H' e => .of (e _ _ m hh).2⟩
  | tup n m hh rr =>
    cases h
    exact ⟨.tup _, _, rfl, rr, fun μ' H' e => .of (e _ _ m hh).2⟩
  | str z hz =>
    cases h
    exact ⟨.str _, _, rfl, sgnV_rp hz, fun μ' H' e => rfl⟩
  | non => cases h
  | bl b => cases h
  | int i => cases h
  | dk => cases h
  | hdl => cases h
  | scr => cases h
  | exc => cases h
def zipD : List Dt → List Dt → List Dt
  | x :: xs, y :: ys => .tup [x, y] :: zipD xs ys
  | _, _ => []
theorem zipD_length : ∀ xs ys : List Dt, (zipD xs ys).length = min xs.length ys.length
  | [], _ => by simp [zipD]
  | _ :: _, [] => by simp [zipD]
  | x :: xs, y :: ys => by
    simp only [zipD, List.length_cons, zipD_length xs ys]
    omega
theorem zipD_get : ∀ {xs ys : List Dt} {i : Nat} {x y : Dt}, xs[i]? = some x → ys[i]? = some y → (zipD xs ys)[i]? = some (.tup [x, y])
  | [], _, _, _, _, h, _ => by simp at h
  | _ :: _, [], _, _, _, _, h => by simp at h
  | x :: xs, y :: ys, 0, a, b, h1, h2 => by
    simp at h1 h2
    subst h1 h2
    rfl
  | x :: xs, y :: ys, i + 1, a, b, h1, h2 => by
    show (zipD xs ys)[i]? = _
    exact zipD_get (by simpa using h1) (by simpa using h2)
def enumD (k : Nat) : List Dt → List Dt
  | [] => []
  | x :: xs => .tup [.int k, x] :: enumD (k + 1) xs
theorem enumD_length : ∀ (k : Nat) (xs : List Dt), (enumD k xs).length = xs.length
  | _, [] => rfl
  | k, x :: xs => by simp only [enumD, List.length_cons, enumD_length (k + 1) xs]
theorem enumD_get : ∀ {k : Nat} {xs : List Dt} {i : Nat} {x : Dt}, xs[i]? = some x → (enumD k xs)[i]? = some (.tup [.int ((k + i : Nat) : Int), x])
  | _, [], _, _, h => by simp at h
  | k, x :: xs, 0, a, h => by
    simp at h
    subst h
    rfl
  | k, x :: xs, i + 1, a, h => by
    show (enumD (k + 1) xs)[i]? = _
    rw [enumD_get (by simpa using h), show k + 1 + i = k + (i + 1) by omega]
theorem yld_zip {S1 S2 : SrcV} {vs ws : List V} {xs ys : List Dt} (r1 : RpAll N μ H vs xs) (r2 : RpAll N μ H ws ys) (h1 : ∀ μ' H', Stp μ H μ' H' → S1.At K H' vs) (h2 : ∀ μ' H', Stp μ H μ' H' → S2.At K H' ws) : Yld N μ H (ItzS K S1 S2) (zipD xs ys) where
  go := fun N' i μ' H' hn e R hi => by
    rw [zipD_length] at hi
    exact ⟨vs, ws, h1 _ _ e, h2 _ _ e, by rw [r1.length]; omega, by rw [r2.length]; omega⟩
  yl := fun N' i μ' H' v H2 hn e R hi y => by
    obtain ⟨T, x, y, rfl, hT, rfl, e1, e2⟩ := y
    obtain ⟨d1, q1, p1⟩ := (r1.later hn e).getV (e1 _ (h1 _ _ e))
    obtain ⟨d2, q2, p2⟩ := (r2.later hn e).getV (e2 _ (h2 _ _ e))
    exact ⟨stp_new hT, R.new hT, _, zipD_get q1 q2, Rp.newTup R hT (.cons p1 (.cons p2 .nil))⟩
  st := fun N' μ' H' hn e R => ⟨vs, ws, h1 _ _ e, h2 _ _ e, by rw [zipD_length, r1.length, r2.length]⟩
theorem yld_enum {S : SrcV} {vs : List V} {xs : List Dt} (r : RpAll N μ H vs xs) (h : ∀ μ' H', Stp μ H μ' H' → S.At K H' vs) : Yld N μ H (IteS K S) (enumD 0 xs) where
  go := fun N' i μ' H' hn e R hi => by
    rw [enumD_length] at hi
    exact ⟨vs, h _ _ e, by rw [r.length]; exact hi⟩
  yl := fun N' i μ' H' v H2 hn e R hi y => by
    obtain ⟨T, x, rfl, hT, rfl, e1⟩ := y
    obtain ⟨d, q1, p1⟩ := (r.later hn e).getV (e1 _ (h _ _ e))
    have q2 := enumD_get (k := 0) q1
    rw [Nat.zero_add] at q2
    exact ⟨stp_new hT, R.new hT, _, q2, Rp.newTup R hT (.cons (.int _) (.cons p1 .nil))⟩
  st := fun N' μ' H' hn e R => ⟨vs, h _ _ e, by rw [enumD_length, r.length]⟩
end
def iZipD (da : DA) : DI := fun ρ μ K => da ρ μ fun xs μ1 => ∃ x y a b, xs = [x, y] ∧ srcD x = some a ∧ srcD y = some b ∧ K (zipD a b) μ1
def iEnumD (da : DA) : DI := fun ρ μ K => da ρ μ fun xs μ1 => ∃ x a, xs = [x] ∧ srcD x = some a ∧ K (enumD 0 a) μ1
section
variable {X : Cx} {a b : Expr} {ta : TA} {da : DA} {p pos tpos : Pos} {elts : List Expr} {kk : Nat}
theorem di_zip (hg : Gl X "zip") (hm : X.mg "zip" = none) (ha : DPa X [a, b] ta da) (hs : starEach [a, b] X.env = (false, eval a X.env) :: starEach [b] X.env := by rfl) (hpl : (backTo pos (starEach [b] X.env)).any (·.1) = false := by rfl) :
    DPi X (.Tuple elts kk tpos) (.Call (.Name "zip" p) [a, b] [] pos) (iZipS X.K ta) (iZipD da) :=
  ⟨pi_zipS hg hm ha.p hs hpl, fun N σ H ρ μ Kd R Rp' S h q => ha.a N σ H ρ μ _ _ Rp' S h fun vs H1 μ1 ds e1 R1 rs ⟨x, y, xs, ys, ed, hx, hy, k⟩ => by
    subst ed
    obtain ⟨v, w, rfl, r1, r2⟩ := rs.inv2
    obtain ⟨S1, vs1, rfl, p1, k1⟩ := r1.src (K := X.K) hx
    obtain ⟨S2, vs2, rfl, p2, k2⟩ := r2.src (K := X.K) hy
    exact ⟨S1, S2, vs1, vs2, rfl, k1 _ _ Stp.refl, k2 _ _ Stp.refl, q _ H1 μ1 _ e1 R1 (yld_zip p1 p2 k1 k2) k⟩⟩
theorem di_enum (hg : Gl X "enumerate") (hm : X.mg "enumerate" = none) (ha : DPa X [a] ta da) (hs : starEach [a] X.env = [(false, eval a X.env)] := by rfl) :
    DPi X (.Tuple elts kk tpos) (.Call (.Name "enumerate" p) [a] [] pos) (iEnumS X.K ta) (iEnumD da) :=
  ⟨pi_enumS hg hm ha.p hs, fun N σ H ρ μ Kd R Rp' S h q => ha.a N σ H ρ μ _ _ Rp' S h fun vs H1 μ1 ds e1 R1 rs ⟨x, xs, ed, hx, k⟩ => by
    subst ed
    obtain ⟨v, rfl, r1⟩ := rs.inv1
    obtain ⟨S1, vs1, rfl, p1, k1⟩ := r1.src (K := X.K) hx
    exact ⟨S1, vs1, rfl, k1 _ _ Stp.refl, q _ H1 μ1 _ e1 R1 (yld_enum p1 k1) k⟩⟩
end
end DL

set_option Elab.async false
set_option linter.all false
set_option maxRecDepth 100000
set_option maxHeartbeats 4000000
/-! for i, (a, b) in enumerate(zip(v1, v2)). -/
namespace DL
open PySem PySem.Spec PyProof.Rows L2

/-- a zip, its tuple perhaps still out -/
abbrev ZF (h : Heap) (z TI TO : Addr) (v0 v1 : Value) : Prop := h.get? z = some { cls := .type "zip", dict := none, data := .fields #[v0, v1, .bool false, .ref TI, .ref TO], slots := #[] }
def ZAny (h : Heap) (z TI TO : Addr) : Prop := ∃ v0 f, ZF h z TI TO v0 (.bool f) ∧ (v0 = .none ∨ ∃ T : Nat, v0 = rawInt T)
section
variable {P : Program} {w : World} {A : Around} {E : Value → Shared → Prop} {s : Shared} {z TI TO i1 i2 : Addr} {fp1 fp2 : List Addr} {n1 n2 i : Nat} {P1 P2 : Nat → Value → Prop} {St1 St2 : Nat → Heap → Prop} {c1 c2 : Value}
theorem zip_frees {v0 : Value} {f : Bool} {Q : Bool → Shared → Prop} (hz : ZF s.heap z TI TO v0 (.bool f)) (hv : v0 = .none ∨ ∃ T : Nat, v0 = rawInt T) (yes : Q true s)
    (no : ∀ h', ZAny h' z TI TO → Heap.SameBut z s.heap h' → Q false { s with heap := h' }) : wpAny (model P w) A (Builtin.SmallTypes.ownedTupleIsFree (.ref z)) Q E s := by
  unfold Builtin.SmallTypes.ownedTupleIsFree
  rcases hv with e | ⟨T, e⟩
  · subst e
    exact wpAny_bind (wpAny_field hz rfl (x := .none) rfl (wpAny_pure yes))
  · subst e
    refine wpAny_bind (wpAny_field hz rfl (x := rawInt T) rfl ?_)
    show wpAny _ _ (loadIfAlive ((T : Int).toNat) >>= _) _ _ _
    rw [Int.toNat_natCast]
    refine wpAny_bind ?_
    cases ho : s.heap.get? T with
    | none =>
      have go : ∀ {Q' : Option Obj → Shared → Prop}, Q' none s → wpAny (model P w) A (loadIfAlive T) Q' E s := fun {Q'} hq => by
        have hq' : Q' (s.heap.get? T) s := by rw [ho]; exact hq
        exact fun _ _ _ => hq'
      refine go ?_
      simp only [Option.isNone_none, if_true]
      exact wpAny_pure yes
    | some oT =>
      refine PySem.W.kdx_alive ho ?_
      simp only [Option.isNone_some, Bool.false_eq_true, if_false]
      refine wpAny_bind (wpAny_field hz rfl (x := .bool f) rfl ?_)
      cases f with
      | true =>
        rw [if_neg (show ¬ ((Value.bool true != Value.bool true) = true) from Bool.false_ne_true)]
        exact wpAny_pure (no s.heap ⟨_, true, hz, .inr ⟨T, rfl⟩⟩ (Heap.SameBut.refl _ _))
      | false =>
        rw [if_pos (show (Value.bool false != Value.bool true) = true from rfl)]
        exact wpAny_bind (wpAny_setField_rec hz (by simp) fun g hg hs => wpAny_pure (no g ⟨_, true, hg, .inr ⟨T, rfl⟩⟩ hs))
/-- the next pair: a new tuple, whether the last one is still out or not -/
theorem zipAny_item {Q : Value → Shared → Prop} (S : ZipSep2 z TI TO i1 i2 fp1 fp2) (D1 : Draws P w A i1 fp1 n1 P1 St1) (D2 : Draws P w A i2 fp2 n2 P2 St2)
    (hz : ZAny s.heap z TI TO) (hTI : IsTupOf2 s.heap TI (.ref i1) (.ref i2)) (hTO : IsTupOf2 s.heap TO c1 c2) (st1 : St1 i s.heap) (st2 : St2 i s.heap) (lt1 : i < n1) (lt2 : i < n2)
    (hQ : ∀ x1 x2 h' tk, P1 i x1 → P2 i x2 → ZAny h' z TI TO → (∃ d1 d2, IsTupOf2 h' TO d1 d2) → St1 (i + 1) h' → St2 (i + 1) h' → IsTupOf2 h' s.heap.objs.size x1 x2 → h'.objs.size = s.heap.objs.size + 1 →
      (∀ c o, c ≠ z → c ≠ TO → c ≠ i1 → c ≠ i2 → s.heap.get? c = some o → h'.get? c = some o) → Q (.ref s.heap.objs.size) { s with heap := h', toks := tk }) :
    wpAny (model P w) A (Builtin.«zip.__next__» ⟨[.ref z], []⟩) (fun fin s' => ∃ v, fin = .done (.ret v) ∧ Q v s') E s := by
  obtain ⟨v0, f, hz, hv⟩ := hz
  obtain ⟨hp, gs, dr, tk0, os⟩ := s
  replace hz : ZF hp z TI TO v0 (.bool f) := hz
  replace hTI : IsTupOf2 hp TI (.ref i1) (.ref i2) := hTI
  replace hTO : IsTupOf2 hp TO c1 c2 := hTO
  have lz : z < hp.objs.size := Heap.lt_size hz
  show wpAny _ _ (field (.ref z) 2 >>= _) _ _ _
  refine wpAny_bind (wpAny_field (s := ⟨hp, gs, dr, tk0, os⟩) hz rfl (x := .bool false) rfl ?_)
  show wpAny _ _ (field (.ref z) 3 >>= _) _ _ _
  refine wpAny_bind (wpAny_field (s := ⟨hp, gs, dr, tk0, os⟩) hz rfl (x := .ref TI) rfl (wpAny_bind (wpAny_seqItems (s := ⟨hp, gs, dr, tk0, os⟩) hTI rfl ?_)))
  show wpAny _ _ (Builtin.SmallTypes.ownedTupleIsFree (.ref z) >>= _) _ _ _
  refine wpAny_bind (zip_frees (s := ⟨hp, gs, dr, tk0, os⟩) hz hv ?_ fun g0 zg0 sg0 => ?_)
  · simp only [if_true]
    refine wpAny_bind (wpAny_rule (wpAny_bind (wpAny_field (s := ⟨hp, gs, dr, tk0, os⟩) hz rfl (x := .ref TO) rfl (wpAny_bind (wpAny_setField_rec (s := ⟨hp, gs, dr, tk0, os⟩) hz (by simp) fun g0 zg0 sg0 => ?_)))))
    replace zg0 : ZF g0 z TI TO .ellipsis (.bool f) := zg0
    replace sg0 : Heap.SameBut z hp g0 := sg0
    refine wpAny_bind ?_
    simp only [List.zipIdx_cons, List.zipIdx_nil, List.forIn_cons, List.forIn_nil]
    refine wpAny_bind (wpAny_bind (wpAny_onRaise ?_))
    show wpAny _ _ (Builtin.SmallTypes.nextOf (.ref i1) >>= _) _ _ ⟨g0, gs, dr, tk0, os⟩
    refine wpAny_bind (D1.item i _ _ _ lt1 (D1.over st1 sg0 S.zf1) fun x1 p1 tk1 px1 sn1 sp1 => wpAny_pure ?_)
    replace sp1 : Heap.SameBut i1 g0 p1 := sp1
    have u1 : IsTupOf2 p1 TO c1 c2 := sp1.extBut _ _ S.Ti1 (sg0.extBut _ _ S.TOz hTO)
    refine wpAny_bind (wpAny_seqItems (s := ⟨p1, gs, dr, tk1, os⟩) u1 rfl (wpAny_bind (updateSeq_IsTupOf2 (s := ⟨p1, gs, dr, tk1, os⟩) u1 fun g1 ug1 sg1 => ?_)))
    replace ug1 : IsTupOf2 g1 TO x1 c2 := ug1
    replace sg1 : Heap.SameBut TO p1 g1 := sg1
    refine wpAny_bind (wpAny_letGo (wpAny_pure (wpAny_bind (wpAny_bind (wpAny_onRaise ?_)))))
    show wpAny _ _ (Builtin.SmallTypes.nextOf (.ref i2) >>= _) _ _ ⟨g1, gs, dr, tk1, os⟩
    refine wpAny_bind (D2.item i _ _ _ lt2 (D2.over (D2.over (D2.over st2 sg0 S.zf2) sp1 S.sep1_2) sg1 S.Tf2) fun x2 p2 tk2 px2 sn2 sp2 => wpAny_pure ?_)
    replace sp2 : Heap.SameBut i2 g1 p2 := sp2
    have u2 : IsTupOf2 p2 TO x1 c2 := sp2.extBut _ _ S.Ti2 ug1
    refine wpAny_bind (wpAny_seqItems (s := ⟨p2, gs, dr, tk2, os⟩) u2 rfl (wpAny_bind (updateSeq_IsTupOf2 (s := ⟨p2, gs, dr, tk2, os⟩) u2 fun g2 ug2 sg2 => ?_)))
    replace ug2 : IsTupOf2 g2 TO x1 x2 := ug2
    replace sg2 : Heap.SameBut TO p2 g2 := sg2
    refine wpAny_bind (wpAny_letGo (wpAny_pure (wpAny_pure (wpAny_bind (wpAny_seqItems (s := ⟨g2, gs, dr, tk2, os⟩) ug2 rfl (wpAny_bind (wpAny_newTuple ?_)))))))
    have sz : g2.objs.size = hp.objs.size := by rw [sg2.1, sp2.1, sg1.1, sp1.1, sg0.1]
    have z2 : ZF g2 z TI TO .ellipsis (.bool f) := sg2.extBut _ _ S.TOz.symm (sp2.extBut _ _ S.zi2 (sg1.extBut _ _ S.TOz.symm (sp1.extBut _ _ S.zi1 zg0)))
    have keep : ∀ c o, c ≠ z → c ≠ TO → c ≠ i1 → c ≠ i2 → hp.get? c = some o → g2.get? c = some o := fun c o cz cT k1 k2 q =>
      sg2.extBut _ _ cT (sp2.extBut _ _ k2 (sg1.extBut _ _ cT (sp1.extBut _ _ k1 (sg0.extBut _ _ cz q))))
    have j1 : St1 (i + 1) g2 := D1.over (D1.over (D1.over sn1 sg1 S.Tf1) sp2 S.sep2_1) sg2 S.Tf1
    have j2 : St2 (i + 1) g2 := D2.over sn2 sg2 S.Tf2
    have z3 : ZF (g2.push { cls := .type "tuple", data := .seq #[x1, x2] }) z TI TO .ellipsis (.bool f) := Heap.get?_push_of_some _ z2
    show wpAny _ _ (Builtin.SmallTypes.ownedTupleHandOut (.ref z) (.ref g2.objs.size) >>= _) _ _ ⟨g2.push { cls := .type "tuple", data := .seq #[x1, x2] }, gs, dr, tk2, os⟩
    refine wpAny_bind ?_
    unfold Builtin.SmallTypes.ownedTupleHandOut
    refine wpAny_bind (wpAny_setField_rec (s := ⟨g2.push { cls := .type "tuple", data := .seq #[x1, x2] }, gs, dr, tk2, os⟩) z3 (by simp) fun g3 zg3 sg3 => ?_)
    replace zg3 : ZF g3 z TI TO (rawInt g2.objs.size) (.bool f) := zg3
    replace sg3 : Heap.SameBut z (g2.push { cls := .type "tuple", data := .seq #[x1, x2] }) g3 := sg3
    refine wpAny_setField_rec (s := ⟨g3, gs, dr, tk2, os⟩) zg3 (by simp) fun g4 zg4 sg4 => ?_
    replace zg4 : ZF g4 z TI TO (rawInt g2.objs.size) (.bool false) := zg4
    replace sg4 : Heap.SameBut z g3 g4 := sg4
    have up : ∀ c o, c ≠ z → g2.get? c = some o → g4.get? c = some o := fun c o k q => sg4.extBut _ _ k (sg3.extBut _ _ k (Heap.get?_push_of_some _ q))
    have lz2 : z < g2.objs.size := Heap.lt_size z2
    have t4 : IsTupOf2 g4 g2.objs.size x1 x2 := sg4.extBut _ _ (Nat.ne_of_gt lz2) (sg3.extBut _ _ (Nat.ne_of_gt lz2) (Heap.get?_push_size _ rfl))
    have s4 : g4.objs.size = g2.objs.size + 1 := by rw [sg4.1, sg3.1, Heap.size_push]
    refine wpAny_pure ⟨_, rfl, ?_⟩
    show Q (.ref g2.objs.size) ⟨g4, gs, dr, tk2, os⟩
    rw [sz] at t4 s4 ⊢
    exact hQ x1 x2 g4 tk2 px1 px2 ⟨_, false, zg4, .inr ⟨_, rfl⟩⟩ ⟨_, _, up _ _ S.TOz ug2⟩ (D1.frame _ _ _ j1 fun b hb o q => up b o (fun k => S.zf1 (k ▸ hb)) q) (D2.frame _ _ _ j2 fun b hb o q => up b o (fun k => S.zf2 (k ▸ hb)) q) t4 s4
      fun c o cz cT k1 k2 q => up c o cz (keep c o cz cT k1 k2 q)
  · replace sg0 : Heap.SameBut z hp g0 := sg0
    simp only [Bool.false_eq_true, if_false]
    refine wpAny_bind ?_
    rw [← Array.forIn_toList]
    simp only [List.forIn_cons, List.forIn_nil]
    refine wpAny_bind (wpAny_bind (wpAny_holding ?_))
    show wpAny _ _ (Builtin.SmallTypes.nextOf (.ref i1) >>= _) _ _ ⟨g0, gs, dr, tk0, os⟩
    refine wpAny_bind (D1.item i _ _ _ lt1 (D1.over st1 sg0 S.zf1) fun x1 p1 tk1 px1 sn1 sp1 => wpAny_pure (wpAny_pure ?_))
    replace sp1 : Heap.SameBut i1 g0 p1 := sp1
    refine wpAny_bind (wpAny_bind (wpAny_holding ?_))
    show wpAny _ _ (Builtin.SmallTypes.nextOf (.ref i2) >>= _) _ _ ⟨p1, gs, dr, tk1, os⟩
    refine wpAny_bind (D2.item i _ _ _ lt2 (D2.over (D2.over st2 sg0 S.zf2) sp1 S.sep1_2) fun x2 p2 tk2 px2 sn2 sp2 => wpAny_pure (wpAny_pure (wpAny_pure ?_)))
    replace sp2 : Heap.SameBut i2 p1 p2 := sp2
    show wpAny _ _ (newTuple [x1, x2] >>= _) _ _ ⟨p2, gs, dr, tk2, os⟩
    refine wpAny_bind (wpAny_newTuple ?_)
    have sz : p2.objs.size = hp.objs.size := by rw [sp2.1, sp1.1, sg0.1]
    have keep : ∀ c o, c ≠ z → c ≠ TO → c ≠ i1 → c ≠ i2 → hp.get? c = some o → p2.get? c = some o := fun c o cz _ k1 k2 q => sp2.extBut _ _ k2 (sp1.extBut _ _ k1 (sg0.extBut _ _ cz q))
    obtain ⟨v0', f', zg, hv'⟩ := zg0
    have z2 : ZF p2 z TI TO v0' (.bool f') := sp2.extBut _ _ S.zi2 (sp1.extBut _ _ S.zi1 zg)
    have o2 : IsTupOf2 p2 TO c1 c2 := sp2.extBut _ _ S.Ti2 (sp1.extBut _ _ S.Ti1 (sg0.extBut _ _ S.TOz hTO))
    have up : ∀ c o, p2.get? c = some o → (p2.push { cls := .type "tuple", data := .seq #[x1, x2] }).get? c = some o := fun c o q => Heap.get?_push_of_some _ q
    have t3 : IsTupOf2 (p2.push { cls := .type "tuple", data := .seq #[x1, x2] }) p2.objs.size x1 x2 := Heap.get?_push_size _ rfl
    have s3 : (p2.push { cls := .type "tuple", data := .seq #[x1, x2] }).objs.size = p2.objs.size + 1 := Heap.size_push ..
    refine wpAny_pure ⟨_, rfl, ?_⟩
    show Q (.ref p2.objs.size) _
    rw [sz] at t3 s3 ⊢
    exact hQ x1 x2 _ tk2 px1 px2 ⟨v0', f', up _ _ z2, hv'⟩ ⟨_, _, up _ _ o2⟩ (D1.frame _ _ _ (D1.over sn1 sp2 S.sep2_1) fun b _ o q => up b o q) (D2.frame _ _ _ sn2 fun b _ o q => up b o q) t3 s3 fun c o cz cT k1 k2 q => up c o (keep c o cz cT k1 k2 q)
theorem zipAny_end {Q : Fin → Shared → Prop} (S : ZipSep2 z TI TO i1 i2 fp1 fp2) (D1 : Draws P w A i1 fp1 n1 P1 St1) (D2 : Draws P w A i2 fp2 n2 P2 St2)
    (hz : ZAny s.heap z TI TO) (hTI : IsTupOf2 s.heap TI (.ref i1) (.ref i2)) (hTO : IsTupOf2 s.heap TO c1 c2) (st1 : St1 i s.heap) (st2 : St2 i s.heap) (hi : i = min n1 n2)
    (hE : ∀ h' tk e, (∀ c o, c ≠ z → c ≠ TO → c ≠ i1 → c ≠ i2 → s.heap.get? c = some o → h'.get? c = some o) → (∃ o, h'.get? e = some o ∧ o.cls = .type "StopIteration") → E (.ref e) { s with heap := h', toks := tk }) :
    wpAny (model P w) A (Builtin.«zip.__next__» ⟨[.ref z], []⟩) Q E s := by
  obtain ⟨v0, f, hz, hv⟩ := hz
  obtain ⟨hp, gs, dr, tk0, os⟩ := s
  replace hz : ZF hp z TI TO v0 (.bool f) := hz
  replace hTI : IsTupOf2 hp TI (.ref i1) (.ref i2) := hTI
  replace hTO : IsTupOf2 hp TO c1 c2 := hTO
  show wpAny _ _ (field (.ref z) 2 >>= _) _ _ _
  refine wpAny_bind (wpAny_field (s := ⟨hp, gs, dr, tk0, os⟩) hz rfl (x := .bool false) rfl ?_)
  show wpAny _ _ (field (.ref z) 3 >>= _) _ _ _
  refine wpAny_bind (wpAny_field (s := ⟨hp, gs, dr, tk0, os⟩) hz rfl (x := .ref TI) rfl (wpAny_bind (wpAny_seqItems (s := ⟨hp, gs, dr, tk0, os⟩) hTI rfl ?_)))
  show wpAny _ _ (Builtin.SmallTypes.ownedTupleIsFree (.ref z) >>= _) _ _ _
  refine wpAny_bind (zip_frees (s := ⟨hp, gs, dr, tk0, os⟩) hz hv ?_ fun g0 zg0 sg0 => ?_)
  · simp only [if_true]
    refine wpAny_bind (wpAny_rule (wpAny_bind (wpAny_field (s := ⟨hp, gs, dr, tk0, os⟩) hz rfl (x := .ref TO) rfl (wpAny_bind (wpAny_setField_rec (s := ⟨hp, gs, dr, tk0, os⟩) hz (by simp) fun g0 zg0 sg0 => ?_)))))
    replace zg0 : ZF g0 z TI TO .ellipsis (.bool f) := zg0
    replace sg0 : Heap.SameBut z hp g0 := sg0
    refine wpAny_bind ?_
    simp only [List.zipIdx_cons, List.zipIdx_nil, List.forIn_cons, List.forIn_nil]
    refine wpAny_bind (wpAny_bind (wpAny_onRaise ?_))
    show wpAny _ _ (Builtin.SmallTypes.nextOf (.ref i1) >>= _) _ _ ⟨g0, gs, dr, tk0, os⟩
    -- an end, at any heap: the zip is closed again
    have fin : ∀ (g : Heap) (tk : Nat) (q : Heap) (e j : Addr), j ≠ z → ZF g z TI TO .ellipsis (.bool f) → Heap.ExtBut j g q → (∃ o, q.get? e = some o ∧ o.cls = .type "StopIteration") → (∀ c o, c ≠ z → c ≠ TO → c ≠ i1 → c ≠ i2 → hp.get? c = some o → q.get? c = some o) →
        ∀ {R : Unit → Shared → Prop}, (∀ (q' : Heap), (∀ c o, c ≠ z → c ≠ TO → c ≠ i1 → c ≠ i2 → hp.get? c = some o → q'.get? c = some o) → (∃ o, q'.get? e = some o ∧ o.cls = .type "StopIteration") → R () ⟨q', gs, dr, tk, os⟩) → wpAny (model P w) A (setField (.ref z) 0 .none) R E ⟨q, gs, dr, tk, os⟩ :=
      fun g tk q e j jz zg hq he k R hR => by
        obtain ⟨oe, hoe, hce⟩ := he
        have zq : ZF q z TI TO .ellipsis (.bool f) := hq _ _ (Ne.symm jz) zg
        have ez : e ≠ z := fun x => by
          subst x
          rw [zq] at hoe
          cases hoe
          simp at hce
        refine wpAny_setField_rec (s := ⟨q, gs, dr, tk, os⟩) zq (by simp) fun q' _ sq => ?_
        replace sq : Heap.SameBut z q q' := sq
        exact hR q' (fun c o cz cT k1 k2 x => sq.extBut _ _ cz (k c o cz cT k1 k2 x)) ⟨oe, sq.extBut _ _ ez hoe, hce⟩
    by_cases lt1 : i < n1
    · refine wpAny_bind (D1.item i _ _ _ lt1 (D1.over st1 sg0 S.zf1) fun x1 p1 tk1 px1 sn1 sp1 => wpAny_pure ?_)
      replace sp1 : Heap.SameBut i1 g0 p1 := sp1
      have u1 : IsTupOf2 p1 TO c1 c2 := sp1.extBut _ _ S.Ti1 (sg0.extBut _ _ S.TOz hTO)
      refine wpAny_bind (wpAny_seqItems (s := ⟨p1, gs, dr, tk1, os⟩) u1 rfl (wpAny_bind (updateSeq_IsTupOf2 (s := ⟨p1, gs, dr, tk1, os⟩) u1 fun g1 ug1 sg1 => ?_)))
      replace sg1 : Heap.SameBut TO p1 g1 := sg1
      refine wpAny_bind (wpAny_letGo (wpAny_pure (wpAny_bind (wpAny_bind (wpAny_onRaise ?_)))))
      show wpAny _ _ (Builtin.SmallTypes.nextOf (.ref i2) >>= _) _ _ ⟨g1, gs, dr, tk1, os⟩
      have hi2 : i = n2 := by omega
      refine wpAny_bind (D2.done ⟨g1, gs, dr, tk1, os⟩ _ _ (by rw [← hi2]; exact D2.over (D2.over (D2.over st2 sg0 S.zf2) sp1 S.sep1_2) sg1 S.Tf2) fun q e hq he => ?_)
      replace hq : Heap.ExtBut i2 g1 q := hq
      exact fin g1 tk1 q e i2 (Ne.symm S.zi2) (sg1.extBut _ _ S.TOz.symm (sp1.extBut _ _ S.zi1 zg0)) hq he (fun c o cz cT k1 k2 x => hq _ _ k2 (sg1.extBut _ _ cT (sp1.extBut _ _ k1 (sg0.extBut _ _ cz x)))) fun q' a b => hE q' tk1 e a b
    · have hi1 : i = n1 := by omega
      refine wpAny_bind (D1.done ⟨g0, gs, dr, tk0, os⟩ _ _ (by rw [← hi1]; exact D1.over st1 sg0 S.zf1) fun q e hq he => ?_)
      replace hq : Heap.ExtBut i1 g0 q := hq
      exact fin g0 tk0 q e i1 (Ne.symm S.zi1) zg0 hq he (fun c o cz cT k1 k2 x => hq _ _ k1 (sg0.extBut _ _ cz x)) fun q' a b => hE q' tk0 e a b
  · replace sg0 : Heap.SameBut z hp g0 := sg0
    simp only [Bool.false_eq_true, if_false]
    refine wpAny_bind ?_
    rw [← Array.forIn_toList]
    simp only [List.forIn_cons, List.forIn_nil]
    refine wpAny_bind (wpAny_bind (wpAny_holding ?_))
    show wpAny _ _ (Builtin.SmallTypes.nextOf (.ref i1) >>= _) _ _ ⟨g0, gs, dr, tk0, os⟩
    by_cases lt1 : i < n1
    · refine wpAny_bind (D1.item i _ _ _ lt1 (D1.over st1 sg0 S.zf1) fun x1 p1 tk1 px1 sn1 sp1 => wpAny_pure (wpAny_pure ?_))
      replace sp1 : Heap.SameBut i1 g0 p1 := sp1
      refine wpAny_bind (wpAny_bind (wpAny_holding ?_))
      show wpAny _ _ (Builtin.SmallTypes.nextOf (.ref i2) >>= _) _ _ ⟨p1, gs, dr, tk1, os⟩
      have hi2 : i = n2 := by omega
      refine wpAny_bind (D2.done ⟨p1, gs, dr, tk1, os⟩ _ _ (by rw [← hi2]; exact D2.over (D2.over st2 sg0 S.zf2) sp1 S.sep1_2) fun q e hq he => ?_)
      replace hq : Heap.ExtBut i2 p1 q := hq
      exact hE q tk1 e (fun c o cz cT k1 k2 x => hq _ _ k2 (sp1.extBut _ _ k1 (sg0.extBut _ _ cz x))) he
    · have hi1 : i = n1 := by omega
      refine wpAny_bind (D1.done ⟨g0, gs, dr, tk0, os⟩ _ _ (by rw [← hi1]; exact D1.over st1 sg0 S.zf1) fun q e hq he => ?_)
      replace hq : Heap.ExtBut i1 g0 q := hq
      exact hE q tk0 e (fun c o cz cT k1 k2 x => hq _ _ k1 (sg0.extBut _ _ cz x)) he
end
end DL

set_option Elab.async false
set_option linter.all false
set_option maxRecDepth 100000
set_option maxHeartbeats 4000000
/-! for i, (a, b) in enumerate(zip(v1, v2)), part two. -/
namespace DL
open PySem PySem.Spec PyProof.Rows L2

section
variable {X : Cx} {pins : List (Addr × Obj)} {σ : L2.St} {H : Hp} {s : Shared} {h' : Heap}
/-- two new things, the iterator's own objects turned -/
theorem turned_two {t' : Nat} {ch : List Addr} {T U : Addr} {ob ob2 : HO} (I : L2.Inv X pins σ H s) (k : ∀ b o, b ∉ ch → s.heap.get? b = some o → h'.get? b = some o) (hf : ∀ b ∈ ch, FpOk X pins H b) (hT : s.heap.objs.size ≤ T) (hU : s.heap.objs.size ≤ U) (ne : U ≠ T)
    (n1 : ObjOk X.prog X.w (upd (upd H T ob) U ob2) h' T ob) (n2 : ObjOk X.prog X.w (upd (upd H T ob) U ob2) h' U ob2) : L2.Inv X pins σ (upd (upd H T ob) U ob2) { s with heap := h', toks := t' } := by
  have old : ∀ {b : Addr} {u : HO}, H b = some u → upd (upd H T ob) U ob2 b = some u := fun {b u} e => by
    rw [upd_ne (ne_of_none e (I.hok.fresh hU)), upd_ne (ne_of_none e (I.hok.fresh hT))]
    exact e
  have out : ∀ {b : Addr} {u : HO}, H b = some u → b ∉ ch := fun {b u} e z => by
    rw [(hf b z).1] at e
    cases e
  have lt : ∀ {b : Addr} {o : Obj}, s.heap.get? b = some o → b ≠ T ∧ b ≠ U := fun {b o} e => ⟨Nat.ne_of_lt (Nat.lt_of_lt_of_le (Heap.lt_size e) hT), Nat.ne_of_lt (Nat.lt_of_lt_of_le (Heap.lt_size e) hU)⟩
  refine I.step (g' := s.gens) (d' := s.drawn) (ch := ch) (fun b hb => ?_) (fun b o _ _ hc e _ => k b o hc e) (fun b o _ _ hc e _ => ⟨o.slots, k b o hc e⟩) (fun b o _ e n => ?_) (fun b o hc e => ⟨o, k b o hc e⟩) (fun b xs e => old e) (fun b o u e => old e) (fun b ps e => ⟨#[], by rw [old e, Array.append_empty]⟩)
    (fun m hm => ?_) (fun b u e => ?_) I.bare
  · obtain ⟨_, p1, _, p3, p4, p5⟩ := hf b hb
    exact ⟨p3, p1, p4, p5⟩
  · rw [upd_ne (lt e).2, upd_ne (lt e).1]
    exact n
  · obtain ⟨o, es, ep, ho, r⟩ := hm
    exact ⟨o, es, ep, k _ o (fun z => (hf _ z).2.1 rfl) ho, r⟩
  · by_cases hb : b = U
    · rw [hb, upd_same] at e
      cases e
      rw [hb]
      exact n2
    · rw [upd_ne hb] at e
      by_cases hb1 : b = T
      · rw [hb1, upd_same] at e
        cases e
        rw [hb1]
        exact n1
      · rw [upd_ne hb1] at e
        exact (I.hok b u e).stay (fun c v hc q => k c v (hc.elim (fun z => by rw [z]; exact out e) fun z => out z) q) (fun c q => old q) fun c xs q => old q
end
section
variable {P : Program} {w : World} {A : Around} {E : Value → Shared → Prop} {s : Shared} {e z TI TO i1 i2 : Addr} {fp1 fp2 : List Addr} {n1 n2 i : Nat} {P1 P2 : Nat → Value → Prop} {St1 St2 : Nat → Heap → Prop} {old : Value} {c : Int}
theorem nextOf_zipAny {Q : Value → Shared → Prop} {c1 c2 : Value} (S : ZipSep2 z TI TO i1 i2 fp1 fp2) (D1 : Draws P w A.in1 i1 fp1 n1 P1 St1) (D2 : Draws P w A.in1 i2 fp2 n2 P2 St2)
    (hz : ZAny s.heap z TI TO) (hTI : IsTupOf2 s.heap TI (.ref i1) (.ref i2)) (hTO : IsTupOf2 s.heap TO c1 c2) (st1 : St1 i s.heap) (st2 : St2 i s.heap) (lt1 : i < n1) (lt2 : i < n2)
    (hQ : ∀ x1 x2 h' tk, P1 i x1 → P2 i x2 → ZAny h' z TI TO → (∃ d1 d2, IsTupOf2 h' TO d1 d2) → St1 (i + 1) h' → St2 (i + 1) h' → IsTupOf2 h' s.heap.objs.size x1 x2 → h'.objs.size = s.heap.objs.size + 1 →
      (∀ c o, c ≠ z → c ≠ TO → c ≠ i1 → c ≠ i2 → s.heap.get? c = some o → h'.get? c = some o) → Q (.ref s.heap.objs.size) { s with heap := h', toks := tk }) :
    wpAny (model P w) A (Builtin.SmallTypes.nextOf (.ref z)) Q E s := by
  obtain ⟨v0, f, q, _⟩ := id hz
  have ty : s.TypeIs (.ref z) "zip" := ⟨_, q, rfl⟩
  unfold Builtin.SmallTypes.nextOf
  refine wpAny_bind (wpAny_callSpecial?_slot (name := Str.ofString "__next__") ty F.slot_zip_next (wpAny_call_entry F.slot_zip_next ty F.entry_zip_next ?_ (F.args_zip_next_1 _)))
  exact zipAny_item S D1 D2 hz hTI hTO st1 st2 lt1 lt2 fun x1 x2 h' tk a b d e' f' g h i' j => wpAny_pure (hQ x1 x2 h' tk a b d e' f' g h i' j)
theorem nextOf_zipEnd {Q : Value → Shared → Prop} {c1 c2 : Value} (S : ZipSep2 z TI TO i1 i2 fp1 fp2) (D1 : Draws P w A.in1 i1 fp1 n1 P1 St1) (D2 : Draws P w A.in1 i2 fp2 n2 P2 St2)
    (hz : ZAny s.heap z TI TO) (hTI : IsTupOf2 s.heap TI (.ref i1) (.ref i2)) (hTO : IsTupOf2 s.heap TO c1 c2) (st1 : St1 i s.heap) (st2 : St2 i s.heap) (hi : i = min n1 n2)
    (hE : ∀ h' tk e, (∀ c o, c ≠ z → c ≠ TO → c ≠ i1 → c ≠ i2 → s.heap.get? c = some o → h'.get? c = some o) → (∃ o, h'.get? e = some o ∧ o.cls = .type "StopIteration") → E (.ref e) { s with heap := h', toks := tk }) :
    wpAny (model P w) A (Builtin.SmallTypes.nextOf (.ref z)) Q E s := by
  obtain ⟨v0, f, q, _⟩ := id hz
  have ty : s.TypeIs (.ref z) "zip" := ⟨_, q, rfl⟩
  unfold Builtin.SmallTypes.nextOf
  exact wpAny_bind (wpAny_callSpecial?_slot (name := Str.ofString "__next__") ty F.slot_zip_next (wpAny_call_entry F.slot_zip_next ty F.entry_zip_next (zipAny_end S D1 D2 hz hTI hTO st1 st2 hi hE) (F.args_zip_next_1 _)))
structure EApart (e z TI TO i1 i2 : Addr) (fp1 fp2 : List Addr) : Prop where
  z : e ≠ z
  TI : e ≠ TI
  TO : e ≠ TO
  f1 : e ∉ fp1
  f2 : e ∉ fp2
theorem enumZ_item {Q : Value → Shared → Prop} {c1 c2 : Value} (S : ZipSep2 z TI TO i1 i2 fp1 fp2) (G : EApart e z TI TO i1 i2 fp1 fp2) (D1 : Draws P w A.in1 i1 fp1 n1 P1 St1) (D2 : Draws P w A.in1 i2 fp2 n2 P2 St2)
    (he : IsEnum s.heap e z c old) (hz : ZAny s.heap z TI TO) (hTI : IsTupOf2 s.heap TI (.ref i1) (.ref i2)) (hTO : IsTupOf2 s.heap TO c1 c2) (st1 : St1 i s.heap) (st2 : St2 i s.heap) (lt1 : i < n1) (lt2 : i < n2)
    (hQ : ∀ x1 x2 h' tk tk', P1 i x1 → P2 i x2 → IsEnumOut h' e z (c + 1) (.ref s.heap.objs.size) (s.heap.objs.size + 1) → ZAny h' z TI TO → (∃ d1 d2, IsTupOf2 h' TO d1 d2) → St1 (i + 1) h' → St2 (i + 1) h' →
      IsTupOf2 h' s.heap.objs.size x1 x2 → IsTupOf2 h' (s.heap.objs.size + 1) (.int c tk') (.ref s.heap.objs.size) →
      (∀ b o, b ≠ e → b ≠ z → b ≠ TO → b ≠ i1 → b ≠ i2 → s.heap.get? b = some o → h'.get? b = some o) → Q (.ref (s.heap.objs.size + 1)) { s with heap := h', toks := tk }) :
    wpAny (model P w) A (Builtin.«enumerate.__next__» ⟨[.ref e], []⟩) (fun fin s' => ∃ v, fin = .done (.ret v) ∧ Q v s') E s := by
  obtain ⟨hp, gs, dr, tk0, os⟩ := s
  replace he : IsEnum hp e z c old := he
  have le : e < hp.objs.size := Heap.lt_size he
  have ei1 : e ≠ i1 := fun k => G.f1 (by rw [k]; exact S.mem1)
  have ei2 : e ≠ i2 := fun k => G.f2 (by rw [k]; exact S.mem2)
  show wpAny _ _ (field (.ref e) 2 >>= _) _ _ _
  refine wpAny_bind (wpAny_field (s := ⟨hp, gs, dr, tk0, os⟩) he rfl (x := .ref z) rfl (wpAny_bind (nextOf_zipAny (s := ⟨hp, gs, dr, tk0, os⟩) S D1 D2 hz hTI hTO st1 st2 lt1 lt2 fun x1 x2 g1 tk1 px1 px2 z1 o1 j1 j2 t1 s1 k1 => ?_)))
  replace k1 : ∀ b o, b ≠ z → b ≠ TO → b ≠ i1 → b ≠ i2 → hp.get? b = some o → g1.get? b = some o := k1
  replace s1 : g1.objs.size = hp.objs.size + 1 := s1
  replace t1 : IsTupOf2 g1 hp.objs.size x1 x2 := t1
  have e1 : IsEnum g1 e z c old := k1 _ _ G.z G.TO ei1 ei2 he
  show wpAny _ _ (field (.ref e) 3 >>= _) _ _ ⟨g1, gs, dr, tk1, os⟩
  refine wpAny_bind (wpAny_field (s := ⟨g1, gs, dr, tk1, os⟩) e1 rfl (x := rawInt c) rfl ?_)
  show wpAny _ _ (field (.ref e) 4 >>= _) _ _ ⟨g1, gs, dr, tk1, os⟩
  refine wpAny_bind (wpAny_field (s := ⟨g1, gs, dr, tk1, os⟩) e1 rfl (x := .none) rfl ?_)
  show wpAny _ _ (mkInt c >>= _) _ _ ⟨g1, gs, dr, tk1, os⟩
  refine wpAny_bind (wpAny_mkInt ?_)
  show wpAny _ _ (setField (.ref e) 3 (rawInt (c + 1)) >>= _) _ _ ⟨g1, gs, dr, tk1 + 1, os⟩
  refine wpAny_bind (wpAny_setField_rec (s := ⟨g1, gs, dr, tk1 + 1, os⟩) e1 (by simp) fun g2 e2 q2 => ?_)
  replace q2 : Heap.SameBut e g1 g2 := q2
  replace e2 : IsEnum g2 e z (c + 1) old := e2
  show wpAny _ _ (setField (.ref e) 4 .none >>= _) _ _ ⟨g2, gs, dr, tk1 + 1, os⟩
  refine wpAny_bind (wpAny_setField_rec (s := ⟨g2, gs, dr, tk1 + 1, os⟩) e2 (by simp) fun g3 e3 q3 => ?_)
  replace q3 : Heap.SameBut e g2 g3 := q3
  replace e3 : IsEnum g3 e z (c + 1) old := e3
  show wpAny _ _ (newTuple [.int c tk1, .ref hp.objs.size] >>= _) _ _ ⟨g3, gs, dr, tk1 + 1, os⟩
  refine wpAny_bind (wpAny_newTuple ?_)
  have s3 : g3.objs.size = hp.objs.size + 1 := by rw [q3.1, q2.1, s1]
  have up3 : ∀ b o, b ≠ e → g1.get? b = some o → (g3.push { cls := .type "tuple", data := .seq #[.int c tk1, .ref hp.objs.size] }).get? b = some o := fun b o k q => Heap.get?_push_of_some _ (q3.extBut _ _ k (q2.extBut _ _ k q))
  have t4 : IsTupOf2 (g3.push { cls := .type "tuple", data := .seq #[.int c tk1, .ref hp.objs.size] }) g3.objs.size (.int c tk1) (.ref hp.objs.size) := Heap.get?_push_size _ rfl
  have e4 : IsEnum (g3.push { cls := .type "tuple", data := .seq #[.int c tk1, .ref hp.objs.size] }) e z (c + 1) old := Heap.get?_push_of_some _ e3
  generalize g3.push { cls := .type "tuple", data := .seq #[.int c tk1, .ref hp.objs.size] } = g4 at up3 t4 e4
  rw [s3] at t4
  show wpAny _ _ (Builtin.SmallTypes.ownedTupleIsFree (.ref e) >>= _) _ _ ⟨g4, gs, dr, tk1 + 1, os⟩
  rw [s3]
  refine wpAny_bind ?_
  unfold Builtin.SmallTypes.ownedTupleIsFree
  refine wpAny_bind (wpAny_field (s := ⟨g4, gs, dr, tk1 + 1, os⟩) e4 rfl (x := .none) rfl (wpAny_pure ?_))
  simp only [if_true]
  refine wpAny_bind (wpAny_rule (wpAny_bind (wpAny_field (s := ⟨g4, gs, dr, tk1 + 1, os⟩) e4 rfl (x := old) rfl (wpAny_bind (wpAny_setField_rec (s := ⟨g4, gs, dr, tk1 + 1, os⟩) e4 (by simp) fun g5 e5 q5 => ?_)))))
  replace q5 : Heap.SameBut e g4 g5 := q5
  replace e5 : IsEnum g5 e z (c + 1) (.ref hp.objs.size) := e5
  show wpAny _ _ (Builtin.SmallTypes.ownedTupleHandOut (.ref e) (.ref (hp.objs.size + 1)) >>= _) _ _ ⟨g5, gs, dr, tk1 + 1, os⟩
  refine wpAny_bind ?_
  unfold Builtin.SmallTypes.ownedTupleHandOut
  refine wpAny_bind (wpAny_setField_rec (s := ⟨g5, gs, dr, tk1 + 1, os⟩) e5 (by simp) fun g6 e6 q6 => ?_)
  replace q6 : Heap.SameBut e g5 g6 := q6
  replace e6 : IsEnumOut g6 e z (c + 1) (.ref hp.objs.size) (hp.objs.size + 1) := e6
  refine wpAny_setField_rec (s := ⟨g6, gs, dr, tk1 + 1, os⟩) e6 (by simp) fun g7 e7 q7 => ?_
  replace q7 : Heap.SameBut e g6 g7 := q7
  replace e7 : IsEnumOut g7 e z (c + 1) (.ref hp.objs.size) (hp.objs.size + 1) := e7
  have up7 : ∀ b o, b ≠ e → g4.get? b = some o → g7.get? b = some o := fun b o k q => q7.extBut _ _ k (q6.extBut _ _ k (q5.extBut _ _ k q))
  have up : ∀ b o, b ≠ e → g1.get? b = some o → g7.get? b = some o := fun b o k q => up7 b o k (up3 b o k q)
  obtain ⟨v0, f, zf, hv⟩ := z1
  obtain ⟨d1, d2, o1⟩ := o1
  exact wpAny_bind (wpAny_letGo (wpAny_pure ⟨_, rfl, hQ x1 x2 g7 (tk1 + 1) tk1 px1 px2 e7 ⟨v0, f, up _ _ (Ne.symm G.z) zf, hv⟩ ⟨d1, d2, up _ _ (Ne.symm G.TO) o1⟩ (D1.frame _ _ _ j1 fun b hb o q => up b o (fun k => G.f1 (k ▸ hb)) q)
    (D2.frame _ _ _ j2 fun b hb o q => up b o (fun k => G.f2 (k ▸ hb)) q) (up _ _ (Nat.ne_of_gt le) t1) (up7 _ _ (Nat.ne_of_gt (Nat.lt_succ_of_lt le)) t4) fun b o a1 a2 a3 a4 a5 q => up b o a1 (k1 b o a2 a3 a4 a5 q)⟩))
end
end DL

set_option Elab.async false
set_option linter.all false
set_option maxRecDepth 100000
set_option maxHeartbeats 4000000
/-! for i, (a, b) in enumerate(zip(v1, v2)), part three. -/
namespace DL
open PySem PySem.Spec PyProof.Rows L2

theorem new_enumZ (z : Addr) : Meets (Builtin.«enumerate.__new__» ⟨[.type "enumerate", .ref z], []⟩) (fun _ R s => (∃ TI TO, IsZip s.heap z TI TO .none) ∧
      R (.ok (.ret (.ref s.heap.objs.size))) { s with heap := s.heap.push { cls := .type "enumerate", data := .fields #[.none, .bool false, .ref z, rawInt 0, .none, .none] } }) :=
  .of_wp fun P w A R s h => by
    obtain ⟨hp, gs, dr, tk, os⟩ := s
    obtain ⟨⟨TI, TO, hz⟩, h⟩ := h
    have sub := sub_enumerate
    have it : ∀ {A' : Around} {E : Value → Shared → Prop} {Q : Value → Shared → Prop}, Q (.ref z) ⟨hp, gs, dr, tk, os⟩ → wpAny (model P w) A' (pyIter (.ref z)) Q E ⟨hp, gs, dr, tk, os⟩ :=
      fun q => wpAny_pyIter_zip (s := ⟨hp, gs, dr, tk, os⟩) hz q
    wp_walk using it
    refine wpAny_stack_any fun st => wpAny_pure ?_
    split
    · rename_i c _ _ _ _ _
      cases (c == Value.type "enumerate")
      all_goals (wp_walk using it; exact ⟨_, rfl, h⟩)
    · wp_walk using it
      exact ⟨_, rfl, h⟩
section
variable {P : Program} {w : World} {A : Around} {E : Value → Shared → Prop} {s : Shared}
theorem call_enumZ {z TI TO : Addr} {Q : Value → Shared → Prop} (hz : IsZip s.heap z TI TO .none)
    (h : ∀ h', IsEnum h' s.heap.objs.size z 0 .none → (∀ b o, s.heap.get? b = some o → h'.get? b = some o) → Q (.ref s.heap.objs.size) { s with heap := h' }) :
    wpAny (model P w) A (call (.type "enumerate") [.ref z]) Q E s := by
  refine callType_new F.called_enumerate (by decide) (F.typeCall_enumerate_1 _) (F.newCall_enumerate_1 _) (fun obj => F.args_object_init_2 obj _) F.entry_enumerate_new (new_enumZ z) ⟨⟨TI, TO, hz⟩, ?_⟩
  have at' := Heap.get?_push_size s.heap (o := { cls := .type "enumerate", data := .fields #[.none, .bool false, .ref z, rawInt 0, .none, .none] }) rfl
  show _ ∧ _
  exact ⟨⟨_, at', rfl⟩, h _ at' fun b o q => Heap.get?_push_of_some _ q⟩
end
def ItezS (K : PySem.W.Frag) (S1 S2 : SrcV) : L2.It :=
  ⟨fun i H => ∃ xs ys, S1.At K H xs ∧ S2.At K H ys ∧ i < xs.length ∧ i < ys.length,
    fun i H v H' => ∃ T U x y, v = .ref U ∧ H T = none ∧ H U = none ∧ U ≠ T ∧ H' = upd (upd H T (.tup [x, y])) U (.tup [.int (i : Nat), .ref T]) ∧ (∀ xs, S1.At K H xs → xs[i]? = some x) ∧ ∀ ys, S2.At K H ys → ys[i]? = some y,
    fun i H => ∃ xs ys, S1.At K H xs ∧ S2.At K H ys ∧ i = min xs.length ys.length⟩
theorem turn_enumZ {P : Program} {w : World} {K : PySem.W.Frag} {elts : List Expr} {kk : Nat} {tpos : Pos} {S1 S2 : SrcV} {e z TI TO i1 i2 : Addr} (D : ZApart S1 S2 z TI TO i1 i2) (G : EApart e z TI TO i1 i2 (i1 :: S1.ad) (i2 :: S2.ad)) :
    Turn P w K (.Tuple elts kk tpos) (ItezS K S1 S2) [e, z, TI, TO, i1, i2] e (fun i h => (∃ old, IsEnum h e z (i : Int) old) ∧ ZAny h z TI TO ∧ IsTupOf2 h TI (.ref i1) (.ref i2) ∧ (∃ x y, IsTupOf2 h TO x y) ∧ S1.It i1 i h ∧ S2.It i2 i h) where
  mem := by simp
  obj := fun i h st c hc => by
    obtain ⟨⟨old, he⟩, ⟨v0, f, hz, _⟩, hTI, ⟨x, y, hTO⟩, h1, h2⟩ := st
    have e' : c = e ∨ c = z ∨ c = TI ∨ c = TO ∨ c = i1 ∨ c = i2 := by simpa using hc
    rcases e' with q | q | q | q | q | q
    · rw [q]; exact ⟨_, he, fun v q => nomatch q⟩
    · rw [q]; exact ⟨_, hz, fun v q => nomatch q⟩
    · rw [q]; exact ⟨_, hTI, fun v q => nomatch q⟩
    · rw [q]; exact ⟨_, hTO, fun v q => nomatch q⟩
    · rw [q]; exact h1.obj
    · rw [q]; exact h2.obj
  keep := fun i h h' st k => by
    obtain ⟨⟨old, he⟩, ⟨v0, f, hz, hv⟩, hTI, ⟨x, y, hTO⟩, h1, h2⟩ := st
    exact ⟨⟨old, k e (by simp) _ he⟩, ⟨v0, f, k z (by simp) _ hz, hv⟩, k TI (by simp) _ hTI, ⟨x, y, k TO (by simp) _ hTO⟩, h1.keep fun o q => k i1 (by simp) o q, h2.keep fun o q => k i2 (by simp) o q⟩
  item := by
    intro X hP hw hK hc i pins s σ H E I hf st hg
    subst hP hw hK
    obtain ⟨⟨old, he⟩, hz, hTI, ⟨x0, y0, hTO⟩, h1, h2⟩ := st
    obtain ⟨xs, ys, hqx, hqy, hx, hy⟩ := hg
    have hh : X.A.in1.in1.handled = none := I.ok.hd hc
    have m : ∀ b ∈ [e, z, TI, TO, i1, i2], b < s.heap.objs.size := fun b hb => by
      have e' : b = e ∨ b = z ∨ b = TI ∨ b = TO ∨ b = i1 ∨ b = i2 := by simpa using hb
      rcases e' with q | q | q | q | q | q
      · rw [q]; exact Heap.lt_size he
      · rw [q]; obtain ⟨v0, f, hz, _⟩ := hz; exact Heap.lt_size hz
      · rw [q]; exact Heap.lt_size hTI
      · rw [q]; exact Heap.lt_size hTO
      · rw [q]; obtain ⟨_, e1, _⟩ := h1.obj; exact Heap.lt_size e1
      · rw [q]; obtain ⟨_, e2, _⟩ := h2.obj; exact Heap.lt_size e2
    obtain ⟨St1, D1, st1, b1⟩ := src_drawsA hh I hqx (fun h => D.a1 _ h (by simp)) i h1
    obtain ⟨St2, D2, st2, b2⟩ := src_drawsA hh I hqy (fun h => D.a2 _ h (by simp)) i h2
    have ty : s.TypeIs (.ref e) "enumerate" := ⟨_, he, rfl⟩
    unfold pyNext
    refine wpAny_bind (wpAny_attempt (wpAny_callSpecial?_slot (name := Str.ofString "__next__") ty F.slot_enumerate_next (wpAny_call_entry F.slot_enumerate_next ty F.entry_enumerate_next
      (enumZ_item D.sep G D1 D2 he hz hTI hTO st1 st2 hx hy fun u1 u2 h' tk tk' hp1 hp2 ho hz' hTO' t1 t2 tT tU hk => wpAny_pure ?_) (F.args_enumerate_next_1 _))))
    refine ⟨_, rfl, wpAny_letOwnedTupleGo_enum (s := { s with heap := h', toks := tk }) ho fun h2' he' sb => ?_⟩
    obtain ⟨x, ex, rx⟩ := hp1
    obtain ⟨y, ey, ry⟩ := hp2
    obtain ⟨v0', f', zf, hv'⟩ := hz'
    obtain ⟨d1, d2, hTO'⟩ := hTO'
    have le : e < s.heap.objs.size := Heap.lt_size he
    have sbk : ∀ b o, b ≠ e → h'.get? b = some o → h2'.get? b = some o := fun b o k q => (sb.2 b k).trans q
    have lU : (s.heap.objs.size : Nat) ≤ s.heap.objs.size + 1 := Nat.le_succ _
    have neUT : (s.heap.objs.size + 1 : Addr) ≠ s.heap.objs.size := Nat.succ_ne_self _
    have n1 : ObjOk X.prog X.w (upd (upd H s.heap.objs.size (.tup [x, y])) (s.heap.objs.size + 1) (.tup [.int (i : Nat), .ref s.heap.objs.size])) h2' s.heap.objs.size (.tup [x, y]) :=
      ⟨by show 2 ≤ sizeLine; decide, [u1, u2], .cons rx (.cons ry .nil), ⟨_, sbk _ _ (Nat.ne_of_gt le) tT, rfl, _, rfl⟩⟩
    have n2 : ObjOk X.prog X.w (upd (upd H s.heap.objs.size (.tup [x, y])) (s.heap.objs.size + 1) (.tup [.int (i : Nat), .ref s.heap.objs.size])) h2' (s.heap.objs.size + 1) (.tup [.int (i : Nat), .ref s.heap.objs.size]) :=
      ⟨by show 2 ≤ sizeLine; decide, [.int (i : Nat) tk', .ref s.heap.objs.size], .cons ⟨tk', rfl⟩ (.cons rfl .nil), ⟨_, sbk _ _ (Nat.ne_of_gt (Nat.lt_succ_of_lt le)) tU, rfl, _, rfl⟩⟩
    have frame : ∀ c o, c ∉ [e, z, TI, TO, i1, i2] → s.heap.get? c = some o → h2'.get? c = some o := fun c o hb q => by
      have e' : ¬ (c = e ∨ c = z ∨ c = TI ∨ c = TO ∨ c = i1 ∨ c = i2) := by simpa using hb
      exact sbk c o (fun q => e' (.inl q)) (hk c o (fun q => e' (.inl q)) (fun q => e' (.inr (.inl q))) (fun q => e' (.inr (.inr (.inr (.inl q))))) (fun q => e' (.inr (.inr (.inr (.inr (.inl q)))))) (fun q => e' (.inr (.inr (.inr (.inr (.inr q)))))) q)
    have I1 := turned_two (t' := tk) I frame hf (Nat.le_refl _) lU neUT n1 n2
    have nd := D.nd
    simp only [List.nodup_cons, List.mem_cons, List.not_mem_nil, or_false, not_or, not_false_eq_true, List.nodup_nil, and_true] at nd
    have fT : H s.heap.objs.size = none := I.hok.fresh (Nat.le_refl _)
    have fU : H (s.heap.objs.size + 1) = none := I.hok.fresh lU
    refine ⟨.ref (s.heap.objs.size + 1), _, I1, rfl, ⟨s.heap.objs.size, s.heap.objs.size + 1, x, y, rfl, fT, fU, neUT, rfl, fun l hl => by rw [src_inj I hl hqx]; exact ex, fun l hl => by rw [src_inj I hl hqy]; exact ey⟩,
      ⟨⟨.ref s.heap.objs.size, ?_⟩, ⟨v0', f', sbk _ _ (Ne.symm G.z) zf, hv'⟩, sbk _ _ (Ne.symm G.TI) (hk _ _ (Ne.symm G.TI) (Ne.symm nd.1.1) nd.2.1.1 nd.2.1.2.1 nd.2.1.2.2 hTI), ⟨d1, d2, sbk _ _ (Ne.symm G.TO) hTO'⟩,
        (b1 _ _ t1).keep fun o q => sbk _ _ (fun k => G.f1 (by rw [← k]; exact List.mem_cons_self)) q, (b2 _ _ t2).keep fun o q => sbk _ _ (fun k => G.f2 (by rw [← k]; exact List.mem_cons_self)) q⟩, fun c hcm => ?_⟩
    · have e1 : ((i + 1 : Nat) : Int) = (i : Int) + 1 := by omega
      rw [e1]
      exact he'
    · rw [upd_ne (Nat.ne_of_lt (Nat.lt_of_lt_of_le (m c hcm) lU)), upd_ne (Nat.ne_of_lt (m c hcm))]
      exact (hf c hcm).1
  done := by
    intro X hP hw hK hc i pins s σ H E I hf st hg
    subst hP hw hK
    obtain ⟨⟨old, he⟩, hz, hTI, ⟨x0, y0, hTO⟩, h1, h2⟩ := st
    obtain ⟨xs, ys, hqx, hqy, hi⟩ := hg
    have hh : X.A.in1.in1.handled = none := I.ok.hd hc
    obtain ⟨St1, D1, st1, b1⟩ := src_drawsA hh I hqx (fun h => D.a1 _ h (by simp)) i h1
    obtain ⟨St2, D2, st2, b2⟩ := src_drawsA hh I hqy (fun h => D.a2 _ h (by simp)) i h2
    have ty : s.TypeIs (.ref e) "enumerate" := ⟨_, he, rfl⟩
    unfold pyNext
    refine wpAny_bind (wpAny_attempt (wpAny_callSpecial?_slot (name := Str.ofString "__next__") ty F.slot_enumerate_next (wpAny_call_entry F.slot_enumerate_next ty F.entry_enumerate_next ?_ (F.args_enumerate_next_1 _))))
    show wpAny _ _ (field (.ref e) 2 >>= _) _ _ _
    refine wpAny_bind (wpAny_field he rfl (x := .ref z) rfl (wpAny_bind (nextOf_zipEnd D.sep D1 D2 hz hTI hTO st1 st2 hi fun h' tk x hk hx' => ?_)))
    obtain ⟨o, ho, hcl⟩ := hx'
    refine wpAny_bind (wpAny_isInstance (T := "StopIteration") (b := true) ⟨o, ho, hcl⟩ isSubtype_stop (wpAny_pure ⟨rfl, ?_⟩))
    exact I.turnedL (t' := tk) (ch := [e, z, TI, TO, i1, i2]) (fun c o hb q => by
      have e' : ¬ (c = e ∨ c = z ∨ c = TI ∨ c = TO ∨ c = i1 ∨ c = i2) := by simpa using hb
      exact hk c o (fun q => e' (.inr (.inl q))) (fun q => e' (.inr (.inr (.inr (.inl q))))) (fun q => e' (.inr (.inr (.inr (.inr (.inl q)))))) (fun q => e' (.inr (.inr (.inr (.inr (.inr q)))))) q) hf
  self := fun A i s Q E st h => let ⟨⟨_, he⟩, _⟩ := st; wpAny_pyIter_enum he h
end DL

set_option Elab.async false
set_option linter.all false
set_option maxRecDepth 100000
set_option maxHeartbeats 4000000
/-! for i, (a, b) in enumerate(zip(v1, v2)), part four. -/
namespace DL
open PySem PySem.Spec PyProof.Rows L2

def iEzS (K : PySem.W.Frag) (ta : TA) : TI := fun σ H R => ta σ H fun vs H1 => ∃ S1 S2 xs ys, vs = [S1.v, S2.v] ∧ S1.At K H1 xs ∧ S2.At K H1 ys ∧ R (ItezS K S1 S2) H1
theorem not_below {N k : Nat} {l : List Addr} (h : ∀ a ∈ l, a < N) : (N + k : Nat) ∉ l := fun q => absurd (h _ q) (Nat.not_lt.mpr (Nat.le_add_right _ _))
theorem not_cons {a b : Addr} {l : List Addr} (h1 : a ≠ b) (h2 : a ∉ l) : a ∉ b :: l := fun h => (List.mem_cons.mp h).elim h1 h2
theorem pi_enumZ {X : Cx} {a b : Expr} {ta : TA} {p p2 pos pos2 tpos : Pos} {elts : List Expr} {kk : Nat} (hg : Gl X "enumerate") (hm : X.mg "enumerate" = none) (hgz : Gl X "zip") (hmz : X.mg "zip" = none) (ha : PA X [a, b] ta)
    (hs : starEach [.Call (.Name "zip" p2) [a, b] [] pos2] X.env = (false, eval (.Call (.Name "zip" p2) [a, b] [] pos2) X.env) :: starEach [] X.env := by rfl)
    (hs2 : starEach [a, b] X.env = (false, eval a X.env) :: starEach [b] X.env := by rfl) (hpl : (backTo pos2 (starEach [b] X.env)).any (·.1) = false := by rfl) :
    PI X (.Tuple elts kk tpos) (.Call (.Name "enumerate" p) [.Call (.Name "zip" p2) [a, b] [] pos2] [] pos) (iEzS X.K ta) := by
  refine ⟨fun pins s σ H R I h => ?_⟩
  refine Call_ (ld_blt I hg hm boot_enumerate (PyProof.Rows.callWith_type1 ?_ hs rfl))
  rw [hs]
  show wpAny _ _ (spliced ((false, eval (.Call (.Name "zip" p2) [a, b] [] pos2) X.env) :: backTo pos (starEach [] X.env))) _ _ s
  refine Calls.spliced_cons ?_
  refine Call_ (ld_blt I hgz hmz PyProof.Rows.boot_zip (PyProof.Rows.callWith_type1 (thn (ha.run pos2 pins s σ H _ I h) fun us s1 ⟨vs, H1, I1, r1, q1⟩ => ?_) hs2 hpl))
  obtain ⟨S1, S2, xs, ys, ex, hqx, hqy, q⟩ := q1
  subst ex
  obtain ⟨u1, u2, rfl, ru1, ru2⟩ := Vals.two r1
  obtain ⟨o1, Hb1, B1, k1, f1⟩ := src_begins I1 hqx ru1
  obtain ⟨o2, Hb2, B2, k2, f2⟩ := src_begins I1 hqy ru2
  have l1 := src_lt I1 hqx
  have l2 := src_lt I1 hqy
  refine zip_begins2 B1 B2 k1 k2 fun h' hz hTI hTO h1 h2 hsz hk => Calls.spliced_nil ?_
  have I2 : L2.Inv X pins σ H1 { s1 with heap := h' } := I1.kept (t' := s1.toks) hk
  refine call_enumZ (s := { s1 with heap := h' }) hz fun g he hgk => wpAny_pyIter_enum (s := { s1 with heap := g }) he ?_
  have I3 : L2.Inv X pins σ H1 { s1 with heap := g } := I2.kept (t' := s1.toks) hgk
  have hsz' : h'.objs.size = s1.heap.objs.size + 5 := hsz
  have nle : ∀ {c : Addr} {l : List Addr}, s1.heap.objs.size ≤ c → (∀ a ∈ l, a < s1.heap.objs.size) → c ∉ l := fun hc hl hm => absurd (hl _ hm) (Nat.not_lt.mpr hc)
  have mem5 : ∀ {c : Addr}, c ∈ [(s1.heap.objs.size + 4 : Addr), s1.heap.objs.size + 2, s1.heap.objs.size + 3, s1.heap.objs.size, s1.heap.objs.size + 1] → s1.heap.objs.size ≤ c := fun {c} hm => by
    have e' : c = s1.heap.objs.size + 4 ∨ c = s1.heap.objs.size + 2 ∨ c = s1.heap.objs.size + 3 ∨ c = s1.heap.objs.size ∨ c = s1.heap.objs.size + 1 := by simpa using hm
    rcases e' with z | z | z | z | z <;> rw [z] <;> first | exact Nat.le_refl _ | exact Nat.le_add_right _ _
  have hD : ZApart S1 S2 (s1.heap.objs.size + 4) (s1.heap.objs.size + 2) (s1.heap.objs.size + 3) s1.heap.objs.size (s1.heap.objs.size + 1) :=
    ⟨fun a ha hm => nle (mem5 hm) l1 ha, fun a ha hm => nle (mem5 hm) l2 ha, by simp [Addr]⟩
  have big : ∀ (k : Nat), k < 5 → h'.objs.size ≠ s1.heap.objs.size + k := fun k hk => by
    rw [hsz']
    omega
  have hG : EApart h'.objs.size (s1.heap.objs.size + 4) (s1.heap.objs.size + 2) (s1.heap.objs.size + 3) s1.heap.objs.size (s1.heap.objs.size + 1) (s1.heap.objs.size :: S1.ad) ((s1.heap.objs.size + 1) :: S2.ad) := by
    have hge : (s1.heap.objs.size : Nat) ≤ h'.objs.size := by rw [hsz']; exact Nat.le_add_right _ _
    exact ⟨big 4 (by decide), big 2 (by decide), big 3 (by decide), not_cons (big 0 (by decide)) (nle hge l1), not_cons (big 1 (by decide)) (nle hge l2)⟩
  refine ⟨h'.objs.size, [h'.objs.size, s1.heap.objs.size + 4, s1.heap.objs.size + 2, s1.heap.objs.size + 3, s1.heap.objs.size, s1.heap.objs.size + 1], _, _, H1, rfl, I3, turn_enumZ hD hG,
    ⟨⟨.none, he⟩, ⟨.none, false, hgk _ _ hz, .inl rfl⟩, hgk _ _ hTI, ⟨_, _, hgk _ _ hTO⟩, f1 _ _ (hgk _ _ h1), f2 _ _ (hgk _ _ h2)⟩, fun c hcm => ?_, q⟩
  have hle : s1.heap.objs.size ≤ c := by
    rcases List.mem_cons.mp hcm with z | z
    · rw [z, hsz']; exact Nat.le_add_right _ _
    · exact mem5 z
  exact I1.fpOk hle (I1.hok.fresh hle)
section
variable {K : PySem.W.Frag} {N : Hid} {μ : Mu} {H : Hp}
theorem yld_enumZ {S1 S2 : SrcV} {vs ws : List V} {xs ys : List Dt} (r1 : RpAll N μ H vs xs) (r2 : RpAll N μ H ws ys) (h1 : ∀ μ' H', Stp μ H μ' H' → S1.At K H' vs) (h2 : ∀ μ' H', Stp μ H μ' H' → S2.At K H' ws) : Yld N μ H (ItezS K S1 S2) (enumD 0 (zipD xs ys)) where
  go := fun N' i μ' H' hn e R hi => by
    rw [enumD_length, zipD_length] at hi
    exact ⟨vs, ws, h1 _ _ e, h2 _ _ e, by rw [r1.length]; omega, by rw [r2.length]; omega⟩
  yl := fun N' i μ' H' v H2 hn e R hi y => by
    obtain ⟨T, U, x, y, rfl, hT, hU, ne, rfl, e1, e2⟩ := y
    obtain ⟨d1, q1, p1⟩ := (r1.later hn e).getV (e1 _ (h1 _ _ e))
    obtain ⟨d2, q2, p2⟩ := (r2.later hn e).getV (e2 _ (h2 _ _ e))
    have q3 := enumD_get (k := 0) (zipD_get q1 q2)
    rw [Nat.zero_add] at q3
    have R1 : Rep N' μ' (upd H' T (.tup [x, y])) := R.new hT
    have rT : Rp N' μ' (upd H' T (.tup [x, y])) (.ref T) (.tup [d1, d2]) := Rp.newTup R hT (.cons p1 (.cons p2 .nil))
    have hU' : (upd H' T (.tup [x, y])) U = none := by rw [upd_ne ne]; exact hU
    exact ⟨(stp_new hT).trans (stp_new hU'), R1.new hU', _, q3, Rp.newTup R1 hU' (.cons (.int _) (.cons rT .nil))⟩
  st := fun N' μ' H' hn e R => ⟨vs, ws, h1 _ _ e, h2 _ _ e, by rw [enumD_length, zipD_length, r1.length, r2.length]⟩
end
def iEnumZD (da : DA) : DI := fun ρ μ K => da ρ μ fun xs μ1 => ∃ x y a b, xs = [x, y] ∧ srcD x = some a ∧ srcD y = some b ∧ K (enumD 0 (zipD a b)) μ1
theorem di_enumZ {X : Cx} {a b : Expr} {ta : TA} {da : DA} {p p2 pos pos2 tpos : Pos} {elts : List Expr} {kk : Nat} (hg : Gl X "enumerate") (hm : X.mg "enumerate" = none) (hgz : Gl X "zip") (hmz : X.mg "zip" = none) (ha : DPa X [a, b] ta da)
    (hs : starEach [.Call (.Name "zip" p2) [a, b] [] pos2] X.env = (false, eval (.Call (.Name "zip" p2) [a, b] [] pos2) X.env) :: starEach [] X.env := by rfl)
    (hs2 : starEach [a, b] X.env = (false, eval a X.env) :: starEach [b] X.env := by rfl) (hpl : (backTo pos2 (starEach [b] X.env)).any (·.1) = false := by rfl) :
    DPi X (.Tuple elts kk tpos) (.Call (.Name "enumerate" p) [.Call (.Name "zip" p2) [a, b] [] pos2] [] pos) (iEzS X.K ta) (iEnumZD da) :=
  ⟨pi_enumZ hg hm hgz hmz ha.p hs hs2 hpl, fun N σ H ρ μ Kd R Rp' S h q => ha.a N σ H ρ μ _ _ Rp' S h fun vs H1 μ1 ds e1 R1 rs ⟨x, y, xs, ys, ed, hx, hy, k⟩ => by
    subst ed
    obtain ⟨v, w, rfl, r1, r2⟩ := rs.inv2
    obtain ⟨S1, vs1, rfl, p1, k1⟩ := r1.src (K := X.K) hx
    obtain ⟨S2, vs2, rfl, p2, k2⟩ := r2.src (K := X.K) hy
    exact ⟨S1, S2, vs1, vs2, rfl, k1 _ _ Stp.refl, k2 _ _ Stp.refl, q _ H1 μ1 _ e1 R1 (yld_enumZ p1 p2 k1 k2) k⟩⟩
end DL

set_option Elab.async false
set_option linter.all false
set_option maxRecDepth 100000
set_option maxHeartbeats 4000000
/-! sorted(a list of texts), sorted(a text). -/
namespace DL
open PySem PySem.Spec PyProof.Rows L2

/-! ### the plain words -/
theorem rising_all : ∀ {p : Str} {r : List Str}, risingS p r = true → ∀ y ∈ r, ¬ y.cps.toList < p.cps.toList
  | p, [], _, y, hy => by cases hy
  | p, x :: r, h, y, hy => by
    unfold risingS at h
    rw [Bool.and_eq_true, ltCps_eq] at h
    have h1 : ¬ x.cps.toList < p.cps.toList := by
      have := h.1
      simpa using this
    rcases List.mem_cons.mp hy with e | hy
    · rw [e]
      exact h1
    · intro q
      exact rising_all h.2 y hy (by
        rcases Classical.em (y.cps.toList < x.cps.toList) with r | r
        · exact r
        · exact absurd (List.lt_of_le_of_lt (List.not_lt.mp r) q) h1)
theorem rising_sorted : ∀ {p : Str} {r : List Str}, risingS p r = true → sortedS r = true
  | _, [], _ => rfl
  | p, x :: r, h => by
    unfold risingS at h
    rw [Bool.and_eq_true] at h
    exact h.2
theorem sortedS_unique : ∀ {xs ys : List Str}, sortedS xs = true → sortedS ys = true → xs.Perm ys → xs = ys
  | [], ys, _, _, h => (List.nil_perm.mp h).symm
  | x :: xs, [], _, _, h => by
    have := h.length_eq
    simp at this
  | x :: xs, y :: ys, h1, h2, h => by
    have e : x = y := by
      have a1 : y = x ∨ ¬ y.cps.toList < x.cps.toList := by
        rcases List.mem_cons.mp (h.mem_iff.mpr (List.mem_cons_self (a := y) (l := ys))) with q | q
        · exact .inl q
        · exact .inr (rising_all h1 y q)
      have a2 : x = y ∨ ¬ x.cps.toList < y.cps.toList := by
        rcases List.mem_cons.mp (h.mem_iff.mp (List.mem_cons_self (a := x) (l := xs))) with q | q
        · exact .inl q
        · exact .inr (rising_all h2 x q)
      rcases a1 with q | q
      · exact q.symm
      · rcases a2 with q2 | q2
        · exact q2
        · have : x.cps.toList = y.cps.toList := List.le_antisymm (List.not_lt.mp q) (List.not_lt.mp q2)
          exact TL.ext_tl this
    subst e
    rw [sortedS_unique (rising_sorted h1) (rising_sorted h2) ((List.perm_cons x).mp h)]

/-! ### sorted(a text) -/
section
variable {P : Program} {w : World} {A : Around} {E : Value → Shared → Prop} {s : Shared}
theorem collect_text {Q : List Value → Shared → Prop} (hh : A.handled = none) (x : Str) (t : Tok) (hn : x.cps.size ≤ sizeLine)
    (hQ : ∀ (h' : Heap) (tk : Nat) (acc : Array Value), (∀ b o, s.heap.get? b = some o → h'.get? b = some o) → ItemsOf (SignAt x) acc x.cps.size → Q acc.toList { s with heap := h', toks := tk }) :
    wpAny (model P w) A (collect (.str x t)) Q E s := by
  unfold collect
  refine wpAny_bind (wpAny_runValue (codeAny_builtin F.entry_proto_collect ?_))
  rw [Around.under_plainId F.plain_proto_collect _]
  show wpAny _ A.in1 (newList [] >>= fun l => again (.builtin "list.__iadd__" ⟨[l, .str x t], []⟩)) _ _ s
  refine wpAny_bind (wpAny_newObj_type (wpAny_pure ⟨plainId_quiet F.plain_list_iadd _, codeAny_builtin F.entry_list_iadd ?_⟩))
  rw [Around.under_plainId F.plain_list_iadd _]
  have hS : (s.heap.push { cls := .type "list", data := .seq ([] : List Value).toArray }).get? s.heap.objs.size = some { cls := .type "list", data := .seq #[] 0 } := Heap.get?_push_size _ rfl
  have old : ∀ b o, s.heap.get? b = some o → b ≠ s.heap.objs.size ∧ (s.heap.push { cls := .type "list", data := .seq ([] : List Value).toArray }).get? b = some o := fun b o q => ⟨Nat.ne_of_lt (Heap.lt_size q), Heap.get?_push_of_some _ q⟩
  refine wpAny_mono (wpAny_extend_str (prog := P) (w := w) (A := A) (s := { s with heap := s.heap.push { cls := .type "list", data := .seq ([] : List Value).toArray } })
    (R := fun rr s' => rr = .ok (.ret (.ref s.heap.objs.size)) ∧ ∃ (g : Heap) (tk : Nat) (acc : Array Value) (c : Nat), s' = { s with heap := g, toks := tk } ∧ (∀ b o, s.heap.get? b = some o → g.get? b = some o) ∧ g.get? s.heap.objs.size = some { cls := .type "list", dict := none, data := .seq acc c, slots := #[] } ∧ ItemsOf (SignAt x) acc x.cps.size)
    hh x t s.heap.objs.size (.ref s.heap.objs.size) 0 hS (fun g tk acc c k e hi => ⟨rfl, g, tk, acc, c, rfl, fun b o q => k b o (old b o q).1 (old b o q).2, e, hi⟩) hn) (fun fin s' h => ?_) (fun e s' h => ?_)
  · cases fin with
    | done f =>
      obtain ⟨e, g, tk, acc, c, rfl, k, at', hi⟩ := h
      cases e
      show wpAny _ A (load s.heap.objs.size >>= _) _ _ _
      exact wpAny_bind (wpAny_load at' (wpAny_pure (hQ g tk acc k hi)))
    | again c' =>
      refine ⟨h.1, codeAny_mono h.2 fun rr s2 q => ?_⟩
      obtain ⟨rfl, g, tk, acc, c, rfl, k, at', hi⟩ := q
      show wpAny _ A (load s.heap.objs.size >>= _) _ _ _
      exact wpAny_bind (wpAny_load at' (wpAny_pure (hQ g tk acc k hi)))
  · exact absurd h.1 (by simp)
theorem strsAre_of : ∀ {us : List Value} {xs : List Str}, Vals (xs.map V.str) us → StrsAre us xs
  | us, [], h => by
    cases h
    exact .nil
  | us, x :: xs, h => by
    rw [List.map_cons] at h
    cases h with
    | cons r rr =>
      obtain ⟨t, e⟩ := r
      subst e
      exact .cons x t (strsAre_of rr)
theorem sorted_text {Q : Value → Shared → Prop} (hh : A.handled = none) (x : Str) (t : Tok) (hn : x.cps.size ≤ sizeLine)
    (hQ : ∀ (g h' : Heap) (tk : Nat) (out : List Value) (c : Nat) (ys : List Str), (∀ b o, s.heap.get? b = some o → g.get? b = some o) → (∀ b o, g.get? b = some o → h'.get? b = some o) → h'.get? g.objs.size = some { cls := .type "list", dict := none, data := .seq out.toArray c, slots := #[] } →
      StrsAre out ys → ys.Perm (x.cps.toList.map fun c => ⟨#[c]⟩) → sortedS ys = true → Q (.ref g.objs.size) { s with heap := h', toks := tk }) :
    wpAny (model P w) A (call (.builtin "sorted") [.str x t]) Q E s := by
  refine Calls.call_function_entry kind_sorted plain_sorted entry_sorted (args_sorted1 _) ?_
  unfold Builtin.«sorted»
  refine wpAny_bind (m := checkCount "sorted" 1 1 _) (wpAny_pure ?_)
  refine wpAny_bind (collect_text (A := A.in1) hh x t hn fun g tk acc k hi => ?_)
  have szl0 : acc.toList.length ≤ sizeLine := by
    rw [Array.length_toList, hi.1]
    exact hn
  refine wpAny_bind (wpAny_newList ?_ szl0)
  have vals := signs_vals hi
  have hS : StrsAre acc.toList (x.cps.toList.map fun c => (⟨#[c]⟩ : Str)) := by
    refine strsAre_of ?_
    rw [List.map_map]
    exact vals
  have at' : (g.push (seqObj "list" acc.toList.toArray 0)).get? g.objs.size = some (seqObj "list" acc.toList.toArray 0) := Heap.get?_push_size _ rfl
  have hL : acc.toList.length ≤ sizeLine := by
    rw [Array.length_toList, hi.1]
    exact hn
  show wpAny _ _ _ _ _ { s with heap := g.push (seqObj "list" acc.toList.toArray 0), toks := tk }
  refine wpAny_bind (wpAny_holding (wpAny_call_entry slot_list_sort ⟨_, at', rfl⟩ entry_list_sort (list_sort_treeKAny (s := { s with heap := g.push (seqObj "list" acc.toList.toArray 0), toks := tk }) strKind_oneLt at' hS.keysOf (fun v₁ v₂ rest e => keyKind_strs (by rw [← e]; exact hS)) hL
    fun st' hp hs => ⟨_, rfl, ?_⟩) (args_list_sort _)))
  obtain ⟨ys, q1, q2, q3⟩ := sorted_out_str hS hp hs
  obtain ⟨c, e⟩ := sortedHeap_at (vs := acc.toList) (out := (arrOf st').map (·.2)) at'
  refine wpAny_pure ⟨_, rfl, hQ g _ tk ((arrOf st').map (·.2)).toList c ys k (fun b o hb => ?_) ?_ q1 q2 q3⟩
  · rw [sortedHeap_old (Nat.ne_of_lt (Heap.lt_size hb)) (Heap.lt_size (Heap.get?_push_of_some _ hb))]
    exact Heap.get?_push_of_some _ hb
  · rw [e]
end
section
variable {X : Cx}
/-- sorted of a list of texts, of a text -/
def rSortTx (K : PySem.W.Frag) : List V → Hp → VK → Prop := fun vs H Q => (∃ (a : Addr) (xs : List Str), vs = [V.ref a] ∧ SqL K H a (xs.map V.str) ∧
    ∀ (ys : List Str) (p : Addr), ys.Perm xs → sortedS ys = true → H p = none → Q (.ref p) (upd H p (.lst (ys.map V.str)))) ∨
  ∃ x : Str, vs = [V.str x] ∧ x.cps.size ≤ sizeLine ∧ ∀ (ys : List Str) (p : Addr), ys.Perm (x.cps.toList.map fun c => ⟨#[c]⟩) → sortedS ys = true → H p = none → Q (.ref p) (upd H p (.lst (ys.map V.str)))
theorem cr_sortTx (hc : X.calm = true) : CallR X (.builtin "sorted") (rSortTx X.K) := by
  intro pins s σ H vs us Q I r h
  rcases h with ⟨a, xs, rfl, hs, q⟩ | ⟨x, rfl, hx, q⟩
  · obtain ⟨its, rv, hl, hz⟩ := I.list hs
    rw [List.length_map] at hz
    obtain ⟨u, rfl, ru⟩ := vals1 r
    cases (show u = Value.ref a from ru)
    have hlen := rv.length
    rw [List.length_map] at hlen
    refine sorted_strsAny hl.isList rv.strs (by rw [← hlen]; exact hz) fun out ys h1 h2 h3 => ?_
    obtain ⟨ep, he⟩ := sortedAll_at s.heap its out
    have hy : (ys.map V.str).length ≤ sizeLine := by
      rw [List.length_map, h2.length_eq]
      exact hz
    exact ⟨.ref _, _, I.laid (t' := s.toks) (fun _ _ => sortedAll_old) (Nat.le_succ _) (show ObjOk X.prog X.w _ (sortedAll s.heap its out) _ (.lst (ys.map V.str)) from ⟨hy, out.toList, ep, vals_of_strs h1, he⟩), rfl, q ys _ h2 h3 (I.hok.fresh (Nat.le_succ _))⟩
  · obtain ⟨u, rfl, t, rfl⟩ := vals1 r
    refine sorted_text (I.ok.hd hc) x t hx fun g h' tk out c ys k1 k2 at' h1 h2 h3 => ?_
    have I1 : L2.Inv X pins σ H { s with heap := g } := I.kept (t' := s.toks) k1
    have hy : (ys.map V.str).length ≤ sizeLine := by
      rw [List.length_map, h2.length_eq, List.length_map, Array.length_toList]
      exact hx
    exact ⟨.ref _, _, I1.laid (t' := tk) k2 (Nat.le_refl _) (show ObjOk X.prog X.w _ h' _ (.lst (ys.map V.str)) from ⟨hy, out, c, vals_of_strs h1, at'⟩), rfl, q ys _ h2 h3 (I1.hok.fresh (Nat.le_refl _))⟩
/-- the texts in order -/
def srtD (zs out : List (List Nat)) : Prop := out.Perm zs ∧ sortedS (out.map mkS) = true
theorem srtD_unique {zs ys a b : List (List Nat)} (h1 : srtD zs a) (h2 : srtD ys b) : a = b ↔ zs.Perm ys := by
  constructor
  · intro e
    subst e
    exact h1.1.symm.trans h2.1
  · intro p
    have e := sortedS_unique h1.2 h2.2 (((h1.1.trans p).trans h2.1.symm).map mkS)
    exact List.map_inj_right (fun x y h => mkS_inj h) |>.mp e
def rdSortT : RCD
  | [.lst xs], μ, K => ∃ zs, xs = zs.map .str ∧ ∀ out : List (List Nat), srtD zs out → K (.lst (out.map .str)) μ
  | [.str z], μ, K => z.length ≤ 1000000 ∧ ∀ out : List (List Nat), srtD (z.map fun c => [c]) out → K (.lst (out.map .str)) μ
  | _, _, _ => False
theorem strs_back {N : Hid} {μ : Mu} {H : Hp} : ∀ {zs : List (List Nat)}, (∀ z ∈ zs, ∀ c ∈ z, c < 0x110000) → RpAll N μ H ((zs.map mkS).map V.str) (zs.map .str)
  | [], _ => .nil
  | z :: zs, h => .cons (.str z (h z List.mem_cons_self)) (strs_back fun y hy => h y (List.mem_cons_of_mem _ hy))
theorem perm_mkS {ys : List Str} {zs : List (List Nat)} (h : ys.Perm (zs.map mkS)) : ∃ out : List (List Nat), ys = out.map mkS ∧ out.Perm zs := by
  refine ⟨ys.map fun y => y.cps.toList, ?_, ?_⟩
  · rw [List.map_map]
    conv => lhs; rw [← List.map_id ys]
    apply List.map_congr_left
    intro y _
    exact (mkS_tl y).symm
  · have := h.map fun y : Str => y.cps.toList
    rw [List.map_map] at this
    have e : (fun y : Str => y.cps.toList) ∘ mkS = id := funext fun z => rfl
    rw [e, List.map_id] at this
    exact this
theorem dc_sortT (hc : X.calm = true) : DCall X (.builtin "sorted") (rSortTx X.K) rdSortT := ⟨cr_sortTx hc, fun N H μ xs ds Kd Q R rs h q => by
  match ds, h with
  | [.lst ys], h =>
    obtain ⟨zs, ez, k⟩ := h
    subst ez
    obtain ⟨x, rfl, r⟩ := rs.inv1
    obtain ⟨a, vs, rfl, n, m, hh, rr⟩ := r.lstInv
    obtain ⟨ev, hz⟩ := rr.strs
    subst ev
    refine .inl ⟨a, zs.map mkS, rfl, .of hh, fun ys p hp hs hn => ?_⟩
    obtain ⟨out, eo, po⟩ := perm_mkS hp
    subst eo
    exact q _ _ μ _ (stp_new hn) (R.new hn) (Rp.newLst R hn (strs_back fun z hz' => hz z (po.mem_iff.mp hz'))) (k out ⟨po, hs⟩)
  | [.str z], h =>
    obtain ⟨hl, k⟩ := h
    obtain ⟨x, rfl, r⟩ := rs.inv1
    obtain ⟨ev, hz⟩ := r.strInv
    subst ev
    refine .inr ⟨mkS z, rfl, by simp only [mkS, List.size_toArray]; exact szl hl, fun ys p hp hs hn => ?_⟩
    have hp' : ys.Perm ((z.map fun c => [c]).map mkS) := by
      rw [List.map_map]
      exact hp
    obtain ⟨out, eo, po⟩ := perm_mkS hp'
    subst eo
    refine q _ _ μ _ (stp_new hn) (R.new hn) (Rp.newLst R hn (strs_back fun w hw => ?_)) (k out ⟨po, hs⟩)
    obtain ⟨c, hc1, hc2⟩ := List.mem_map.mp (po.mem_iff.mp hw)
    intro b hb
    rw [← hc2, List.mem_singleton] at hb
    rw [hb]
    exact hz c hc1⟩
end
end DL

set_option Elab.async false
set_option linter.all false
set_option maxRecDepth 100000
set_option maxHeartbeats 4000000
/-! repr(x) == repr(y) of nested data. -/
namespace DL
open PySem PySem.Spec PyProof.Rows L2

mutual
/-- a bound of the weight -/
def wt : Dt → Nat
  | .str z => z.length
  | .int _ => 41
  | .lst xs => wtAll xs
  | .tup xs => wtAll xs
  | _ => 0
def wtAll : List Dt → Nat
  | [] => 0
  | x :: xs => wt x + 1 + wtAll xs
end
mutual
/-- the ints are short -/
def smi : Dt → Bool
  | .int i => decide (-999999999999 ≤ i) && decide (i ≤ 999999999999)
  | .lst xs => smiAll xs
  | .tup xs => smiAll xs
  | _ => true
def smiAll : List Dt → Bool
  | [] => true
  | x :: xs => smi x && smiAll xs
end
theorem int_log {i : Int} (h1 : -999999999999 ≤ i) (h2 : i ≤ 999999999999) : i.natAbs.log2 < 40 := by
  by_cases h : i.natAbs = 0
  · rw [h]
    decide
  · exact (Nat.log2_lt h).mpr (by omega)
mutual
theorem wt_le : ∀ (n : Nat) (d : Dt), shl n d = true → smi d = true → (toPy d).weight ≤ wt d ∧ (toPy d).intsShort 13 = true ∧ (toPy d).showable = true
  | n, d, hs, hm => by
    cases d <;> first
      | exact absurd (show false = true from hs) Bool.false_ne_true
      | skip
    · simp [toPy, PyData.weight, PyData.intsShort, PyData.showable]
    · simp [toPy, PyData.weight, PyData.intsShort, PyData.showable]
    · rename_i i
      simp only [smi, Bool.and_eq_true, decide_eq_true_eq] at hm
      have hl := int_log hm.1 hm.2
      refine ⟨?_, ?_, ?_⟩
      · simp only [toPy, PyData.weight, wt]
        split <;> omega
      · simp only [toPy, PyData.intsShort]
        exact decide_eq_true (PyData.shown_int_le2 hm.1 hm.2)
      · simp only [toPy, PyData.showable]
        exact decide_eq_true (by omega)
    · rename_i z
      refine ⟨?_, ?_, ?_⟩
      · simp [toPy, PyData.weight, wt, mkS]
      · simp [toPy, PyData.intsShort]
      · simp [toPy, PyData.showable]
    · rename_i xs
      simp only [shl, Bool.and_eq_true] at hs
      simp only [smi] at hm
      obtain ⟨h1, h2, h3⟩ := wtAll_le (n - 1) xs hs.2 hm
      exact ⟨by simp only [toPy, PyData.weight, wt]; exact h1, by simp only [toPy, PyData.intsShort]; exact h2, by simp only [toPy, PyData.showable]; exact h3⟩
    · rename_i xs
      simp only [shl, Bool.and_eq_true] at hs
      simp only [smi] at hm
      obtain ⟨h1, h2, h3⟩ := wtAll_le (n - 1) xs hs.2 hm
      exact ⟨by simp only [toPy, PyData.weight, wt]; exact h1, by simp only [toPy, PyData.intsShort]; exact h2, by simp only [toPy, PyData.showable]; exact h3⟩
theorem wtAll_le : ∀ (n : Nat) (ds : List Dt), shlAll n ds = true → smiAll ds = true → PyData.weightAll (toPyAll ds) ≤ wtAll ds ∧ PyData.intsShortAll 13 (toPyAll ds) = true ∧ PyData.showableAll (toPyAll ds) = true
  | _, [], _, _ => by simp [toPyAll, PyData.weightAll, PyData.intsShortAll, PyData.showableAll, wtAll]
  | n, x :: xs, hs, hm => by
    rw [shlAll, Bool.and_eq_true] at hs
    simp only [smiAll, Bool.and_eq_true] at hm
    obtain ⟨h1, h2, h3⟩ := wt_le n x hs.1 hm.1
    obtain ⟨g1, g2, g3⟩ := wtAll_le n xs hs.2 hm.2
    simp only [toPyAll, PyData.weightAll, PyData.intsShortAll, PyData.showableAll, wtAll, h2, h3, g2, g3, Bool.and_self, and_self, and_true]
    omega
end
/-- what repr is asked of: nested, short -/
def okRep (d : Dt) : Prop := (∃ xs, d = .tup xs ∨ d = .lst xs) ∧ shl 60 d = true ∧ smi d = true ∧ wt d ≤ 1000000
section
variable {X : Cx}
def rReprD (K : PySem.W.Frag) : List V → Hp → VK → Prop := fun xs H Q => ∃ (a : Addr) (d : PyData), xs = [.ref a] ∧ Dp K H (.ref a) d ∧ d.showable = true ∧ d.hasDict = false ∧ d.depth ≤ 60 ∧ d.shown.length ≤ sizeLine ∧ Q (.str d.shown) H
theorem call_reprD (hG : NoG X.A) (hu : X.A.units + 64 < cLine) : CallR X (.builtin "repr") (rReprD X.K) := by
  intro pins s σ H xs us Q I r h
  obtain ⟨a, d, rfl, hd, h1, h2, h3, h4, q⟩ := h
  obtain ⟨u, rfl, ru⟩ := vals1 r
  obtain ⟨as, rd⟩ := Dp.reads I d _ u hd ru
  cases (show u = Value.ref a from ru)
  refine repr_of_reads' rd h1 (PyData.noDict_hsm h2) hG (by omega) (fun b o e => e) (fun h' t tk k => ⟨.str d.shown, H, I.kept (t' := tk) k, ⟨t, rfl⟩, q⟩) h4
theorem okRep.dp {N : Hid} {μ : Mu} {H : Hp} {v : V} {d : Dt} {K : PySem.W.Frag} (r : Rp N μ H v d) (h : okRep d) : ∃ a, v = .ref a ∧ Dp K H (.ref a) (toPy d) ∧ (toPy d).showable = true ∧ (toPy d).hasDict = false ∧ (toPy d).depth ≤ 60 ∧ (toPy d).shown.length ≤ sizeLine := by
  obtain ⟨hx, hs, hm, hw⟩ := h
  obtain ⟨p1, p2, p3⟩ := r.dp (K := K) 60 hs
  obtain ⟨w1, w2, w3⟩ := wt_le 60 d hs hm
  have hl : PyData.layable0 (toPy d) = true := by
    unfold PyData.layable0
    rw [p2, decide_eq_true (show PyData.depth (toPy d) ≤ 64 by omega), decide_eq_true (show PyData.weight (toPy d) ≤ 2 ^ 20 by omega)]
    rfl
  have hz : (toPy d).shown.length ≤ sizeLine := by
    have := shown_le13 hl w2
    rw [sizeLine_eq]
    omega
  have ha : ∃ a, v = .ref a := by
    obtain ⟨xs, hx | hx⟩ := hx
    · subst hx
      obtain ⟨a, vs, e, _⟩ := r.tupInv
      exact ⟨a, e⟩
    · subst hx
      obtain ⟨a, vs, e, _⟩ := r.lstInv
      exact ⟨a, e⟩
  obtain ⟨a, rfl⟩ := ha
  exact ⟨a, rfl, p1, w3, PyData.hasDict_of_canLay _ p2, p3, hz⟩
def repSame (x y : Dt) : Bool := (toPy x).shown == (toPy y).shown
theorem repSame_refl (x : Dt) : repSame x x = true := by simp [repSame]
def dRepEq (da db : DE) : DE := fun ρ μ K => da ρ μ fun x μ1 => okRep x ∧ db ρ μ1 fun y μ2 => okRep y ∧ K (.bl (repSame x y)) μ2
theorem d_repEq {a b : Expr} {ta tb : TE} {da db : DE} {p1 p2 q1 q2 pos : Pos} (hG : NoG X.A) (hu : X.A.units + 64 < cLine) (hg : Gl X "repr") (hm : X.mg "repr" = none) (ha : DP X a ta da) (hb : DP X b tb db)
    (h1 : starEach [a] X.env = (false, eval a X.env) :: starEach [] X.env := by rfl) (h2 : starEach [b] X.env = (false, eval b X.env) :: starEach [] X.env := by rfl) (hp1 : (backTo q1 (starEach [] X.env)).any (·.1) = false := by rfl) (hp2 : (backTo q2 (starEach [] X.env)).any (·.1) = false := by rfl)
    (hbm : behindInMarks .Eq (.Call (.Name "repr" p2) [b] [] q2) = false := by rfl) :
    DP X (.Compare (.Call (.Name "repr" p1) [a] [] q1) [.Eq] [.Call (.Name "repr" p2) [b] [] q2] pos) (tOp rEq (tCB (rReprD X.K) (tCons ta tNil)) (tCB (rReprD X.K) (tCons tb tNil))) (dRepEq da db) := by
  refine ⟨pe_cmpR op_eq (pe_callB (call_reprD hG hu) hg hm (by rfl) (pa_cons ha.p pa_nil h1) (by decide) (by decide) h1 hp1) (pe_callB (call_reprD hG hu) hg hm (by rfl) (pa_cons hb.p pa_nil h2) (by decide) (by decide) h2 hp2) hbm, fun N σ H ρ μ Kd Q R S h q => ?_⟩
  refine ha.a N σ H ρ μ _ _ R S h fun v H1 μ1 dx e1 R1 rx ⟨ok1, k1⟩ => ?_
  obtain ⟨a1, rfl, w1⟩ := ok1.dp (K := X.K) rx
  refine ⟨a1, _, rfl, w1.1, w1.2.1, w1.2.2.1, w1.2.2.2.1, w1.2.2.2.2, ?_⟩
  refine hb.a N σ H1 ρ μ1 _ _ R1 (S.mono e1) k1 fun w H2 μ2 dy e2 R2 ry ⟨ok2, k2⟩ => ?_
  obtain ⟨a2, rfl, w2⟩ := ok2.dp (K := X.K) ry
  refine ⟨a2, _, rfl, w2.1, w2.2.1, w2.2.2.1, w2.2.2.2.1, w2.2.2.2.2, ?_⟩
  refine ⟨rfl, ?_⟩
  have e : decide (V.str (toPy dx).shown = V.str (toPy dy).shown) = repSame dx dy := by
    rw [Bool.eq_iff_iff, decide_eq_true_eq, repSame, beq_iff_eq]
    exact ⟨fun z => V.str.inj z, fun z => by rw [z]⟩
  rw [e]
  exact q _ H2 μ2 _ (e1.trans e2) R2 (.bl _) k2
end
end DL

set_option Elab.async false
set_option linter.all false
set_option maxRecDepth 100000
set_option maxHeartbeats 4000000
/-! isinstance of a caught error that has fields. -/
namespace DL
open PySem PySem.Spec PySem.Calls PyProof.Rows
open PySem.W (Frag clsIn findIn specialIn takesIn subIn hasDictIn mroIn typeIn findObj InstAt KitX)
section
variable {K : Frag}
/-- __class__ is found ahead of the fields -/
theorem find_class {C : Addr} {od : Option Obj} {nm : Str} {a g : Value} (hc : (clsIn K C).isSome = true) (ha : findIn K (.ref C) nm = some (some a)) (hg : specialIn K a "__get__" = some (some g)) (ht : takesIn K a = some true) : findObj K C od nm = some (.bind g a) := by
  obtain ⟨cd, hcd⟩ := Option.isSome_iff_exists.mp hc
  simp [findObj, hcd, ha, hg, ht]
variable {prog : Program} {w : World} {A : Around} {E : Value → Shared → Prop} {s : Shared} {x D : Addr} {ox : Obj} {od : Option Obj}
theorem class_exc {Q : Option Value → Shared → Prop} (T : L2.ExcC K D) (X : K.In s.heap) (I : InstAt s.heap x ox D od) (h : Q (some (.ref D)) { s with toks := s.toks + 1 }) : wpAny (model prog w) A (getAttr? (.ref x) "__class__") Q E s := by
  have fo : findObj K D od "__class__" = some (.bind (.builtin "getset_descriptor.__get__") (.builtin "object.__class__")) := find_class (by
    obtain ⟨cd, e, _⟩ := PySem.W.any_some T.hd
    rw [e]
    rfl) T.ha T.hn T.ht
  have M0 := I.type (M := model prog w)
  have M1 := PySem.W.looks_findIn (M := model prog w) X T.hg
  have M2 := PySem.W.looks_findIn (M := model prog w) X T.hk
  have M3 := PySem.W.looks_find (M := model prog w) X I fo
  have isB : PySem.W.Looks (model prog w) s.heap (isInstance (.ref x) (.type "BaseException")) true := M0.andThen (PySem.W.looks_subIn X T.hs)
  obtain ⟨hp, gs, dr, tk, os⟩ := s
  have n2 : (Value.builtin "BaseException.__getattribute__" == Value.builtin "object.__getattribute__") = false := by decide +kernel
  have n1 : (onTheHeap (Value.ref D) && Value.builtin "BaseException.__getattribute__" == Value.builtin "object.__getattribute__") = false := by
    rw [n2]
    rfl
  have n0 : (false && onTheHeap (Value.builtin "BaseException.__getattribute__")) = false := rfl
  unfold getAttr? getAttrBy? getAttrBy
  refine wpAny_bind (wpAny_mkText (wpAny_bind (wpAny_attempt (wpAny_holding (wpAny_bind (M0.at (wpAny_bind (M1.at ?_))))))))
  show wpAny _ _ (if (onTheHeap (Value.ref D) && Value.builtin "BaseException.__getattribute__" == Value.builtin "object.__getattribute__") = true then _ else _) _ _ _
  rw [n1, if_neg Bool.false_ne_true]
  unfold getAttrByItsOwn hookBefore
  refine wpAny_bind ?_
  rw [if_pos (show onTheHeap (Value.ref D) = true from rfl)]
  refine M2.at (wpAny_bind (wpAny_attempt (wpAny_holding ?_)))
  unfold callGetattribute
  rw [n0, if_neg Bool.false_ne_true]
  unfold boundAndCalled
  rw [PySem.F.excAttr_ValueError.ga.bind (.ref x)]
  refine wpAny_bind (wpAny_pure ?_)
  show wpAny _ _ (call (.builtin "BaseException.__getattribute__") [.ref x, .str "__class__" tk]) _ _ _
  refine wpAny_call (codeAny_call_builtin PySem.F.excAttr_ValueError.ga.plain PySem.F.entry_bexc_ga (@PySem.W.check_slot (model prog w) _ _ ⟨hp, gs, dr, tk + 1, os⟩ "BaseException.__getattribute__" "BaseException" "__getattribute__" (.ref x) [.str "__class__" tk] [] _ (by decide +kernel) (by decide +kernel) isB (PySem.F.args_bexc_ga (.ref x) (.str "__class__" tk)) ?_))
  unfold Builtin.«object.__getattribute__»
  refine wpAny_bind (wpAny_of_eq (a := ((Value.ref x : Value), [Value.str "__class__" tk])) (by first | rfl | (simp only [slotArgs]; rfl)) (wpAny_bind (wpAny_pure (wpAny_bind (M0.at (wpAny_bind (M3.at ?_)))))))
  show wpAny _ _ (holding [Value.builtin "object.__class__"] (call (.builtin "getset_descriptor.__get__") [.builtin "object.__class__", .ref x, .ref D]) >>= ret) _ _ _
  refine wpAny_bind (wpAny_holding (wpAny_call (PySem.W.class_get (s := ⟨hp, gs, dr, tk + 1, os⟩) (ox := ox) (od := od) X I T.hm (wpAny_pure ?_))))
  show wpAny _ _ (handedOut (.ref D)) _ _ _
  rw [PySem.W.handedOut_of (v := .ref D) rfl]
  first
    | exact wpAny_pure (wpAny_pure h)
    | exact wpAny_pure h
    | exact wpAny_pure (wpAny_bind (wpAny_pure (wpAny_pure h)))
theorem kitx_exc (T : L2.ExcC K D) : KitX K (.ref x) (.ref D) (fun h => ∃ ox od, InstAt h x ox D od) where
  ty := fun _ _ _ ⟨ox, od, I⟩ => I.type
  it := fun _ _ X _ => by
    obtain ⟨cd, e, _⟩ := PySem.W.any_some T.hd
    unfold clsIn at e
    split at e
    · rename_i ho
      intro A' Q' E' s' k q
      unfold isType loadHead
      exact wpAny_bind (wpAny_loadPart (k _ _ (X _ _ ho)) (wpAny_pure q))
    · cases e
  ne := fun h tp dd its n sl X htp => by
    obtain ⟨cd, e, _⟩ := PySem.W.any_some T.hd
    unfold clsIn at e
    split at e
    · rename_i ho
      refine Bool.eq_false_iff.mpr fun q => ?_
      cases Value.ref.inj (beq_iff_eq.mp q)
      cases (X _ _ ho).symm.trans htp
    · cases e
  ca := fun X ⟨ox, od, I⟩ k => class_exc T X I k
end
end DL
namespace DL
open PySem PySem.Spec PyProof.Rows L2
/-- the caught exception, as data: a the object (pinned), dd its fields' dict, C its class -/
structure ExcPin (X : Cx) (a dd C : Addr) : Prop where
  ex : ∃ oe : Obj, (a, oe) ∈ X.pn ∧ oe.cls = .ref C ∧ oe.dict = some dd ∧ ∃ vs, oe.data = .fields vs
section
variable {X : Cx}
theorem ExcPin.inst {a dd C : Addr} {pins : List (Addr × Obj)} {σ : L2.St} {H : Hp} {s : Shared} {fs : List (Str × V)} (P : ExcPin X a dd C) (I : L2.Inv X pins σ H s) (h : H dd = some (.xd fs)) : ∃ ox od, PySem.W.InstAt s.heap a ox C od := by
  obtain ⟨oe, hm, h1, h2, vs, h3⟩ := P.ex
  obtain ⟨get, _⟩ := I.pin (a, oe) (List.mem_append_left _ hm)
  have hx : ObjOk X.prog X.w H s.heap dd (.xd fs) := I.hok dd _ h
  obtain ⟨mA, hns, hr⟩ := hx
  obtain ⟨o, ho, _⟩ := lookIn_ns hns
  refine ⟨oe, some o, get, h1, by unfold PySem.W.notCls; rw [h3] <;> rfl, ?_⟩
  rw [h2]
  exact ho
/-- isinstance(e, c) -/
def rIsX (K : PySem.W.Frag) (a dd C : Addr) : List V → Hp → VK → Prop := fun xs H Q => ∃ (c : V) (cv : Value) (b : Bool) (fs : List (Str × V)), xs = [.ref a, c] ∧ ClsV c cv ∧ H dd = some (.xd fs) ∧ PySem.W.kitOne K (.ref C) cv = some b ∧ Q (.bl b) H
theorem call_isX {a dd C : Addr} (T : ExcC X.K C) (P : ExcPin X a dd C) : CallR X (.builtin "isinstance") (rIsX X.K a dd C) := by
  intro pins s σ H xs us Q I r h
  obtain ⟨c, cv, b, fs, rfl, hc, hd, hk, q⟩ := h
  obtain ⟨u1, u2, rfl, r1, r2⟩ := vals2 r
  cases (show u1 = Value.ref a from r1)
  have e2 := hc.eq r2
  subst e2
  exact PySem.W.kia_one (kitx_exc T) I.kIn (P.inst I hd) hk (fun z => nomatch z) fun tk => ⟨.bl b, H, I.kept (t' := tk) fun _ _ z => z, rfl, q⟩
theorem Rp.excInv {N : Hid} {μ : Mu} {H : Hp} {v : V} {a dd C : Addr} {d : Dt} (h : Rp N μ H v (.exc a dd C d)) : v = .ref a ∧ ∃ fs u, H dd = some (.xd fs) ∧ fs.lookup ("at" : Str) = some u ∧ Rp N μ H u d := by
  cases h with
  | exc n m h l r => exact ⟨rfl, _, _, h, l, r⟩
def dIsX (de : DE) (a dd C : Addr) (b : Bool) : DE := fun ρ μ K => de ρ μ fun x μ1 => (∃ d, x = .exc a dd C d) ∧ K (.bl b) μ1
/-- isinstance(e, c), c a class of the text -/
theorem d_isX {a dd C cls : Addr} {b : Bool} {e : Expr} {te : TE} {de : DE} {x : Str} {p p2 pos : Pos} (T : ExcC X.K C) (P : ExcPin X a dd C) (he : DP X e te de) (hg : Gl X "isinstance") (hm : X.mg "isinstance" = none) (hgc : Gl X x) (hmc : X.mg x = some (.ref cls))
    (hk : PySem.W.kitOne X.K (.ref C) (.ref cls) = some b) (hdb : (x == ("__debug__" : Str)) = false := by decide)
    (h1 : starEach [e, .Name x p2] X.env = (false, eval e X.env) :: starEach [.Name x p2] X.env := by rfl) (h2 : (backTo pos (starEach [.Name x p2] X.env)).any (·.1) = false := by rfl)
    (h3 : starEach [.Name x p2] X.env = (false, eval (.Name x p2) X.env) :: starEach [] X.env := by rfl) :
    DP X (.Call (.Name "isinstance" p) [e, .Name x p2] [] pos) (tCB (rIsX X.K a dd C) (tCons te (tCons (tC (.ref cls)) tNil))) (dIsX de a dd C b) :=
  ⟨pe_callB (call_isX T P) hg hm (by rfl) (pa_cons he.p (pa_cons (pe_glob hgc hmc (v := .ref cls) rfl hdb) pa_nil h3) h1) (by decide) (by decide) h1 h2,
  fun N σ H ρ μ Kd Q R S h q => he.a N σ H ρ μ _ _ R S h fun v H1 μ1 d e1 R1 r ⟨⟨d', ed⟩, k⟩ => by
    subst ed
    obtain ⟨ev, fs, u, hd, hl, ru⟩ := r.excInv
    subst ev
    exact ⟨.ref cls, .ref cls, b, fs, rfl, .own cls, hd, hk, q _ H1 μ1 _ e1 R1 (.bl _) k⟩⟩
/-- isinstance(e, c), c a class of the language -/
theorem d_isXT {a dd C : Addr} {b : Bool} {T : String} {e : Expr} {te : TE} {de : DE} {x : Str} {p p2 pos : Pos} (TC : ExcC X.K C) (P : ExcPin X a dd C) (he : DP X e te de) (hg : Gl X "isinstance") (hm : X.mg "isinstance" = none) (hgc : Gl X x) (hmc : X.mg x = none) (hv : bootBuiltins x = some (.type T))
    (hk : PySem.W.kitOne X.K (.ref C) (.type T) = some b) (hn : x ≠ "__name__" := by decide) (hdb : (x == ("__debug__" : Str)) = false := by decide)
    (h1 : starEach [e, .Name x p2] X.env = (false, eval e X.env) :: starEach [.Name x p2] X.env := by rfl) (h2 : (backTo pos (starEach [.Name x p2] X.env)).any (·.1) = false := by rfl)
    (h3 : starEach [.Name x p2] X.env = (false, eval (.Name x p2) X.env) :: starEach [] X.env := by rfl) :
    DP X (.Call (.Name "isinstance" p) [e, .Name x p2] [] pos) (tCB (rIsX X.K a dd C) (tCons te (tCons (tC (.ty T)) tNil))) (dIsX de a dd C b) :=
  ⟨pe_callB (call_isX TC P) hg hm (by rfl) (pa_cons he.p (pa_cons (pe_bltn hgc hmc hv (v := .ty T) rfl hn hdb) pa_nil h3) h1) (by decide) (by decide) h1 h2,
  fun N σ H ρ μ Kd Q R S h q => he.a N σ H ρ μ _ _ R S h fun v H1 μ1 d e1 R1 r ⟨⟨d', ed⟩, k⟩ => by
    subst ed
    obtain ⟨ev, fs, u, hd, hl, ru⟩ := r.excInv
    subst ev
    exact ⟨.ty T, .type T, b, fs, rfl, .ty T, hd, hk, q _ H1 μ1 _ e1 R1 (.bl _) k⟩⟩
end
end DL

set_option Elab.async false
set_option linter.all false
set_option maxRecDepth 100000
set_option maxHeartbeats 4000000
/-! Raising an own error that has the field at. -/
namespace DL
open PySem PySem.Spec PyProof.Rows L2

section
variable {X : Cx} {e : Expr} {es : List Expr} {ta : TA} {p pos : Pos}
/-- C(e, ..), made where its context is None -/
theorem pmk_exN {CXI : CXT} {x : Str} {C fI : Addr} {k : Nat} {fd : FuncData} {ps : List Str} {sp : Sp} (T : OexC X.K C) (iC : PySem.W.findIn X.K (.ref C) "__init__" = some (some (.ref fI))) (tI : PySem.W.typeIn X.K (.ref fI) = some (.type "function"))
    (F1 : FnOk X.prog X.w X.K X.mg X.base CXI k fI fd ps sp) (hr : Room (k + 1) X.A) (hb : Binds X.K fd ps []) (hx : Passes CXI X (fun _ _ _ => False)) (hg : Gl X x) (hm : X.mg x = some (.ref C)) (ha : PA X (e :: es) ta)
    (hdb : (x == ("__debug__" : Str)) = false := by decide) (he : starEach (e :: es) X.env = (false, eval e X.env) :: starEach es X.env := by rfl) (hpl : (backTo pos (starEach es X.env)).any (·.1) = false := by rfl) :
    L2N.PMk X (.Call (.Name x p) (e :: es) [] pos) (tMkO C sp [] ta) := by
  intro pins s σ H Q I h
  obtain ⟨nm, q, Ns, bs, bm, sn, sub, ab, col, dd, k0, k1, k2, k3, k5, look, refs⟩ := T.cls
  refine wpAny_Call_Name_kw (ld_glob I hg hm ?_ hdb)
  refine PySem.W.callWith_K (h₀ := X.base) I.ok.mod.kin T.kC (thn (ha.run pos pins s σ H _ I h) fun us s1 ⟨vs, H1, I1, rv, few, go⟩ => ⟨I1.kIn, ?_⟩) he hpl
  show wpAny _ _ (call (.ref C) us) _ _ _
  obtain ⟨hp, gs, dr, tk, os⟩ := s1
  have up1 : hp.objs.size ≤ hp.objs.size + 1 := Nat.le_succ _
  have sp1 := go (hp.objs.size + 1) (I1.hok.fresh up1)
  have mk : ((hp.push (PySem.W.kdv_tup us)).push (PySem.HandSPX.excO C hp.objs.size)).get? (hp.objs.size + 1) = some (PySem.HandSPX.excO C hp.objs.size) := by heap_get
  have stay : ∀ b o, hp.get? b = some o → ((hp.push (PySem.W.kdv_tup us)).push (PySem.HandSPX.excO C hp.objs.size)).get? b = some o := fun b o z => Heap.get?_push_of_some _ (Heap.get?_push_of_some _ z)
  have I2 : L2.Inv X pins σ (upd H1 (hp.objs.size + 1) (exo (hp.objs.size + 1) C none)) ⟨(hp.push (PySem.W.kdv_tup us)).push (PySem.HandSPX.excO C hp.objs.size), gs, dr, tk, os⟩ :=
    I1.laid (t' := tk) stay up1 (exo_ok mk)
  have both : Vals (V.ref (hp.objs.size + 1) :: (vs ++ [])) (Value.ref (hp.objs.size + 1) :: us) := by
    rw [List.append_nil]
    exact .cons rfl rv
  have lens : (Value.ref (hp.objs.size + 1) :: us).length + ([] : List Value).length = ps.length := both.length.symm.trans (F1.len _ _ _ _ sp1)
  have lens2 : (Value.ref (hp.objs.size + 1) :: us ++ []).length = ps.length := by
    rw [List.length_append]
    exact lens
  have bind := hb ⟨(hp.push (PySem.W.kdv_tup us)).push (PySem.HandSPX.excO C hp.objs.size), gs, dr, tk, os⟩ (Value.ref (hp.objs.size + 1) :: us) I2.kIn lens2
  rw [List.append_nil] at bind
  have small : us.length ≤ sizeLine := by
    rw [← Paired.length rv, sizeLine_eq]
    omega
  refine wpAny_call (PySem.HandSPX.call_own F.excBase_ValueError (fun Y => PySem.HandSPX.refsVE_contains Y bm refs) (I1.kIn _ _ look) (PySem.W.looks_findIn I1.kIn iC) (fun self => PySem.W.bind_fn I1.kIn self tI) small
    (codeAny_mono (F1.run _ X.stack _ _ ⟨Value.ref (hp.objs.size + 1) :: us, []⟩ (Value.ref (hp.objs.size + 1) :: us) _ _ (fun _ _ _ => False) (hr.make C us []) (I2.env0.make C us []) bind both sp1) fun r s' out => ?_))
  match r, out with
  | .error er, out => exact hx pins σ _ _ er s' I2 out
  | .ok .next, out => exact out.elim
  | .ok .brk, out => exact out.elim
  | .ok .cont, out => exact out.elim
  | .ok (.ret u), ⟨v, H2, os2, bare2, un2, hok2, ru, ev, d, fs, ea, ed, hd1, fin⟩ =>
    subst ev
    obtain ⟨h2, g2, d2, t2, os'⟩ := s'
    obtain ⟨t0, G, J, kG, gone, hoe, na⟩ := mk_end0 (d2 := d2) (t2 := t2) I1 up1 stay un2 hok2 os2 bare2 ea ed hd1
    refine ⟨ru, _, _, _, ⟨G, g2, d2, t2, os'⟩, _, .ref C, some d, rfl, J, kG, gone, hoe, ⟨rfl, rfl, fun vs0 z => ?_⟩, rfl, rfl, na, rfl, bare2, raises_own T.exC T.tyC, fin⟩
    have z2 := Data.fields.inj z
    rw [← z2]
    rfl
end

/-! ### __init__: self.at = at -/
/-- what __init__ does to the new exception -/
def spInitK (K : PySem.W.Frag) : Sp := fun vs H Q _ => ∃ (a C : Addr) (y : V), vs = [.ref a, y] ∧ H a = some (exo a C none) ∧ OexC K C ∧ PySem.W.findIn K (.ref C) "at" = some none ∧ ∀ dx, H dx = none → dx ≠ a → Q .non (upd (upd H dx (exd dx [("at", y)])) a (exo a C (some dx)))
section
variable {P : Program} {w : World} {K : PySem.W.Frag} {mg : Str → Option Value} {base : Heap}
/-- the body is «self.at = at» -/
theorem init_ok {x qual : Str} {st : Stmt} {f : Addr} {fd : FuncData} {k : Nat} {p1 p2 p3 p4 : Pos} (F : Fun K x qual st f fd) (S : FnScope ["self", "at"] ["self", "at"] (defScope st)) (hbody : defBody st = [.Assign [.Attribute (.Name "self" p1) "at" p2] (.Name "at" p3) p4])
    (hv : (defScope st).names.lookup ("self" : Str) = some .local) (hw : (defScope st).names.lookup ("at" : Str) = some .local) (hs : ∀ env, swapsWith (.Name "at" p3) (some (.Attribute (.Name "self" p1) "at" p2)) p4.line env = pure false) :
    FnOk P w K mg base CX0 (k + 1) f fd ["self", "at"] (spInitK K) := by
  refine F.ok S (fun vs H Q E h => ?_) (fun cdv A outer s H vs Q E hr h => ?_)
  · obtain ⟨a, C, y, e, _⟩ := h
    rw [e]
    rfl
  · obtain ⟨a, C, y, rfl, ea, T, hno, go⟩ := h
    rw [hbody]
    refine ⟨_, pss_one (ps_ost (pe_var (i := 0) rfl (.inl hv)) (pe_var (i := 1) rfl (.inl hw)) (hs _)), ?_⟩
    exact ⟨y, rfl, .ref a, rfl, a, C, rfl, T, hno, .inl ⟨ea, go⟩⟩
end

/-! ### raise C(e) -/
def dRaise (C : Addr) (de : DE) : DS := fun F ρ μ => de ρ μ fun d μ1 => F.rx C d ρ μ1
theorem ds_raise {X : Cx} {W : WX} {e : Expr} {te : TE} {de : DE} {x : Str} {C fI : Addr} {k : Nat} {fd : FuncData} {p pos pos' : Pos} (hc : X.calm = true) (tk : L2N.Takes X W) (T : OexC X.K C) (hno : PySem.W.findIn X.K (.ref C) "at" = some none)
    (iC : PySem.W.findIn X.K (.ref C) "__init__" = some (some (.ref fI))) (tI : PySem.W.typeIn X.K (.ref fI) = some (.type "function")) (F1 : FnOk X.prog X.w X.K X.mg X.base CX0 k fI fd ["self", "at"] (spInitK X.K)) (hr : Room (k + 1) X.A) (hb : Binds X.K fd ["self", "at"] [])
    (hg : Gl X x) (hm : X.mg x = some (.ref C)) (he : DP X e te de) (hdb : (x == ("__debug__" : Str)) = false := by decide) (h1 : starEach [e] X.env = (false, eval e X.env) :: starEach [] X.env := by rfl) (hpl : (backTo pos' (starEach [] X.env)).any (·.1) = false := by rfl) :
    DPs X W (.Raise (some (.Call (.Name x p) [e] [] pos')) none pos) (dRaise C de) := by
  refine ⟨_, L2N.ps_raise hc tk (pmk_exN T iC tI F1 hr hb pass0 hg hm (pa_cons he.p pa_nil h1) hdb h1 hpl), fun N σ H ρ μ D F R S l h => ?_⟩
  refine he.a N σ H ρ μ _ _ R S h fun y H1 μ1 d e1 R1 ry k1 => ?_
  refine ⟨by simp, fun a ha => ?_⟩
  refine ⟨a, C, y, rfl, upd_same, T, hno, fun dx hdx hne => ⟨rfl, dx, [(("at" : Str), y)], upd_same, ?_, ?_, ?_⟩⟩
  · rw [upd_ne hne]
    exact upd_same
  · rw [upd_ne hne] at hdx
    exact hdx
  · have hd1 : H1 dx = none := by
      rw [upd_ne hne] at hdx
      exact hdx
    have eH : upd (del (upd (upd (upd H1 a (exo a C none)) dx (exd dx [("at", y)])) a (exo a C (some dx))) a) dx (.xd [("at", y)]) = upd H1 dx (.xd [("at", y)]) := by
      funext b
      by_cases hb1 : b = dx
      · rw [hb1, upd_same, upd_same]
      · rw [upd_ne hb1, upd_ne hb1]
        by_cases hb2 : b = a
        · rw [hb2, del_same, ha]
        · rw [del_ne hb2, upd_ne hb2, upd_ne hb1, upd_ne hb2]
    rw [eH]
    exact l.rx C dx _ y d σ _ ρ μ1 (e1.trans (stp_new hd1)) (R1.new hd1) ((S.mono e1).mono (stp_new hd1)) (R1.fresh hd1).1 (R1.fresh hd1).2 upd_same rfl (ry.mono (stp_new hd1)) k1

/-! ### a def that may raise -/
abbrev KXD := Addr → Dt → Mu → Prop
abbrev SpX := List Dt → Mu → KD → KXD → Prop
/-- what a def promises that may raise -/
def spOfX (sx : SpX) : Sp := fun vs H Q E => ∃ (N : Hid) (μ : Mu) (ds : List Dt) (Kd : KD) (Kx : KXD), Rep N μ H ∧ RpAll N μ H vs ds ∧ sx ds μ Kd Kx ∧ (∀ v H' μ' d, Stp μ H μ' H' → Rep N μ' H' → Rp N μ' H' v d → Kd d μ' → Q v H') ∧
  ∀ (C dd : Addr) (fs : List (Str × V)) (v : V) (d : Dt) (H' : Hp) (μ' : Mu), Stp μ H μ' H' → Rep N μ' H' → ¬ N dd → μ' dd = none → H' dd = some (.xd fs) → fs.lookup ("at" : Str) = some v → Rp N μ' H' v d → Kx C d μ' → E (.ref C) (some dd) H'
section
variable {P : Program} {w : World} {K : PySem.W.Frag} {mg : Str → Option Value} {base : Heap}
theorem fnX_data {x qual : Str} {st : Stmt} {f : Addr} {fd : FuncData} {N ps : List Str} {k : Nat} {sx : SpX} (F : Fun K x qual st f fd) (S : FnScope N ps (defScope st)) (len : ∀ ds μ Kd Kx, sx ds μ Kd Kx → ds.length = ps.length)
    (hbody : ∀ (cdv : Value) (A : Around) (outer : List Env) (s : Shared) (H : Hp) (E : XK), Room k (A.deeper (envOfC qual (defScope st) s.heap.objs.size f cdv)) →
      L2N.Takes (cxOf (L2N.CX P w) P w K mg base N qual (defScope st) f cdv A outer s H E) (fun cls d _ H' => E cls d H') → PassesOwn (model P w) (cxOf (L2N.CX P w) P w K mg base N qual (defScope st) f cdv A outer s H E).A (cxOf (L2N.CX P w) P w K mg base N qual (defScope st) f cdv A outer s H E).env (cxOf (L2N.CX P w) P w K mg base N qual (defScope st) f cdv A outer s H E).xe →
      ∃ d, DPss (cxOf (L2N.CX P w) P w K mg base N qual (defScope st) f cdv A outer s H E) (fun cls d _ H' => E cls d H') (defBody st) d ∧ ∀ ds μ Kd Kx, sx ds μ Kd Kx → d { nx := fun _ μ' => Kd .non μ', rt := Kd, rx := fun C d _ μ' => Kx C d μ' } (dstart N ds) μ) :
    FnOk P w K mg base (L2N.CX P w) (k + 1) f fd ps (spOfX sx) := by
  obtain ⟨oc, od, kV, doc, pm, an, cdv, ct, osl, rfl, lk, code⟩ := F.ex
  refine fn_of lk code S (fun vs H Q E h => ?_) (fun A outer s H vs Q E hr h => ?_)
  · obtain ⟨Nh, μ, ds, Kd, Kx, R, r, h, _⟩ := h
    rw [r.length]
    exact len ds μ Kd Kx h
  · obtain ⟨Nh, μ, ds, Kd, Kx, R, r, h, q, qx⟩ := h
    obtain ⟨d, hd, hh⟩ := hbody cdv A outer s H E hr (L2N.takes_of rfl rfl rfl rfl) (passes_of rfl)
    obtain ⟨t, h1, h2⟩ := hd.ex
    refine ⟨t, h1, h2 Nh _ H _ μ _ { nx := fun _ μ' => Kd .non μ', rt := Kd, rx := fun C d _ μ' => Kx C d μ' } R (sl_start r N) ⟨fun σ' H' ρ' μ' e R' S' k => q .non H' μ' .non e R' .non k, fun v H' d' μ' e R' rr k => q v H' μ' d' e R' rr k, fun _ _ _ _ _ _ _ k => (show False from k).elim, fun _ _ _ _ _ _ _ k => (show False from k).elim,
      fun C dd fs v dv σ' H' ρ' μ' e R' S' hn hm hx hl rv k => qx C dd fs v dv H' μ' e R' hn hm hx hl rv k⟩ (hh ds μ Kd Kx h)⟩
end
end DL

set_option Elab.async false
set_option linter.all false
set_option maxRecDepth 100000
set_option maxHeartbeats 4000000
/-! A list comprehension over a list, while an error is handled. -/
namespace DL
open PySem PySem.Spec PyProof.Rows L2 L2H

section
variable {P : Program} {w : World} {A : Around} {E : Value → Shared → Prop} {s : Shared}
theorem list_end_hot {it l x1 : Addr} {i : Nat} {items : Array Value} {Q : Option Value → Shared → Prop} (hot : HotX.HotAt A x1 s.heap) (ne : x1 ≠ it) (hit : s.heap.IsListIter it l i) (hl : s.heap.IsList l items) (hx : items[i]? = none)
    (hQ : ∀ h', (∀ b o, b ≠ it → s.heap.get? b = some o → h'.get? b = some o) → Q none { s with heap := h' }) : wpAny (model P w) A (pyNext (.ref it)) Q E s := by
  have ty := hit.typeIs (s := s)
  obtain ⟨oi, ei, ci, di⟩ := hit
  obtain ⟨ol, el, _, nl, dl⟩ := hl
  obtain ⟨hh, o1, vs1, e1, d1, c1⟩ := hot
  unfold pyNext
  refine wpAny_bind (wpAny_attempt (wpAny_callSpecial?_slot (name := Str.ofString "__next__") ty slot_listiter_next (wpAny_call_entry slot_listiter_next ty entry_listiter_next ?_ (args_listiter_next _))))
  show wpAny _ _ (field (.ref it) 0 >>= _) _ _ s
  refine wpAny_bind (wpAny_field ei di (x := .ref l) rfl ?_)
  show wpAny _ _ (if (Value.ref l == Value.none) = true then _ else _) _ _ s
  rw [if_neg (show ¬ ((Value.ref l == Value.none) = true) from Bool.false_ne_true)]
  show wpAny _ _ (field (.ref it) 1 >>= _) _ _ s
  refine wpAny_bind (wpAny_field ei di (x := .int i 0) rfl ?_)
  show wpAny _ _ (seqItems? (.ref l) >>= _) _ _ s
  refine wpAny_bind (wpAny_seqItems el dl ?_)
  simp only [Int.toNat_natCast, hx]
  refine wpAny_bind (wpAny_rule (wpAny_bind (wpAny_setField ei di (by simp) ?_)))
  have old : ∀ b o, b ≠ it → s.heap.get? b = some o → (s.heap.update it (Obj.mapFields (·.setIfInBounds 0 .none))).get? b = some o := fun b o k z => (Heap.get?_update_other _ _ (Ne.symm k)).trans z
  have e2 := old _ _ ne e1
  generalize s.heap.update it (Obj.mapFields (·.setIfInBounds 0 .none)) = g at old e2
  show wpAny _ _ (newExc (.type "StopIteration") [] >>= _) _ _ _
  refine wpAny_bind ?_
  simp only [newExc, newTuple]
  refine wpAny_bind (wpAny_newObj_type (wpAny_bind (m := firstArgMember _ _) (wpAny_of_eq (a := Value.none) (by first | rfl | (simp only [firstArgMember]; rfl)) (wpAny_newObj_type ?_ (by size_fits)))) (by size_fits))
  refine HotX.raiseNew_hot ⟨hh, o1, vs1, Heap.get?_push_of_some _ (Heap.get?_push_of_some _ e2), d1, c1⟩ (Nat.ne_of_lt (Heap.lt_size (Heap.get?_push_of_some _ e2))) (Heap.get?_push_size _ rfl) rfl (by first | (simp; done) | (simp; omega) | (simp only [Array.size_append]; simp; omega)) ?_
  refine wpAny_bind (wpAny_isInstance (T := "StopIteration") (b := true) ⟨_, Heap.get?_update_self _ (Heap.get?_push_size _ rfl) rfl, rfl⟩ isSubtype_stop (wpAny_pure (hQ _ fun b o k z => ?_)))
  have z2 := old b o k z
  rw [Heap.get?_update_other _ _ (Nat.ne_of_gt (Heap.lt_size (Heap.get?_push_of_some _ z2)))]
  exact Heap.get?_push_of_some _ (Heap.get?_push_of_some _ z2)
end
section
variable {X : Cx}
/-- [elt for tg in a list if ..] while the error of X is handled -/
theorem pe_lcH {elt tg iter : Expr} {ifs : List Expr} {scope : Scope} {own : List (Str × Nat)} {pos : Pos} {tl : TE} {g : TG} {tt : TT} {te : TE} (hot : HotC X) (hN : X.N.Nodup) (hl : PE X iter tl) (ok : BlkOk X.N X.env.scope scope own)
    (hg : ∀ (s : Shared) (H : Hp) (C : Addr) (cl : List (Str × Addr)) (fp : List Addr), PG (X.blk s H scope (compEnvC scope cl C X.env) fp) tg g) (ht : ∀ (s : Shared) (H : Hp) (C : Addr) (cl : List (Str × Addr)) (fp : List Addr), PTs (X.blk s H scope (compEnvC scope cl C X.env) fp) ifs tt)
    (he : ∀ (s : Shared) (H : Hp) (C : Addr) (cl : List (Str × Addr)) (fp : List Addr), PE (X.blk s H scope (compEnvC scope cl C X.env) fp) elt te) (hs : ∀ x, foldedSetIterable iter X.env x = pure x := by intro _; rfl) :
    PE X (.ListComp elt [⟨tg, iter, ifs, 0⟩] scope pos) (tLc (iList X.K tl) g tt te (own.map (·.2))) := by
  refine ⟨fun pins s σ H Q I h => ?_⟩
  obtain ⟨hp, h1p, memp⟩ := hot
  have has : ∀ y ∈ scope.names, y.2 = .free → ∃ c, X.env.cells.lookup y.1 = some c := fun y hy e => (ok.free y hy e).elim (fun k => I.ok.has _ (.inl k)) fun k => I.ok.has _ (.inr k)
  rw [eval_ListComp]
  refine wpAny_comprehension_free (use := none) rfl hs (closure_ok has) ok.kind (fun y hy e => by rw [ok.uniq y hy, e]) (thn (hl.run pins s σ H _ I h) fun v s1 ⟨x, H1, I1, r1, q1⟩ => ?_)
  obtain ⟨a, ex, ⟨xs0, hq0⟩, q⟩ := q1
  subst ex
  cases (show v = Value.ref a from r1)
  obtain ⟨its0, rv0, pl0, hz0⟩ := I1.list hq0
  refine wpAny_pyIter_list pl0.isList ?_
  -- the iterator
  generalize eit : s1.heap.objs.size = it
  generalize es2 : ({ s1 with heap := s1.heap.push { cls := .type "list_iterator", data := .fields #[.ref a, .int 0 0] } } : Shared) = s2
  have h2 : s2.heap = s1.heap.push { cls := .type "list_iterator", data := .fields #[.ref a, .int 0 0] } := by rw [← es2]
  have I2 : L2.Inv X pins σ H1 s2 := by
    rw [← es2]
    exact I1.kept (t' := s1.toks) fun b o e => Heap.get?_push_of_some _ e
  have it2 : s2.heap.IsListIter it a 0 := ⟨_, by rw [h2, ← eit]; exact Heap.get?_push_size _ rfl, rfl, rfl⟩
  have fit : FpOk X pins H1 it := by
    rw [← eit]
    exact I1.fpOk (Nat.le_refl _) (I1.hok.fresh (Nat.le_refl _))
  have lit : it < s2.heap.objs.size := by
    rw [h2, Heap.size_push, ← eit]
    exact Nat.lt_succ_self _
  -- the new list
  refine wpAny_newObj_type (newEnv_comp ?_) (by show 0 ≤ sizeLine; decide)
  generalize eD : s2.heap.objs.size = D
  have fD : H1 D = none := I2.hok.fresh (Nat.le_of_eq eD)
  obtain ⟨W, ⟨m0, w0⟩, turn⟩ := q D fD
  generalize es3 : ({ s2 with heap := s2.heap.push { cls := .type "list", data := .seq ([] : List Value).toArray } } : Shared) = s3
  have h3 : s3.heap = s2.heap.push { cls := .type "list", data := .seq ([] : List Value).toArray } := by rw [← es3]
  have up3 : ∀ b o, s2.heap.get? b = some o → s3.heap.get? b = some o := fun b o e => by
    rw [h3]
    exact Heap.get?_push_of_some _ e
  have I3 : L2.Inv X pins σ (upd H1 D (.lst [])) s3 := by
    rw [← es3]
    refine I2.laid (t' := s2.toks) (fun b o e => Heap.get?_push_of_some _ e) (Nat.le_of_eq eD) ⟨Nat.zero_le _, [], 0, .nil, ?_⟩
    rw [← eD]
    exact Heap.get?_push_size _ rfl
  have neD : it ≠ D := by
    rw [← eD]
    exact Nat.ne_of_lt lit
  have f3 : FpOk X pins (upd H1 D (.lst [])) it := ⟨by rw [upd_ne neD]; exact fit.1, fit.2⟩
  have lit3 : it < s3.heap.objs.size := by
    rw [h3, Heap.size_push]
    exact Nat.lt_succ_of_lt lit
  have it3 : s3.heap.IsListIter it a 0 := it2.at fun o e => up3 it o e
  have I4 := block_start (fp := [it]) I3 ok hN fun b hb => by
    rw [List.mem_singleton.mp hb]
    exact ⟨f3, lit3⟩
  -- the handled error stands apart
  have P3 := I3.pin hp (List.mem_append_left _ memp)
  have neIt : hp.1 ≠ it := fun z => f3.2.2.2.2.2 hp (List.mem_append_left _ memp) z
  have pg := hg s3 (upd H1 D (.lst [])) s3.heap.objs.size (cellsFrom (s3.heap.objs.size + 1) scope.names (cloFrom X.env.cells scope.names [])) [it]
  have pt := ht s3 (upd H1 D (.lst [])) s3.heap.objs.size (cellsFrom (s3.heap.objs.size + 1) scope.names (cloFrom X.env.cells scope.names [])) [it]
  have pe := he s3 (upd H1 D (.lst [])) s3.heap.objs.size (cellsFrom (s3.heap.objs.size + 1) scope.names (cloFrom X.env.cells scope.names [])) [it]
  have n3 : (upd H1 D (.lst [])) it = none := f3.1
  show codeAny _ _ (.compStart (.ListComp elt [⟨tg, iter, ifs, 0⟩] scope pos) 0 (.ref it) (.ref D) (compEnvC scope (cellsFrom (s3.heap.objs.size + 1) scope.names (cloFrom X.env.cells scope.names [])) s3.heap.objs.size X.env)) (compPost (model X.prog X.w) X.A X.xe none _ (.ref D) s3.heap.objs.size) { s3 with heap := pushCells (s3.heap.push { cls := .type "dict", data := .dict #[] }) scope.names }
  generalize ece : compEnvC scope (cellsFrom (s3.heap.objs.size + 1) scope.names (cloFrom X.env.cells scope.names [])) s3.heap.objs.size X.env = ce at I4 pg pt pe ⊢
  have lce : ce.locals = s3.heap.objs.size := by rw [← ece]; rfl
  generalize eH3 : upd H1 D (.lst []) = H3 at I3 I4 pg pt pe w0 n3 f3 P3
  have keep4 : ∀ b o, s3.heap.get? b = some o → (pushCells (s3.heap.push { cls := .type "dict", data := .dict #[] }) scope.names).get? b = some o := fun b o e => pushCells_keeps _ _ _ _ (Heap.get?_push_of_some _ e)
  generalize es4 : ({ s3 with heap := pushCells (s3.heap.push { cls := .type "dict", data := .dict #[] }) scope.names } : Shared) = s4 at I4 ⊢
  have h4 : s4.heap = pushCells (s3.heap.push { cls := .type "dict", data := .dict #[] }) scope.names := by rw [← es4]
  have it4 : s4.heap.IsListIter it a 0 := it3.at fun o e => by rw [h4]; exact keep4 it o e
  have I4' : L2.Inv (X.blk s3 H3 scope ce [it]) [hp] (wipe σ (own.map (·.2))) H3 s4 := I4.pins_of fun q hq => by
    rw [List.mem_singleton.mp hq]
    refine ⟨by rw [h4]; exact keep4 _ _ P3.1, P3.2.1, ?_, fun hm => ?_, P3.2.2.2.2⟩
    · show hp.1 ≠ ce.locals
      rw [lce]
      exact Nat.ne_of_lt (Heap.lt_size P3.1)
    · exact (List.mem_cons.mp (I3.stkSub hp.1 hm)).elim P3.2.2.1 P3.2.2.2.1
  have stat : ∀ {σ' : L2.St} {H' : Hp} {s' : Shared}, L2.Inv (X.blk s3 H3 scope ce [it]) [hp] σ' H' s' → H' it = none → FpOk (X.blk s3 H3 scope ce [it]) [hp] H' it := fun {σ' H' s'} J hn =>
    ⟨hn, (J.ok.exf it (List.mem_singleton.mpr rfl)).1, J.ok.exfs it (List.mem_singleton.mpr rfl), .inl (List.mem_singleton.mpr rfl), fun y c e => (J.ok.exf it (List.mem_singleton.mpr rfl)).2 y c e, fun q hq => by
      have hq' : q = hp := by simpa using (show q ∈ ([] : List (Addr × Obj)) ++ [hp] from hq)
      rw [hq']
      exact neIt⟩
  have hotAt : ∀ {σ' : L2.St} {H' : Hp} {s' : Shared}, L2.Inv (X.blk s3 H3 scope ce [it]) [hp] σ' H' s' → HotX.HotAt X.A hp.1 s'.heap := fun {σ' H' s'} J => by
    obtain ⟨hh, vs, dv, c2⟩ := h1p
    exact ⟨hh, hp.2, vs, (J.pin hp (List.mem_append_right _ (List.mem_singleton.mpr rfl))).1, dv, c2⟩
  have loop : codeAny (model X.prog X.w) X.A (.compLoop (.ListComp elt [⟨tg, iter, ifs, 0⟩] scope pos) 0 (.ref it) (.ref D) ce) (compPost (model X.prog X.w) X.A X.xe none (EP X pins σ Q) (.ref D) s3.heap.objs.size) s4 := by
    refine compLoop_any (fun n s' => ∃ i H', L2.Inv (X.blk s3 H3 scope ce [it]) [hp] (wipe σ (own.map (·.2))) H' s' ∧ s'.heap.IsListIter it a i ∧ H' it = none ∧ W i n H') ?_ m0 ⟨0, H3, I4', it4, n3, w0⟩
    rintro n s5 ⟨i, H5, I5, it5, n5, w5⟩
    rcases turn i n H5 w5 with ⟨⟨xs, hq, hx⟩, fin⟩ | ⟨⟨xs, x, hq, hx⟩, Nx, hNx, step⟩
    · obtain ⟨its, rv, pl, hz⟩ := I5.list hq
      have lens := rv.length
      obtain ⟨f0, f1, f2, f4, f5, f6⟩ := stat I5 n5
      refine list_end_hot (hotAt I5) neIt it5 pl.isList (by simp; omega) fun g kg => ?_
      have I6 := I5.turned (t' := s5.toks) (fun b o hb e => kg b o hb e) f0 f1 f4 f5 f6
      have I7 : L2.Inv X pins σ H5 { s5 with heap := g } := I3.call' (ch := [it]) I6.os I6.base I6.hok I6.bare fun b hb => by
        rw [List.mem_singleton.mp hb]
        exact ⟨f3.2.2.2.1, f3.2.1, f3.2.2.2.2.1, f3.2.2.2.2.2⟩
      have nC : H5 s3.heap.objs.size = none := by
        have z : H5 ce.locals = none := I6.free
        rw [lce] at z
        exact z
      obtain ⟨m, hm, _⟩ := I6.loc
      have hm : g.Ns ce.locals m := hm
      rw [lce] at hm
      obtain ⟨c0, c1, c2, c3, c4, c5⟩ := I3.fpOk (Nat.le_refl _) nC
      exact ⟨m, hm, fun g2 sb => ⟨.ref D, H5, I7.turned (t' := s5.toks) (fun b o hb e => (sb.2 b hb).trans e) c0 c1 c3 c4 c5, rfl, fin⟩⟩
    · obtain ⟨its, rv, pl, hz⟩ := I5.list hq
      obtain ⟨u, hu, ru⟩ := rv.get hx
      obtain ⟨f0, f1, f2, f4, f5, f6⟩ := stat I5 n5
      refine wpAny_pyNext_list_item it5 pl.isList (x := u) (by simpa using hu) fun g it6 sb => ?_
      have I6 : L2.Inv (X.blk s3 H3 scope ce [it]) [hp] (wipe σ (own.map (·.2))) H5 { s5 with heap := g } := I5.turned (t' := s5.toks) (fun b o hb e => (sb.2 b hb).trans e) f0 f1 f4 f5 f6
      obtain ⟨oi, ei, ci, di⟩ := id it6
      refine go_of (s := { s5 with heap := g }) ei ci di (by decide) ?_
      have mine : ∀ ys, SqL X.K H5 a ys → ys[i]? = some x := fun ys hy => by rw [I5.list_inj hy hq]; exact hx
      have I6' := I6.pinned (fp := [it]) (fun b hb => by rw [List.mem_singleton.mp hb]; exact stat I6 n5) (fun b hb => by rw [List.mem_singleton.mp hb]; exact ⟨oi, ei, fun v z => by rw [di] at z; cases z⟩)
      refine thnF (pg.run _ _ _ H5 x u _ I6' ru (step x H5 ⟨rfl, mine⟩)) fun _ s8 ⟨σ8, H8, I8, hw8, q8⟩ => ?_
      refine thnF (pt.run _ s8 σ8 H8 _ I8 q8) fun b s9 ⟨H9, I9, q9⟩ => ?_
      have next : ∀ {s' : Shared} {H' : Hp}, L2.Inv (X.blk s3 H3 scope ce [it]) ([hp] ++ pinsAt [it] g) σ8 H' s' → Nx H' → ∃ m, m < n ∧ ∃ i H', L2.Inv (X.blk s3 H3 scope ce [it]) [hp] (wipe σ (own.map (·.2))) H' s' ∧ s'.heap.IsListIter it a i ∧ H' it = none ∧ W i m H' := fun {s' H'} J nx => by
        obtain ⟨m', lt, w'⟩ := hNx H' nx
        have pz := J.pin (it, oi) (List.mem_append_right _ (List.mem_append_right _ (mem_pinsAt (List.mem_singleton.mpr rfl) ei)))
        have ln : (wipe σ (own.map (·.2))).length = σ8.length := by rw [← hw8, wipe_length]
        refine ⟨m', lt, i + 1, H', (J.unpinned (pins := [hp])).weak ln (fun j v e => ?_), it6.at fun o e => ?_, pz.2.1, w'⟩
        · rw [← hw8] at e
          exact (wipe_some e).1
        · have : o = oi := by
            have e' : g.get? it = some o := e
            rw [ei] at e'
            exact (Option.some.inj e').symm
          rw [this]
          exact pz.1
      cases b with
      | false =>
        simp only [Bool.false_eq_true, if_false] at q9 ⊢
        exact next I9 q9
      | true =>
        simp only [if_true] at q9 ⊢
        refine thnF (pe.run _ s9 σ8 H9 _ I9 q9) fun z s10 ⟨yv, H10, I10, r10, acc, hD10, hz10, nx⟩ => ?_
        exact app_ok (X := X.blk s3 H3 scope ce [it]) I10 hD10 hz10 r10 fun s11 I11 => next I11 nx
  exact codeAny_compStart_list loop (wpAny_pyIter_listiter it4 loop)
end
end DL

set_option Elab.async false
set_option linter.all false
set_option maxRecDepth 100000
set_option maxHeartbeats 4000000
/-! A def that is called with the error that is handled. -/
namespace DL
open PySem PySem.Spec PyProof.Rows L2 L2H

theorem d_lcH {X : Cx} {elt tg iter : Expr} {ifs : List Expr} {scope : Scope} {own : List (Str × Nat)} {pos : Pos} {tl : TE} {dl : DE} {js : List Nat} {g : TG} {dg : DG} {tt : TT} {dt : DT} {te : TE} {de : DE} (hot : HotC X) (hN : X.N.Nodup) (hl : DP X iter tl dl) (ok : blkC X.N X.env.scope scope own = true)
    (hg : ∀ (s : Shared) (H : Hp) (C : Addr) (cl : List (Str × Addr)) (fp : List Addr), DPg (X.blk s H scope (compEnvC scope cl C X.env) fp) tg js g dg) (ht : ∀ (s : Shared) (H : Hp) (C : Addr) (cl : List (Str × Addr)) (fp : List Addr), DPts (X.blk s H scope (compEnvC scope cl C X.env) fp) ifs tt dt)
    (he : ∀ (s : Shared) (H : Hp) (C : Addr) (cl : List (Str × Addr)) (fp : List Addr), DP (X.blk s H scope (compEnvC scope cl C X.env) fp) elt te de) (hj : ∀ j ∈ js, j ∈ own.map (·.2) := by decide) (hs : ∀ x, foldedSetIterable iter X.env x = pure x := by intro _; rfl) :
    DP X (.ListComp elt [⟨tg, iter, ifs, 0⟩] scope pos) (tLc (iList X.K tl) g tt te (own.map (·.2))) (dLc (iLst dl) dg dt de (own.map (·.2))) :=
  ⟨pe_lcH hot hN hl.p (blkOk_by ok) (fun s H C cl fp => (hg s H C cl fp).p) (fun s H C cl fp => (ht s H C cl fp).p) (fun s H C cl fp => (he s H C cl fp).p) hs,
    ae_lc hj (di_lst (X := X) (tg := tg) hl).a (hg X.s_0 X.H_0 0 [] []).a (ht X.s_0 X.H_0 0 [] []).a (he X.s_0 X.H_0 0 [] []).a⟩
/-- what a def promises that is called with the handled error p; its class C, its fields' dict dd -/
structure FnE (P : Program) (w : World) (K : PySem.W.Frag) (mg : Str → Option Value) (base : Heap) (k : Nat) (f : Addr) (fd : FuncData) (ps : List Str) (se : Addr → Addr → Addr → Sp) : Prop where
  len : ∀ a dd C vs H Q E, se a dd C vs H Q E → vs.length = ps.length
  run : ∀ (A : Around) (outer : List Env) (s : Shared) (H : Hp) (args : Args) (us : List Value) (vs : List V) (Q : VK) (E : XK) (p : Addr × Obj) (dd C : Addr), RoomH k A → Hot1 A p → p.2.cls = .ref C → p.2.dict = some dd → PinOk outer H s p → Env0 P w K mg base A outer s H →
    BindsTo s fd args (ps.zip us) → Vals vs us → se p.1 dd C vs H Q E → codeAny (model P w) A (.call (.ref f) args) (CR CX0 outer P w H s Q E) s
section
variable {P : Program} {w : World} {K : PySem.W.Frag} {mg : Str → Option Value} {base : Heap} {k : Nat} {f : Addr} {fd : FuncData} {ps : List Str}
theorem Fun.okE {x qual : Str} {st : Stmt} {N : List Str} {se : Addr → Addr → Addr → Sp} (F : Fun K x qual st f fd) (S : FnScope N ps (defScope st)) (len : ∀ a dd C vs H Q E, se a dd C vs H Q E → vs.length = ps.length)
    (hbody : ∀ (cdv : Value) (A : Around) (fr : List Env) (s : Shared) (H : Hp) (vs : List V) (Q : VK) (E : XK) (p : Addr × Obj) (dd C : Addr), Hot1 A p → p.2.cls = .ref C → p.2.dict = some dd → RoomH k (A.deeper (envOfC qual (defScope st) s.heap.objs.size f cdv)) → se p.1 dd C vs H Q E →
      ∃ t, PSs (cxH CX0 P w K mg base N qual (defScope st) f cdv A fr s H E p).nox (defBody st) t ∧ t { nx := fun _ H' => Q .non H', rt := Q } (L2.start N vs) H) : FnE P w K mg base (k + 1) f fd ps se := by
  obtain ⟨oc, od, kV, doc, pm, an, cdv, ct, osl, rfl, lk, code⟩ := F.ex
  refine ⟨len, fun A fr s H args us vs Q E p dd C room hot hc hd pin e0 bind rel prom => ?_⟩
  have lens := len _ _ _ vs H Q E prom
  have inK : K.In s.heap := e0.mod.kin.keeps fun a o h => (e0.bs a o h).1
  have kinds : ∀ y ∈ ps.zip us, (defScope st).names.lookup y.1 = some .local ∨ ((defScope st).names.lookup y.1 = some .cell ∧ ((cellsFrom (s.heap.objs.size + 1) (defScope st).names []).lookup y.1).isSome = true) := fun y hy =>
    (S.par y.1 (List.of_mem_zip (a := y.1) (b := y.2) hy).1).elim .inl fun h => .inr ⟨h, PySem.W.cellsFrom_some _ _ _ (.inl h)⟩
  refine codeAny_call_function room.depth (inK _ _ lk) rfl S.co S.gen rfl (PySem.W.codeRec_of inK code) (bind _ _ _ _ (wpAny_newFunctionEnv_cells S.kind kinds fun env henv s1 x => ?_))
  subst henv
  refine ⟨(e0.mod.nolimit.keeps fun a o h => (e0.bs a o h).1).keeps x.toInCall.keep, codeAny_func ?_⟩
  obtain ⟨t, ht, hq⟩ := hbody cdv A fr s H vs Q E p dd C hot hc hd (room.deeper _) prom
  have iv := inv_startH (CX := CX0) (E := E) S pin e0 lens rel x
  refine wpAny_mono (ht.nox.run [] s1 _ H _ iv hq) ?_ (fun _ _ h => h)
  intro fl s' h
  match fl, h with
  | .ret u, ⟨v, σ', H', J, rv, q⟩ => exact ⟨v, H', J.os, J.bare, J.base, J.hok, rv, q⟩
  | .next, ⟨σ', H', J, q⟩ => exact ⟨.non, H', J.os, J.bare, J.base, J.hok, rfl, q⟩
  | .brk, ⟨_, _, _, q⟩ => exact q.elim
  | .cont, ⟨_, _, _, q⟩ => exact q.elim
theorem fnE_data {x qual : Str} {st : Stmt} {N : List Str} {sd : Addr → Addr → Addr → SpD} (F : Fun K x qual st f fd) (S : FnScope N ps (defScope st)) (len : ∀ a dd C ds μ Kd, sd a dd C ds μ Kd → ds.length = ps.length)
    (hbody : ∀ (cdv : Value) (A : Around) (fr : List Env) (s : Shared) (H : Hp) (E : XK) (p : Addr × Obj) (dd C : Addr), HotC (cxH CX0 P w K mg base N qual (defScope st) f cdv A fr s H E p).nox → ExcPin (cxH CX0 P w K mg base N qual (defScope st) f cdv A fr s H E p).nox p.1 dd C →
      RoomH k (A.deeper (envOfC qual (defScope st) s.heap.objs.size f cdv)) →
      ∃ d, DPss (cxH CX0 P w K mg base N qual (defScope st) f cdv A fr s H E p).nox (fun _ _ _ _ => False) (defBody st) d ∧ ∀ ds μ Kd, sd p.1 dd C ds μ Kd → d { nx := fun _ μ' => Kd .non μ', rt := Kd } (dstart N ds) μ) :
    FnE P w K mg base (k + 1) f fd ps fun a dd C => spOf (sd a dd C) := by
  refine Fun.okE F S (fun a dd C vs H Q E h => ?_) (fun cdv A fr s H vs Q E p dd C hot hc hd hr h => ?_)
  · obtain ⟨Nh, μ, ds, Kd, R, r, h, _⟩ := h
    rw [r.length]
    exact len a dd C ds μ Kd h
  · obtain ⟨Nh, μ, ds, Kd, R, r, h, q⟩ := h
    obtain ⟨vs0, dv, c2⟩ := hot.2
    obtain ⟨d, hd', hh⟩ := hbody cdv A fr s H E p dd C ⟨p, hot, List.mem_singleton.mpr rfl⟩ ⟨p.2, List.mem_singleton.mpr rfl, hc, hd, vs0, dv⟩ hr
    obtain ⟨t, h1, h2⟩ := hd'.ex
    refine ⟨t, h1, h2 Nh _ H _ μ _ _ R (sl_start r N) ⟨fun σ' H' ρ' μ' e R' S' k => q .non H' μ' .non e R' .non k, fun v H' d' μ' e R' rr k => q v H' μ' d' e R' rr k, fun _ _ _ _ _ _ _ k => (show False from k).elim, fun _ _ _ _ _ _ _ k => (show False from k).elim, fun _ _ _ _ _ _ _ _ _ _ _ _ _ _ _ _ _ k => (show False from k).elim⟩ (hh ds μ Kd h)⟩
end
section
variable {X : Cx} {k : Nat} {f : Addr} {fd : FuncData} {ps : List Str} {sd : Addr → Addr → Addr → SpD} {x : Str} {p pos : Pos} {e : Expr} {es : List Expr} {ta : TA} {da : DA} {a dd C : Addr}
/-- the handled error, in the context -/
structure HotPin (X : Cx) (a dd C : Addr) : Prop where
  ex : ∃ oe : Obj, (a, oe) ∈ X.pn ∧ Hot1 X.A (a, oe) ∧ oe.cls = .ref C ∧ oe.dict = some dd
theorem HotPin.pin (h : HotPin X a dd C) : ExcPin X a dd C := by
  obtain ⟨oe, hm, ⟨_, vs, hd, _⟩, hc, hx⟩ := h.ex
  exact ⟨oe, hm, hc, hx, vs, hd⟩
theorem pe_callE {se : Addr → Addr → Addr → Sp} (F : FnE X.prog X.w X.K X.mg X.base k f fd ps se) (hr : RoomH k X.A) (hP : HotPin X a dd C) (hg : Gl X x) (hm : X.mg x = some (.ref f)) (hk : PySem.W.keepIn X.K (.ref f) = true) (hb : Binds X.K fd ps [])
    (ha : PA X (e :: es) ta) (hdb : (x == ("__debug__" : Str)) = false := by decide) (he : starEach (e :: es) X.env = (false, eval e X.env) :: starEach es X.env := by rfl) (hpl : (backTo pos (starEach es X.env)).any (·.1) = false := by rfl) :
    PE X (.Call (.Name x p) (e :: es) [] pos) (tCall (se a dd C) [] E0 ta) := by
  refine ⟨fun pins s σ H Q I h => ?_⟩
  refine wpAny_Call_Name_kw (ld_glob I hg hm ?_ hdb)
  refine PySem.W.callWith_K (h₀ := X.base) I.ok.mod.kin hk (thn (ha.run pos pins s σ H _ I h) fun us s1 ⟨vs, H1, I1, r, q⟩ => ⟨I1.kIn, ?_⟩) he hpl
  obtain ⟨oe, hmem, hot, hc, hd⟩ := hP.ex
  have q : se a dd C (vs ++ []) H1 Q E0 := q
  rw [List.append_nil] at q
  have hl : us.length = ps.length := r.length.symm.trans (F.len _ _ _ _ _ _ _ q)
  have b := hb s1 us I1.kIn (by rw [List.append_nil]; exact hl)
  rw [List.append_nil] at b
  have P1 := I1.pin (a, oe) (List.mem_append_left _ hmem)
  have pin : PinOk X.stack H1 s1 (a, oe) := ⟨P1.1, P1.2.1, fun z => (List.mem_cons.mp (I1.stkSub a z)).elim P1.2.2.1 P1.2.2.2.1, P1.2.2.2.2⟩
  refine wpAny_call (codeAny_mono (F.run X.A X.stack s1 H1 ⟨us, []⟩ us vs Q E0 (a, oe) dd C hr hot hc hd pin I1.env0 b r q) fun res s' out => ?_)
  match res, out with
  | .error er, out => exact out.elim
  | .ok (.ret u), out => exact I1.after out
  | .ok .next, out => exact out.elim
  | .ok .brk, out => exact out.elim
  | .ok .cont, out => exact out.elim
theorem d_callE (F : FnE X.prog X.w X.K X.mg X.base k f fd ps fun a dd C => spOf (sd a dd C)) (hr : RoomH k X.A) (hP : HotPin X a dd C) (hg : Gl X x) (hm : X.mg x = some (.ref f)) (hk : PySem.W.keepIn X.K (.ref f) = true) (hb : Binds X.K fd ps [])
    (ha : DPa X (e :: es) ta da) (hdb : (x == ("__debug__" : Str)) = false := by decide) (he : starEach (e :: es) X.env = (false, eval e X.env) :: starEach es X.env := by rfl) (hpl : (backTo pos (starEach es X.env)).any (·.1) = false := by rfl) :
    DP X (.Call (.Name x p) (e :: es) [] pos) (tCall (spOf (sd a dd C)) [] E0 ta) (dCB (sd a dd C) da) := ⟨pe_callE F hr hP hg hm hk hb ha.p hdb he hpl, ae_call ha.a⟩
end
end DL

set_option Elab.async false
set_option linter.all false
set_option maxRecDepth 100000
set_option maxHeartbeats 4000000
/-! try: .. except C as e: .. -/
namespace DL
open PySem PySem.Spec PyProof.Rows L2 L2H

section
variable {X : Cx}
/-- a call that may raise, as what is returned behind a written text: return (c, f(..)) -/
def dRetX (sx : SpX) (dc : Dt) (da : DA) : DS := fun F ρ μ => da ρ μ fun xs μ1 => sx xs μ1 (fun d μ2 => F.rt (.tup [dc, d]) μ2) fun C d μ2 => F.rx C d ρ μ2
theorem ds_retX {W : WX} {k : Nat} {f : Addr} {fd : FuncData} {ps : List Str} {sx : SpX} {x t : Str} {p pos pos1 pos2 pos3 : Pos} {j kk : Nat} {e : Expr} {es : List Expr} {ta : TA} {da : DA} (tk : L2N.Takes X W) (F : FnOk X.prog X.w X.K X.mg X.base (L2N.CX X.prog X.w) k f fd ps (spOfX sx)) (hr : Room k X.A)
    (hg : Gl X x) (hm : X.mg x = some (.ref f)) (hk : PySem.W.keepIn X.K (.ref f) = true) (hb : Binds X.K fd ps []) (ha : DPa X (e :: es) ta da) (hdb : (x == ("__debug__" : Str)) = false := by decide) (he : starEach (e :: es) X.env = (false, eval e X.env) :: starEach es X.env := by rfl)
    (hpl : (backTo pos (starEach es X.env)).any (·.1) = false := by rfl) (ht : ∀ c ∈ t.cps.toList, c < 0x110000 := by decide +kernel)
    (h1 : starEach [.Constant (.str t) j pos1, .Call (.Name x p) (e :: es) [] pos] X.env = (false, eval (.Constant (.str t) j pos1) X.env) :: starEach [.Call (.Name x p) (e :: es) [] pos] X.env := by rfl)
    (h2 : starEach [.Call (.Name x p) (e :: es) [] pos] X.env = (false, eval (.Call (.Name x p) (e :: es) [] pos) X.env) :: starEach [] X.env := by rfl) :
    DPs X W (.Return (some (.Tuple [.Constant (.str t) j pos1, .Call (.Name x p) (e :: es) [] pos] kk pos2)) pos3) (dRetX sx (.str t.cps.toList) da) := by
  refine ⟨_, ps_ret (pe_tup (pa_cons pe_str (pa_cons (pe_callS (E := WE W) F hr hg hm hk hb (fun σ => L2N.passAt tk σ) ha.p hdb he hpl) pa_nil h2) h1)), fun N σ H ρ μ D Fd R S l h => ?_⟩
  show tTup (tCons (tC (.str t)) (tCons (tCallS (spOfX sx) (WE W) ta) tNil)) σ H D.rt
  refine ha.a N σ H ρ μ _ _ R S h fun vs H1 μ1 ds e1 R1 rs h1 => ?_
  refine ⟨N, μ1, ds, _, _, R1, rs, h1, fun v H2 μ2 d e2 R2 rv k => ⟨szl (by simp), fun q hq => ?_⟩, fun C dd fs v d H2 μ2 e2 R2 hn hm hx hl rv k => ?_⟩
  · exact l.rt _ _ _ μ2 ((e1.trans e2).trans (stp_new hq)) (R2.new hq) (Rp.newTup R2 hq (.cons (Rp.ofStr t ht) (.cons rv .nil))) k
  · exact l.rx C dd fs v d σ H2 ρ μ2 (e1.trans e2) R2 ((S.mono e1).mono e2) hn hm hx hl rv k

/-! ### try -/
/-- the body's readings; what is raised is caught, its suite's readings -/
def dTry (i : Nat) (ok : Addr → Prop) (db : DS) (dsu : Addr → Addr → Addr → DS) : DS := fun F ρ μ => db { F with rx := fun C dv ρ' μ' => ok C ∧ ∀ a dd, dsu a dd C { nx := fun ρ2 μ2 => F.nx (ρ2.set i none) μ2, rt := F.rt, bk := fun ρ2 μ2 => F.bk (ρ2.set i none) μ2, ct := fun ρ2 μ2 => F.ct (ρ2.set i none) μ2 } (ρ'.set i (some (.exc a dd C dv))) μ' } ρ μ
theorem PSs.weak {st : List Stmt} {t t' : TS} (h : PSs X st t) (w : ∀ D σ H, t' D σ H → t D σ H) : PSs X st t' := ⟨fun pins s σ H D I q => h.run pins s σ H D I (w D σ H q)⟩
theorem ds_try {W : WX} {x n : Str} {c : Value} {i : Nat} {body suite : List Stmt} {b₀ : Stmt} {np pos pos' : Pos} {ok : Addr → Prop} {db : DS} {dsu : Addr → Addr → Addr → DS} (hs : X.stack = X.env :: X.outer) (hf : X.env.frame = some X.env.locals) (hN : X.N.Nodup) (hi : X.N[i]? = some n) (hln : X.env.kindOf n = some .local)
    (hc : Names X x c) (tk : L2N.Takes X W) (hex : ∀ C, ok C → PySem.W.exmOne X.K (.ref C) c = some true)
    (hb : ∀ (W' : WX) (pn : List (Addr × Obj)) (xe : Value → Shared → Prop), L2N.Takes (X.tr pn xe) W' → PassesOwn (model X.prog X.w) X.A X.env xe → DPss (X.tr pn xe) W' body db)
    (hsu : ∀ (a dd C : Addr) (oe : Obj) (pn : List (Addr × Obj)), ok C → HotPin (X.suite a ((a, oe) :: pn)) a dd C → L2.Zc (.ref C) (some dd) oe → (∃ vs, oe.data = .fields vs) → DPss (X.suite a ((a, oe) :: pn)) (fun _ _ _ _ => False) (b₀ :: suite) (dsu a dd C)) :
    DPs X W (.Try body [.ExceptHandler (some (.Name x np)) (some n) (b₀ :: suite) pos'] [] [] pos) (dTry i ok db dsu) := by
  have hotOf : ∀ (a dd C : Addr) (oe : Obj) (pn : List (Addr × Obj)), L2N.Zn (.ref C) (some dd) oe → (∃ vs, oe.data = .fields vs) → HotPin (X.suite a ((a, oe) :: pn)) a dd C := fun a dd C oe pn hz hv => by
    obtain ⟨vs, hd⟩ := hv
    exact ⟨oe, List.mem_cons_self, ⟨rfl, vs, hd, hz.2.2 vs hd⟩, hz.1, hz.2.1⟩
  -- the readings of the body and of the suite, whatever stands around them
  let tb : WX → TS := fun W' D σ H => ∀ (pn : List (Addr × Obj)) (xe : Value → Shared → Prop) (t1 : L2N.Takes (X.tr pn xe) W') (t2 : PassesOwn (model X.prog X.w) X.A X.env xe), (hb W' pn xe t1 t2).ex.choose D σ H
  let ts : Addr → Value → Option Addr → TS := fun a cls d D σ H => ∀ (dd C : Addr) (ec : cls = .ref C) (ed : d = some dd) (oe : Obj) (pn : List (Addr × Obj)) (hz : L2N.Zn (.ref C) (some dd) oe) (hv : ∃ vs, oe.data = .fields vs), ∃ (k : ok C), (hsu a dd C oe pn k (hotOf a dd C oe pn hz hv) hz.zc hv).ex.choose D σ H
  have own : ∀ {cls : Value} {d : Option Addr}, (∃ C dd, cls = .ref C ∧ d = some dd) ∨ ¬ ∃ C dd, cls = .ref C ∧ d = some dd := Classical.em _
  let ts' : Addr → Value → Option Addr → TS := fun a cls d D σ H => (∃ C dd, cls = .ref C ∧ d = some dd) ∧ ts a cls d D σ H
  refine ⟨fun D σ H => tb (wAs X.K c i ts' W D) D σ H, L2N.ps_try_as hs hf hN hi hln hc tk (fun W' pn xe t1 t2 => ?_) (fun a oe cls d pn hz hv => ?_), fun N σ H ρ μ D F R S l h pn xe t1 t2 => ?_⟩
  · exact PSs.weak (hb W' pn xe t1 t2).ex.choose_spec.1 fun D σ H q => q pn xe t1 t2
  · by_cases hx : ∃ C dd, cls = .ref C ∧ d = some dd
    · obtain ⟨C, dd, rfl, rfl⟩ := hx
      by_cases k : ok C
      · exact PSs.weak (hsu a dd C oe pn k (hotOf a dd C oe pn hz hv) hz.zc hv).ex.choose_spec.1 fun D σ H q => (q.2 dd C rfl rfl oe pn hz hv).choose_spec
      · exact PSs.weak pss_never fun D σ H q => absurd (q.2 dd C rfl rfl oe pn hz hv).choose k
    · exact PSs.weak pss_never fun D σ H q => absurd q.1 hx
  · refine (hb _ pn xe t1 t2).ex.choose_spec.2 N σ H ρ μ D { F with rx := fun C dv ρ' μ' => ok C ∧ ∀ a dd, dsu a dd C { nx := fun ρ2 μ2 => F.nx (ρ2.set i none) μ2, rt := F.rt, bk := fun ρ2 μ2 => F.bk (ρ2.set i none) μ2, ct := fun ρ2 μ2 => F.ct (ρ2.set i none) μ2 } (ρ'.set i (some (.exc a dd C dv))) μ' } R S ⟨l.nx, l.rt, l.bk, l.ct, fun C dd fs v dv σ' H' ρ' μ' e R' S' hn hm hx hl rv k => ?_⟩ h
    refine ⟨true, hex C k.1, fun _ a ha => ⟨⟨C, dd, rfl, rfl⟩, fun dd' C' ec ed oe pn' hz hv => ?_⟩, fun z => absurd z (by decide)⟩
    cases ec
    cases ed
    refine ⟨k.1, (hsu a dd C oe pn' k.1 (hotOf a dd C oe pn' hz hv) hz.zc hv).ex.choose_spec.2 N _ H' _ μ' _ { nx := fun ρ2 μ2 => F.nx (ρ2.set i none) μ2, rt := F.rt, bk := fun ρ2 μ2 => F.bk (ρ2.set i none) μ2, ct := fun ρ2 μ2 => F.ct (ρ2.set i none) μ2 } R' (S'.set (.exc hn hm hx hl rv)) ⟨fun σ2 H2 ρ2 μ2 e2 R2 S2 q => ?_, fun v2 H2 d2 μ2 e2 R2 r2 q => l.rt v2 H2 d2 μ2 (e.trans e2) R2 r2 q, fun σ2 H2 ρ2 μ2 e2 R2 S2 q => ?_, fun σ2 H2 ρ2 μ2 e2 R2 S2 q => ?_, fun _ _ _ _ _ _ _ _ _ _ _ _ _ _ _ _ _ q => (show False from q).elim⟩ (k.2 a dd)⟩
    · exact l.nx _ H2 _ μ2 (e.trans e2) R2 S2.unset q
    · exact l.bk _ H2 _ μ2 (e.trans e2) R2 S2.unset q
    · exact l.ct _ H2 _ μ2 (e.trans e2) R2 S2.unset q

/-! ### e.at -/
def dAt (de : DE) (a dd C : Addr) : DE := fun ρ μ K => de ρ μ fun x μ1 => ∃ d, x = .exc a dd C d ∧ K d μ1
theorem d_at {a dd C : Addr} {oe : Obj} {pn : List (Addr × Obj)} {e : Expr} {te : TE} {de : DE} {pos : Pos} (T : XfC X.K C) (hno : PySem.W.findIn X.K (.ref C) "at" = some none) (hz : L2.Zc (.ref C) (some dd) oe) (hf : ∃ vs, oe.data = .fields vs) (he : DP (X.suite a ((a, oe) :: pn)) e te de)
    (hb : attributeBase e "at" X.env (eval e X.env) = eval e X.env := by rfl) : DP (X.suite a ((a, oe) :: pn)) (.Attribute e "at" pos) (tXf a (.ref C) (some dd) C "at" te) (dAt de a dd C) :=
  ⟨pe_xf T hno hz hf he.p hb, fun N σ H ρ μ Kd Q R S h q => he.a N σ H ρ μ _ _ R S h fun v H1 μ1 d e1 R1 r ⟨d', ed, k⟩ => by
    subst ed
    obtain ⟨ev, fs, u, hd, hl, ru⟩ := r.excInv
    exact ⟨ev, rfl, dd, fs, u, rfl, hd, hl, q u H1 μ1 d' e1 R1 ru k⟩⟩
end
end DL

set_option Elab.async false
set_option linter.all false
set_option maxRecDepth 100000
set_option maxHeartbeats 4000000
/-! Calls by name; -e; what the generator prints. -/
namespace DL
open PySem PySem.Spec PyProof.Rows L2 L2H

/-- a def of the text, its promise -/
structure Cal (P : Program) (w : World) (K : PySem.W.Frag) (mg : Str → Option Value) (base : Heap) (k : Nat) (x : Str) (ps : List Str) (spd : SpD) : Prop where
  ex : ∃ (f : Addr) (fd : FuncData), FnOk P w K mg base CX0 k f fd ps (spOf spd) ∧ mg x = some (.ref f) ∧ PySem.W.keepIn K (.ref f) = true ∧ Binds K fd ps []
structure CalG (P : Program) (w : World) (K : PySem.W.Frag) (mg : Str → Option Value) (base : Heap) (k : Nat) (x : Str) (ps : List Str) (spd : SpD) : Prop where
  ex : ∃ (f : Addr) (fd : FuncData), FnG P w K mg base CX0 k f fd ps (spOf spd) ∧ mg x = some (.ref f) ∧ PySem.W.keepIn K (.ref f) = true ∧ Binds K fd ps []
structure CalX (P : Program) (w : World) (K : PySem.W.Frag) (mg : Str → Option Value) (base : Heap) (k : Nat) (x : Str) (ps : List Str) (sx : SpX) : Prop where
  ex : ∃ (f : Addr) (fd : FuncData), FnOk P w K mg base (L2N.CX P w) k f fd ps (spOfX sx) ∧ mg x = some (.ref f) ∧ PySem.W.keepIn K (.ref f) = true ∧ Binds K fd ps []
structure CalE (P : Program) (w : World) (K : PySem.W.Frag) (mg : Str → Option Value) (base : Heap) (k : Nat) (x : Str) (ps : List Str) (sd : Addr → Addr → Addr → SpD) : Prop where
  ex : ∃ (f : Addr) (fd : FuncData), FnE P w K mg base k f fd ps (fun a dd C => spOf (sd a dd C)) ∧ mg x = some (.ref f) ∧ PySem.W.keepIn K (.ref f) = true ∧ Binds K fd ps []
section
variable {P : Program} {w : World} {K : PySem.W.Frag} {mg : Str → Option Value} {base : Heap} {k : Nat} {x : Str} {ps : List Str} {spd : SpD}
theorem Cal.g (c : Cal P w K mg base k x ps spd) : CalG P w K mg base k x ps spd := by
  obtain ⟨f, fd, h1, h2⟩ := c.ex
  exact ⟨f, fd, FnG.of h1, h2⟩
end
section
variable {X : Cx} {k : Nat} {ps : List Str} {spd : SpD} {x : Str} {p pos : Pos} {e : Expr} {es : List Expr} {ta : TA} {da : DA}
theorem d_cal (c : Cal X.prog X.w X.K X.mg X.base k x ps spd) (hr : Room k X.A) (ha : DPa X (e :: es) ta da) (hg : Gl X x := by rfl) (hdb : (x == ("__debug__" : Str)) = false := by decide) (he : starEach (e :: es) X.env = (false, eval e X.env) :: starEach es X.env := by rfl)
    (hpl : (backTo pos (starEach es X.env)).any (·.1) = false := by rfl) : DP X (.Call (.Name x p) (e :: es) [] pos) (tCall (spOf spd) [] E0 ta) (dCB spd da) := by
  obtain ⟨f, fd, F, hm, hk, hb⟩ := c.ex
  exact d_call F hr hg hm hk hb ha hdb he hpl
theorem d_calN (c : Cal X.prog X.w X.K X.mg X.base k x ps spd) (hr : Room k X.A) (hg : Gl X x := by rfl) (hdb : (x == ("__debug__" : Str)) = false := by decide) : DP X (.Call (.Name x p) [] [] pos) (tCall (spOf spd) [] E0 tNil) (dCB spd dNil) := by
  obtain ⟨f, fd, F, hm, hk, hb⟩ := c.ex
  exact d_call0 F hr hg hm hk hb hdb
theorem d_calG (c : CalG X.prog X.w X.K X.mg X.base k x ps spd) (hr : Room k X.A) (hG : NoG X.A) (ha : DPa X (e :: es) ta da) (hg : Gl X x := by rfl) (hdb : (x == ("__debug__" : Str)) = false := by decide) (he : starEach (e :: es) X.env = (false, eval e X.env) :: starEach es X.env := by rfl)
    (hpl : (backTo pos (starEach es X.env)).any (·.1) = false := by rfl) : DP X (.Call (.Name x p) (e :: es) [] pos) (tCall (spOf spd) [] E0 ta) (dCB spd da) := by
  obtain ⟨f, fd, F, hm, hk, hb⟩ := c.ex
  exact d_callG F hr hG hg hm hk hb ha hdb he hpl
theorem d_calE {sd : Addr → Addr → Addr → SpD} {a dd C : Addr} (c : CalE X.prog X.w X.K X.mg X.base k x ps sd) (hr : RoomH k X.A) (hP : HotPin X a dd C) (ha : DPa X (e :: es) ta da) (hg : Gl X x := by rfl) (hdb : (x == ("__debug__" : Str)) = false := by decide) (he : starEach (e :: es) X.env = (false, eval e X.env) :: starEach es X.env := by rfl)
    (hpl : (backTo pos (starEach es X.env)).any (·.1) = false := by rfl) : DP X (.Call (.Name x p) (e :: es) [] pos) (tCall (spOf (sd a dd C)) [] E0 ta) (dCB (sd a dd C) da) := by
  obtain ⟨f, fd, F, hm, hk, hb⟩ := c.ex
  exact d_callE F hr hP hg hm hk hb ha hdb he hpl
theorem ds_retXC {W : WX} {sx : SpX} {t : Str} {pos1 pos2 pos3 : Pos} {j kk : Nat} (tk : L2N.Takes X W) (c : CalX X.prog X.w X.K X.mg X.base k x ps sx) (hr : Room k X.A) (ha : DPa X (e :: es) ta da) (hg : Gl X x := by rfl) (hdb : (x == ("__debug__" : Str)) = false := by decide)
    (he : starEach (e :: es) X.env = (false, eval e X.env) :: starEach es X.env := by rfl) (hpl : (backTo pos (starEach es X.env)).any (·.1) = false := by rfl) (ht : ∀ c ∈ t.cps.toList, c < 0x110000 := by decide +kernel)
    (h1 : starEach [.Constant (.str t) j pos1, .Call (.Name x p) (e :: es) [] pos] X.env = (false, eval (.Constant (.str t) j pos1) X.env) :: starEach [.Call (.Name x p) (e :: es) [] pos] X.env := by rfl)
    (h2 : starEach [.Call (.Name x p) (e :: es) [] pos] X.env = (false, eval (.Call (.Name x p) (e :: es) [] pos) X.env) :: starEach [] X.env := by rfl) :
    DPs X W (.Return (some (.Tuple [.Constant (.str t) j pos1, .Call (.Name x p) (e :: es) [] pos] kk pos2)) pos3) (dRetX sx (.str t.cps.toList) da) := by
  obtain ⟨f, fd, F, hm, hk, hb⟩ := c.ex
  exact ds_retX tk F hr hg hm hk hb ha hdb he hpl ht h1 h2
/-- -e -/
def dNeg (de : DE) : DE := fun ρ μ K => de ρ μ fun x μ1 => ∃ i, x = .int i ∧ K (.int (-i)) μ1
theorem d_neg {te : TE} {de : DE} (h : DP X e te de) : DP X (.UnaryOp .USub e pos) (tUn (rU fun i => .int (-i)) te) (dNeg de) := ⟨pe_un un_neg h.p, fun N σ H ρ μ Kd Q R S h1 q => h.a N σ H ρ μ _ _ R S h1 fun v H1 μ1 d e1 R1 r ⟨i, ed, k⟩ => by
  subst ed
  exact ⟨i, r.intInv, q _ H1 μ1 _ e1 R1 (.int _) k⟩⟩
end
/-- a written text, as data -/
abbrev cS (x : Str) : Dt := .str x.cps.toList
end DL

set_option Elab.async false
set_option linter.all false
set_option maxRecDepth 100000
set_option maxHeartbeats 4000000
/-! A def by its name: where it stands, its promise; an error's class by its name. -/
namespace DL
open PySem PySem.Spec PyProof.Rows L2
structure DefF (K : PySem.W.Frag) (mg : Str → Option Value) (x : Str) (st : Stmt) : Prop where
  ex : ∃ (f : Addr) (fd : FuncData), Fun K x x st f fd ∧ mg x = some (.ref f)
structure ErrF (P : Program) (w : World) (K : PySem.W.Frag) (mg : Str → Option Value) (base : Heap) (x : Str) (C : Addr) : Prop where
  ex : OexC K C
  no : PySem.W.findIn K (.ref C) "at" = some none
  glo : mg x = some (.ref C)
  it : ∃ (fI : Addr) (fd : FuncData), PySem.W.findIn K (.ref C) "__init__" = some (some (.ref fI)) ∧ PySem.W.typeIn K (.ref fI) = some (.type "function") ∧ FnOk P w K mg base CX0 1 fI fd ["self", "at"] (spInitK K) ∧ Binds K fd ["self", "at"] []
section
variable {P : Program} {w : World} {K : PySem.W.Frag} {mg : Str → Option Value} {base : Heap} {k : Nat} {x : Str} {st : Stmt} {ps : List Str}
abbrev BindA (x : Str) (st : Stmt) (ps : List Str) : Prop := ∀ (kV doc pm : Value) (an : Option Addr) (cdv ct : Value) (us : List Value), us.length = ps.length → bindArgs (PySem.W.fnOf x x (defArgs st) (defBody st) (defScope st) .none kV doc pm an cdv ct) ⟨us, []⟩ = pure (ps.zip us)
theorem DefF.cal {spd : SpD} (d : DefF K mg x st) (hb : BindA x st ps) (ok : ∀ f fd, Fun K x x st f fd → FnOk P w K mg base CX0 k f fd ps (spOf spd)) : Cal P w K mg base k x ps spd := by
  obtain ⟨f, fd, F, hm⟩ := d.ex
  exact ⟨f, fd, ok f fd F, hm, F.kp, F.binds hb⟩
theorem DefF.calG {spd : SpD} (d : DefF K mg x st) (hb : BindA x st ps) (ok : ∀ f fd, Fun K x x st f fd → FnG P w K mg base CX0 k f fd ps (spOf spd)) : CalG P w K mg base k x ps spd := by
  obtain ⟨f, fd, F, hm⟩ := d.ex
  exact ⟨f, fd, ok f fd F, hm, F.kp, F.binds hb⟩
theorem DefF.calX {sx : SpX} (d : DefF K mg x st) (hb : BindA x st ps) (ok : ∀ f fd, Fun K x x st f fd → FnOk P w K mg base (L2N.CX P w) k f fd ps (spOfX sx)) : CalX P w K mg base k x ps sx := by
  obtain ⟨f, fd, F, hm⟩ := d.ex
  exact ⟨f, fd, ok f fd F, hm, F.kp, F.binds hb⟩
theorem DefF.calE {sd : Addr → Addr → Addr → SpD} (d : DefF K mg x st) (hb : BindA x st ps) (ok : ∀ f fd, Fun K x x st f fd → FnE P w K mg base k f fd ps (fun a dd C => spOf (sd a dd C))) : CalE P w K mg base k x ps sd := by
  obtain ⟨f, fd, F, hm⟩ := d.ex
  exact ⟨f, fd, ok f fd F, hm, F.kp, F.binds hb⟩
end
section
variable {X : Cx} {W : WX}
/-- raise x(e) -/
theorem ds_raiseF {e : Expr} {te : TE} {de : DE} {x : Str} {C : Addr} {p pos pos' : Pos} (z : ErrF X.prog X.w X.K X.mg X.base x C) (hc : X.calm = true) (tk : L2N.Takes X W) (hr : Room 2 X.A) (he : DP X e te de) (hg : Gl X x := by rfl)
    (hdb : (x == ("__debug__" : Str)) = false := by decide) (h1 : starEach [e] X.env = (false, eval e X.env) :: starEach [] X.env := by rfl) (hpl : (backTo pos' (starEach [] X.env)).any (·.1) = false := by rfl) :
    DPs X W (.Raise (some (.Call (.Name x p) [e] [] pos')) none pos) (dRaise C de) := by
  obtain ⟨fI, fd, iC, tI, F1, hb⟩ := z.it
  exact ds_raise hc tk z.ex z.no iC tI F1 hr hb hg z.glo he hdb h1 hpl
end
/-! rules whose form names the frame K itself, for use within a comprehension -/
section
variable {X : Cx} {a b e : Expr} {ta tb te : TE} {da db de : DE} {pos p2 : Pos}
theorem kop_eq (K : PySem.W.Frag) (k : X.K = K) (hu : X.A.units + 64 < cLine) : DOp X (compareOp .Eq) (rEqD K) rdEq := by
  subst k
  exact dop_eq hu
theorem kop_ne (K : PySem.W.Frag) (k : X.K = K) (hu : X.A.units + 64 < cLine) : DOp X (compareOp .NotEq) (rNeD K) rdNe := by
  subst k
  exact dop_ne hu
theorem kop_in (K : PySem.W.Frag) (k : X.K = K) : DOp X (compareOp .In) (L2.rIn K false) rdIn := by
  subst k
  exact dop_in
theorem kop_notIn (K : PySem.W.Frag) (k : X.K = K) : DOp X (compareOp .NotIn) (L2.rIn K true) rdNotIn := by
  subst k
  exact dop_notIn
theorem kop_add (K : PySem.W.Frag) (k : X.K = K) : DOp X (binaryOp .Add) (rAddA K) rdAdd := by
  subst k
  exact dop_add
theorem kix (K : PySem.W.Frag) (k : X.K = K) : DIx X (rIx K) rdIx := by
  subst k
  exact dix
theorem kc_len (K : PySem.W.Frag) (k : X.K = K) : DCall X (.builtin "len") (fun xs H Q => ∃ x n, xs = [x] ∧ LenV K x H n ∧ Q (.int n) H) rdLen := by
  subst k
  exact dc_len
theorem k_slice (K : PySem.W.Frag) (k : X.K = K) {lo hi : Option Expr} {tl tu : TO} {dl du : DO} (he : DP X e te de) (hl : DPo X lo tl dl) (hu : DPo X hi tu du) : DP X (.Subscript e (.Slice lo hi none p2) pos) (tSl (rSlAll K) te tl tu) (dSl de dl du) := by
  subst k
  exact d_slice he hl hu
theorem kg_tup (K : PySem.W.Frag) (kk : X.K = K) {es : List Expr} {k : Nat} {js : List Nat} {t : TGs} {dt : DGs} {n : Nat} (hc : X.calm = true) (h : DPgs X es js t dt)
    (hn : (assignEach es X.env).length = n := by rfl) (hst : (assignEach es X.env).findIdx? (·.1) = none := by rfl) : DPg X (.Tuple es k pos) js (gTup K n t) (gTupD n dt) := by
  subst kk
  exact dg_tup hc h hn hst
end
end DL

set_option Elab.async false
set_option linter.all false
set_option maxRecDepth 100000
set_option maxHeartbeats 400000
/-! a, b, c = x, y, z, where the values are stored from the last on. -/
namespace DL
open PySem PySem.Spec PyProof.Rows L2
section
variable {M : Model} {A : Around} {E : Value → Shared → Prop} {s : Shared} {env : Env}
theorem wpAny_Assign_swap {targets : List Expr} {value : Expr} {pos : Pos} {names : List Str} {Q : Flow → Shared → Prop}
    (h : wpAny M A (eval value env) (fun v s₁ => wpAny M A (unpackItems v names.length none) (fun items => wpAny M A (assignInOrder (names.reverse.map fun n => bindName env n) items.reverse) (fun _ => Q .next) E) E s₁) E s)
    (hs : swapsWithSole targets value pos.line env = pure false) (hw : swappedStores targets value env = pure (some names)) : wpAny M A (exec (.Assign targets value pos) env) Q E s := by
  rw [exec_Assign_arm]
  refine wpAny_bind (wpAny_standAt ?_)
  rw [hs]
  refine wpAny_bind (wpAny_pure ?_)
  rw [if_neg (by decide)]
  refine wpAny_bind (wpAny_mono h (fun v s₁ h₁ => ?_) fun _ _ x => x)
  rw [hw]
  refine wpAny_bind (wpAny_pure ?_)
  show wpAny M A (do rule "assign.swapped-stores"; let items ← unpackItems v names.length none; assignInOrder (names.reverse.map fun n => bindName env n) items.reverse; pure .next) Q E s₁
  refine wpAny_bind (wpAny_rule (wpAny_bind (wpAny_mono h₁ (fun _ _ x => wpAny_bind (wpAny_mono x (fun _ _ y => wpAny_pure y) fun _ _ y => y)) fun _ _ x => x)))
end
section
variable {X : Cx} {e : Expr} {te : TE} {de : DE} {pos : Pos} {W : WX}
def tAsg3 (K : PySem.W.Frag) (i j l : Nat) (te : TE) : TS := fun D σ H => te σ H fun x H1 => ∃ p a b c, x = .ref p ∧ SqT K H1 p [a, b, c] ∧ D.nx (((σ.set l (some c)).set j (some b)).set i (some a)) H1
def dAsg3 (i j l : Nat) (de : DE) : DS := fun F ρ μ => de ρ μ fun d μ1 => ∃ a b c, d = .tup [a, b, c] ∧ F.nx (((ρ.set l (some c)).set j (some b)).set i (some a)) μ1
theorem vals3 {a b c : V} {its : List Value} (h : Vals [a, b, c] its) : ∃ ua ub uc, its = [ua, ub, uc] ∧ RelV a ua ∧ RelV b ub ∧ RelV c uc := by
  cases h with
  | cons h1 h =>
  cases h with
  | cons h2 h =>
  cases h with
  | cons h3 h =>
  cases h
  exact ⟨_, _, _, rfl, h1, h2, h3⟩
theorem stores3 {pins : List (Addr × Obj)} {σ : L2.St} {H : Hp} {s : Shared} {D : Ends} {i j l : Nat} {x y z : Str} {a b c : V} {ua ub uc : Value} (I : L2.Inv X pins σ H s) (hN : X.N.Nodup) (hi : X.N[i]? = some x) (hj : X.N[j]? = some y) (hl : X.N[l]? = some z)
    (lx : X.env.scope.names.lookup x = some .local) (ly : X.env.scope.names.lookup y = some .local) (lz : X.env.scope.names.lookup z = some .local) (ra : RelV a ua) (rb : RelV b ub) (rc : RelV c uc) (k : D.nx (((σ.set l (some c)).set j (some b)).set i (some a)) H) :
    wpAny (model X.prog X.w) X.A (assignInOrder [bindName X.env z, bindName X.env y, bindName X.env x] [uc, ub, ua]) (fun _ => SP X pins D .next) X.xe s := by
  refine assignInOrder_cons (wpAny_bindName (store_ok I hN hl (.inl lz) rc (fun s3 I3 => ?_) (.inr lz)))
  refine assignInOrder_cons (wpAny_bindName (store_ok I3 hN hj (.inl ly) rb (fun s4 I4 => ?_) (.inr ly)))
  refine assignInOrder_cons (wpAny_bindName (store_ok I4 hN hi (.inl lx) ra (fun s5 I5 => ?_) (.inr lx)))
  exact wpAny_pure ⟨_, H, I5, k⟩
theorem rev3 {x y z : Str} {env : Env} : (([x, y, z] : List Str).reverse.map fun n => bindName env n) = [bindName env z, bindName env y, bindName env x] := rfl
theorem ps_asg3 {i j l : Nat} {x y z : Str} {tg : Expr} (hc : X.calm = true) (hN : X.N.Nodup) (he : PE X e te) (hi : X.N[i]? = some x) (hj : X.N[j]? = some y) (hl : X.N[l]? = some z) (lx : X.env.scope.names.lookup x = some .local) (ly : X.env.scope.names.lookup y = some .local) (lz : X.env.scope.names.lookup z = some .local)
    (hs : swapsWithSole [tg] e pos.line X.env = pure false) (hw : swappedStores [tg] e X.env = pure (some [x, y, z])) : PS X (.Assign [tg] e pos) (tAsg3 X.K i j l te) := by
  constructor
  intro pins s σ H D I h
  apply wpAny_Assign_swap (names := [x, y, z]) _ hs hw
  refine thn (he.run pins s σ H _ I h) fun v s1 q0 => ?_
  obtain ⟨v', H1, I1, r1, p, a, b, c, ev, hq, k⟩ := q0
  subst ev
  cases r1
  obtain ⟨its, rv, ht, hz⟩ := I1.tuple hq
  obtain ⟨ua, ub, uc, eits, ra, rb, rc⟩ := vals3 rv
  subst eits
  rw [rev3, show ([x, y, z] : List Str).length = ([ua, ub, uc] : List Value).toArray.size from rfl]
  refine wpAny_unpackItems_tuple (I1.ok.hd hc) ht ?_
  intro h' hx
  have I2 := I1.kept (t' := s1.toks) (h' := h') fun b o e => hx b o (Nat.ne_of_lt (Heap.lt_size e)) e
  have q := stores3 I2 hN hi hj hl lx ly lz ra rb rc k
  have el : ([ua, ub, uc] : List Value).toArray.toList.reverse = [uc, ub, ua] := rfl
  rw [el]
  exact q
theorem ds_asg3 {i j l : Nat} {x y z : Str} {tg : Expr} (hc : X.calm = true) (hN : X.N.Nodup) (he : DP X e te de) (hw : swappedStores [tg] e X.env = pure (some [x, y, z])) (hi : X.N[i]? = some x := by rfl) (hj : X.N[j]? = some y := by rfl) (hl : X.N[l]? = some z := by rfl) (lx : X.env.scope.names.lookup x = some .local := by rfl)
    (ly : X.env.scope.names.lookup y = some .local := by rfl) (lz : X.env.scope.names.lookup z = some .local := by rfl) (hs : swapsWithSole [tg] e pos.line X.env = pure false := by rfl) : DPs X W (.Assign [tg] e pos) (dAsg3 i j l de) := by
  refine ⟨_, ps_asg3 hc hN he.p hi hj hl lx ly lz hs hw, fun N σ H ρ μ D F R S l h => ?_⟩
  refine he.a N σ H ρ μ _ _ R S h fun v H1 μ1 d e1 R1 r ⟨a, b, c, ed, k⟩ => ?_
  subst ed
  obtain ⟨p, vs, rfl, n1, m1, h1, r1⟩ := r.tupInv
  cases r1 with
  | cons ra r1 =>
  cases r1 with
  | cons rb r1 =>
  cases r1 with
  | cons rc r1 =>
  cases r1
  exact ⟨p, _, _, _, rfl, .of h1, l.nx _ H1 _ μ1 e1 R1 ((((S.mono e1).set rc).set rb).set ra) k⟩
end
end DL

set_option Elab.async false
set_option linter.all false
set_option maxRecDepth 100000
set_option maxHeartbeats 4000000
/-! A caught error's class: what is asked of it; isinstance by a name. -/
namespace DL
open PySem PySem.Spec PyProof.Rows L2 L2H
structure IsF (K : PySem.W.Frag) (mg : Str → Option Value) (C : Addr) (x : Str) (b : Bool) : Prop where
  ex : ∃ cls : Addr, mg x = some (.ref cls) ∧ PySem.W.kitOne K (.ref C) (.ref cls) = some b
noncomputable def IsF.cls {K : PySem.W.Frag} {mg : Str → Option Value} {C : Addr} {x : Str} {b : Bool} (f : IsF K mg C x b) : Addr := f.ex.choose
/-- what is asked of the class of an error that is caught: its base class is x0, β tells which classes it is of -/
structure ErrQ (K : PySem.W.Frag) (mg : Str → Option Value) (x0 : Str) (errs : List Str) (β : Str → Bool) (C : Addr) : Prop where
  exc : ExcC K C
  xf : XfC K C
  no : PySem.W.findIn K (.ref C) "at" = some none
  ve : PySem.W.kitOne K (.ref C) (.type "ValueError") = some true
  ex : ∀ c0, mg x0 = some (.ref c0) → PySem.W.exmOne K (.ref C) (.ref c0) = some true
  is_ : ∀ x, x ∈ errs → IsF K mg C x (β x)
section
variable {X : Cx}
theorem d_isF {a dd C : Addr} {b : Bool} {e : Expr} {te : TE} {de : DE} {x : Str} {p p2 pos : Pos} (T : ExcC X.K C) (P : ExcPin X a dd C) (he : DP X e te de) (hg : Gl X "isinstance") (hm : X.mg "isinstance" = none) (hgc : Gl X x) (f : IsF X.K X.mg C x b) (hdb : (x == ("__debug__" : Str)) = false := by decide)
    (h1 : starEach [e, .Name x p2] X.env = (false, eval e X.env) :: starEach [.Name x p2] X.env := by rfl) (h2 : (backTo pos (starEach [.Name x p2] X.env)).any (·.1) = false := by rfl)
    (h3 : starEach [.Name x p2] X.env = (false, eval (.Name x p2) X.env) :: starEach [] X.env := by rfl) :
    DP X (.Call (.Name "isinstance" p) [e, .Name x p2] [] pos) (tCB (rIsX X.K a dd C) (tCons te (tCons (tC (.ref f.cls)) tNil))) (dIsX de a dd C b) :=
  d_isX T P he hg hm hgc f.ex.choose_spec.1 f.ex.choose_spec.2 hdb h1 h2 h3
theorem takes_no : L2N.Takes X (fun _ _ _ _ => False) := fun u s' ⟨_, _, _, _, _, _, _, _, _, _, _, _, _, _, _, _, w⟩ => w.elim
end
end DL

set_option Elab.async false
set_option linter.all false
set_option maxRecDepth 100000
set_option maxHeartbeats 4000000
namespace K17
open PySem PySem.Spec PyProof.Rows L2 DL
structure En (K : PySem.W.Frag) (mg : Str → Option Value) : Prop where
  strikes_last : DefF K mg "strikes_last" s_strikes_last
  common_front : DefF K mg "common_front" s_common_front
  free_places : DefF K mg "free_places" s_free_places
  strikes_some : DefF K mg "strikes_some" s_strikes_some
  other_tokens : DefF K mg "other_tokens" s_other_tokens
  counts_ahead : DefF K mg "counts_ahead" s_counts_ahead
  swap_fault : DefF K mg "swap_fault" s_swap_fault
  shift_fault : DefF K mg "shift_fault" s_shift_fault
  fault : DefF K mg "fault" s_fault
  put : DefF K mg "put" s_put
  leaf_place : DefF K mg "leaf_place" s_leaf_place
  places_in : DefF K mg "places_in" s_places_in
  crossed : DefF K mg "crossed" s_crossed
  _law_mix : DefF K mg "_law_mix" s__law_mix
  _law_store : DefF K mg "_law_store" s__law_store
  _law_take : DefF K mg "_law_take" s__law_take
  _law_yes : DefF K mg "_law_yes" s__law_yes
  _law_span : DefF K mg "_law_span" s__law_span
  _law_of : DefF K mg "_law_of" s__law_of
  _law_order : DefF K mg "_law_order" s__law_order
  _law_wide : DefF K mg "_law_wide" s__law_wide
  _law_outside : DefF K mg "_law_outside" s__law_outside
  _law_beyond : DefF K mg "_law_beyond" s__law_beyond
  _law_ascii : DefF K mg "_law_ascii" s__law_ascii
  _law_text : DefF K mg "_law_text" s__law_text
  _law_ahead : DefF K mg "_law_ahead" s__law_ahead
  _law_fault : DefF K mg "_law_fault" s__law_fault
  _law_cross : DefF K mg "_law_cross" s__law_cross
  _law_shaken : DefF K mg "_law_shaken" s__law_shaken
  _law_names_of : DefF K mg "_law_names_of" s__law_names_of
  _law_due_all : DefF K mg "_law_due_all" s__law_due_all
  _law_counts_alike : DefF K mg "_law_counts_alike" s__law_counts_alike
  _law_fault_due : DefF K mg "_law_fault_due" s__law_fault_due
  _law_told : DefF K mg "_law_told" s__law_told
  _law_is_due : DefF K mg "_law_is_due" s__law_is_due
  _law_asked : DefF K mg "_law_asked" s__law_asked
  _law_exchanged : DefF K mg "_law_exchanged" s__law_exchanged
  _law_pair : DefF K mg "_law_pair" s__law_pair
  _law_puts : DefF K mg "_law_puts" s__law_puts
  _law_none_and_rows : DefF K mg "_law_none_and_rows" s__law_none_and_rows
  law : DefF K mg "law" s_law
  b_ValueError : mg "ValueError" = none
  b_bool : mg "bool" = none
  b_enumerate : mg "enumerate" = none
  b_int : mg "int" = none
  b_isinstance : mg "isinstance" = none
  b_len : mg "len" = none
  b_list : mg "list" = none
  b_min : mg "min" = none
  b_range : mg "range" = none
  b_repr : mg "repr" = none
  b_sorted : mg "sorted" = none
  b_zip : mg "zip" = none
end K17

set_option Elab.async false
set_option linter.all false
set_option maxRecDepth 100000
set_option maxHeartbeats 4000000
namespace K17
open PySem PySem.Spec PyProof.Rows L2 L2H DL
variable {P : Program} {w : World} {K : PySem.W.Frag} {mg : Str → Option Value} {base : Heap}
/-! ### strikes_last -/
abbrev N_strikes_last : List Str := ["old", "new", "x", "at"]
theorem sc_strikes_last : FnScope N_strikes_last ["old", "new", "x"] (defScope s_strikes_last) := ⟨rfl, rfl, rfl, by decide +kernel, rfl, by decide +kernel, by decide +kernel⟩
def rd_strikes_last : DS :=
  (dSeq (dSet 3 (dM1 rdRfindS (dVar 1) (dVar 2)))
  (dRet (dAndV (dOp rdGe (dVar 3) (dC (.int 0))) (dOp rdEq (dOp rdAdd (dSl (dVar 1) oNo (oInt (dVar 3))) (dSl (dVar 1) (oInt (dOp rdAdd (dVar 3) (dC (.int 1)))) oNo)) (dVar 0)))))
theorem w_strikes_last (B : En K mg) (sd : SpD) (len : ∀ ds μ Kd, sd ds μ Kd → ds.length = 3)
    (h : ∀ ds μ Kd, sd ds μ Kd → rd_strikes_last { nx := fun _ μ' => Kd .non μ', rt := Kd } (dstart N_strikes_last ds) μ) : Cal P w K mg base 1 "strikes_last" ["old", "new", "x"] sd :=
  B.strikes_last.cal (fun _ _ _ _ _ _ us hl => match us, hl with | [_, _, _], _ => rfl) fun f fd F => fn_data F sc_strikes_last len fun cdv A outer s H E hr => by
    have hu64 := hr.units
    have hu1 := hu_of hr
    exact ⟨rd_strikes_last, (dss_cons (ds_set sc_strikes_last.nd (d_rfind (d_var 1) (d_var 2))) (dss_one (ds_ret (d_and (d_cmp dop_ge (d_var 3) d_int rfl) (d_one (d_cmp (kop_eq K rfl hu64) (d_op (kop_add K rfl) (k_slice K rfl (d_var 1) do_none (do_some (d_var 3))) (k_slice K rfl (d_var 1) (do_some (d_op (kop_add K rfl) (d_var 3) d_int)) do_none)) (d_var 0) rfl)))))), h⟩
/-! ### common_front -/
abbrev N_common_front : List Str := ["old", "new", "same", "sign", "other"]
theorem sc_common_front : FnScope N_common_front ["old", "new"] (defScope s_common_front) := ⟨rfl, rfl, rfl, by decide +kernel, rfl, by decide +kernel, by decide +kernel⟩
def rd_common_front : DS :=
  (dSeq (dSet 2 (dC (.int 0)))
  (dSeq (dFor (iZipD (dCons (dVar 0) (dCons (dVar 1) dNil))) (gTupD 2 (gConsD (gNm 3) (gConsD (gNm 4) gNilD)))
  (dSeq (dIfS (dTest (dOp rdNe (dVar 3) (dVar 4))) dBrk dNext)
  (dAug 2 (rdI0 fun i j => .int (i + j)) (dC (.int 1)))))
  (dRet (dVar 2))))
theorem w_common_front (B : En K mg) (sd : SpD) (len : ∀ ds μ Kd, sd ds μ Kd → ds.length = 2)
    (h : ∀ ds μ Kd, sd ds μ Kd → rd_common_front { nx := fun _ μ' => Kd .non μ', rt := Kd } (dstart N_common_front ds) μ) : Cal P w K mg base 1 "common_front" ["old", "new"] sd :=
  B.common_front.cal (fun _ _ _ _ _ _ us hl => match us, hl with | [_, _], _ => rfl) fun f fd F => fn_data F sc_common_front len fun cdv A outer s H E hr => by
    have hu64 := hr.units
    have hu1 := hu_of hr
    exact ⟨rd_common_front, (dss_cons (ds_set sc_common_front.nd d_int) (dss_cons (ds_for (di_zip rfl B.b_zip (da_cons (d_var 0) (da_cons (d_var 1) da_nil))) (kg_tup K rfl rfl (dgs_cons (dg_name 3 sc_common_front.nd) (dgs_cons (dg_name 4 sc_common_front.nd) dgs_nil))) (dss_cons (ds_if (dt_cmp (kop_ne K rfl hu64) (d_var 3) (d_var 4) rfl) (dss_one ds_brk) dss_nil) (dss_one (ds_aug sc_common_front.nd d_int dip_add)))) (dss_one (ds_ret (d_var 2))))), h⟩
/-! ### free_places -/
abbrev N_free_places : List Str := ["old", "new", "c", "last", "first"]
theorem sc_free_places : FnScope N_free_places ["old", "new", "c"] (defScope s_free_places) := ⟨rfl, rfl, rfl, by decide +kernel, rfl, by decide +kernel, by decide +kernel⟩
def rd_free_places (sd_common_front : SpD) : DS :=
  (dSeq (dIfS (dTest (dOp rdNe (dCB rdLen (dCons (dVar 1) dNil)) (dOp rdAdd (dCB rdLen (dCons (dVar 0) dNil)) (dC (.int 1))))) (dRet (dC .non)) dNext)
  (dSeq (dSet 3 (dCB sd_common_front (dCons (dVar 0) (dCons (dVar 1) dNil))))
  (dSeq (dSet 4 (dOp rdSub (dCB rdLen (dCons (dVar 0) dNil)) (dCB sd_common_front (dCons (dRevS (dVar 0)) (dCons (dRevS (dVar 1)) dNil)))))
  (dSeq (dIfS (dOr (dTest (dOp rdGt (dVar 4) (dVar 3))) (dTest (dOp rdNe (dOp rdIx (dVar 1) (dVar 3)) (dVar 2)))) (dRet (dC .non)) dNext)
  (dRet (dTup (dCons (dVar 4) (dCons (dVar 3) dNil))))))))
theorem w_free_places (B : En K mg) (sd_common_front : SpD) (c_common_front : Cal P w K mg base 1 "common_front" ["old", "new"] sd_common_front) (sd : SpD) (len : ∀ ds μ Kd, sd ds μ Kd → ds.length = 3)
    (h : ∀ ds μ Kd, sd ds μ Kd → rd_free_places sd_common_front { nx := fun _ μ' => Kd .non μ', rt := Kd } (dstart N_free_places ds) μ) : Cal P w K mg base 2 "free_places" ["old", "new", "c"] sd :=
  B.free_places.cal (fun _ _ _ _ _ _ us hl => match us, hl with | [_, _, _], _ => rfl) fun f fd F => fn_data F sc_free_places len fun cdv A outer s H E hr => by
    have hu64 := hr.units
    have hu1 := hu_of hr
    exact ⟨rd_free_places sd_common_front, (dss_cons (ds_if (dt_cmp (kop_ne K rfl hu64) (d_callB (kc_len K rfl) rfl B.b_len rfl (da_cons (d_var 1) da_nil)) (d_op (kop_add K rfl) (d_callB (kc_len K rfl) rfl B.b_len rfl (da_cons (d_var 0) da_nil)) d_int) rfl) (dss_one (ds_ret d_non)) dss_nil) (dss_cons (ds_set sc_free_places.nd (d_cal c_common_front (hr.mono (by decide)) (da_cons (d_var 0) (da_cons (d_var 1) da_nil)))) (dss_cons (ds_set sc_free_places.nd (d_op dop_sub (d_callB (kc_len K rfl) rfl B.b_len rfl (da_cons (d_var 0) da_nil)) (d_cal c_common_front (hr.mono (by decide)) (da_cons (d_revS (d_var 0)) (da_cons (d_revS (d_var 1)) da_nil))))) (dss_cons (ds_if (DPw.pt (dw_or (dt_cmp dop_gt (d_var 4) (d_var 3) rfl) (dw_or1 (dt_cmp (kop_ne K rfl hu64) (d_ix (kix K rfl) (d_var 1) (d_var 3)) (d_var 2) rfl)))) (dss_one (ds_ret d_non)) dss_nil) (dss_one (ds_ret (d_tup (da_cons (d_var 4) (da_cons (d_var 3) da_nil))))))))), h⟩
/-! ### strikes_some -/
abbrev N_strikes_some : List Str := ["old", "new", "c"]
theorem sc_strikes_some : FnScope N_strikes_some ["old", "new", "c"] (defScope s_strikes_some) := ⟨rfl, rfl, rfl, by decide +kernel, rfl, by decide +kernel, by decide +kernel⟩
def rd_strikes_some (sd_free_places : SpD) : DS :=
  (dRet (dOp rdNotN (dCB sd_free_places (dCons (dVar 0) (dCons (dVar 1) (dCons (dVar 2) dNil)))) (dC .non)))
theorem w_strikes_some (B : En K mg) (sd_free_places : SpD) (c_free_places : Cal P w K mg base 2 "free_places" ["old", "new", "c"] sd_free_places) (sd : SpD) (len : ∀ ds μ Kd, sd ds μ Kd → ds.length = 3)
    (h : ∀ ds μ Kd, sd ds μ Kd → rd_strikes_some sd_free_places { nx := fun _ μ' => Kd .non μ', rt := Kd } (dstart N_strikes_some ds) μ) : Cal P w K mg base 3 "strikes_some" ["old", "new", "c"] sd :=
  B.strikes_some.cal (fun _ _ _ _ _ _ us hl => match us, hl with | [_, _, _], _ => rfl) fun f fd F => fn_data F sc_strikes_some len fun cdv A outer s H E hr => by
    have hu64 := hr.units
    have hu1 := hu_of hr
    exact ⟨rd_strikes_some sd_free_places, (dss_one (ds_ret (d_cmp dop_notN (d_cal c_free_places (hr.mono (by decide)) (da_cons (d_var 0) (da_cons (d_var 1) (da_cons (d_var 2) da_nil)))) d_non rfl))), h⟩
/-! ### other_tokens -/
abbrev N_other_tokens : List Str := ["text", "c", "sign"]
theorem sc_other_tokens : FnScope N_other_tokens ["text", "c"] (defScope s_other_tokens) := ⟨rfl, rfl, rfl, by decide +kernel, rfl, by decide +kernel, by decide +kernel⟩
def rd_other_tokens : DS :=
  (dRet (dM1 rdJoin (dC (cS "")) (dLc (iStrD (dVar 0)) (gNm 2) (dTest (dOp rdNe (dVar 2) (dVar 1))) (dVar 2) [2])))
theorem w_other_tokens (B : En K mg) (sd : SpD) (len : ∀ ds μ Kd, sd ds μ Kd → ds.length = 2)
    (h : ∀ ds μ Kd, sd ds μ Kd → rd_other_tokens { nx := fun _ μ' => Kd .non μ', rt := Kd } (dstart N_other_tokens ds) μ) : Cal P w K mg base 1 "other_tokens" ["text", "c"] sd :=
  B.other_tokens.cal (fun _ _ _ _ _ _ us hl => match us, hl with | [_, _], _ => rfl) fun f fd F => fn_data F sc_other_tokens len fun cdv A outer s H E hr => by
    have hu64 := hr.units
    have hu1 := hu_of hr
    exact ⟨rd_other_tokens, (dss_one (ds_ret (d_join d_str (d_lc sc_other_tokens.nd (di_str (d_var 0)) (own := [("sign", 2)]) rfl (fun _ _ _ _ _ => (dg_name 2 sc_other_tokens.nd)) (fun _ _ _ _ _ => (dts_one (dt_cmp (kop_ne K rfl hu64) (d_var 2) (d_var 1) rfl))) (fun _ _ _ _ _ => (d_var 2)))))), h⟩
/-! ### counts_ahead -/
abbrev N_counts_ahead : List Str := ["text", "c", "ahead", "met", "sign"]
theorem sc_counts_ahead : FnScope N_counts_ahead ["text", "c"] (defScope s_counts_ahead) := ⟨rfl, rfl, rfl, by decide +kernel, rfl, by decide +kernel, by decide +kernel⟩
def rd_counts_ahead : DS :=
  (dSeq (dSet 2 (dLstO dNil))
  (dSeq (dSet 3 (dC (.int 0)))
  (dSeq (dFor (iStrD (dVar 0)) (gNm 4)
  (dIfS (dTest (dOp rdEq (dVar 4) (dVar 1))) (dAug 3 (rdI0 fun i j => .int (i + j)) (dC (.int 1))) (dDrop (dApp (dVar 2) (dVar 3)))))
  (dGive 2 (dRet (dVar 2))))))
theorem w_counts_ahead (B : En K mg) (sd : SpD) (len : ∀ ds μ Kd, sd ds μ Kd → ds.length = 2)
    (h : ∀ ds μ Kd, sd ds μ Kd → rd_counts_ahead { nx := fun _ μ' => Kd .non μ', rt := Kd } (dstart N_counts_ahead ds) μ) : Cal P w K mg base 1 "counts_ahead" ["text", "c"] sd :=
  B.counts_ahead.cal (fun _ _ _ _ _ _ us hl => match us, hl with | [_, _], _ => rfl) fun f fd F => fn_data F sc_counts_ahead len fun cdv A outer s H E hr => by
    have hu64 := hr.units
    have hu1 := hu_of hr
    exact ⟨rd_counts_ahead, (dss_cons (ds_set sc_counts_ahead.nd (d_lstO da_nil)) (dss_cons (ds_set sc_counts_ahead.nd d_int) (dss_cons (ds_for (di_str (d_var 0)) (dg_name 4 sc_counts_ahead.nd) (dss_one (ds_if (dt_cmp (kop_eq K rfl hu64) (d_var 4) (d_var 1) rfl) (dss_one (ds_aug sc_counts_ahead.nd d_int dip_add)) (dss_one (ds_expr (d_append (d_var 2) (d_var 3))))))) (dss_give 2 (dss_one (ds_ret (d_var 2))))))), h⟩
/-! ### swap_fault -/
abbrev N_swap_fault : List Str := ["old", "new", "c", "i", "sign", "other"]
theorem sc_swap_fault : FnScope N_swap_fault ["old", "new", "c"] (defScope s_swap_fault) := ⟨rfl, rfl, rfl, by decide +kernel, rfl, by decide +kernel, by decide +kernel⟩
def rd_swap_fault (sd_other_tokens : SpD) : DS :=
  (dSeq (dFor (iEnumZD (dCons (dCB sd_other_tokens (dCons (dVar 0) (dCons (dVar 2) dNil))) (dCons (dCB sd_other_tokens (dCons (dVar 1) (dCons (dVar 2) dNil))) dNil))) (gTupD 2 (gConsD (gNm 3) (gConsD (gTupD 2 (gConsD (gNm 4) (gConsD (gNm 5) gNilD))) gNilD)))
  (dIfS (dTest (dOp rdNe (dVar 4) (dVar 5))) (dRet (dTup (dCons (dC (cS "swap")) (dCons (dVar 3) dNil)))) dNext))
  (dRet (dC .non)))
theorem w_swap_fault (B : En K mg) (sd_other_tokens : SpD) (c_other_tokens : Cal P w K mg base 1 "other_tokens" ["text", "c"] sd_other_tokens) (sd : SpD) (len : ∀ ds μ Kd, sd ds μ Kd → ds.length = 3)
    (h : ∀ ds μ Kd, sd ds μ Kd → rd_swap_fault sd_other_tokens { nx := fun _ μ' => Kd .non μ', rt := Kd } (dstart N_swap_fault ds) μ) : Cal P w K mg base 2 "swap_fault" ["old", "new", "c"] sd :=
  B.swap_fault.cal (fun _ _ _ _ _ _ us hl => match us, hl with | [_, _, _], _ => rfl) fun f fd F => fn_data F sc_swap_fault len fun cdv A outer s H E hr => by
    have hu64 := hr.units
    have hu1 := hu_of hr
    exact ⟨rd_swap_fault sd_other_tokens, (dss_cons (ds_for (di_enumZ rfl B.b_enumerate rfl B.b_zip (da_cons (d_cal c_other_tokens (hr.mono (by decide)) (da_cons (d_var 0) (da_cons (d_var 2) da_nil))) (da_cons (d_cal c_other_tokens (hr.mono (by decide)) (da_cons (d_var 1) (da_cons (d_var 2) da_nil))) da_nil))) (kg_tup K rfl rfl (dgs_cons (dg_name 3 sc_swap_fault.nd) (dgs_cons (kg_tup K rfl rfl (dgs_cons (dg_name 4 sc_swap_fault.nd) (dgs_cons (dg_name 5 sc_swap_fault.nd) dgs_nil))) dgs_nil))) (dss_one (ds_if (dt_cmp (kop_ne K rfl hu64) (d_var 4) (d_var 5) rfl) (dss_one (ds_ret (d_tup (da_cons d_str (da_cons (d_var 3) da_nil))))) dss_nil))) (dss_one (ds_ret d_non))), h⟩
/-! ### shift_fault -/
abbrev N_shift_fault : List Str := ["old", "new", "c", "shifts", "i", "j", "shift", "before", "after"]
theorem sc_shift_fault : FnScope N_shift_fault ["old", "new", "c"] (defScope s_shift_fault) := ⟨rfl, rfl, rfl, by decide +kernel, rfl, by decide +kernel, by decide +kernel⟩
def rd_shift_fault (sd_counts_ahead : SpD) : DS :=
  (dSeq (dSet 3 (dLc (iZipD (dCons (dCB sd_counts_ahead (dCons (dVar 0) (dCons (dVar 2) dNil))) (dCons (dCB sd_counts_ahead (dCons (dVar 1) (dCons (dVar 2) dNil))) dNil))) (gTupD 2 (gConsD (gNm 7) (gConsD (gNm 8) gNilD))) dYes (dOp rdSub (dVar 8) (dVar 7)) [7, 8]))
  (dSeq (dFor (iEnumD (dCons (dVar 3) dNil)) (gTupD 2 (gConsD (gNm 4) (gConsD (gNm 6) gNilD)))
  (dIfS (dTest (dOp rdNotIn (dVar 6) (dTup (dCons (dC (.int 0)) (dCons (dC (.int 1)) dNil))))) (dRet (dTup (dCons (dC (cS "jump")) (dCons (dVar 4) dNil)))) dNext))
  (dSeq (dIfS (dTest (dOp rdNotIn (dC (.int 1)) (dVar 3))) (dRet (dC .non)) dNext)
  (dSeq (dSet 4 (dIndex (dVar 3) (dC (.int 1))))
  (dSeq (dFor (iR2 (dCons (dOp rdAdd (dVar 4) (dC (.int 1))) (dCons (dCB rdLen (dCons (dVar 3) dNil)) dNil))) (gNm 5)
  (dIfS (dTest (dOp rdEq (dOp rdIx (dVar 3) (dVar 5)) (dC (.int 0)))) (dRet (dTup (dCons (dC (cS "bend")) (dCons (dVar 4) (dCons (dVar 5) dNil))))) dNext))
  (dRet (dC .non)))))))
theorem w_shift_fault (B : En K mg) (sd_counts_ahead : SpD) (c_counts_ahead : Cal P w K mg base 1 "counts_ahead" ["text", "c"] sd_counts_ahead) (sd : SpD) (len : ∀ ds μ Kd, sd ds μ Kd → ds.length = 3)
    (h : ∀ ds μ Kd, sd ds μ Kd → rd_shift_fault sd_counts_ahead { nx := fun _ μ' => Kd .non μ', rt := Kd } (dstart N_shift_fault ds) μ) : Cal P w K mg base 2 "shift_fault" ["old", "new", "c"] sd :=
  B.shift_fault.cal (fun _ _ _ _ _ _ us hl => match us, hl with | [_, _, _], _ => rfl) fun f fd F => fn_data F sc_shift_fault len fun cdv A outer s H E hr => by
    have hu64 := hr.units
    have hu1 := hu_of hr
    exact ⟨rd_shift_fault sd_counts_ahead, (dss_cons (ds_setLc sc_shift_fault.nd rfl (di_zip rfl B.b_zip (da_cons (d_cal c_counts_ahead (hr.mono (by decide)) (da_cons (d_var 0) (da_cons (d_var 2) da_nil))) (da_cons (d_cal c_counts_ahead (hr.mono (by decide)) (da_cons (d_var 1) (da_cons (d_var 2) da_nil))) da_nil))) (own := [("before", 7), ("after", 8)]) rfl (fun _ _ _ _ _ => (kg_tup K rfl rfl (dgs_cons (dg_name 7 sc_shift_fault.nd) (dgs_cons (dg_name 8 sc_shift_fault.nd) dgs_nil)))) (fun _ _ _ _ _ => dts_nil) (fun _ _ _ _ _ => (d_op dop_sub (d_var 8) (d_var 7)))) (dss_cons (ds_for (di_enum rfl B.b_enumerate (da_cons (d_var 3) da_nil)) (kg_tup K rfl rfl (dgs_cons (dg_name 4 sc_shift_fault.nd) (dgs_cons (dg_name 6 sc_shift_fault.nd) dgs_nil))) (dss_one (ds_if (dt_cmp (kop_notIn K rfl) (d_var 6) (d_tup (da_cons d_int (da_cons d_int da_nil))) rfl) (dss_one (ds_ret (d_tup (da_cons d_str (da_cons (d_var 4) da_nil))))) dss_nil))) (dss_cons (ds_if (dt_cmp (kop_notIn K rfl) d_int (d_var 3) rfl) (dss_one (ds_ret d_non)) dss_nil) (dss_cons (ds_set sc_shift_fault.nd (d_index (d_var 3) d_int)) (dss_cons (ds_for (di_range2 rfl B.b_range (da_cons (d_op (kop_add K rfl) (d_var 4) d_int) (da_cons (d_callB (kc_len K rfl) rfl B.b_len rfl (da_cons (d_var 3) da_nil)) da_nil))) (dg_name 5 sc_shift_fault.nd) (dss_one (ds_if (dt_cmp (kop_eq K rfl hu64) (d_ix (kix K rfl) (d_var 3) (d_var 5)) d_int rfl) (dss_one (ds_ret (d_tup (da_cons d_str (da_cons (d_var 4) (da_cons (d_var 5) da_nil)))))) dss_nil))) (dss_one (ds_ret d_non))))))), h⟩
end K17

set_option Elab.async false
set_option linter.all false
set_option maxRecDepth 100000
set_option maxHeartbeats 4000000
namespace K17
open PySem PySem.Spec PyProof.Rows L2 L2H DL
variable {P : Program} {w : World} {K : PySem.W.Frag} {mg : Str → Option Value} {base : Heap}
/-! ### put -/
abbrev N_put : List Str := ["old", "c", "p"]
theorem sc_put : FnScope N_put ["old", "c", "p"] (defScope s_put) := ⟨rfl, rfl, rfl, by decide +kernel, rfl, by decide +kernel, by decide +kernel⟩
def rd_put (C_BadNumber : Addr) : DS :=
  (dSeq (dIfS (dOr (dTest (dIsB (dVar 2))) (dNot (dTest (dChain rdLe rdLe (dC (.int 0)) (dVar 2) (dCB rdLen (dCons (dVar 0) dNil)))))) (dRaise C_BadNumber (dVar 2)) dNext)
  (dRet (dOp rdAdd (dOp rdAdd (dSl (dVar 0) oNo (oInt (dVar 2))) (dVar 1)) (dSl (dVar 0) (oInt (dVar 2)) oNo))))
theorem w_put (B : En K mg) (C_BadNumber : Addr) (z_BadNumber : ErrF P w K mg base "BadNumber" C_BadNumber) (sx : SpX) (len : ∀ ds μ Kd Kx, sx ds μ Kd Kx → ds.length = 3)
    (h : ∀ ds μ Kd Kx, sx ds μ Kd Kx → rd_put C_BadNumber { nx := fun _ μ' => Kd .non μ', rt := Kd, rx := fun C d _ μ' => Kx C d μ' } (dstart N_put ds) μ) : CalX P w K mg base 3 "put" ["old", "c", "p"] sx :=
  B.put.calX (fun _ _ _ _ _ _ us hl => match us, hl with | [_, _, _], _ => rfl) fun f fd F => fnX_data F sc_put len fun cdv A outer s H E hr tk hp => by
    have hu64 := hr.units
    have hu1 := hu_of hr
    exact ⟨rd_put C_BadNumber, (dss_cons (ds_if (DPw.pt (dw_or (dt_val (d_isB (d_var 2) rfl B.b_isinstance rfl B.b_bool)) (dw_or1 (dt_not (dt_chain dop_le dop_le d_int (d_var 2) (d_callB (kc_len K rfl) rfl B.b_len rfl (da_cons (d_var 0) da_nil))))))) (dss_one (ds_raiseF z_BadNumber rfl tk (hr.mono (by decide)) (d_var 2))) dss_nil) (dss_one (ds_ret (d_op (kop_add K rfl) (d_op (kop_add K rfl) (k_slice K rfl (d_var 0) do_none (do_some (d_var 2))) (d_var 1)) (k_slice K rfl (d_var 0) (do_some (d_var 2)) do_none))))), h⟩
/-! ### leaf_place -/
abbrev N_leaf_place : List Str := ["old", "new", "x"]
theorem sc_leaf_place : FnScope N_leaf_place ["old", "new", "x"] (defScope s_leaf_place) := ⟨rfl, rfl, rfl, by decide +kernel, rfl, by decide +kernel, by decide +kernel⟩
def rd_leaf_place (sd_strikes_last : SpD) : DS :=
  (dSeq (dIfS (dNot (dTest (dCB sd_strikes_last (dCons (dVar 0) (dCons (dVar 1) (dCons (dVar 2) dNil)))))) (dRet (dC .non)) dNext)
  (dRet (dM1 rdRfindS (dVar 1) (dVar 2))))
theorem w_leaf_place (B : En K mg) (sd_strikes_last : SpD) (c_strikes_last : Cal P w K mg base 1 "strikes_last" ["old", "new", "x"] sd_strikes_last) (sd : SpD) (len : ∀ ds μ Kd, sd ds μ Kd → ds.length = 3)
    (h : ∀ ds μ Kd, sd ds μ Kd → rd_leaf_place sd_strikes_last { nx := fun _ μ' => Kd .non μ', rt := Kd } (dstart N_leaf_place ds) μ) : Cal P w K mg base 2 "leaf_place" ["old", "new", "x"] sd :=
  B.leaf_place.cal (fun _ _ _ _ _ _ us hl => match us, hl with | [_, _, _], _ => rfl) fun f fd F => fn_data F sc_leaf_place len fun cdv A outer s H E hr => by
    have hu64 := hr.units
    have hu1 := hu_of hr
    exact ⟨rd_leaf_place sd_strikes_last, (dss_cons (ds_if (dt_not (dt_val (d_cal c_strikes_last (hr.mono (by decide)) (da_cons (d_var 0) (da_cons (d_var 1) (da_cons (d_var 2) da_nil)))))) (dss_one (ds_ret d_non)) dss_nil) (dss_one (ds_ret (d_rfind (d_var 1) (d_var 2))))), h⟩
/-! ### places_in -/
abbrev N_places_in : List Str := ["row", "other", "stands", "met", "places", "sign", "at", "i"]
theorem sc_places_in : FnScope N_places_in ["row", "other"] (defScope s_places_in) := ⟨rfl, rfl, rfl, by decide +kernel, rfl, by decide +kernel, by decide +kernel⟩
def rd_places_in : DS :=
  (dSeq (dSet 2 dDNew)
  (dSeq (dFor (iEnumD (dCons (dVar 1) dNil)) (gTupD 2 (gConsD (gNm 6) (gConsD (gNm 5) gNilD)))
  (dDrop (dApp (dSetd (dVar 2) (dVar 5) (dLstO dNil)) (dVar 6))))
  (dSeq (dSet 3 dDNew)
  (dSeq (dSet 4 (dLstO dNil))
  (dSeq (dFor (iStrD (dVar 0)) (gNm 5)
  (dSeq (dSet 7 (dDGet2 (dVar 3) (dVar 5) (dC (.int 0))))
  (dSeq (dDrop (dApp (dVar 4) (dOp rdIx (dOp rdDGet (dVar 2) (dVar 5)) (dVar 7))))
  (dPutD (dOp rdAdd (dVar 7) (dC (.int 1))) (dVar 3) (dVar 5)))))
  (dGive 4 (dRet (dVar 4))))))))
theorem w_places_in (B : En K mg) (sd : SpD) (len : ∀ ds μ Kd, sd ds μ Kd → ds.length = 2)
    (h : ∀ ds μ Kd, sd ds μ Kd → rd_places_in { nx := fun _ μ' => Kd .non μ', rt := Kd } (dstart N_places_in ds) μ) : Cal P w K mg base 1 "places_in" ["row", "other"] sd :=
  B.places_in.cal (fun _ _ _ _ _ _ us hl => match us, hl with | [_, _], _ => rfl) fun f fd F => fn_data F sc_places_in len fun cdv A outer s H E hr => by
    have hu64 := hr.units
    have hu1 := hu_of hr
    exact ⟨rd_places_in, (dss_cons (ds_set sc_places_in.nd d_dnew) (dss_cons (ds_for (di_enum rfl B.b_enumerate (da_cons (d_var 1) da_nil)) (kg_tup K rfl rfl (dgs_cons (dg_name 6 sc_places_in.nd) (dgs_cons (dg_name 5 sc_places_in.nd) dgs_nil))) (dss_one (ds_expr (d_append (d_setdefault (d_var 2) (d_var 5) (d_lstO da_nil)) (d_var 6))))) (dss_cons (ds_set sc_places_in.nd d_dnew) (dss_cons (ds_set sc_places_in.nd (d_lstO da_nil)) (dss_cons (ds_for (di_str (d_var 0)) (dg_name 5 sc_places_in.nd) (dss_cons (ds_set sc_places_in.nd (d_dget2 hu1 (d_var 3) (d_var 5) d_int)) (dss_cons (ds_expr (d_append (d_var 4) (d_ix (kix K rfl) (d_dget hu1 (d_var 2) (d_var 5)) (d_var 7)))) (dss_one (ds_dput hu1 (d_op (kop_add K rfl) (d_var 7) d_int) (d_var 3) (d_var 5)))))) (dss_give 4 (dss_one (ds_ret (d_var 4))))))))), h⟩
/-! ### crossed -/
abbrev N_crossed : List Str := ["row", "other", "places", "i", "j"]
theorem sc_crossed : FnScope N_crossed ["row", "other"] (defScope s_crossed) := ⟨rfl, rfl, rfl, by decide +kernel, rfl, by decide +kernel, by decide +kernel⟩
def rd_crossed (sd_places_in : SpD) (C_BadRows : Addr) : DS :=
  (dSeq (dIfS (dTest (dOp rdNe (dCB rdSortT (dCons (dVar 0) dNil)) (dCB rdSortT (dCons (dVar 1) dNil)))) (dRaise C_BadRows (dCB rdLen (dCons (dVar 1) dNil))) dNext)
  (dSeq (dSet 2 (dCB sd_places_in (dCons (dVar 0) (dCons (dVar 1) dNil))))
  (dSeq (dFor (iR1 (dCons (dCB rdLen (dCons (dVar 2) dNil)) dNil)) (gNm 3)
  (dFor (iR2 (dCons (dOp rdAdd (dVar 3) (dC (.int 1))) (dCons (dCB rdLen (dCons (dVar 2) dNil)) dNil))) (gNm 4)
  (dIfS (dTest (dOp rdGt (dOp rdIx (dVar 2) (dVar 3)) (dOp rdIx (dVar 2) (dVar 4)))) (dRet (dTup (dCons (dVar 3) (dCons (dVar 4) dNil)))) dNext)))
  (dRet (dC .non)))))
theorem w_crossed (B : En K mg) (sd_places_in : SpD) (C_BadRows : Addr) (c_places_in : Cal P w K mg base 1 "places_in" ["row", "other"] sd_places_in) (z_BadRows : ErrF P w K mg base "BadRows" C_BadRows) (sx : SpX) (len : ∀ ds μ Kd Kx, sx ds μ Kd Kx → ds.length = 2)
    (h : ∀ ds μ Kd Kx, sx ds μ Kd Kx → rd_crossed sd_places_in C_BadRows { nx := fun _ μ' => Kd .non μ', rt := Kd, rx := fun C d _ μ' => Kx C d μ' } (dstart N_crossed ds) μ) : CalX P w K mg base 3 "crossed" ["row", "other"] sx :=
  B.crossed.calX (fun _ _ _ _ _ _ us hl => match us, hl with | [_, _], _ => rfl) fun f fd F => fnX_data F sc_crossed len fun cdv A outer s H E hr tk hp => by
    have hu64 := hr.units
    have hu1 := hu_of hr
    exact ⟨rd_crossed sd_places_in C_BadRows, (dss_cons (ds_if (dt_cmp (kop_ne K rfl hu64) (d_callB (dc_sortT rfl) rfl B.b_sorted rfl (da_cons (d_var 0) da_nil)) (d_callB (dc_sortT rfl) rfl B.b_sorted rfl (da_cons (d_var 1) da_nil)) rfl) (dss_one (ds_raiseF z_BadRows rfl tk (hr.mono (by decide)) (d_callB (kc_len K rfl) rfl B.b_len rfl (da_cons (d_var 1) da_nil)))) dss_nil) (dss_cons (ds_set sc_crossed.nd (d_cal c_places_in (hr.mono (by decide)) (da_cons (d_var 0) (da_cons (d_var 1) da_nil)))) (dss_cons (ds_for (di_range1 rfl B.b_range (da_cons (d_callB (kc_len K rfl) rfl B.b_len rfl (da_cons (d_var 2) da_nil)) da_nil)) (dg_name 3 sc_crossed.nd) (dss_one (ds_for (di_range2 rfl B.b_range (da_cons (d_op (kop_add K rfl) (d_var 3) d_int) (da_cons (d_callB (kc_len K rfl) rfl B.b_len rfl (da_cons (d_var 2) da_nil)) da_nil))) (dg_name 4 sc_crossed.nd) (dss_one (ds_if (dt_cmp dop_gt (d_ix (kix K rfl) (d_var 2) (d_var 3)) (d_ix (kix K rfl) (d_var 2) (d_var 4)) rfl) (dss_one (ds_ret (d_tup (da_cons (d_var 3) (da_cons (d_var 4) da_nil))))) dss_nil)) hp)) hp) (dss_one (ds_ret d_non))))), h⟩
/-! ### fault -/
abbrev N_fault : List Str := ["old", "new", "c", "more", "found"]
theorem sc_fault : FnScope N_fault ["old", "new", "c"] (defScope s_fault) := ⟨rfl, rfl, rfl, by decide +kernel, rfl, by decide +kernel, by decide +kernel⟩
def rd_fault (sd_swap_fault : SpD) (sd_shift_fault : SpD) (C_BadRows : Addr) : DS :=
  (dSeq (dSet 3 (dIf (dTest (dOp rdIsN (dVar 2) (dC .non))) (dC (cS "")) (dVar 2)))
  (dSeq (dIfS (dTest (dOp rdNe (dCB rdSortT (dCons (dVar 1) dNil)) (dCB rdSortT (dCons (dOp rdAdd (dVar 0) (dVar 3)) dNil)))) (dRaise C_BadRows (dCB rdLen (dCons (dVar 1) dNil))) dNext)
  (dSeq (dSet 4 (dCB sd_swap_fault (dCons (dVar 0) (dCons (dVar 1) (dCons (dVar 2) dNil)))))
  (dSeq (dIfS (dOr (dTest (dOp rdNotN (dVar 4) (dC .non))) (dTest (dOp rdIsN (dVar 2) (dC .non)))) (dRet (dVar 4)) dNext)
  (dRet (dCB sd_shift_fault (dCons (dVar 0) (dCons (dVar 1) (dCons (dVar 2) dNil)))))))))
theorem w_fault (B : En K mg) (sd_swap_fault : SpD) (sd_shift_fault : SpD) (C_BadRows : Addr) (c_swap_fault : Cal P w K mg base 2 "swap_fault" ["old", "new", "c"] sd_swap_fault) (c_shift_fault : Cal P w K mg base 2 "shift_fault" ["old", "new", "c"] sd_shift_fault) (z_BadRows : ErrF P w K mg base "BadRows" C_BadRows) (sx : SpX) (len : ∀ ds μ Kd Kx, sx ds μ Kd Kx → ds.length = 3)
    (h : ∀ ds μ Kd Kx, sx ds μ Kd Kx → rd_fault sd_swap_fault sd_shift_fault C_BadRows { nx := fun _ μ' => Kd .non μ', rt := Kd, rx := fun C d _ μ' => Kx C d μ' } (dstart N_fault ds) μ) : CalX P w K mg base 3 "fault" ["old", "new", "c"] sx :=
  B.fault.calX (fun _ _ _ _ _ _ us hl => match us, hl with | [_, _, _], _ => rfl) fun f fd F => fnX_data F sc_fault len fun cdv A outer s H E hr tk hp => by
    have hu64 := hr.units
    have hu1 := hu_of hr
    exact ⟨rd_fault sd_swap_fault sd_shift_fault C_BadRows, (dss_cons (ds_set sc_fault.nd (d_if (dt_cmp dop_isN (d_var 2) d_non rfl) d_str (d_var 2))) (dss_cons (ds_if (dt_cmp (kop_ne K rfl hu64) (d_callB (dc_sortT rfl) rfl B.b_sorted rfl (da_cons (d_var 1) da_nil)) (d_callB (dc_sortT rfl) rfl B.b_sorted rfl (da_cons (d_op (kop_add K rfl) (d_var 0) (d_var 3)) da_nil)) rfl) (dss_one (ds_raiseF z_BadRows rfl tk (hr.mono (by decide)) (d_callB (kc_len K rfl) rfl B.b_len rfl (da_cons (d_var 1) da_nil)))) dss_nil) (dss_cons (ds_set sc_fault.nd (d_cal c_swap_fault (hr.mono (by decide)) (da_cons (d_var 0) (da_cons (d_var 1) (da_cons (d_var 2) da_nil))))) (dss_cons (ds_if (DPw.pt (dw_or (dt_cmp dop_notN (d_var 4) d_non rfl) (dw_or1 (dt_cmp dop_isN (d_var 2) d_non rfl)))) (dss_one (ds_ret (d_var 4))) dss_nil) (dss_one (ds_ret (d_cal c_shift_fault (hr.mono (by decide)) (da_cons (d_var 0) (da_cons (d_var 1) (da_cons (d_var 2) da_nil)))))))))), h⟩
end K17

set_option Elab.async false
set_option linter.all false
set_option maxRecDepth 100000
set_option maxHeartbeats 4000000
namespace K17
open PySem PySem.Spec PyProof.Rows L2 L2H DL
variable {P : Program} {w : World} {K : PySem.W.Frag} {mg : Str → Option Value} {base : Heap}
/-! ### _law_mix -/
abbrev N__law_mix : List Str := ["number", "turn", "prime", "first", "second"]
theorem sc__law_mix : FnScope N__law_mix ["number", "turn"] (defScope s__law_mix) := ⟨rfl, rfl, rfl, by decide +kernel, rfl, by decide +kernel, by decide +kernel⟩
def rd__law_mix : DS :=
  (dSeq (dSet 2 (dC (.int 2305843009213693951)))
  (dSeq (dSet 3 (dOp rdMod (dCB rdInt (dCons (dOp rdAdd (dOp rdAdd (dOp rdMod (dCB rdInt (dCons (dVar 0) dNil)) (dVar 2)) (dOp rdMul (dCB rdInt (dCons (dVar 1) dNil)) (dC (.int 1442695040888963407)))) (dC (.int 88172645463325252))) dNil)) (dVar 2)))
  (dSeq (dSet 3 (dOp rdMod (dCB rdInt (dCons (dOp rdMul (dCB rdInt (dCons (dOp rdXor (dVar 3) (dOp rdFdiv (dVar 3) (dC (.int 1073741824)))) dNil)) (dC (.int 6364136223846793005))) dNil)) (dVar 2)))
  (dSeq (dSet 4 (dOp rdMod (dCB rdInt (dCons (dOp rdMul (dCB rdInt (dCons (dOp rdXor (dVar 3) (dOp rdFdiv (dVar 3) (dC (.int 134217728)))) dNil)) (dC (.int 3935559000370003845))) dNil)) (dVar 2)))
  (dRet (dOp rdXor (dVar 4) (dOp rdFdiv (dVar 4) (dC (.int 4294967296)))))))))
theorem w__law_mix (B : En K mg) (sd : SpD) (len : ∀ ds μ Kd, sd ds μ Kd → ds.length = 2)
    (h : ∀ ds μ Kd, sd ds μ Kd → rd__law_mix { nx := fun _ μ' => Kd .non μ', rt := Kd } (dstart N__law_mix ds) μ) : Cal P w K mg base 1 "_law_mix" ["number", "turn"] sd :=
  B._law_mix.cal (fun _ _ _ _ _ _ us hl => match us, hl with | [_, _], _ => rfl) fun f fd F => fn_data F sc__law_mix len fun cdv A outer s H E hr => by
    have hu64 := hr.units
    have hu1 := hu_of hr
    exact ⟨rd__law_mix, (dss_cons (ds_set sc__law_mix.nd d_int) (dss_cons (ds_set sc__law_mix.nd (d_op dop_mod (d_callTy dc_int rfl B.b_int rfl (da_cons (d_op (kop_add K rfl) (d_op (kop_add K rfl) (d_op dop_mod (d_callTy dc_int rfl B.b_int rfl (da_cons (d_var 0) da_nil)) (d_var 2)) (d_op dop_mul (d_callTy dc_int rfl B.b_int rfl (da_cons (d_var 1) da_nil)) d_int)) d_int) da_nil)) (d_var 2))) (dss_cons (ds_set sc__law_mix.nd (d_op dop_mod (d_callTy dc_int rfl B.b_int rfl (da_cons (d_op dop_mul (d_callTy dc_int rfl B.b_int rfl (da_cons (d_op dop_xor (d_var 3) (d_op dop_fdiv (d_var 3) d_int)) da_nil)) d_int) da_nil)) (d_var 2))) (dss_cons (ds_set sc__law_mix.nd (d_op dop_mod (d_callTy dc_int rfl B.b_int rfl (da_cons (d_op dop_mul (d_callTy dc_int rfl B.b_int rfl (da_cons (d_op dop_xor (d_var 3) (d_op dop_fdiv (d_var 3) d_int)) da_nil)) d_int) da_nil)) (d_var 2))) (dss_one (ds_ret (d_op dop_xor (d_var 4) (d_op dop_fdiv (d_var 4) d_int)))))))), h⟩
/-! ### _law_store -/
abbrev N__law_store : List Str := ["script", "wide", "cells", "lefts", "seed", "at", "cell", "small"]
theorem sc__law_store : FnScope N__law_store ["script"] (defScope s__law_store) := ⟨rfl, rfl, rfl, by decide +kernel, rfl, by decide +kernel, by decide +kernel⟩
def rd__law_store (sd__law_mix : SpD) : DS :=
  (dSeq (dSet 1 (dOp rdMul (dOp rdMul (dOp rdMul (dOp rdPow (dC (.int 10)) (dC (.int 60))) (dOp rdPow (dC (.int 10)) (dC (.int 60)))) (dOp rdPow (dC (.int 10)) (dC (.int 60)))) (dOp rdPow (dC (.int 10)) (dC (.int 60)))))
  (dSeq (dSet 2 (dLstO dNil))
  (dSeq (dSet 3 (dLstO dNil))
  (dSeq (dSet 4 (dC (.int 88172645463325252)))
  (dSeq (dFor (iR1 (dCons (dCB rdMin (dCons (dCB rdLen (dCons (dVar 0) dNil)) (dCons (dC (.int 63)) dNil))) dNil)) (gNm 5)
  (dSeq (dSet 6 (dCB rdInt (dCons (dOp rdIx (dVar 0) (dVar 5)) dNil)))
  (dSeq (dSet 7 (dOp rdMod (dCB rdInt (dCons (dVar 6) dNil)) (dC (.int 2305843009213693951))))
  (dSeq (dSet 4 (dCB sd__law_mix (dCons (dOp rdAdd (dVar 4) (dVar 7)) (dCons (dOp rdAdd (dVar 5) (dC (.int 1))) dNil))))
  (dIfS (dTest (dOp rdLt (dVar 6) (dOp rdPow (dC (.int 10)) (dC (.int 18))))) (dSeq (dDrop (dApp (dVar 2) (dCB sd__law_mix (dCons (dVar 7) (dCons (dOp rdAdd (dVar 5) (dC (.int 1))) dNil)))))
  (dDrop (dApp (dVar 3) (dC (.int 6))))) (dIfS (dTest (dOp rdGt (dOp rdMod (dCB rdInt (dCons (dVar 6) dNil)) (dVar 1)) (dC (.int 0)))) (dSeq (dDrop (dApp (dVar 2) (dOp rdMod (dCB rdInt (dCons (dVar 6) dNil)) (dVar 1))))
  (dDrop (dApp (dVar 3) (dC (.int 0))))) dNext))))))
  (dRet (dLstO (dCons (dVar 2) (dCons (dVar 3) (dCons (dC (.int 0)) (dCons (dVar 4) (dCons (dC (.int 0)) dNil))))))))))))
theorem w__law_store (B : En K mg) (sd__law_mix : SpD) (c__law_mix : Cal P w K mg base 1 "_law_mix" ["number", "turn"] sd__law_mix) (sd : SpD) (len : ∀ ds μ Kd, sd ds μ Kd → ds.length = 1)
    (h : ∀ ds μ Kd, sd ds μ Kd → rd__law_store sd__law_mix { nx := fun _ μ' => Kd .non μ', rt := Kd } (dstart N__law_store ds) μ) : Cal P w K mg base 2 "_law_store" ["script"] sd :=
  B._law_store.cal (fun _ _ _ _ _ _ us hl => match us, hl with | [_], _ => rfl) fun f fd F => fn_data F sc__law_store len fun cdv A outer s H E hr => by
    have hu64 := hr.units
    have hu1 := hu_of hr
    exact ⟨rd__law_store sd__law_mix, (dss_cons (ds_set sc__law_store.nd (d_op dop_mul (d_op dop_mul (d_op dop_mul (d_op dop_pow d_int d_int) (d_op dop_pow d_int d_int)) (d_op dop_pow d_int d_int)) (d_op dop_pow d_int d_int))) (dss_cons (ds_set sc__law_store.nd (d_lstO da_nil)) (dss_cons (ds_set sc__law_store.nd (d_lstO da_nil)) (dss_cons (ds_set sc__law_store.nd d_int) (dss_cons (ds_for (di_range1 rfl B.b_range (da_cons (d_callB (dc_min rfl) rfl B.b_min rfl (da_cons (d_callB (kc_len K rfl) rfl B.b_len rfl (da_cons (d_var 0) da_nil)) (da_cons d_int da_nil))) da_nil)) (dg_name 5 sc__law_store.nd) (dss_cons (ds_set sc__law_store.nd (d_callTy dc_int rfl B.b_int rfl (da_cons (d_ix (kix K rfl) (d_var 0) (d_var 5)) da_nil))) (dss_cons (ds_set sc__law_store.nd (d_op dop_mod (d_callTy dc_int rfl B.b_int rfl (da_cons (d_var 6) da_nil)) d_int)) (dss_cons (ds_set sc__law_store.nd (d_cal c__law_mix (hr.mono (by decide)) (da_cons (d_op (kop_add K rfl) (d_var 4) (d_var 7)) (da_cons (d_op (kop_add K rfl) (d_var 5) d_int) da_nil)))) (dss_one (ds_if (dt_cmp dop_lt (d_var 6) (d_op dop_pow d_int d_int) rfl) (dss_cons (ds_expr (d_append (d_var 2) (d_cal c__law_mix (hr.mono (by decide)) (da_cons (d_var 7) (da_cons (d_op (kop_add K rfl) (d_var 5) d_int) da_nil))))) (dss_one (ds_expr (d_append (d_var 3) d_int)))) (dss_one (ds_if (dt_cmp dop_gt (d_op dop_mod (d_callTy dc_int rfl B.b_int rfl (da_cons (d_var 6) da_nil)) (d_var 1)) d_int rfl) (dss_cons (ds_expr (d_append (d_var 2) (d_op dop_mod (d_callTy dc_int rfl B.b_int rfl (da_cons (d_var 6) da_nil)) (d_var 1)))) (dss_one (ds_expr (d_append (d_var 3) d_int)))) dss_nil)))))))) (dss_one (ds_ret (d_lstO (da_cons (d_var 2) (da_cons (d_var 3) (da_cons d_int (da_cons (d_var 4) (da_cons d_int da_nil))))))))))))), h⟩
/-! ### _law_take -/
abbrev N__law_take : List Str := ["store", "many", "cells", "lefts", "at", "rest"]
theorem sc__law_take : FnScope N__law_take ["store", "many"] (defScope s__law_take) := ⟨rfl, rfl, rfl, by decide +kernel, rfl, by decide +kernel, by decide +kernel⟩
def rd__law_take (sd__law_mix : SpD) : DS :=
  (dSeq (dIfS (dTest (dOp rdLe (dVar 1) (dC (.int 1)))) (dRet (dC (.int 0))) dNext)
  (dSeq (dSet 2 (dOp rdIx (dVar 0) (dC (.int 0))))
  (dSeq (dSet 3 (dOp rdIx (dVar 0) (dC (.int 1))))
  (dSeq (dSet 4 (dOp rdIx (dVar 0) (dC (.int 2))))
  (dSeq (dIfS (dTest (dOp rdGe (dVar 4) (dCB rdLen (dCons (dVar 2) dNil)))) (dSeq (dPut (dOp rdAdd (dOp rdIx (dVar 0) (dC (.int 4))) (dC (.int 1))) (dVar 0) (dC (.int 4)))
  (dRet (dOp rdMod (dCB rdInt (dCons (dCB sd__law_mix (dCons (dOp rdIx (dVar 0) (dC (.int 3))) (dCons (dOp rdIx (dVar 0) (dC (.int 4))) dNil))) dNil)) (dVar 1)))) dNext)
  (dSeq (dIfS (dTest (dOp rdEq (dOp rdIx (dVar 3) (dVar 4)) (dC (.int 0)))) (dSeq (dSet 5 (dCB rdInt (dCons (dOp rdIx (dVar 2) (dVar 4)) dNil)))
  (dSeq (dPut (dOp rdFdiv (dVar 5) (dVar 1)) (dVar 2) (dVar 4))
  (dSeq (dIfS (dTest (dOp rdLt (dVar 5) (dVar 1))) (dPut (dOp rdAdd (dVar 4) (dC (.int 1))) (dVar 0) (dC (.int 2))) dNext)
  (dRet (dOp rdMod (dCB rdInt (dCons (dVar 5) dNil)) (dVar 1)))))) dNext)
  (dSeq (dPut (dOp rdSub (dOp rdIx (dVar 3) (dVar 4)) (dC (.int 1))) (dVar 3) (dVar 4))
  (dSeq (dIfS (dTest (dOp rdEq (dOp rdIx (dVar 3) (dVar 4)) (dC (.int 0)))) (dPut (dOp rdAdd (dVar 4) (dC (.int 1))) (dVar 0) (dC (.int 2))) dNext)
  (dRet (dOp rdMod (dCB rdInt (dCons (dCB sd__law_mix (dCons (dOp rdIx (dVar 2) (dVar 4)) (dCons (dOp rdIx (dVar 3) (dVar 4)) dNil))) dNil)) (dVar 1)))))))))))
theorem w__law_take (B : En K mg) (sd__law_mix : SpD) (c__law_mix : Cal P w K mg base 1 "_law_mix" ["number", "turn"] sd__law_mix) (sd : SpD) (len : ∀ ds μ Kd, sd ds μ Kd → ds.length = 2)
    (h : ∀ ds μ Kd, sd ds μ Kd → rd__law_take sd__law_mix { nx := fun _ μ' => Kd .non μ', rt := Kd } (dstart N__law_take ds) μ) : Cal P w K mg base 2 "_law_take" ["store", "many"] sd :=
  B._law_take.cal (fun _ _ _ _ _ _ us hl => match us, hl with | [_, _], _ => rfl) fun f fd F => fn_data F sc__law_take len fun cdv A outer s H E hr => by
    have hu64 := hr.units
    have hu1 := hu_of hr
    exact ⟨rd__law_take sd__law_mix, (dss_cons (ds_if (dt_cmp dop_le (d_var 1) d_int rfl) (dss_one (ds_ret d_int)) dss_nil) (dss_cons (ds_set sc__law_take.nd (d_ix (kix K rfl) (d_var 0) d_int)) (dss_cons (ds_set sc__law_take.nd (d_ix (kix K rfl) (d_var 0) d_int)) (dss_cons (ds_set sc__law_take.nd (d_ix (kix K rfl) (d_var 0) d_int)) (dss_cons (ds_if (dt_cmp dop_ge (d_var 4) (d_callB (kc_len K rfl) rfl B.b_len rfl (da_cons (d_var 2) da_nil)) rfl) (dss_cons (ds_put (d_op (kop_add K rfl) (d_ix (kix K rfl) (d_var 0) d_int) d_int) (d_var 0) d_int) (dss_one (ds_ret (d_op dop_mod (d_callTy dc_int rfl B.b_int rfl (da_cons (d_cal c__law_mix (hr.mono (by decide)) (da_cons (d_ix (kix K rfl) (d_var 0) d_int) (da_cons (d_ix (kix K rfl) (d_var 0) d_int) da_nil))) da_nil)) (d_var 1))))) dss_nil) (dss_cons (ds_if (dt_cmp (kop_eq K rfl hu64) (d_ix (kix K rfl) (d_var 3) (d_var 4)) d_int rfl) (dss_cons (ds_set sc__law_take.nd (d_callTy dc_int rfl B.b_int rfl (da_cons (d_ix (kix K rfl) (d_var 2) (d_var 4)) da_nil))) (dss_cons (ds_put (d_op dop_fdiv (d_var 5) (d_var 1)) (d_var 2) (d_var 4)) (dss_cons (ds_if (dt_cmp dop_lt (d_var 5) (d_var 1) rfl) (dss_one (ds_put (d_op (kop_add K rfl) (d_var 4) d_int) (d_var 0) d_int)) dss_nil) (dss_one (ds_ret (d_op dop_mod (d_callTy dc_int rfl B.b_int rfl (da_cons (d_var 5) da_nil)) (d_var 1))))))) dss_nil) (dss_cons (ds_put (d_op dop_sub (d_ix (kix K rfl) (d_var 3) (d_var 4)) d_int) (d_var 3) (d_var 4)) (dss_cons (ds_if (dt_cmp (kop_eq K rfl hu64) (d_ix (kix K rfl) (d_var 3) (d_var 4)) d_int rfl) (dss_one (ds_put (d_op (kop_add K rfl) (d_var 4) d_int) (d_var 0) d_int)) dss_nil) (dss_one (ds_ret (d_op dop_mod (d_callTy dc_int rfl B.b_int rfl (da_cons (d_cal c__law_mix (hr.mono (by decide)) (da_cons (d_ix (kix K rfl) (d_var 2) (d_var 4)) (da_cons (d_ix (kix K rfl) (d_var 3) (d_var 4)) da_nil))) da_nil)) (d_var 1)))))))))))), h⟩
/-! ### _law_yes -/
abbrev N__law_yes : List Str := ["store", "many"]
theorem sc__law_yes : FnScope N__law_yes ["store", "many"] (defScope s__law_yes) := ⟨rfl, rfl, rfl, by decide +kernel, rfl, by decide +kernel, by decide +kernel⟩
def rd__law_yes (sd__law_take : SpD) : DS :=
  (dRet (dOp rdEq (dCB sd__law_take (dCons (dVar 0) (dCons (dVar 1) dNil))) (dC (.int 0))))
theorem w__law_yes (B : En K mg) (sd__law_take : SpD) (c__law_take : Cal P w K mg base 2 "_law_take" ["store", "many"] sd__law_take) (sd : SpD) (len : ∀ ds μ Kd, sd ds μ Kd → ds.length = 2)
    (h : ∀ ds μ Kd, sd ds μ Kd → rd__law_yes sd__law_take { nx := fun _ μ' => Kd .non μ', rt := Kd } (dstart N__law_yes ds) μ) : Cal P w K mg base 3 "_law_yes" ["store", "many"] sd :=
  B._law_yes.cal (fun _ _ _ _ _ _ us hl => match us, hl with | [_, _], _ => rfl) fun f fd F => fn_data F sc__law_yes len fun cdv A outer s H E hr => by
    have hu64 := hr.units
    have hu1 := hu_of hr
    exact ⟨rd__law_yes sd__law_take, (dss_one (ds_ret (d_cmp (kop_eq K rfl hu64) (d_cal c__law_take (hr.mono (by decide)) (da_cons (d_var 0) (da_cons (d_var 1) da_nil))) d_int rfl))), h⟩
/-! ### _law_span -/
abbrev N__law_span : List Str := ["store", "least", "greatest", "pick"]
theorem sc__law_span : FnScope N__law_span ["store", "least", "greatest"] (defScope s__law_span) := ⟨rfl, rfl, rfl, by decide +kernel, rfl, by decide +kernel, by decide +kernel⟩
def rd__law_span (sd__law_take : SpD) : DS :=
  (dSeq (dIfS (dTest (dOp rdLe (dVar 2) (dVar 1))) (dRet (dVar 1)) dNext)
  (dSeq (dSet 3 (dCB sd__law_take (dCons (dVar 0) (dCons (dC (.int 9)) dNil))))
  (dSeq (dIfS (dTest (dOp rdEq (dVar 3) (dC (.int 0)))) (dRet (dVar 1)) dNext)
  (dSeq (dIfS (dTest (dOp rdEq (dVar 3) (dC (.int 1)))) (dRet (dVar 2)) dNext)
  (dSeq (dIfS (dTest (dOp rdEq (dVar 3) (dC (.int 2)))) (dRet (dOp rdAdd (dVar 1) (dC (.int 1)))) dNext)
  (dRet (dOp rdAdd (dVar 1) (dCB sd__law_take (dCons (dVar 0) (dCons (dOp rdAdd (dOp rdSub (dVar 2) (dVar 1)) (dC (.int 1))) dNil))))))))))
theorem w__law_span (B : En K mg) (sd__law_take : SpD) (c__law_take : Cal P w K mg base 2 "_law_take" ["store", "many"] sd__law_take) (sd : SpD) (len : ∀ ds μ Kd, sd ds μ Kd → ds.length = 3)
    (h : ∀ ds μ Kd, sd ds μ Kd → rd__law_span sd__law_take { nx := fun _ μ' => Kd .non μ', rt := Kd } (dstart N__law_span ds) μ) : Cal P w K mg base 3 "_law_span" ["store", "least", "greatest"] sd :=
  B._law_span.cal (fun _ _ _ _ _ _ us hl => match us, hl with | [_, _, _], _ => rfl) fun f fd F => fn_data F sc__law_span len fun cdv A outer s H E hr => by
    have hu64 := hr.units
    have hu1 := hu_of hr
    exact ⟨rd__law_span sd__law_take, (dss_cons (ds_if (dt_cmp dop_le (d_var 2) (d_var 1) rfl) (dss_one (ds_ret (d_var 1))) dss_nil) (dss_cons (ds_set sc__law_span.nd (d_cal c__law_take (hr.mono (by decide)) (da_cons (d_var 0) (da_cons d_int da_nil)))) (dss_cons (ds_if (dt_cmp (kop_eq K rfl hu64) (d_var 3) d_int rfl) (dss_one (ds_ret (d_var 1))) dss_nil) (dss_cons (ds_if (dt_cmp (kop_eq K rfl hu64) (d_var 3) d_int rfl) (dss_one (ds_ret (d_var 2))) dss_nil) (dss_cons (ds_if (dt_cmp (kop_eq K rfl hu64) (d_var 3) d_int rfl) (dss_one (ds_ret (d_op (kop_add K rfl) (d_var 1) d_int))) dss_nil) (dss_one (ds_ret (d_op (kop_add K rfl) (d_var 1) (d_cal c__law_take (hr.mono (by decide)) (da_cons (d_var 0) (da_cons (d_op (kop_add K rfl) (d_op dop_sub (d_var 2) (d_var 1)) d_int) da_nil))))))))))), h⟩
/-! ### _law_of -/
abbrev N__law_of : List Str := ["store", "things"]
theorem sc__law_of : FnScope N__law_of ["store", "things"] (defScope s__law_of) := ⟨rfl, rfl, rfl, by decide +kernel, rfl, by decide +kernel, by decide +kernel⟩
def rd__law_of (sd__law_take : SpD) : DS :=
  (dRet (dOp rdIx (dVar 1) (dCB sd__law_take (dCons (dVar 0) (dCons (dCB rdLen (dCons (dVar 1) dNil)) dNil)))))
theorem w__law_of (B : En K mg) (sd__law_take : SpD) (c__law_take : Cal P w K mg base 2 "_law_take" ["store", "many"] sd__law_take) (sd : SpD) (len : ∀ ds μ Kd, sd ds μ Kd → ds.length = 2)
    (h : ∀ ds μ Kd, sd ds μ Kd → rd__law_of sd__law_take { nx := fun _ μ' => Kd .non μ', rt := Kd } (dstart N__law_of ds) μ) : Cal P w K mg base 3 "_law_of" ["store", "things"] sd :=
  B._law_of.cal (fun _ _ _ _ _ _ us hl => match us, hl with | [_, _], _ => rfl) fun f fd F => fn_data F sc__law_of len fun cdv A outer s H E hr => by
    have hu64 := hr.units
    have hu1 := hu_of hr
    exact ⟨rd__law_of sd__law_take, (dss_one (ds_ret (d_ix (kix K rfl) (d_var 1) (d_cal c__law_take (hr.mono (by decide)) (da_cons (d_var 0) (da_cons (d_callB (kc_len K rfl) rfl B.b_len rfl (da_cons (d_var 1) da_nil)) da_nil)))))), h⟩
/-! ### _law_order -/
abbrev N__law_order : List Str := ["store", "things", "line", "turn", "at", "other", "held"]
theorem sc__law_order : FnScope N__law_order ["store", "things"] (defScope s__law_order) := ⟨rfl, rfl, rfl, by decide +kernel, rfl, by decide +kernel, by decide +kernel⟩
def rd__law_order (sd__law_take : SpD) : DS :=
  (dSeq (dSet 2 (dCB rdListO (dCons (dVar 1) dNil)))
  (dSeq (dFor (iR1 (dCons (dOp rdSub (dCB rdLen (dCons (dVar 2) dNil)) (dC (.int 1))) dNil)) (gNm 3)
  (dSeq (dSet 4 (dOp rdSub (dOp rdSub (dCB rdLen (dCons (dVar 2) dNil)) (dC (.int 1))) (dVar 3)))
  (dSeq (dSet 5 (dCB sd__law_take (dCons (dVar 0) (dCons (dOp rdAdd (dVar 4) (dC (.int 1))) dNil))))
  (dSeq (dSet 6 (dOp rdIx (dVar 2) (dVar 4)))
  (dSeq (dPut (dOp rdIx (dVar 2) (dVar 5)) (dVar 2) (dVar 4))
  (dPut (dVar 6) (dVar 2) (dVar 5)))))))
  (dGive 2 (dRet (dVar 2)))))
theorem w__law_order (B : En K mg) (sd__law_take : SpD) (c__law_take : Cal P w K mg base 2 "_law_take" ["store", "many"] sd__law_take) (sd : SpD) (len : ∀ ds μ Kd, sd ds μ Kd → ds.length = 2)
    (h : ∀ ds μ Kd, sd ds μ Kd → rd__law_order sd__law_take { nx := fun _ μ' => Kd .non μ', rt := Kd } (dstart N__law_order ds) μ) : Cal P w K mg base 3 "_law_order" ["store", "things"] sd :=
  B._law_order.cal (fun _ _ _ _ _ _ us hl => match us, hl with | [_, _], _ => rfl) fun f fd F => fn_data F sc__law_order len fun cdv A outer s H E hr => by
    have hu64 := hr.units
    have hu1 := hu_of hr
    exact ⟨rd__law_order sd__law_take, (dss_cons (ds_set sc__law_order.nd (d_callTy (dc_listO rfl) rfl B.b_list rfl (da_cons (d_var 1) da_nil))) (dss_cons (ds_for (di_range1 rfl B.b_range (da_cons (d_op dop_sub (d_callB (kc_len K rfl) rfl B.b_len rfl (da_cons (d_var 2) da_nil)) d_int) da_nil)) (dg_name 3 sc__law_order.nd) (dss_cons (ds_set sc__law_order.nd (d_op dop_sub (d_op dop_sub (d_callB (kc_len K rfl) rfl B.b_len rfl (da_cons (d_var 2) da_nil)) d_int) (d_var 3))) (dss_cons (ds_set sc__law_order.nd (d_cal c__law_take (hr.mono (by decide)) (da_cons (d_var 0) (da_cons (d_op (kop_add K rfl) (d_var 4) d_int) da_nil)))) (dss_cons (ds_set sc__law_order.nd (d_ix (kix K rfl) (d_var 2) (d_var 4))) (dss_cons (ds_put (d_ix (kix K rfl) (d_var 2) (d_var 5)) (d_var 2) (d_var 4)) (dss_one (ds_put (d_var 6) (d_var 2) (d_var 5)))))))) (dss_give 2 (dss_one (ds_ret (d_var 2)))))), h⟩
/-! ### _law_wide -/
abbrev N__law_wide : List Str := ["store", "figures", "number", "turn"]
theorem sc__law_wide : FnScope N__law_wide ["store", "figures"] (defScope s__law_wide) := ⟨rfl, rfl, rfl, by decide +kernel, rfl, by decide +kernel, by decide +kernel⟩
def rd__law_wide (sd__law_span : SpD) (sd__law_take : SpD) : DS :=
  (dSeq (dSet 2 (dC (.int 0)))
  (dSeq (dFor (iR1 (dCons (dCB sd__law_span (dCons (dVar 0) (dCons (dC (.int 1)) (dCons (dVar 1) dNil)))) dNil)) (gNm 3)
  (dSet 2 (dOp rdAdd (dOp rdMul (dVar 2) (dC (.int 10))) (dCB sd__law_take (dCons (dVar 0) (dCons (dC (.int 10)) dNil))))))
  (dRet (dVar 2))))
theorem w__law_wide (B : En K mg) (sd__law_span : SpD) (sd__law_take : SpD) (c__law_span : Cal P w K mg base 3 "_law_span" ["store", "least", "greatest"] sd__law_span) (c__law_take : Cal P w K mg base 2 "_law_take" ["store", "many"] sd__law_take) (sd : SpD) (len : ∀ ds μ Kd, sd ds μ Kd → ds.length = 2)
    (h : ∀ ds μ Kd, sd ds μ Kd → rd__law_wide sd__law_span sd__law_take { nx := fun _ μ' => Kd .non μ', rt := Kd } (dstart N__law_wide ds) μ) : Cal P w K mg base 4 "_law_wide" ["store", "figures"] sd :=
  B._law_wide.cal (fun _ _ _ _ _ _ us hl => match us, hl with | [_, _], _ => rfl) fun f fd F => fn_data F sc__law_wide len fun cdv A outer s H E hr => by
    have hu64 := hr.units
    have hu1 := hu_of hr
    exact ⟨rd__law_wide sd__law_span sd__law_take, (dss_cons (ds_set sc__law_wide.nd d_int) (dss_cons (ds_for (di_range1 rfl B.b_range (da_cons (d_cal c__law_span (hr.mono (by decide)) (da_cons (d_var 0) (da_cons d_int (da_cons (d_var 1) da_nil)))) da_nil)) (dg_name 3 sc__law_wide.nd) (dss_one (ds_set sc__law_wide.nd (d_op (kop_add K rfl) (d_op dop_mul (d_var 2) d_int) (d_cal c__law_take (hr.mono (by decide)) (da_cons (d_var 0) (da_cons d_int da_nil))))))) (dss_one (ds_ret (d_var 2))))), h⟩
/-! ### _law_outside -/
abbrev N__law_outside : List Str := ["store", "least", "greatest", "far"]
theorem sc__law_outside : FnScope N__law_outside ["store", "least", "greatest"] (defScope s__law_outside) := ⟨rfl, rfl, rfl, by decide +kernel, rfl, by decide +kernel, by decide +kernel⟩
def rd__law_outside (sd__law_yes : SpD) (sd__law_wide : SpD) : DS :=
  (dSeq (dSet 3 (dC (.int 0)))
  (dSeq (dIfS (dTest (dCB sd__law_yes (dCons (dVar 0) (dCons (dC (.int 2)) dNil)))) (dSet 3 (dCB sd__law_wide (dCons (dVar 0) (dCons (dC (.int 20)) dNil)))) dNext)
  (dSeq (dIfS (dTest (dCB sd__law_yes (dCons (dVar 0) (dCons (dC (.int 2)) dNil)))) (dRet (dOp rdSub (dOp rdSub (dVar 1) (dC (.int 1))) (dVar 3))) dNext)
  (dRet (dOp rdAdd (dOp rdAdd (dVar 2) (dC (.int 1))) (dVar 3))))))
theorem w__law_outside (B : En K mg) (sd__law_yes : SpD) (sd__law_wide : SpD) (c__law_yes : Cal P w K mg base 3 "_law_yes" ["store", "many"] sd__law_yes) (c__law_wide : Cal P w K mg base 4 "_law_wide" ["store", "figures"] sd__law_wide) (sd : SpD) (len : ∀ ds μ Kd, sd ds μ Kd → ds.length = 3)
    (h : ∀ ds μ Kd, sd ds μ Kd → rd__law_outside sd__law_yes sd__law_wide { nx := fun _ μ' => Kd .non μ', rt := Kd } (dstart N__law_outside ds) μ) : Cal P w K mg base 5 "_law_outside" ["store", "least", "greatest"] sd :=
  B._law_outside.cal (fun _ _ _ _ _ _ us hl => match us, hl with | [_, _, _], _ => rfl) fun f fd F => fn_data F sc__law_outside len fun cdv A outer s H E hr => by
    have hu64 := hr.units
    have hu1 := hu_of hr
    exact ⟨rd__law_outside sd__law_yes sd__law_wide, (dss_cons (ds_set sc__law_outside.nd d_int) (dss_cons (ds_if (dt_val (d_cal c__law_yes (hr.mono (by decide)) (da_cons (d_var 0) (da_cons d_int da_nil)))) (dss_one (ds_set sc__law_outside.nd (d_cal c__law_wide (hr.mono (by decide)) (da_cons (d_var 0) (da_cons d_int da_nil))))) dss_nil) (dss_cons (ds_if (dt_val (d_cal c__law_yes (hr.mono (by decide)) (da_cons (d_var 0) (da_cons d_int da_nil)))) (dss_one (ds_ret (d_op dop_sub (d_op dop_sub (d_var 1) d_int) (d_var 3)))) dss_nil) (dss_one (ds_ret (d_op (kop_add K rfl) (d_op (kop_add K rfl) (d_var 2) d_int) (d_var 3))))))), h⟩
/-! ### _law_beyond -/
abbrev N__law_beyond : List Str := ["store", "least", "greatest"]
theorem sc__law_beyond : FnScope N__law_beyond ["store", "least", "greatest"] (defScope s__law_beyond) := ⟨rfl, rfl, rfl, by decide +kernel, rfl, by decide +kernel, by decide +kernel⟩
def rd__law_beyond (sd__law_yes : SpD) (sd__law_outside : SpD) : DS :=
  (dSeq (dIfS (dTest (dCB sd__law_yes (dCons (dVar 0) (dCons (dC (.int 4)) dNil)))) (dRet (dCB sd__law_yes (dCons (dVar 0) (dCons (dC (.int 2)) dNil)))) dNext)
  (dRet (dCB sd__law_outside (dCons (dVar 0) (dCons (dVar 1) (dCons (dVar 2) dNil))))))
theorem w__law_beyond (B : En K mg) (sd__law_yes : SpD) (sd__law_outside : SpD) (c__law_yes : Cal P w K mg base 3 "_law_yes" ["store", "many"] sd__law_yes) (c__law_outside : Cal P w K mg base 5 "_law_outside" ["store", "least", "greatest"] sd__law_outside) (sd : SpD) (len : ∀ ds μ Kd, sd ds μ Kd → ds.length = 3)
    (h : ∀ ds μ Kd, sd ds μ Kd → rd__law_beyond sd__law_yes sd__law_outside { nx := fun _ μ' => Kd .non μ', rt := Kd } (dstart N__law_beyond ds) μ) : Cal P w K mg base 6 "_law_beyond" ["store", "least", "greatest"] sd :=
  B._law_beyond.cal (fun _ _ _ _ _ _ us hl => match us, hl with | [_, _, _], _ => rfl) fun f fd F => fn_data F sc__law_beyond len fun cdv A outer s H E hr => by
    have hu64 := hr.units
    have hu1 := hu_of hr
    exact ⟨rd__law_beyond sd__law_yes sd__law_outside, (dss_cons (ds_if (dt_val (d_cal c__law_yes (hr.mono (by decide)) (da_cons (d_var 0) (da_cons d_int da_nil)))) (dss_one (ds_ret (d_cal c__law_yes (hr.mono (by decide)) (da_cons (d_var 0) (da_cons d_int da_nil))))) dss_nil) (dss_one (ds_ret (d_cal c__law_outside (hr.mono (by decide)) (da_cons (d_var 0) (da_cons (d_var 1) (da_cons (d_var 2) da_nil))))))), h⟩
/-! ### _law_ascii -/
abbrev N__law_ascii : List Str := ["first"]
theorem sc__law_ascii : FnScope N__law_ascii [] (defScope s__law_ascii) := ⟨rfl, rfl, rfl, by decide +kernel, rfl, by decide +kernel, by decide +kernel⟩
def rd__law_ascii : DS :=
  (dSeq (dSet 0 (dC (cS " !\"#$&'()*+,-./0123456789:;<=>?@ABCDEFGHIJKLMNOPQRSTUVWXYZ[\\]^_`")))
  (dRet (dOp rdAdd (dVar 0) (dC (cS "abcdefghijklmnopqrstuvwxyz{|}~")))))
theorem w__law_ascii (B : En K mg) (sd : SpD) (len : ∀ ds μ Kd, sd ds μ Kd → ds.length = 0)
    (h : ∀ ds μ Kd, sd ds μ Kd → rd__law_ascii { nx := fun _ μ' => Kd .non μ', rt := Kd } (dstart N__law_ascii ds) μ) : Cal P w K mg base 1 "_law_ascii" [] sd :=
  B._law_ascii.cal (fun _ _ _ _ _ _ us hl => match us, hl with | [], _ => rfl) fun f fd F => fn_data F sc__law_ascii len fun cdv A outer s H E hr => by
    have hu64 := hr.units
    have hu1 := hu_of hr
    exact ⟨rd__law_ascii, (dss_cons (ds_set sc__law_ascii.nd d_str) (dss_one (ds_ret (d_op (kop_add K rfl) (d_var 0) d_str)))), h⟩
/-! ### _law_text -/
abbrev N__law_text : List Str := ["store", "alphabet", "size", "way", "block", "turn"]
theorem sc__law_text : FnScope N__law_text ["store", "alphabet", "size"] (defScope s__law_text) := ⟨rfl, rfl, rfl, by decide +kernel, rfl, by decide +kernel, by decide +kernel⟩
def rd__law_text (sd__law_take : SpD) (sd__law_of : SpD) : DS :=
  (dSeq (dIfS (dOr (dTest (dOp rdLe (dVar 2) (dC (.int 0)))) (dTest (dOp rdEq (dVar 1) (dC (cS ""))))) (dRet (dC (cS ""))) dNext)
  (dSeq (dSet 3 (dCB sd__law_take (dCons (dVar 0) (dCons (dC (.int 6)) dNil))))
  (dSeq (dIfS (dTest (dOp rdEq (dVar 3) (dC (.int 0)))) (dRet (dOp rdMul (dCB sd__law_of (dCons (dVar 0) (dCons (dVar 1) dNil))) (dVar 2))) dNext)
  (dSeq (dIfS (dTest (dOp rdEq (dVar 3) (dC (.int 1)))) (dSeq (dSet 4 (dM1 rdJoin (dC (cS "")) (dLc (iR1 (dCons (dOp rdAdd (dC (.int 2)) (dCB sd__law_take (dCons (dVar 0) (dCons (dC (.int 3)) dNil)))) dNil)) (gNm 5) dYes (dCB sd__law_of (dCons (dVar 0) (dCons (dVar 1) dNil))) [5])))
  (dRet (dSl (dOp rdMul (dVar 4) (dVar 2)) oNo (oInt (dVar 2))))) dNext)
  (dRet (dM1 rdJoin (dC (cS "")) (dLc (iR1 (dCons (dVar 2) dNil)) (gNm 5) dYes (dCB sd__law_of (dCons (dVar 0) (dCons (dVar 1) dNil))) [5])))))))
theorem w__law_text (B : En K mg) (sd__law_take : SpD) (sd__law_of : SpD) (c__law_take : Cal P w K mg base 2 "_law_take" ["store", "many"] sd__law_take) (c__law_of : Cal P w K mg base 3 "_law_of" ["store", "things"] sd__law_of) (sd : SpD) (len : ∀ ds μ Kd, sd ds μ Kd → ds.length = 3)
    (h : ∀ ds μ Kd, sd ds μ Kd → rd__law_text sd__law_take sd__law_of { nx := fun _ μ' => Kd .non μ', rt := Kd } (dstart N__law_text ds) μ) : Cal P w K mg base 4 "_law_text" ["store", "alphabet", "size"] sd :=
  B._law_text.cal (fun _ _ _ _ _ _ us hl => match us, hl with | [_, _, _], _ => rfl) fun f fd F => fn_data F sc__law_text len fun cdv A outer s H E hr => by
    have hu64 := hr.units
    have hu1 := hu_of hr
    exact ⟨rd__law_text sd__law_take sd__law_of, (dss_cons (ds_if (DPw.pt (dw_or (dt_cmp dop_le (d_var 2) d_int rfl) (dw_or1 (dt_cmp (kop_eq K rfl hu64) (d_var 1) d_str rfl)))) (dss_one (ds_ret d_str)) dss_nil) (dss_cons (ds_set sc__law_text.nd (d_cal c__law_take (hr.mono (by decide)) (da_cons (d_var 0) (da_cons d_int da_nil)))) (dss_cons (ds_if (dt_cmp (kop_eq K rfl hu64) (d_var 3) d_int rfl) (dss_one (ds_ret (d_op dop_mul (d_cal c__law_of (hr.mono (by decide)) (da_cons (d_var 0) (da_cons (d_var 1) da_nil))) (d_var 2)))) dss_nil) (dss_cons (ds_if (dt_cmp (kop_eq K rfl hu64) (d_var 3) d_int rfl) (dss_cons (ds_set sc__law_text.nd (d_join d_str (d_lc sc__law_text.nd (di_range1 rfl B.b_range (da_cons (d_op (kop_add K rfl) d_int (d_cal c__law_take (hr.mono (by decide)) (da_cons (d_var 0) (da_cons d_int da_nil)))) da_nil)) (own := [("turn", 5)]) rfl (fun _ _ _ _ _ => (dg_name 5 sc__law_text.nd)) (fun _ _ _ _ _ => dts_nil) (fun _ _ _ _ _ => (d_cal c__law_of (hr.mono (by decide)) (da_cons (d_var 0) (da_cons (d_var 1) da_nil))))))) (dss_one (ds_ret (k_slice K rfl (d_op dop_mul (d_var 4) (d_var 2)) do_none (do_some (d_var 2)))))) dss_nil) (dss_one (ds_ret (d_join d_str (d_lc sc__law_text.nd (di_range1 rfl B.b_range (da_cons (d_var 2) da_nil)) (own := [("turn", 5)]) rfl (fun _ _ _ _ _ => (dg_name 5 sc__law_text.nd)) (fun _ _ _ _ _ => dts_nil) (fun _ _ _ _ _ => (d_cal c__law_of (hr.mono (by decide)) (da_cons (d_var 0) (da_cons (d_var 1) da_nil)))))))))))), h⟩
end K17

set_option Elab.async false
set_option linter.all false
set_option maxRecDepth 100000
set_option maxHeartbeats 4000000
namespace K17
open PySem PySem.Spec PyProof.Rows L2 L2H DL
variable {P : Program} {w : World} {K : PySem.W.Frag} {mg : Str → Option Value} {base : Heap}
/-! ### _law_ahead -/
abbrev N__law_ahead : List Str := ["text", "c", "at"]
theorem sc__law_ahead : FnScope N__law_ahead ["text", "c"] (defScope s__law_ahead) := ⟨rfl, rfl, rfl, by decide +kernel, rfl, by decide +kernel, by decide +kernel⟩
def rd__law_ahead : DS :=
  (dRet (dLc (iR1 (dCons (dCB rdLen (dCons (dVar 0) dNil)) dNil)) (gNm 2) (dTest (dOp rdNe (dOp rdIx (dVar 0) (dVar 2)) (dVar 1))) (dM1 rdCountS (dSl (dVar 0) oNo (oInt (dVar 2))) (dVar 1)) [2]))
theorem w__law_ahead (B : En K mg) (sd : SpD) (len : ∀ ds μ Kd, sd ds μ Kd → ds.length = 2)
    (h : ∀ ds μ Kd, sd ds μ Kd → rd__law_ahead { nx := fun _ μ' => Kd .non μ', rt := Kd } (dstart N__law_ahead ds) μ) : Cal P w K mg base 1 "_law_ahead" ["text", "c"] sd :=
  B._law_ahead.cal (fun _ _ _ _ _ _ us hl => match us, hl with | [_, _], _ => rfl) fun f fd F => fn_data F sc__law_ahead len fun cdv A outer s H E hr => by
    have hu64 := hr.units
    have hu1 := hu_of hr
    exact ⟨rd__law_ahead, (dss_one (ds_ret (d_lc sc__law_ahead.nd (di_range1 rfl B.b_range (da_cons (d_callB (kc_len K rfl) rfl B.b_len rfl (da_cons (d_var 0) da_nil)) da_nil)) (own := [("at", 2)]) rfl (fun _ _ _ _ _ => (dg_name 2 sc__law_ahead.nd)) (fun _ _ _ _ _ => (dts_one (dt_cmp (kop_ne K rfl hu64) (d_ix (kix K rfl) (d_var 0) (d_var 2)) (d_var 1) rfl))) (fun _ _ _ _ _ => (d_count (k_slice K rfl (d_var 0) do_none (do_some (d_var 2))) (d_var 1)))))), h⟩
/-! ### _law_fault -/
abbrev N__law_fault : List Str := ["old", "new", "c", "olds", "news", "at", "were", "are", "steps", "later", "sign", "place"]
theorem sc__law_fault : FnScope N__law_fault ["old", "new", "c"] (defScope s__law_fault) := ⟨rfl, rfl, rfl, by decide +kernel, rfl, by decide +kernel, by decide +kernel⟩
def rd__law_fault (sd__law_ahead : SpD) : DS :=
  (dSeq (dSet 3 (dLc (iStrD (dVar 0)) (gNm 10) (dTest (dOp rdNe (dVar 10) (dVar 2))) (dVar 10) [10]))
  (dSeq (dSet 4 (dLc (iStrD (dVar 1)) (gNm 10) (dTest (dOp rdNe (dVar 10) (dVar 2))) (dVar 10) [10]))
  (dSeq (dFor (iR1 (dCons (dCB rdLen (dCons (dVar 3) dNil)) dNil)) (gNm 5)
  (dIfS (dTest (dOp rdNe (dOp rdIx (dVar 3) (dVar 5)) (dOp rdIx (dVar 4) (dVar 5)))) (dRet (dTup (dCons (dC (cS "swap")) (dCons (dVar 5) dNil)))) dNext))
  (dSeq (dIfS (dTest (dOp rdEq (dVar 2) (dC (cS "")))) (dRet (dC .non)) dNext)
  (dSeq (dSet 6 (dCB sd__law_ahead (dCons (dVar 0) (dCons (dVar 2) dNil))))
  (dSeq (dSet 7 (dCB sd__law_ahead (dCons (dVar 1) (dCons (dVar 2) dNil))))
  (dSeq (dSet 8 (dLc (iR1 (dCons (dCB rdLen (dCons (dVar 6) dNil)) dNil)) (gNm 5) dYes (dOp rdSub (dOp rdIx (dVar 7) (dVar 5)) (dOp rdIx (dVar 6) (dVar 5))) [5]))
  (dSeq (dFor (iR1 (dCons (dCB rdLen (dCons (dVar 8) dNil)) dNil)) (gNm 5)
  (dIfS (dAnd (dTest (dOp rdNe (dOp rdIx (dVar 8) (dVar 5)) (dC (.int 0)))) (dTest (dOp rdNe (dOp rdIx (dVar 8) (dVar 5)) (dC (.int 1))))) (dRet (dTup (dCons (dC (cS "jump")) (dCons (dVar 5) dNil)))) dNext))
  (dSeq (dFor (iR1 (dCons (dCB rdLen (dCons (dVar 8) dNil)) dNil)) (gNm 5)
  (dSeq (dSet 9 (dLc (iR2 (dCons (dOp rdAdd (dVar 5) (dC (.int 1))) (dCons (dCB rdLen (dCons (dVar 8) dNil)) dNil))) (gNm 11) (dAnd (dTest (dOp rdEq (dOp rdIx (dVar 8) (dVar 5)) (dC (.int 1)))) (dTest (dOp rdEq (dOp rdIx (dVar 8) (dVar 11)) (dC (.int 0))))) (dVar 11) [11]))
  (dIfS (dTest (dOp rdGt (dCB rdLen (dCons (dVar 9) dNil)) (dC (.int 0)))) (dRet (dTup (dCons (dC (cS "bend")) (dCons (dVar 5) (dCons (dOp rdIx (dVar 9) (dC (.int 0))) dNil))))) dNext)))
  (dRet (dC .non)))))))))))
theorem w__law_fault (B : En K mg) (sd__law_ahead : SpD) (c__law_ahead : Cal P w K mg base 1 "_law_ahead" ["text", "c"] sd__law_ahead) (sd : SpD) (len : ∀ ds μ Kd, sd ds μ Kd → ds.length = 3)
    (h : ∀ ds μ Kd, sd ds μ Kd → rd__law_fault sd__law_ahead { nx := fun _ μ' => Kd .non μ', rt := Kd } (dstart N__law_fault ds) μ) : Cal P w K mg base 2 "_law_fault" ["old", "new", "c"] sd :=
  B._law_fault.cal (fun _ _ _ _ _ _ us hl => match us, hl with | [_, _, _], _ => rfl) fun f fd F => fn_data F sc__law_fault len fun cdv A outer s H E hr => by
    have hu64 := hr.units
    have hu1 := hu_of hr
    exact ⟨rd__law_fault sd__law_ahead, (dss_cons (ds_setLc sc__law_fault.nd rfl (di_str (d_var 0)) (own := [("sign", 10)]) rfl (fun _ _ _ _ _ => (dg_name 10 sc__law_fault.nd)) (fun _ _ _ _ _ => (dts_one (dt_cmp (kop_ne K rfl hu64) (d_var 10) (d_var 2) rfl))) (fun _ _ _ _ _ => (d_var 10))) (dss_cons (ds_setLc sc__law_fault.nd rfl (di_str (d_var 1)) (own := [("sign", 10)]) rfl (fun _ _ _ _ _ => (dg_name 10 sc__law_fault.nd)) (fun _ _ _ _ _ => (dts_one (dt_cmp (kop_ne K rfl hu64) (d_var 10) (d_var 2) rfl))) (fun _ _ _ _ _ => (d_var 10))) (dss_cons (ds_for (di_range1 rfl B.b_range (da_cons (d_callB (kc_len K rfl) rfl B.b_len rfl (da_cons (d_var 3) da_nil)) da_nil)) (dg_name 5 sc__law_fault.nd) (dss_one (ds_if (dt_cmp (kop_ne K rfl hu64) (d_ix (kix K rfl) (d_var 3) (d_var 5)) (d_ix (kix K rfl) (d_var 4) (d_var 5)) rfl) (dss_one (ds_ret (d_tup (da_cons d_str (da_cons (d_var 5) da_nil))))) dss_nil))) (dss_cons (ds_if (dt_cmp (kop_eq K rfl hu64) (d_var 2) d_str rfl) (dss_one (ds_ret d_non)) dss_nil) (dss_cons (ds_set sc__law_fault.nd (d_cal c__law_ahead (hr.mono (by decide)) (da_cons (d_var 0) (da_cons (d_var 2) da_nil)))) (dss_cons (ds_set sc__law_fault.nd (d_cal c__law_ahead (hr.mono (by decide)) (da_cons (d_var 1) (da_cons (d_var 2) da_nil)))) (dss_cons (ds_set sc__law_fault.nd (d_lc sc__law_fault.nd (di_range1 rfl B.b_range (da_cons (d_callB (kc_len K rfl) rfl B.b_len rfl (da_cons (d_var 6) da_nil)) da_nil)) (own := [("at", 5)]) rfl (fun _ _ _ _ _ => (dg_name 5 sc__law_fault.nd)) (fun _ _ _ _ _ => dts_nil) (fun _ _ _ _ _ => (d_op dop_sub (d_ix (kix K rfl) (d_var 7) (d_var 5)) (d_ix (kix K rfl) (d_var 6) (d_var 5)))))) (dss_cons (ds_for (di_range1 rfl B.b_range (da_cons (d_callB (kc_len K rfl) rfl B.b_len rfl (da_cons (d_var 8) da_nil)) da_nil)) (dg_name 5 sc__law_fault.nd) (dss_one (ds_if (DPw.pt (dw_and (dt_cmp (kop_ne K rfl hu64) (d_ix (kix K rfl) (d_var 8) (d_var 5)) d_int rfl) (dw_and1 (dt_cmp (kop_ne K rfl hu64) (d_ix (kix K rfl) (d_var 8) (d_var 5)) d_int rfl)))) (dss_one (ds_ret (d_tup (da_cons d_str (da_cons (d_var 5) da_nil))))) dss_nil))) (dss_cons (ds_for (di_range1 rfl B.b_range (da_cons (d_callB (kc_len K rfl) rfl B.b_len rfl (da_cons (d_var 8) da_nil)) da_nil)) (dg_name 5 sc__law_fault.nd) (dss_cons (ds_setLc sc__law_fault.nd rfl (di_range2 rfl B.b_range (da_cons (d_op (kop_add K rfl) (d_var 5) d_int) (da_cons (d_callB (kc_len K rfl) rfl B.b_len rfl (da_cons (d_var 8) da_nil)) da_nil))) (own := [("place", 11)]) rfl (fun _ _ _ _ _ => (dg_name 11 sc__law_fault.nd)) (fun _ _ _ _ _ => (dts_one (DPw.pt (dw_and (dt_cmp (kop_eq K rfl hu64) (d_ix (kix K rfl) (d_var 8) (d_var 5)) d_int rfl) (dw_and1 (dt_cmp (kop_eq K rfl hu64) (d_ix (kix K rfl) (d_var 8) (d_var 11)) d_int rfl)))))) (fun _ _ _ _ _ => (d_var 11))) (dss_one (ds_if (dt_cmp dop_gt (d_callB (kc_len K rfl) rfl B.b_len rfl (da_cons (d_var 9) da_nil)) d_int rfl) (dss_one (ds_ret (d_tup (da_cons d_str (da_cons (d_var 5) (da_cons (d_ix (kix K rfl) (d_var 9) d_int) da_nil)))))) dss_nil)))) (dss_one (ds_ret d_non))))))))))), h⟩
/-! ### _law_cross -/
abbrev N__law_cross : List Str := ["line", "other", "spots", "at", "same", "later", "place"]
theorem sc__law_cross : FnScope N__law_cross ["line", "other"] (defScope s__law_cross) := ⟨rfl, rfl, rfl, by decide +kernel, rfl, by decide +kernel, by decide +kernel⟩
def rd__law_cross : DS :=
  (dSeq (dSet 2 (dLstO dNil))
  (dSeq (dFor (iR1 (dCons (dCB rdLen (dCons (dVar 0) dNil)) dNil)) (gNm 3)
  (dSeq (dSet 4 (dLc (iR1 (dCons (dCB rdLen (dCons (dVar 1) dNil)) dNil)) (gNm 6) (dTest (dOp rdEq (dOp rdIx (dVar 1) (dVar 6)) (dOp rdIx (dVar 0) (dVar 3)))) (dVar 6) [6]))
  (dDrop (dApp (dVar 2) (dOp rdIx (dVar 4) (dM1 rdCountS (dSl (dVar 0) oNo (oInt (dVar 3))) (dOp rdIx (dVar 0) (dVar 3))))))))
  (dSeq (dFor (iR1 (dCons (dCB rdLen (dCons (dVar 2) dNil)) dNil)) (gNm 3)
  (dSeq (dSet 5 (dLc (iR2 (dCons (dOp rdAdd (dVar 3) (dC (.int 1))) (dCons (dCB rdLen (dCons (dVar 2) dNil)) dNil))) (gNm 6) (dTest (dOp rdLt (dOp rdIx (dVar 2) (dVar 6)) (dOp rdIx (dVar 2) (dVar 3)))) (dVar 6) [6]))
  (dIfS (dTest (dOp rdGt (dCB rdLen (dCons (dVar 5) dNil)) (dC (.int 0)))) (dRet (dTup (dCons (dVar 3) (dCons (dOp rdIx (dVar 5) (dC (.int 0))) dNil)))) dNext)))
  (dRet (dC .non)))))
theorem w__law_cross (B : En K mg) (sd : SpD) (len : ∀ ds μ Kd, sd ds μ Kd → ds.length = 2)
    (h : ∀ ds μ Kd, sd ds μ Kd → rd__law_cross { nx := fun _ μ' => Kd .non μ', rt := Kd } (dstart N__law_cross ds) μ) : Cal P w K mg base 1 "_law_cross" ["line", "other"] sd :=
  B._law_cross.cal (fun _ _ _ _ _ _ us hl => match us, hl with | [_, _], _ => rfl) fun f fd F => fn_data F sc__law_cross len fun cdv A outer s H E hr => by
    have hu64 := hr.units
    have hu1 := hu_of hr
    exact ⟨rd__law_cross, (dss_cons (ds_set sc__law_cross.nd (d_lstO da_nil)) (dss_cons (ds_for (di_range1 rfl B.b_range (da_cons (d_callB (kc_len K rfl) rfl B.b_len rfl (da_cons (d_var 0) da_nil)) da_nil)) (dg_name 3 sc__law_cross.nd) (dss_cons (ds_setLc sc__law_cross.nd rfl (di_range1 rfl B.b_range (da_cons (d_callB (kc_len K rfl) rfl B.b_len rfl (da_cons (d_var 1) da_nil)) da_nil)) (own := [("place", 6)]) rfl (fun _ _ _ _ _ => (dg_name 6 sc__law_cross.nd)) (fun _ _ _ _ _ => (dts_one (dt_cmp (kop_eq K rfl hu64) (d_ix (kix K rfl) (d_var 1) (d_var 6)) (d_ix (kix K rfl) (d_var 0) (d_var 3)) rfl))) (fun _ _ _ _ _ => (d_var 6))) (dss_one (ds_expr (d_append (d_var 2) (d_ix (kix K rfl) (d_var 4) (d_count (k_slice K rfl (d_var 0) do_none (do_some (d_var 3))) (d_ix (kix K rfl) (d_var 0) (d_var 3))))))))) (dss_cons (ds_for (di_range1 rfl B.b_range (da_cons (d_callB (kc_len K rfl) rfl B.b_len rfl (da_cons (d_var 2) da_nil)) da_nil)) (dg_name 3 sc__law_cross.nd) (dss_cons (ds_setLc sc__law_cross.nd rfl (di_range2 rfl B.b_range (da_cons (d_op (kop_add K rfl) (d_var 3) d_int) (da_cons (d_callB (kc_len K rfl) rfl B.b_len rfl (da_cons (d_var 2) da_nil)) da_nil))) (own := [("place", 6)]) rfl (fun _ _ _ _ _ => (dg_name 6 sc__law_cross.nd)) (fun _ _ _ _ _ => (dts_one (dt_cmp dop_lt (d_ix (kix K rfl) (d_var 2) (d_var 6)) (d_ix (kix K rfl) (d_var 2) (d_var 3)) rfl))) (fun _ _ _ _ _ => (d_var 6))) (dss_one (ds_if (dt_cmp dop_gt (d_callB (kc_len K rfl) rfl B.b_len rfl (da_cons (d_var 5) da_nil)) d_int rfl) (dss_one (ds_ret (d_tup (da_cons (d_var 3) (da_cons (d_ix (kix K rfl) (d_var 5) d_int) da_nil))))) dss_nil)))) (dss_one (ds_ret d_non))))), h⟩
/-! ### _law_shaken -/
abbrev N__law_shaken : List Str := ["store", "text", "way", "signs_now", "at", "other"]
theorem sc__law_shaken : FnScope N__law_shaken ["store", "text"] (defScope s__law_shaken) := ⟨rfl, rfl, rfl, by decide +kernel, rfl, by decide +kernel, by decide +kernel⟩
def rd__law_shaken (sd__law_take : SpD) (sd__law_order : SpD) : DS :=
  (dSeq (dSet 2 (dCB sd__law_take (dCons (dVar 0) (dCons (dC (.int 6)) dNil))))
  (dSeq (dSet 3 (dCB rdListO (dCons (dVar 1) dNil)))
  (dSeq (dIfS (dOr (dTest (dOp rdGt (dVar 2) (dC (.int 2)))) (dTest (dOp rdLt (dCB rdLen (dCons (dVar 1) dNil)) (dC (.int 2))))) (dRet (dVar 1)) dNext)
  (dSeq (dIfS (dTest (dOp rdEq (dVar 2) (dC (.int 0)))) (dGive 3 (dRet (dM1 rdJoin (dC (cS "")) (dCB sd__law_order (dCons (dVar 0) (dCons (dVar 3) dNil)))))) dNext)
  (dSeq (dSet 4 (dCB sd__law_take (dCons (dVar 0) (dCons (dOp rdSub (dCB rdLen (dCons (dVar 1) dNil)) (dC (.int 1))) dNil))))
  (dSeq (dSet 5 (dOp rdAdd (dVar 4) (dC (.int 1))))
  (dSeq (dIfS (dTest (dOp rdEq (dVar 2) (dC (.int 1)))) (dSet 5 (dOp rdAdd (dOp rdAdd (dVar 4) (dC (.int 1))) (dCB sd__law_take (dCons (dVar 0) (dCons (dOp rdSub (dOp rdSub (dCB rdLen (dCons (dVar 1) dNil)) (dC (.int 1))) (dVar 4)) dNil))))) dNext)
  (dSeq (dPut (dOp rdIx (dVar 1) (dVar 5)) (dVar 3) (dVar 4))
  (dSeq (dPut (dOp rdIx (dVar 1) (dVar 4)) (dVar 3) (dVar 5))
  (dGive 3 (dRet (dM1 rdJoin (dC (cS "")) (dVar 3)))))))))))))
theorem w__law_shaken (B : En K mg) (sd__law_take : SpD) (sd__law_order : SpD) (c__law_take : Cal P w K mg base 2 "_law_take" ["store", "many"] sd__law_take) (c__law_order : Cal P w K mg base 3 "_law_order" ["store", "things"] sd__law_order) (sd : SpD) (len : ∀ ds μ Kd, sd ds μ Kd → ds.length = 2)
    (h : ∀ ds μ Kd, sd ds μ Kd → rd__law_shaken sd__law_take sd__law_order { nx := fun _ μ' => Kd .non μ', rt := Kd } (dstart N__law_shaken ds) μ) : Cal P w K mg base 4 "_law_shaken" ["store", "text"] sd :=
  B._law_shaken.cal (fun _ _ _ _ _ _ us hl => match us, hl with | [_, _], _ => rfl) fun f fd F => fn_data F sc__law_shaken len fun cdv A outer s H E hr => by
    have hu64 := hr.units
    have hu1 := hu_of hr
    exact ⟨rd__law_shaken sd__law_take sd__law_order, (dss_cons (ds_set sc__law_shaken.nd (d_cal c__law_take (hr.mono (by decide)) (da_cons (d_var 0) (da_cons d_int da_nil)))) (dss_cons (ds_set sc__law_shaken.nd (d_callTy (dc_listO rfl) rfl B.b_list rfl (da_cons (d_var 1) da_nil))) (dss_cons (ds_if (DPw.pt (dw_or (dt_cmp dop_gt (d_var 2) d_int rfl) (dw_or1 (dt_cmp dop_lt (d_callB (kc_len K rfl) rfl B.b_len rfl (da_cons (d_var 1) da_nil)) d_int rfl)))) (dss_one (ds_ret (d_var 1))) dss_nil) (dss_cons (ds_if (dt_cmp (kop_eq K rfl hu64) (d_var 2) d_int rfl) (dss_give 3 (dss_one (ds_ret (d_join d_str (d_cal c__law_order (hr.mono (by decide)) (da_cons (d_var 0) (da_cons (d_var 3) da_nil))))))) dss_nil) (dss_cons (ds_set sc__law_shaken.nd (d_cal c__law_take (hr.mono (by decide)) (da_cons (d_var 0) (da_cons (d_op dop_sub (d_callB (kc_len K rfl) rfl B.b_len rfl (da_cons (d_var 1) da_nil)) d_int) da_nil)))) (dss_cons (ds_set sc__law_shaken.nd (d_op (kop_add K rfl) (d_var 4) d_int)) (dss_cons (ds_if (dt_cmp (kop_eq K rfl hu64) (d_var 2) d_int rfl) (dss_one (ds_set sc__law_shaken.nd (d_op (kop_add K rfl) (d_op (kop_add K rfl) (d_var 4) d_int) (d_cal c__law_take (hr.mono (by decide)) (da_cons (d_var 0) (da_cons (d_op dop_sub (d_op dop_sub (d_callB (kc_len K rfl) rfl B.b_len rfl (da_cons (d_var 1) da_nil)) d_int) (d_var 4)) da_nil)))))) dss_nil) (dss_cons (ds_put (d_ix (kix K rfl) (d_var 1) (d_var 5)) (d_var 3) (d_var 4)) (dss_cons (ds_put (d_ix (kix K rfl) (d_var 1) (d_var 4)) (d_var 3) (d_var 5)) (dss_give 3 (dss_one (ds_ret (d_join d_str (d_var 3)))))))))))))), h⟩
/-! ### _law_due_all -/
abbrev N__law_due_all : List Str := ["old", "new", "c", "places", "run", "last", "struck", "spot", "p"]
theorem sc__law_due_all : FnScope N__law_due_all ["old", "new", "c"] (defScope s__law_due_all) := ⟨rfl, rfl, rfl, by decide +kernel, rfl, by decide +kernel, by decide +kernel⟩
def rd__law_due_all : DS :=
  (dSeq (dSet 3 (dLc (iR1 (dCons (dOp rdAdd (dCB rdLen (dCons (dVar 0) dNil)) (dC (.int 1))) dNil)) (gNm 8) (dTest (dOp rdEq (dOp rdAdd (dOp rdAdd (dSl (dVar 0) oNo (oInt (dVar 8))) (dVar 2)) (dSl (dVar 0) (oInt (dVar 8)) oNo)) (dVar 1))) (dVar 8) [8]))
  (dSeq (dSet 4 (dC .non))
  (dSeq (dIfS (dTest (dOp rdGt (dCB rdLen (dCons (dVar 3) dNil)) (dC (.int 0)))) (dSet 4 (dTup (dCons (dOp rdIx (dVar 3) (dC (.int 0))) (dCons (dOp rdIx (dVar 3) (dNeg (dC (.int 1)))) dNil)))) dNext)
  (dSeq (dSet 5 (dM1 rdRfindS (dVar 1) (dVar 2)))
  (dSeq (dSet 6 (dAndV (dOp rdGe (dVar 5) (dC (.int 0))) (dOp rdEq (dOp rdAdd (dSl (dVar 1) oNo (oInt (dVar 5))) (dSl (dVar 1) (oInt (dOp rdAdd (dVar 5) (dC (.int 1)))) oNo)) (dVar 0))))
  (dSeq (dSet 7 (dC .non))
  (dSeq (dIfS (dTest (dVar 6)) (dSet 7 (dVar 5)) dNext)
  (dRet (dTup (dCons (dVar 4) (dCons (dOp rdGt (dCB rdLen (dCons (dVar 3) dNil)) (dC (.int 0))) (dCons (dVar 6) (dCons (dVar 7) dNil)))))))))))))
theorem w__law_due_all (B : En K mg) (sd : SpD) (len : ∀ ds μ Kd, sd ds μ Kd → ds.length = 3)
    (h : ∀ ds μ Kd, sd ds μ Kd → rd__law_due_all { nx := fun _ μ' => Kd .non μ', rt := Kd } (dstart N__law_due_all ds) μ) : Cal P w K mg base 1 "_law_due_all" ["old", "new", "c"] sd :=
  B._law_due_all.cal (fun _ _ _ _ _ _ us hl => match us, hl with | [_, _, _], _ => rfl) fun f fd F => fn_data F sc__law_due_all len fun cdv A outer s H E hr => by
    have hu64 := hr.units
    have hu1 := hu_of hr
    exact ⟨rd__law_due_all, (dss_cons (ds_setLc sc__law_due_all.nd rfl (di_range1 rfl B.b_range (da_cons (d_op (kop_add K rfl) (d_callB (kc_len K rfl) rfl B.b_len rfl (da_cons (d_var 0) da_nil)) d_int) da_nil)) (own := [("p", 8)]) rfl (fun _ _ _ _ _ => (dg_name 8 sc__law_due_all.nd)) (fun _ _ _ _ _ => (dts_one (dt_cmp (kop_eq K rfl hu64) (d_op (kop_add K rfl) (d_op (kop_add K rfl) (k_slice K rfl (d_var 0) do_none (do_some (d_var 8))) (d_var 2)) (k_slice K rfl (d_var 0) (do_some (d_var 8)) do_none)) (d_var 1) rfl))) (fun _ _ _ _ _ => (d_var 8))) (dss_cons (ds_set sc__law_due_all.nd d_non) (dss_cons (ds_if (dt_cmp dop_gt (d_callB (kc_len K rfl) rfl B.b_len rfl (da_cons (d_var 3) da_nil)) d_int rfl) (dss_one (ds_set sc__law_due_all.nd (d_tup (da_cons (d_ix (kix K rfl) (d_var 3) d_int) (da_cons (d_ix (kix K rfl) (d_var 3) (d_neg d_int)) da_nil))))) dss_nil) (dss_cons (ds_set sc__law_due_all.nd (d_rfind (d_var 1) (d_var 2))) (dss_cons (ds_set sc__law_due_all.nd (d_and (d_cmp dop_ge (d_var 5) d_int rfl) (d_one (d_cmp (kop_eq K rfl hu64) (d_op (kop_add K rfl) (k_slice K rfl (d_var 1) do_none (do_some (d_var 5))) (k_slice K rfl (d_var 1) (do_some (d_op (kop_add K rfl) (d_var 5) d_int)) do_none)) (d_var 0) rfl)))) (dss_cons (ds_set sc__law_due_all.nd d_non) (dss_cons (ds_if (dt_val (d_var 6)) (dss_one (ds_set sc__law_due_all.nd (d_var 5))) dss_nil) (dss_one (ds_ret (d_tup (da_cons (d_var 4) (da_cons (d_cmp dop_gt (d_callB (kc_len K rfl) rfl B.b_len rfl (da_cons (d_var 3) da_nil)) d_int rfl) (da_cons (d_var 6) (da_cons (d_var 7) da_nil)))))))))))))), h⟩
/-! ### _law_counts_alike -/
abbrev N__law_counts_alike : List Str := ["one", "other"]
theorem sc__law_counts_alike : FnScope N__law_counts_alike ["one", "other"] (defScope s__law_counts_alike) := ⟨rfl, rfl, rfl, by decide +kernel, rfl, by decide +kernel, by decide +kernel⟩
def rd__law_counts_alike : DS :=
  (dRet (dOp rdEq (dCB rdSortT (dCons (dCB rdListD (dCons (dVar 0) dNil)) dNil)) (dCB rdSortT (dCons (dCB rdListD (dCons (dVar 1) dNil)) dNil))))
theorem w__law_counts_alike (B : En K mg) (sd : SpD) (len : ∀ ds μ Kd, sd ds μ Kd → ds.length = 2)
    (h : ∀ ds μ Kd, sd ds μ Kd → rd__law_counts_alike { nx := fun _ μ' => Kd .non μ', rt := Kd } (dstart N__law_counts_alike ds) μ) : Cal P w K mg base 1 "_law_counts_alike" ["one", "other"] sd :=
  B._law_counts_alike.cal (fun _ _ _ _ _ _ us hl => match us, hl with | [_, _], _ => rfl) fun f fd F => fn_data F sc__law_counts_alike len fun cdv A outer s H E hr => by
    have hu64 := hr.units
    have hu1 := hu_of hr
    exact ⟨rd__law_counts_alike, (dss_one (ds_ret (d_cmp (kop_eq K rfl hu64) (d_callB (dc_sortT rfl) rfl B.b_sorted rfl (da_cons (d_callTy (dc_listD rfl) rfl B.b_list rfl (da_cons (d_var 0) da_nil)) da_nil)) (d_callB (dc_sortT rfl) rfl B.b_sorted rfl (da_cons (d_callTy (dc_listD rfl) rfl B.b_list rfl (da_cons (d_var 1) da_nil)) da_nil)) rfl))), h⟩
/-! ### _law_fault_due -/
abbrev N__law_fault_due : List Str := ["old", "new", "c"]
theorem sc__law_fault_due : FnScope N__law_fault_due ["old", "new", "c"] (defScope s__law_fault_due) := ⟨rfl, rfl, rfl, by decide +kernel, rfl, by decide +kernel, by decide +kernel⟩
def rd__law_fault_due (sd__law_counts_alike : SpD) (sd__law_fault : SpD) : DS :=
  (dSeq (dIfS (dNot (dTest (dCB sd__law_counts_alike (dCons (dOp rdAdd (dVar 0) (dVar 2)) (dCons (dVar 1) dNil))))) (dRet (dTup (dCons (dC (cS "refused")) (dCons (dLst (dCons (dC (cS "BadRows")) dNil)) (dCons (dC (.bl true)) (dCons (dCB rdLen (dCons (dVar 1) dNil)) dNil)))))) dNext)
  (dRet (dTup (dCons (dC (cS "told")) (dCons (dCB sd__law_fault (dCons (dVar 0) (dCons (dVar 1) (dCons (dVar 2) dNil)))) dNil)))))
theorem w__law_fault_due (B : En K mg) (sd__law_counts_alike : SpD) (sd__law_fault : SpD) (c__law_counts_alike : Cal P w K mg base 1 "_law_counts_alike" ["one", "other"] sd__law_counts_alike) (c__law_fault : Cal P w K mg base 2 "_law_fault" ["old", "new", "c"] sd__law_fault) (sd : SpD) (len : ∀ ds μ Kd, sd ds μ Kd → ds.length = 3)
    (h : ∀ ds μ Kd, sd ds μ Kd → rd__law_fault_due sd__law_counts_alike sd__law_fault { nx := fun _ μ' => Kd .non μ', rt := Kd } (dstart N__law_fault_due ds) μ) : Cal P w K mg base 3 "_law_fault_due" ["old", "new", "c"] sd :=
  B._law_fault_due.cal (fun _ _ _ _ _ _ us hl => match us, hl with | [_, _, _], _ => rfl) fun f fd F => fn_data F sc__law_fault_due len fun cdv A outer s H E hr => by
    have hu64 := hr.units
    have hu1 := hu_of hr
    exact ⟨rd__law_fault_due sd__law_counts_alike sd__law_fault, (dss_cons (ds_if (dt_not (dt_val (d_cal c__law_counts_alike (hr.mono (by decide)) (da_cons (d_op (kop_add K rfl) (d_var 0) (d_var 2)) (da_cons (d_var 1) da_nil))))) (dss_one (ds_ret (d_tup (da_cons d_str (da_cons (d_lst (da_cons d_str da_nil)) (da_cons d_bl (da_cons (d_callB (kc_len K rfl) rfl B.b_len rfl (da_cons (d_var 1) da_nil)) da_nil))))))) dss_nil) (dss_one (ds_ret (d_tup (da_cons d_str (da_cons (d_cal c__law_fault (hr.mono (by decide)) (da_cons (d_var 0) (da_cons (d_var 1) (da_cons (d_var 2) da_nil)))) da_nil)))))), h⟩
/-! ### _law_is_due -/
abbrev N__law_is_due : List Str := ["answer", "due"]
theorem sc__law_is_due : FnScope N__law_is_due ["answer", "due"] (defScope s__law_is_due) := ⟨rfl, rfl, rfl, by decide +kernel, rfl, by decide +kernel, by decide +kernel⟩
def rd__law_is_due : DS :=
  (dRet (dAndV (dOp rdEq (dVar 0) (dVar 1)) (dRepEq (dVar 0) (dVar 1))))
theorem w__law_is_due (B : En K mg) (sd : SpD) (len : ∀ ds μ Kd, sd ds μ Kd → ds.length = 2)
    (h : ∀ ds μ Kd, sd ds μ Kd → rd__law_is_due { nx := fun _ μ' => Kd .non μ', rt := Kd } (dstart N__law_is_due ds) μ) : CalG P w K mg base 1 "_law_is_due" ["answer", "due"] sd :=
  B._law_is_due.calG (fun _ _ _ _ _ _ us hl => match us, hl with | [_, _], _ => rfl) fun f fd F => fnG_data F sc__law_is_due len fun cdv A outer s H E hr hG => by
    have hu64 := hr.units
    have hu1 := hu_of hr
    exact ⟨rd__law_is_due, (dss_one (ds_ret (d_and (d_cmp (kop_eq K rfl hu64) (d_var 0) (d_var 1) rfl) (d_one (d_repEq hG hu64 rfl B.b_repr (d_var 0) (d_var 1)))))), h⟩
/-! ### _law_exchanged -/
abbrev N__law_exchanged : List Str := ["text", "table", "sign"]
theorem sc__law_exchanged : FnScope N__law_exchanged ["text", "table"] (defScope s__law_exchanged) := ⟨rfl, rfl, rfl, by decide +kernel, rfl, by decide +kernel, by decide +kernel⟩
def rd__law_exchanged : DS :=
  (dRet (dM1 rdJoin (dC (cS "")) (dLc (iStrD (dVar 0)) (gNm 2) dYes (dOp rdDGet (dVar 1) (dVar 2)) [2])))
theorem w__law_exchanged (B : En K mg) (sd : SpD) (len : ∀ ds μ Kd, sd ds μ Kd → ds.length = 2)
    (h : ∀ ds μ Kd, sd ds μ Kd → rd__law_exchanged { nx := fun _ μ' => Kd .non μ', rt := Kd } (dstart N__law_exchanged ds) μ) : Cal P w K mg base 1 "_law_exchanged" ["text", "table"] sd :=
  B._law_exchanged.cal (fun _ _ _ _ _ _ us hl => match us, hl with | [_, _], _ => rfl) fun f fd F => fn_data F sc__law_exchanged len fun cdv A outer s H E hr => by
    have hu64 := hr.units
    have hu1 := hu_of hr
    exact ⟨rd__law_exchanged, (dss_one (ds_ret (d_join d_str (d_lc sc__law_exchanged.nd (di_str (d_var 0)) (own := [("sign", 2)]) rfl (fun _ _ _ _ _ => (dg_name 2 sc__law_exchanged.nd)) (fun _ _ _ _ _ => dts_nil) (fun _ _ _ _ _ => (d_dget hu1 (d_var 1) (d_var 2))))))), h⟩
/-! ### _law_pair -/
abbrev N__law_pair : List Str := ["store", "alphabet", "size", "old", "c", "place", "new", "way"]
theorem sc__law_pair : FnScope N__law_pair ["store", "alphabet"] (defScope s__law_pair) := ⟨rfl, rfl, rfl, by decide +kernel, rfl, by decide +kernel, by decide +kernel⟩
def rd__law_pair (sd__law_span : SpD) (sd__law_yes : SpD) (sd__law_take : SpD) (sd__law_text : SpD) (sd__law_of : SpD) (sd__law_shaken : SpD) : DS :=
  (dSeq (dSet 2 (dCB sd__law_span (dCons (dVar 0) (dCons (dC (.int 0)) (dCons (dC (.int 12)) dNil)))))
  (dSeq (dIfS (dTest (dCB sd__law_yes (dCons (dVar 0) (dCons (dC (.int 8)) dNil)))) (dSet 2 (dOp rdSub (dC (.int 199)) (dCB sd__law_take (dCons (dVar 0) (dCons (dC (.int 2)) dNil))))) dNext)
  (dSeq (dSet 3 (dCB sd__law_text (dCons (dVar 0) (dCons (dVar 1) (dCons (dVar 2) dNil)))))
  (dSeq (dSet 4 (dCB sd__law_of (dCons (dVar 0) (dCons (dVar 1) dNil))))
  (dSeq (dSet 5 (dCB sd__law_span (dCons (dVar 0) (dCons (dC (.int 0)) (dCons (dVar 2) dNil)))))
  (dSeq (dSet 6 (dOp rdAdd (dOp rdAdd (dSl (dVar 3) oNo (oInt (dVar 5))) (dVar 4)) (dSl (dVar 3) (oInt (dVar 5)) oNo)))
  (dSeq (dSet 7 (dCB sd__law_take (dCons (dVar 0) (dCons (dC (.int 8)) dNil))))
  (dSeq (dIfS (dTest (dOp rdLt (dVar 7) (dC (.int 5)))) (dSet 6 (dCB sd__law_shaken (dCons (dVar 0) (dCons (dVar 6) dNil)))) dNext)
  (dSeq (dIfS (dTest (dOp rdEq (dVar 7) (dC (.int 5)))) (dSet 6 (dOp rdAdd (dOp rdAdd (dSl (dVar 6) oNo (oInt (dVar 5))) (dCB sd__law_of (dCons (dVar 0) (dCons (dVar 1) dNil)))) (dSl (dVar 6) (oInt (dOp rdAdd (dVar 5) (dC (.int 1)))) oNo))) dNext)
  (dSeq (dIfS (dTest (dOp rdEq (dVar 7) (dC (.int 6)))) (dSet 6 (dCB sd__law_of (dCons (dVar 0) (dCons (dLst (dCons (dVar 3) (dCons (dOp rdAdd (dSl (dVar 3) (oInt (dC (.int 1))) oNo) (dVar 4)) (dCons (dC (cS "")) dNil)))) dNil)))) dNext)
  (dRet (dTup (dCons (dVar 3) (dCons (dVar 6) (dCons (dVar 4) dNil)))))))))))))))
theorem w__law_pair (B : En K mg) (sd__law_span : SpD) (sd__law_yes : SpD) (sd__law_take : SpD) (sd__law_text : SpD) (sd__law_of : SpD) (sd__law_shaken : SpD) (c__law_span : Cal P w K mg base 3 "_law_span" ["store", "least", "greatest"] sd__law_span) (c__law_yes : Cal P w K mg base 3 "_law_yes" ["store", "many"] sd__law_yes) (c__law_take : Cal P w K mg base 2 "_law_take" ["store", "many"] sd__law_take) (c__law_text : Cal P w K mg base 4 "_law_text" ["store", "alphabet", "size"] sd__law_text) (c__law_of : Cal P w K mg base 3 "_law_of" ["store", "things"] sd__law_of) (c__law_shaken : Cal P w K mg base 4 "_law_shaken" ["store", "text"] sd__law_shaken) (sd : SpD) (len : ∀ ds μ Kd, sd ds μ Kd → ds.length = 2)
    (h : ∀ ds μ Kd, sd ds μ Kd → rd__law_pair sd__law_span sd__law_yes sd__law_take sd__law_text sd__law_of sd__law_shaken { nx := fun _ μ' => Kd .non μ', rt := Kd } (dstart N__law_pair ds) μ) : Cal P w K mg base 5 "_law_pair" ["store", "alphabet"] sd :=
  B._law_pair.cal (fun _ _ _ _ _ _ us hl => match us, hl with | [_, _], _ => rfl) fun f fd F => fn_data F sc__law_pair len fun cdv A outer s H E hr => by
    have hu64 := hr.units
    have hu1 := hu_of hr
    exact ⟨rd__law_pair sd__law_span sd__law_yes sd__law_take sd__law_text sd__law_of sd__law_shaken, (dss_cons (ds_set sc__law_pair.nd (d_cal c__law_span (hr.mono (by decide)) (da_cons (d_var 0) (da_cons d_int (da_cons d_int da_nil))))) (dss_cons (ds_if (dt_val (d_cal c__law_yes (hr.mono (by decide)) (da_cons (d_var 0) (da_cons d_int da_nil)))) (dss_one (ds_set sc__law_pair.nd (d_op dop_sub d_int (d_cal c__law_take (hr.mono (by decide)) (da_cons (d_var 0) (da_cons d_int da_nil)))))) dss_nil) (dss_cons (ds_set sc__law_pair.nd (d_cal c__law_text (hr.mono (by decide)) (da_cons (d_var 0) (da_cons (d_var 1) (da_cons (d_var 2) da_nil))))) (dss_cons (ds_set sc__law_pair.nd (d_cal c__law_of (hr.mono (by decide)) (da_cons (d_var 0) (da_cons (d_var 1) da_nil)))) (dss_cons (ds_set sc__law_pair.nd (d_cal c__law_span (hr.mono (by decide)) (da_cons (d_var 0) (da_cons d_int (da_cons (d_var 2) da_nil))))) (dss_cons (ds_set sc__law_pair.nd (d_op (kop_add K rfl) (d_op (kop_add K rfl) (k_slice K rfl (d_var 3) do_none (do_some (d_var 5))) (d_var 4)) (k_slice K rfl (d_var 3) (do_some (d_var 5)) do_none))) (dss_cons (ds_set sc__law_pair.nd (d_cal c__law_take (hr.mono (by decide)) (da_cons (d_var 0) (da_cons d_int da_nil)))) (dss_cons (ds_if (dt_cmp dop_lt (d_var 7) d_int rfl) (dss_one (ds_set sc__law_pair.nd (d_cal c__law_shaken (hr.mono (by decide)) (da_cons (d_var 0) (da_cons (d_var 6) da_nil))))) dss_nil) (dss_cons (ds_if (dt_cmp (kop_eq K rfl hu64) (d_var 7) d_int rfl) (dss_one (ds_set sc__law_pair.nd (d_op (kop_add K rfl) (d_op (kop_add K rfl) (k_slice K rfl (d_var 6) do_none (do_some (d_var 5))) (d_cal c__law_of (hr.mono (by decide)) (da_cons (d_var 0) (da_cons (d_var 1) da_nil)))) (k_slice K rfl (d_var 6) (do_some (d_op (kop_add K rfl) (d_var 5) d_int)) do_none)))) dss_nil) (dss_cons (ds_if (dt_cmp (kop_eq K rfl hu64) (d_var 7) d_int rfl) (dss_one (ds_set sc__law_pair.nd (d_cal c__law_of (hr.mono (by decide)) (da_cons (d_var 0) (da_cons (d_lst (da_cons (d_var 3) (da_cons (d_op (kop_add K rfl) (k_slice K rfl (d_var 3) (do_some d_int) do_none) (d_var 4)) (da_cons d_str da_nil)))) da_nil))))) dss_nil) (dss_one (ds_ret (d_tup (da_cons (d_var 3) (da_cons (d_var 6) (da_cons (d_var 4) da_nil)))))))))))))))), h⟩
end K17

set_option Elab.async false
set_option linter.all false
set_option maxRecDepth 100000
set_option maxHeartbeats 4000000
namespace K17
open PySem PySem.Spec PyProof.Rows L2 L2H DL
variable {P : Program} {w : World} {K : PySem.W.Frag} {mg : Str → Option Value} {base : Heap}
/-! ### _law_asked -/
abbrev N__law_asked : List Str := ["old", "new", "c", "dues", "fault_due", "told"]
theorem sc__law_asked : FnScope N__law_asked ["old", "new", "c", "dues", "fault_due"] (defScope s__law_asked) := ⟨rfl, rfl, rfl, by decide +kernel, rfl, by decide +kernel, by decide +kernel⟩
def rd__law_asked (sd_leaf_place : SpD) (sd_strikes_last : SpD) (sd_strikes_some : SpD) (sd_free_places : SpD) (sd__law_is_due : SpD) (sd__law_told : SpD) : DS :=
  (dSeq (dSet 5 (dTup (dCons (dCB sd_free_places (dCons (dVar 0) (dCons (dVar 1) (dCons (dVar 2) dNil)))) (dCons (dCB sd_strikes_some (dCons (dVar 0) (dCons (dVar 1) (dCons (dVar 2) dNil)))) (dCons (dCB sd_strikes_last (dCons (dVar 0) (dCons (dVar 1) (dCons (dVar 2) dNil)))) (dCons (dCB sd_leaf_place (dCons (dVar 0) (dCons (dVar 1) (dCons (dVar 2) dNil)))) dNil))))))
  (dRet (dAndV (dCB sd__law_is_due (dCons (dVar 5) (dCons (dVar 3) dNil))) (dCB sd__law_is_due (dCons (dCB sd__law_told (dCons (dC (.int 0)) (dCons (dVar 0) (dCons (dVar 1) (dCons (dVar 2) dNil))))) (dCons (dVar 4) dNil))))))
theorem w__law_asked (B : En K mg) (sd_leaf_place : SpD) (sd_strikes_last : SpD) (sd_strikes_some : SpD) (sd_free_places : SpD) (sd__law_is_due : SpD) (sd__law_told : SpD) (c_leaf_place : Cal P w K mg base 2 "leaf_place" ["old", "new", "x"] sd_leaf_place) (c_strikes_last : Cal P w K mg base 1 "strikes_last" ["old", "new", "x"] sd_strikes_last) (c_strikes_some : Cal P w K mg base 3 "strikes_some" ["old", "new", "c"] sd_strikes_some) (c_free_places : Cal P w K mg base 2 "free_places" ["old", "new", "c"] sd_free_places) (c__law_is_due : CalG P w K mg base 1 "_law_is_due" ["answer", "due"] sd__law_is_due) (c__law_told : Cal P w K mg base 4 "_law_told" ["way", "old", "new", "c"] sd__law_told) (sd : SpD) (len : ∀ ds μ Kd, sd ds μ Kd → ds.length = 5)
    (h : ∀ ds μ Kd, sd ds μ Kd → rd__law_asked sd_leaf_place sd_strikes_last sd_strikes_some sd_free_places sd__law_is_due sd__law_told { nx := fun _ μ' => Kd .non μ', rt := Kd } (dstart N__law_asked ds) μ) : CalG P w K mg base 5 "_law_asked" ["old", "new", "c", "dues", "fault_due"] sd :=
  B._law_asked.calG (fun _ _ _ _ _ _ us hl => match us, hl with | [_, _, _, _, _], _ => rfl) fun f fd F => fnG_data F sc__law_asked len fun cdv A outer s H E hr hG => by
    have hu64 := hr.units
    have hu1 := hu_of hr
    exact ⟨rd__law_asked sd_leaf_place sd_strikes_last sd_strikes_some sd_free_places sd__law_is_due sd__law_told, (dss_cons (ds_set sc__law_asked.nd (d_tup (da_cons (d_cal c_free_places (hr.mono (by decide)) (da_cons (d_var 0) (da_cons (d_var 1) (da_cons (d_var 2) da_nil)))) (da_cons (d_cal c_strikes_some (hr.mono (by decide)) (da_cons (d_var 0) (da_cons (d_var 1) (da_cons (d_var 2) da_nil)))) (da_cons (d_cal c_strikes_last (hr.mono (by decide)) (da_cons (d_var 0) (da_cons (d_var 1) (da_cons (d_var 2) da_nil)))) (da_cons (d_cal c_leaf_place (hr.mono (by decide)) (da_cons (d_var 0) (da_cons (d_var 1) (da_cons (d_var 2) da_nil)))) da_nil)))))) (dss_one (ds_ret (d_and (d_calG c__law_is_due (hr.mono (by decide)) hG (da_cons (d_var 5) (da_cons (d_var 3) da_nil))) (d_one (d_calG c__law_is_due (hr.mono (by decide)) hG (da_cons (d_cal c__law_told (hr.mono (by decide)) (da_cons d_int (da_cons (d_var 0) (da_cons (d_var 1) (da_cons (d_var 2) da_nil))))) (da_cons (d_var 4) da_nil)))))))), h⟩
/-! ### _law_puts -/
abbrev N__law_puts : List Str := ["store", "old", "new", "c", "run", "places", "place", "bad", "answer", "whole"]
theorem sc__law_puts : FnScope N__law_puts ["store", "old", "new", "c", "run"] (defScope s__law_puts) := ⟨rfl, rfl, rfl, by decide +kernel, rfl, by decide +kernel, by decide +kernel⟩
def rd__law_puts (sd__law_is_due : SpD) (sd__law_told : SpD) (sd__law_beyond : SpD) : DS :=
  (dSeq (dSet 5 (dLst (dCons (dC (.int 0)) (dCons (dCB rdLen (dCons (dVar 1) dNil)) dNil))))
  (dSeq (dIfS (dTest (dOp rdNotN (dVar 4) (dC .non))) (dSet 5 (dLst (dCons (dOp rdIx (dVar 4) (dC (.int 0))) (dCons (dOp rdIx (dVar 4) (dC (.int 1))) (dCons (dOp rdFdiv (dOp rdAdd (dOp rdIx (dVar 4) (dC (.int 0))) (dOp rdIx (dVar 4) (dC (.int 1)))) (dC (.int 2))) dNil))))) dNext)
  (dSeq (dFor (iLst (dVar 5)) (gNm 6)
  (dSeq (dSet 9 (dOp rdAdd (dOp rdAdd (dSl (dVar 1) oNo (oInt (dVar 6))) (dVar 3)) (dSl (dVar 1) (oInt (dVar 6)) oNo)))
  (dIfS (dOr (dAnd (dTest (dOp rdNotN (dVar 4) (dC .non))) (dTest (dOp rdNe (dVar 9) (dVar 2)))) (dNot (dTest (dCB sd__law_is_due (dCons (dCB sd__law_told (dCons (dC (.int 2)) (dCons (dVar 1) (dCons (dVar 6) (dCons (dVar 3) dNil))))) (dCons (dTup (dCons (dC (cS "told")) (dCons (dVar 9) dNil))) dNil)))))) (dRet (dC (.bl false))) dNext)))
  (dSeq (dSet 7 (dCB sd__law_beyond (dCons (dVar 0) (dCons (dC (.int 0)) (dCons (dCB rdLen (dCons (dVar 1) dNil)) dNil)))))
  (dSeq (dSet 8 (dCB sd__law_told (dCons (dC (.int 2)) (dCons (dVar 1) (dCons (dVar 7) (dCons (dVar 3) dNil))))))
  (dRet (dAndV (dRepEq (dSl (dVar 8) oNo (oInt (dC (.int 3)))) (dTup (dCons (dC (cS "refused")) (dCons (dLst (dCons (dC (cS "BadNumber")) dNil)) (dCons (dC (.bl true)) dNil))))) (dOp rdEq (dOp rdIx (dVar 8) (dC (.int 3))) (dVar 7)))))))))
theorem w__law_puts (B : En K mg) (sd__law_is_due : SpD) (sd__law_told : SpD) (sd__law_beyond : SpD) (c__law_is_due : CalG P w K mg base 1 "_law_is_due" ["answer", "due"] sd__law_is_due) (c__law_told : Cal P w K mg base 4 "_law_told" ["way", "old", "new", "c"] sd__law_told) (c__law_beyond : Cal P w K mg base 6 "_law_beyond" ["store", "least", "greatest"] sd__law_beyond) (sd : SpD) (len : ∀ ds μ Kd, sd ds μ Kd → ds.length = 5)
    (h : ∀ ds μ Kd, sd ds μ Kd → rd__law_puts sd__law_is_due sd__law_told sd__law_beyond { nx := fun _ μ' => Kd .non μ', rt := Kd } (dstart N__law_puts ds) μ) : CalG P w K mg base 7 "_law_puts" ["store", "old", "new", "c", "run"] sd :=
  B._law_puts.calG (fun _ _ _ _ _ _ us hl => match us, hl with | [_, _, _, _, _], _ => rfl) fun f fd F => fnG_data F sc__law_puts len fun cdv A outer s H E hr hG => by
    have hu64 := hr.units
    have hu1 := hu_of hr
    exact ⟨rd__law_puts sd__law_is_due sd__law_told sd__law_beyond, (dss_cons (ds_set sc__law_puts.nd (d_lst (da_cons d_int (da_cons (d_callB (kc_len K rfl) rfl B.b_len rfl (da_cons (d_var 1) da_nil)) da_nil)))) (dss_cons (ds_if (dt_cmp dop_notN (d_var 4) d_non rfl) (dss_one (ds_set sc__law_puts.nd (d_lst (da_cons (d_ix (kix K rfl) (d_var 4) d_int) (da_cons (d_ix (kix K rfl) (d_var 4) d_int) (da_cons (d_op dop_fdiv (d_op (kop_add K rfl) (d_ix (kix K rfl) (d_var 4) d_int) (d_ix (kix K rfl) (d_var 4) d_int)) d_int) da_nil)))))) dss_nil) (dss_cons (ds_for (di_lst (d_var 5)) (dg_name 6 sc__law_puts.nd) (dss_cons (ds_set sc__law_puts.nd (d_op (kop_add K rfl) (d_op (kop_add K rfl) (k_slice K rfl (d_var 1) do_none (do_some (d_var 6))) (d_var 3)) (k_slice K rfl (d_var 1) (do_some (d_var 6)) do_none))) (dss_one (ds_if (DPw.pt (dw_or (DPw.pt (dw_and (dt_cmp dop_notN (d_var 4) d_non rfl) (dw_and1 (dt_cmp (kop_ne K rfl hu64) (d_var 9) (d_var 2) rfl)))) (dw_or1 (dt_not (dt_val (d_calG c__law_is_due (hr.mono (by decide)) hG (da_cons (d_cal c__law_told (hr.mono (by decide)) (da_cons d_int (da_cons (d_var 1) (da_cons (d_var 6) (da_cons (d_var 3) da_nil))))) (da_cons (d_tup (da_cons d_str (da_cons (d_var 9) da_nil))) da_nil)))))))) (dss_one (ds_ret d_bl)) dss_nil)))) (dss_cons (ds_set sc__law_puts.nd (d_cal c__law_beyond (hr.mono (by decide)) (da_cons (d_var 0) (da_cons d_int (da_cons (d_callB (kc_len K rfl) rfl B.b_len rfl (da_cons (d_var 1) da_nil)) da_nil))))) (dss_cons (ds_set sc__law_puts.nd (d_cal c__law_told (hr.mono (by decide)) (da_cons d_int (da_cons (d_var 1) (da_cons (d_var 7) (da_cons (d_var 3) da_nil)))))) (dss_one (ds_ret (d_and (d_repEq hG hu64 rfl B.b_repr (k_slice K rfl (d_var 8) do_none (do_some d_int)) (d_tup (da_cons d_str (da_cons (d_lst (da_cons d_str da_nil)) (da_cons d_bl da_nil))))) (d_one (d_cmp (kop_eq K rfl hu64) (d_ix (kix K rfl) (d_var 8) d_int) (d_var 7) rfl)))))))))), h⟩
/-! ### _law_none_and_rows -/
abbrev N__law_none_and_rows : List Str := ["store", "old", "table", "other", "way", "fault_due", "cross_due", "twins", "one", "two"]
theorem sc__law_none_and_rows : FnScope N__law_none_and_rows ["store", "old", "table"] (defScope s__law_none_and_rows) := ⟨rfl, rfl, rfl, by decide +kernel, rfl, by decide +kernel, by decide +kernel⟩
def rd__law_none_and_rows (sd__law_take : SpD) (sd__law_shaken : SpD) (sd__law_order : SpD) (sd__law_of : SpD) (sd__law_counts_alike : SpD) (sd__law_fault : SpD) (sd__law_cross : SpD) (sd__law_exchanged : SpD) (sd__law_is_due : SpD) (sd__law_told : SpD) : DS :=
  (dSeq (dSet 3 (dVar 1))
  (dSeq (dSet 4 (dCB sd__law_take (dCons (dVar 0) (dCons (dC (.int 6)) dNil))))
  (dSeq (dIfS (dTest (dOp rdLt (dVar 4) (dC (.int 3)))) (dSet 3 (dCB sd__law_shaken (dCons (dVar 0) (dCons (dVar 1) dNil)))) dNext)
  (dSeq (dIfS (dTest (dOp rdEq (dVar 4) (dC (.int 3)))) (dSet 3 (dM1 rdJoin (dC (cS "")) (dCB sd__law_order (dCons (dVar 0) (dCons (dVar 1) dNil))))) dNext)
  (dSeq (dIfS (dTest (dOp rdEq (dVar 4) (dC (.int 4)))) (dSet 3 (dCB sd__law_of (dCons (dVar 0) (dCons (dLst (dCons (dOp rdAdd (dVar 1) (dSl (dVar 1) oNo (oInt (dC (.int 1))))) (dCons (dSl (dVar 1) (oInt (dC (.int 1))) oNo) (dCons (dRevS (dVar 1)) (dCons (dOp rdAdd (dSl (dVar 1) (oInt (dC (.int 1))) oNo) (dC (cS "~"))) dNil))))) dNil)))) dNext)
  (dSeq (dSet 5 (dTup (dCons (dC (cS "refused")) (dCons (dLst (dCons (dC (cS "BadRows")) dNil)) (dCons (dC (.bl true)) (dCons (dCB rdLen (dCons (dVar 3) dNil)) dNil))))))
  (dSeq (dSet 6 (dVar 5))
  (dSeq (dIfS (dTest (dCB sd__law_counts_alike (dCons (dVar 1) (dCons (dVar 3) dNil)))) (dSeq (dSet 5 (dTup (dCons (dC (cS "told")) (dCons (dCB sd__law_fault (dCons (dVar 1) (dCons (dVar 3) (dCons (dC (cS "")) dNil)))) dNil))))
  (dSet 6 (dTup (dCons (dC (cS "told")) (dCons (dCB sd__law_cross (dCons (dVar 1) (dCons (dVar 3) dNil))) dNil))))) dNext)
  (dSeq (dSet 7 (dLst (dCons (dTup (dCons (dVar 1) (dCons (dVar 3) dNil))) (dCons (dTup (dCons (dCB sd__law_exchanged (dCons (dVar 1) (dCons (dVar 2) dNil))) (dCons (dCB sd__law_exchanged (dCons (dVar 3) (dCons (dVar 2) dNil))) dNil))) (dCons (dTup (dCons (dVar 1) (dCons (dVar 3) dNil))) dNil)))))
  (dSeq (dFor (iLst (dVar 7)) (gTupD 2 (gConsD (gNm 8) (gConsD (gNm 9) gNilD)))
  (dSeq (dIfS (dNot (dTest (dCB sd__law_is_due (dCons (dCB sd__law_told (dCons (dC (.int 0)) (dCons (dVar 8) (dCons (dVar 9) (dCons (dC .non) dNil))))) (dCons (dVar 5) dNil))))) (dRet (dC (.bl false))) dNext)
  (dIfS (dNot (dTest (dCB sd__law_is_due (dCons (dCB sd__law_told (dCons (dC (.int 1)) (dCons (dVar 8) (dCons (dVar 9) (dCons (dC .non) dNil))))) (dCons (dVar 6) dNil))))) (dRet (dC (.bl false))) dNext)))
  (dRet (dC (.bl true)))))))))))))
theorem w__law_none_and_rows (B : En K mg) (sd__law_take : SpD) (sd__law_shaken : SpD) (sd__law_order : SpD) (sd__law_of : SpD) (sd__law_counts_alike : SpD) (sd__law_fault : SpD) (sd__law_cross : SpD) (sd__law_exchanged : SpD) (sd__law_is_due : SpD) (sd__law_told : SpD) (c__law_take : Cal P w K mg base 2 "_law_take" ["store", "many"] sd__law_take) (c__law_shaken : Cal P w K mg base 4 "_law_shaken" ["store", "text"] sd__law_shaken) (c__law_order : Cal P w K mg base 3 "_law_order" ["store", "things"] sd__law_order) (c__law_of : Cal P w K mg base 3 "_law_of" ["store", "things"] sd__law_of) (c__law_counts_alike : Cal P w K mg base 1 "_law_counts_alike" ["one", "other"] sd__law_counts_alike) (c__law_fault : Cal P w K mg base 2 "_law_fault" ["old", "new", "c"] sd__law_fault) (c__law_cross : Cal P w K mg base 1 "_law_cross" ["line", "other"] sd__law_cross) (c__law_exchanged : Cal P w K mg base 1 "_law_exchanged" ["text", "table"] sd__law_exchanged) (c__law_is_due : CalG P w K mg base 1 "_law_is_due" ["answer", "due"] sd__law_is_due) (c__law_told : Cal P w K mg base 4 "_law_told" ["way", "old", "new", "c"] sd__law_told) (sd : SpD) (len : ∀ ds μ Kd, sd ds μ Kd → ds.length = 3)
    (h : ∀ ds μ Kd, sd ds μ Kd → rd__law_none_and_rows sd__law_take sd__law_shaken sd__law_order sd__law_of sd__law_counts_alike sd__law_fault sd__law_cross sd__law_exchanged sd__law_is_due sd__law_told { nx := fun _ μ' => Kd .non μ', rt := Kd } (dstart N__law_none_and_rows ds) μ) : CalG P w K mg base 5 "_law_none_and_rows" ["store", "old", "table"] sd :=
  B._law_none_and_rows.calG (fun _ _ _ _ _ _ us hl => match us, hl with | [_, _, _], _ => rfl) fun f fd F => fnG_data F sc__law_none_and_rows len fun cdv A outer s H E hr hG => by
    have hu64 := hr.units
    have hu1 := hu_of hr
    exact ⟨rd__law_none_and_rows sd__law_take sd__law_shaken sd__law_order sd__law_of sd__law_counts_alike sd__law_fault sd__law_cross sd__law_exchanged sd__law_is_due sd__law_told, (dss_cons (ds_set sc__law_none_and_rows.nd (d_var 1)) (dss_cons (ds_set sc__law_none_and_rows.nd (d_cal c__law_take (hr.mono (by decide)) (da_cons (d_var 0) (da_cons d_int da_nil)))) (dss_cons (ds_if (dt_cmp dop_lt (d_var 4) d_int rfl) (dss_one (ds_set sc__law_none_and_rows.nd (d_cal c__law_shaken (hr.mono (by decide)) (da_cons (d_var 0) (da_cons (d_var 1) da_nil))))) dss_nil) (dss_cons (ds_if (dt_cmp (kop_eq K rfl hu64) (d_var 4) d_int rfl) (dss_one (ds_set sc__law_none_and_rows.nd (d_join d_str (d_cal c__law_order (hr.mono (by decide)) (da_cons (d_var 0) (da_cons (d_var 1) da_nil)))))) dss_nil) (dss_cons (ds_if (dt_cmp (kop_eq K rfl hu64) (d_var 4) d_int rfl) (dss_one (ds_set sc__law_none_and_rows.nd (d_cal c__law_of (hr.mono (by decide)) (da_cons (d_var 0) (da_cons (d_lst (da_cons (d_op (kop_add K rfl) (d_var 1) (k_slice K rfl (d_var 1) do_none (do_some d_int))) (da_cons (k_slice K rfl (d_var 1) (do_some d_int) do_none) (da_cons (d_revS (d_var 1)) (da_cons (d_op (kop_add K rfl) (k_slice K rfl (d_var 1) (do_some d_int) do_none) d_str) da_nil))))) da_nil))))) dss_nil) (dss_cons (ds_set sc__law_none_and_rows.nd (d_tup (da_cons d_str (da_cons (d_lst (da_cons d_str da_nil)) (da_cons d_bl (da_cons (d_callB (kc_len K rfl) rfl B.b_len rfl (da_cons (d_var 3) da_nil)) da_nil)))))) (dss_cons (ds_set sc__law_none_and_rows.nd (d_var 5)) (dss_cons (ds_if (dt_val (d_cal c__law_counts_alike (hr.mono (by decide)) (da_cons (d_var 1) (da_cons (d_var 3) da_nil)))) (dss_cons (ds_set sc__law_none_and_rows.nd (d_tup (da_cons d_str (da_cons (d_cal c__law_fault (hr.mono (by decide)) (da_cons (d_var 1) (da_cons (d_var 3) (da_cons d_str da_nil)))) da_nil)))) (dss_one (ds_set sc__law_none_and_rows.nd (d_tup (da_cons d_str (da_cons (d_cal c__law_cross (hr.mono (by decide)) (da_cons (d_var 1) (da_cons (d_var 3) da_nil))) da_nil)))))) dss_nil) (dss_cons (ds_set sc__law_none_and_rows.nd (d_lst (da_cons (d_tup (da_cons (d_var 1) (da_cons (d_var 3) da_nil))) (da_cons (d_tup (da_cons (d_cal c__law_exchanged (hr.mono (by decide)) (da_cons (d_var 1) (da_cons (d_var 2) da_nil))) (da_cons (d_cal c__law_exchanged (hr.mono (by decide)) (da_cons (d_var 3) (da_cons (d_var 2) da_nil))) da_nil))) (da_cons (d_tup (da_cons (d_var 1) (da_cons (d_var 3) da_nil))) da_nil))))) (dss_cons (ds_for (di_lst (d_var 7)) (kg_tup K rfl rfl (dgs_cons (dg_name 8 sc__law_none_and_rows.nd) (dgs_cons (dg_name 9 sc__law_none_and_rows.nd) dgs_nil))) (dss_cons (ds_if (dt_not (dt_val (d_calG c__law_is_due (hr.mono (by decide)) hG (da_cons (d_cal c__law_told (hr.mono (by decide)) (da_cons d_int (da_cons (d_var 8) (da_cons (d_var 9) (da_cons d_non da_nil))))) (da_cons (d_var 5) da_nil))))) (dss_one (ds_ret d_bl)) dss_nil) (dss_one (ds_if (dt_not (dt_val (d_calG c__law_is_due (hr.mono (by decide)) hG (da_cons (d_cal c__law_told (hr.mono (by decide)) (da_cons d_int (da_cons (d_var 8) (da_cons (d_var 9) (da_cons d_non da_nil))))) (da_cons (d_var 6) da_nil))))) (dss_one (ds_ret d_bl)) dss_nil)))) (dss_one (ds_ret d_bl)))))))))))), h⟩
/-! ### law -/
abbrev N_law : List Str := ["script", "store", "signs_now", "shift", "table", "at", "turn", "dues", "fault_due", "backs", "old", "new", "c", "one", "two", "d"]
theorem sc_law : FnScope N_law ["script"] (defScope s_law) := ⟨rfl, rfl, rfl, by decide +kernel, rfl, by decide +kernel, by decide +kernel⟩
def rd_law (sd__law_store : SpD) (sd__law_order : SpD) (sd__law_ascii : SpD) (sd__law_take : SpD) (sd__law_pair : SpD) (sd__law_of : SpD) (sd__law_due_all : SpD) (sd__law_fault_due : SpD) (sd__law_asked : SpD) (sd__law_exchanged : SpD) (sd__law_puts : SpD) (sd__law_none_and_rows : SpD) : DS :=
  (dSeq (dSet 1 (dCB sd__law_store (dCons (dVar 0) dNil)))
  (dSeq (dSet 2 (dM1 rdJoin (dC (cS "")) (dCB sd__law_order (dCons (dVar 1) (dCons (dCB sd__law_ascii dNil) dNil)))))
  (dSeq (dSet 3 (dOp rdAdd (dC (.int 1)) (dCB sd__law_take (dCons (dVar 1) (dCons (dC (.int 93)) dNil)))))
  (dSeq (dSet 4 dDNew)
  (dSeq (dFor (iR1 (dCons (dC (.int 94)) dNil)) (gNm 5)
  (dPutD (dOp rdIx (dVar 2) (dOp rdMod (dCB rdInt (dCons (dOp rdAdd (dVar 5) (dVar 3)) dNil)) (dC (.int 94)))) (dVar 4) (dOp rdIx (dVar 2) (dVar 5))))
  (dGiveD 4 (dSeq (dFor (iR1 (dCons (dC (.int 2)) dNil)) (gNm 6)
  (dSeq (dAsg (dCB sd__law_pair (dCons (dVar 1) (dCons (dSl (dVar 2) oNo (oInt (dOp rdAdd (dC (.int 2)) (dCB sd__law_take (dCons (dVar 1) (dCons (dCB sd__law_of (dCons (dVar 1) (dCons (dTup (dCons (dC (.int 1)) (dCons (dC (.int 2)) (dCons (dC (.int 19)) dNil)))) dNil))) dNil)))))) dNil))) (gTupD 3 (gConsD (gNm 10) (gConsD (gNm 11) (gConsD (gNm 12) gNilD)))))
  (dSeq (dSet 7 (dCB sd__law_due_all (dCons (dVar 10) (dCons (dVar 11) (dCons (dVar 12) dNil)))))
  (dSeq (dSet 8 (dCB sd__law_fault_due (dCons (dVar 10) (dCons (dVar 11) (dCons (dVar 12) dNil)))))
  (dSeq (dIfS (dOr (dTest (dOp rdNe (dOp rdEq (dVar 8) (dTup (dCons (dC (cS "told")) (dCons (dC .non) dNil)))) (dOp rdIx (dVar 7) (dC (.int 1))))) (dNot (dTest (dCB sd__law_asked (dCons (dVar 10) (dCons (dVar 11) (dCons (dVar 12) (dCons (dVar 7) (dCons (dVar 8) dNil))))))))) (dRet (dC (.bl false))) dNext)
  (dSeq (dAsg3 13 14 15 (dTup (dCons (dCB sd__law_exchanged (dCons (dVar 10) (dCons (dVar 4) dNil))) (dCons (dCB sd__law_exchanged (dCons (dVar 11) (dCons (dVar 4) dNil))) (dCons (dOp rdDGet (dVar 4) (dVar 12)) dNil)))))
  (dSeq (dIfS (dNot (dTest (dCB sd__law_asked (dCons (dVar 13) (dCons (dVar 14) (dCons (dVar 15) (dCons (dVar 7) (dCons (dVar 8) dNil)))))))) (dRet (dC (.bl false))) dNext)
  (dSeq (dSet 9 (dCB sd__law_due_all (dCons (dRevS (dVar 10)) (dCons (dRevS (dVar 11)) (dCons (dVar 12) dNil)))))
  (dSeq (dIfS (dTest (dOp rdNotN (dOp rdIx (dVar 7) (dC (.int 0))) (dC .non))) (dSet 9 (dOp rdAdd (dTup (dCons (dTup (dCons (dOp rdSub (dCB rdLen (dCons (dVar 10) dNil)) (dOp rdIx (dOp rdIx (dVar 7) (dC (.int 0))) (dC (.int 1)))) (dCons (dOp rdSub (dCB rdLen (dCons (dVar 10) dNil)) (dOp rdIx (dOp rdIx (dVar 7) (dC (.int 0))) (dC (.int 0)))) dNil))) (dCons (dC (.bl true)) dNil))) (dSl (dVar 9) (oInt (dC (.int 2))) oNo))) dNext)
  (dSeq (dIfS (dNot (dTest (dCB sd__law_asked (dCons (dRevS (dVar 10)) (dCons (dRevS (dVar 11)) (dCons (dVar 12) (dCons (dVar 9) (dCons (dCB sd__law_fault_due (dCons (dRevS (dVar 10)) (dCons (dRevS (dVar 11)) (dCons (dVar 12) dNil)))) dNil)))))))) (dRet (dC (.bl false))) dNext)
  (dSeq (dIfS (dOr (dNot (dTest (dCB sd__law_asked (dCons (dVar 10) (dCons (dVar 11) (dCons (dVar 12) (dCons (dVar 7) (dCons (dVar 8) dNil)))))))) (dNot (dTest (dCB sd__law_puts (dCons (dVar 1) (dCons (dVar 10) (dCons (dVar 11) (dCons (dVar 12) (dCons (dOp rdIx (dVar 7) (dC (.int 0))) dNil))))))))) (dRet (dC (.bl false))) dNext)
  (dIfS (dOr (dNot (dTest (dCB sd__law_puts (dCons (dVar 1) (dCons (dVar 13) (dCons (dVar 14) (dCons (dVar 15) (dCons (dOp rdIx (dVar 7) (dC (.int 0))) dNil)))))))) (dNot (dTest (dCB sd__law_none_and_rows (dCons (dVar 1) (dCons (dVar 10) (dCons (dVar 4) dNil))))))) (dRet (dC (.bl false))) dNext))))))))))))
  (dRet (dC (.bl true))))))))))
theorem w_law (B : En K mg) (sd__law_store : SpD) (sd__law_order : SpD) (sd__law_ascii : SpD) (sd__law_take : SpD) (sd__law_pair : SpD) (sd__law_of : SpD) (sd__law_due_all : SpD) (sd__law_fault_due : SpD) (sd__law_asked : SpD) (sd__law_exchanged : SpD) (sd__law_puts : SpD) (sd__law_none_and_rows : SpD) (c__law_store : Cal P w K mg base 2 "_law_store" ["script"] sd__law_store) (c__law_order : Cal P w K mg base 3 "_law_order" ["store", "things"] sd__law_order) (c__law_ascii : Cal P w K mg base 1 "_law_ascii" [] sd__law_ascii) (c__law_take : Cal P w K mg base 2 "_law_take" ["store", "many"] sd__law_take) (c__law_pair : Cal P w K mg base 5 "_law_pair" ["store", "alphabet"] sd__law_pair) (c__law_of : Cal P w K mg base 3 "_law_of" ["store", "things"] sd__law_of) (c__law_due_all : Cal P w K mg base 1 "_law_due_all" ["old", "new", "c"] sd__law_due_all) (c__law_fault_due : Cal P w K mg base 3 "_law_fault_due" ["old", "new", "c"] sd__law_fault_due) (c__law_asked : CalG P w K mg base 5 "_law_asked" ["old", "new", "c", "dues", "fault_due"] sd__law_asked) (c__law_exchanged : Cal P w K mg base 1 "_law_exchanged" ["text", "table"] sd__law_exchanged) (c__law_puts : CalG P w K mg base 7 "_law_puts" ["store", "old", "new", "c", "run"] sd__law_puts) (c__law_none_and_rows : CalG P w K mg base 5 "_law_none_and_rows" ["store", "old", "table"] sd__law_none_and_rows) (sd : SpD) (len : ∀ ds μ Kd, sd ds μ Kd → ds.length = 1)
    (h : ∀ ds μ Kd, sd ds μ Kd → rd_law sd__law_store sd__law_order sd__law_ascii sd__law_take sd__law_pair sd__law_of sd__law_due_all sd__law_fault_due sd__law_asked sd__law_exchanged sd__law_puts sd__law_none_and_rows { nx := fun _ μ' => Kd .non μ', rt := Kd } (dstart N_law ds) μ) : CalG P w K mg base 8 "law" ["script"] sd :=
  B.law.calG (fun _ _ _ _ _ _ us hl => match us, hl with | [_], _ => rfl) fun f fd F => fnG_data F sc_law len fun cdv A outer s H E hr hG => by
    have hu64 := hr.units
    have hu1 := hu_of hr
    exact ⟨rd_law sd__law_store sd__law_order sd__law_ascii sd__law_take sd__law_pair sd__law_of sd__law_due_all sd__law_fault_due sd__law_asked sd__law_exchanged sd__law_puts sd__law_none_and_rows, (dss_cons (ds_set sc_law.nd (d_cal c__law_store (hr.mono (by decide)) (da_cons (d_var 0) da_nil))) (dss_cons (ds_set sc_law.nd (d_join d_str (d_cal c__law_order (hr.mono (by decide)) (da_cons (d_var 1) (da_cons (d_calN c__law_ascii (hr.mono (by decide))) da_nil))))) (dss_cons (ds_set sc_law.nd (d_op (kop_add K rfl) d_int (d_cal c__law_take (hr.mono (by decide)) (da_cons (d_var 1) (da_cons d_int da_nil))))) (dss_cons (ds_set sc_law.nd d_dnew) (dss_cons (ds_for (di_range1 rfl B.b_range (da_cons d_int da_nil)) (dg_name 5 sc_law.nd) (dss_one (ds_dput hu1 (d_ix (kix K rfl) (d_var 2) (d_op dop_mod (d_callTy dc_int rfl B.b_int rfl (da_cons (d_op (kop_add K rfl) (d_var 5) (d_var 3)) da_nil)) d_int)) (d_var 4) (d_ix (kix K rfl) (d_var 2) (d_var 5))))) (dss_giveD 4 (dss_cons (ds_for (di_range1 rfl B.b_range (da_cons d_int da_nil)) (dg_name 6 sc_law.nd) (dss_cons (ds_asg (d_cal c__law_pair (hr.mono (by decide)) (da_cons (d_var 1) (da_cons (k_slice K rfl (d_var 2) do_none (do_some (d_op (kop_add K rfl) d_int (d_cal c__law_take (hr.mono (by decide)) (da_cons (d_var 1) (da_cons (d_cal c__law_of (hr.mono (by decide)) (da_cons (d_var 1) (da_cons (d_tup (da_cons d_int (da_cons d_int (da_cons d_int da_nil)))) da_nil))) da_nil)))))) da_nil))) (kg_tup K rfl rfl (dgs_cons (dg_name 10 sc_law.nd) (dgs_cons (dg_name 11 sc_law.nd) (dgs_cons (dg_name 12 sc_law.nd) dgs_nil))))) (dss_cons (ds_set sc_law.nd (d_cal c__law_due_all (hr.mono (by decide)) (da_cons (d_var 10) (da_cons (d_var 11) (da_cons (d_var 12) da_nil))))) (dss_cons (ds_set sc_law.nd (d_cal c__law_fault_due (hr.mono (by decide)) (da_cons (d_var 10) (da_cons (d_var 11) (da_cons (d_var 12) da_nil))))) (dss_cons (ds_if (DPw.pt (dw_or (dt_cmp (kop_ne K rfl hu64) (d_cmp (kop_eq K rfl hu64) (d_var 8) (d_tup (da_cons d_str (da_cons d_non da_nil))) rfl) (d_ix (kix K rfl) (d_var 7) d_int) rfl) (dw_or1 (dt_not (dt_val (d_calG c__law_asked (hr.mono (by decide)) hG (da_cons (d_var 10) (da_cons (d_var 11) (da_cons (d_var 12) (da_cons (d_var 7) (da_cons (d_var 8) da_nil))))))))))) (dss_one (ds_ret d_bl)) dss_nil) (dss_cons (ds_asg3 (i := 13) (j := 14) (l := 15) rfl sc_law.nd (d_tup (da_cons (d_cal c__law_exchanged (hr.mono (by decide)) (da_cons (d_var 10) (da_cons (d_var 4) da_nil))) (da_cons (d_cal c__law_exchanged (hr.mono (by decide)) (da_cons (d_var 11) (da_cons (d_var 4) da_nil))) (da_cons (d_dget hu1 (d_var 4) (d_var 12)) da_nil)))) rfl) (dss_cons (ds_if (dt_not (dt_val (d_calG c__law_asked (hr.mono (by decide)) hG (da_cons (d_var 13) (da_cons (d_var 14) (da_cons (d_var 15) (da_cons (d_var 7) (da_cons (d_var 8) da_nil)))))))) (dss_one (ds_ret d_bl)) dss_nil) (dss_cons (ds_set sc_law.nd (d_cal c__law_due_all (hr.mono (by decide)) (da_cons (d_revS (d_var 10)) (da_cons (d_revS (d_var 11)) (da_cons (d_var 12) da_nil))))) (dss_cons (ds_if (dt_cmp dop_notN (d_ix (kix K rfl) (d_var 7) d_int) d_non rfl) (dss_one (ds_set sc_law.nd (d_op (kop_add K rfl) (d_tup (da_cons (d_tup (da_cons (d_op dop_sub (d_callB (kc_len K rfl) rfl B.b_len rfl (da_cons (d_var 10) da_nil)) (d_ix (kix K rfl) (d_ix (kix K rfl) (d_var 7) d_int) d_int)) (da_cons (d_op dop_sub (d_callB (kc_len K rfl) rfl B.b_len rfl (da_cons (d_var 10) da_nil)) (d_ix (kix K rfl) (d_ix (kix K rfl) (d_var 7) d_int) d_int)) da_nil))) (da_cons d_bl da_nil))) (k_slice K rfl (d_var 9) (do_some d_int) do_none)))) dss_nil) (dss_cons (ds_if (dt_not (dt_val (d_calG c__law_asked (hr.mono (by decide)) hG (da_cons (d_revS (d_var 10)) (da_cons (d_revS (d_var 11)) (da_cons (d_var 12) (da_cons (d_var 9) (da_cons (d_cal c__law_fault_due (hr.mono (by decide)) (da_cons (d_revS (d_var 10)) (da_cons (d_revS (d_var 11)) (da_cons (d_var 12) da_nil)))) da_nil)))))))) (dss_one (ds_ret d_bl)) dss_nil) (dss_cons (ds_if (DPw.pt (dw_or (dt_not (dt_val (d_calG c__law_asked (hr.mono (by decide)) hG (da_cons (d_var 10) (da_cons (d_var 11) (da_cons (d_var 12) (da_cons (d_var 7) (da_cons (d_var 8) da_nil)))))))) (dw_or1 (dt_not (dt_val (d_calG c__law_puts (hr.mono (by decide)) hG (da_cons (d_var 1) (da_cons (d_var 10) (da_cons (d_var 11) (da_cons (d_var 12) (da_cons (d_ix (kix K rfl) (d_var 7) d_int) da_nil))))))))))) (dss_one (ds_ret d_bl)) dss_nil) (dss_one (ds_if (DPw.pt (dw_or (dt_not (dt_val (d_calG c__law_puts (hr.mono (by decide)) hG (da_cons (d_var 1) (da_cons (d_var 13) (da_cons (d_var 14) (da_cons (d_var 15) (da_cons (d_ix (kix K rfl) (d_var 7) d_int) da_nil)))))))) (dw_or1 (dt_not (dt_val (d_calG c__law_none_and_rows (hr.mono (by decide)) hG (da_cons (d_var 1) (da_cons (d_var 10) (da_cons (d_var 4) da_nil))))))))) (dss_one (ds_ret d_bl)) dss_nil))))))))))))) (dss_one (ds_ret d_bl))))))))), h⟩
end K17

set_option Elab.async false
set_option linter.all false
set_option maxRecDepth 100000
set_option maxHeartbeats 4000000
namespace K17
open PySem PySem.Spec PyProof.Rows L2 L2H DL
variable {P : Program} {w : World} {K : PySem.W.Frag} {mg : Str → Option Value} {base : Heap}
/-! ### _law_names_of -/
abbrev N__law_names_of : List Str := ["e", "marks", "mark"]
theorem sc__law_names_of : FnScope N__law_names_of ["e"] (defScope s__law_names_of) := ⟨rfl, rfl, rfl, by decide +kernel, rfl, by decide +kernel, by decide +kernel⟩
def rd__law_names_of (a dd C : Addr) (β : Str → Bool) : DS :=
  (dSeq (dSet 1 (dLst (dCons (dTup (dCons (dIsX (dVar 0) a dd C (β "BadKinds")) (dCons (dC (cS "BadKinds")) dNil))) (dCons (dTup (dCons (dIsX (dVar 0) a dd C (β "BadKind")) (dCons (dC (cS "BadKind")) dNil))) dNil))))
  (dSeq (dSet 1 (dOp rdAdd (dVar 1) (dLst (dCons (dTup (dCons (dIsX (dVar 0) a dd C (β "BadRow")) (dCons (dC (cS "BadRow")) dNil))) dNil))))
  (dSeq (dSet 1 (dOp rdAdd (dVar 1) (dLst (dCons (dTup (dCons (dIsX (dVar 0) a dd C (β "BadLot")) (dCons (dC (cS "BadLot")) dNil))) (dCons (dTup (dCons (dIsX (dVar 0) a dd C (β "BadParting")) (dCons (dC (cS "BadParting")) dNil))) dNil)))))
  (dSeq (dSet 1 (dOp rdAdd (dVar 1) (dLst (dCons (dTup (dCons (dIsX (dVar 0) a dd C (β "BadLetters")) (dCons (dC (cS "BadLetters")) dNil))) (dCons (dTup (dCons (dIsX (dVar 0) a dd C (β "BadNumber")) (dCons (dC (cS "BadNumber")) dNil))) dNil)))))
  (dSeq (dSet 1 (dOp rdAdd (dVar 1) (dLst (dCons (dTup (dCons (dIsX (dVar 0) a dd C (β "BadName")) (dCons (dC (cS "BadName")) dNil))) (dCons (dTup (dCons (dIsX (dVar 0) a dd C (β "BadRoom")) (dCons (dC (cS "BadRoom")) dNil))) dNil)))))
  (dSeq (dSet 1 (dOp rdAdd (dVar 1) (dLst (dCons (dTup (dCons (dIsX (dVar 0) a dd C (β "BadDay")) (dCons (dC (cS "BadDay")) dNil))) (dCons (dTup (dCons (dIsX (dVar 0) a dd C (β "TooLong")) (dCons (dC (cS "TooLong")) dNil))) dNil)))))
  (dSeq (dSet 1 (dOp rdAdd (dVar 1) (dLst (dCons (dTup (dCons (dIsX (dVar 0) a dd C (β "BadStand")) (dCons (dC (cS "BadStand")) dNil))) (dCons (dTup (dCons (dIsX (dVar 0) a dd C (β "BadRule")) (dCons (dC (cS "BadRule")) dNil))) dNil)))))
  (dSeq (dSet 1 (dOp rdAdd (dVar 1) (dLst (dCons (dTup (dCons (dIsX (dVar 0) a dd C (β "BadCall")) (dCons (dC (cS "BadCall")) dNil))) (dCons (dTup (dCons (dIsX (dVar 0) a dd C (β "TooManyStands")) (dCons (dC (cS "TooManyStands")) dNil))) dNil)))))
  (dSeq (dSet 1 (dOp rdAdd (dVar 1) (dLst (dCons (dTup (dCons (dIsX (dVar 0) a dd C (β "BadText")) (dCons (dC (cS "BadText")) dNil))) (dCons (dTup (dCons (dIsX (dVar 0) a dd C (β "BadTree")) (dCons (dC (cS "BadTree")) dNil))) dNil)))))
  (dSeq (dSet 1 (dOp rdAdd (dVar 1) (dLst (dCons (dTup (dCons (dIsX (dVar 0) a dd C (β "BadRows")) (dCons (dC (cS "BadRows")) dNil))) (dCons (dTup (dCons (dIsX (dVar 0) a dd C (β "BadMachine")) (dCons (dC (cS "BadMachine")) dNil))) dNil)))))
  (dSeq (dSet 1 (dOp rdAdd (dVar 1) (dLst (dCons (dTup (dCons (dIsX (dVar 0) a dd C (β "BadException")) (dCons (dC (cS "BadException")) dNil))) (dCons (dTup (dCons (dIsX (dVar 0) a dd C (β "BadPolicy")) (dCons (dC (cS "BadPolicy")) dNil))) dNil)))))
  (dSeq (dSet 1 (dOp rdAdd (dVar 1) (dLst (dCons (dTup (dCons (dIsX (dVar 0) a dd C (β "BadSpeech")) (dCons (dC (cS "BadSpeech")) dNil))) (dCons (dTup (dCons (dIsX (dVar 0) a dd C (β "BadGraft")) (dCons (dC (cS "BadGraft")) dNil))) dNil)))))
  (dSeq (dSet 1 (dOp rdAdd (dVar 1) (dLst (dCons (dTup (dCons (dIsX (dVar 0) a dd C (β "NotSame")) (dCons (dC (cS "NotSame")) dNil))) (dCons (dTup (dCons (dIsX (dVar 0) a dd C (β "NotGood")) (dCons (dC (cS "NotGood")) dNil))) dNil)))))
  (dSeq (dSet 1 (dOp rdAdd (dVar 1) (dLst (dCons (dTup (dCons (dIsX (dVar 0) a dd C (β "IsGood")) (dCons (dC (cS "IsGood")) dNil))) (dCons (dTup (dCons (dIsX (dVar 0) a dd C (β "BadPlaces")) (dCons (dC (cS "BadPlaces")) dNil))) dNil)))))
  (dSeq (dSet 1 (dOp rdAdd (dVar 1) (dLst (dCons (dTup (dCons (dIsX (dVar 0) a dd C (β "Passed")) (dCons (dC (cS "Passed")) dNil))) (dCons (dTup (dCons (dIsX (dVar 0) a dd C (β "Empty")) (dCons (dC (cS "Empty")) dNil))) dNil)))))
  (dSeq (dSet 1 (dOp rdAdd (dVar 1) (dLst (dCons (dTup (dCons (dIsX (dVar 0) a dd C (β "NotEmpty")) (dCons (dC (cS "NotEmpty")) dNil))) (dCons (dTup (dCons (dIsX (dVar 0) a dd C (β "BadPaper")) (dCons (dC (cS "BadPaper")) dNil))) dNil)))))
  (dSeq (dSet 1 (dOp rdAdd (dVar 1) (dLst (dCons (dTup (dCons (dIsX (dVar 0) a dd C (β "TooMany")) (dCons (dC (cS "TooMany")) dNil))) (dCons (dTup (dCons (dIsX (dVar 0) a dd C (β "NotOneLine")) (dCons (dC (cS "NotOneLine")) dNil))) dNil)))))
  (dSeq (dSet 1 (dOp rdAdd (dVar 1) (dLst (dCons (dTup (dCons (dIsX (dVar 0) a dd C (β "Endless")) (dCons (dC (cS "Endless")) dNil))) (dCons (dTup (dCons (dIsX (dVar 0) a dd C (β "BadTable")) (dCons (dC (cS "BadTable")) dNil))) dNil)))))
  (dSeq (dSet 1 (dOp rdAdd (dVar 1) (dLst (dCons (dTup (dCons (dIsX (dVar 0) a dd C (β "BadBook")) (dCons (dC (cS "BadBook")) dNil))) (dCons (dTup (dCons (dIsX (dVar 0) a dd C (β "Clash")) (dCons (dC (cS "Clash")) dNil))) dNil)))))
  (dSeq (dSet 1 (dOp rdAdd (dVar 1) (dLst (dCons (dTup (dCons (dIsX (dVar 0) a dd C (β "NothingToUndo")) (dCons (dC (cS "NothingToUndo")) dNil))) (dCons (dTup (dCons (dIsX (dVar 0) a dd C (β "BadLine")) (dCons (dC (cS "BadLine")) dNil))) dNil)))))
  (dRet (dLc (iLst (dVar 1)) (gNm 2) (dTest (dOp rdIx (dVar 2) (dC (.int 0)))) (dOp rdIx (dVar 2) (dC (.int 1))) [2]))))))))))))))))))))))
theorem w__law_names_of (B : En K mg) {x0 : Str} {errs : List Str} (ok : Addr → Prop) (β : Addr → Str → Bool) (hQ0 : ∀ C, ok C → ErrQ K mg x0 errs (β C) C) (he : errs = K17.errs.tail) (sd : Addr → Addr → Addr → SpD) (len : ∀ a dd C ds μ Kd, sd a dd C ds μ Kd → ds.length = 1) (hok : ∀ a dd C ds μ Kd, sd a dd C ds μ Kd → ok C)
    (h : ∀ a dd C ds μ Kd, sd a dd C ds μ Kd → rd__law_names_of a dd C (β C) { nx := fun _ μ' => Kd .non μ', rt := Kd } (dstart N__law_names_of ds) μ) : CalE P w K mg base 1 "_law_names_of" ["e"] sd := by
  subst he
  refine B._law_names_of.calE (fun _ _ _ _ _ _ us hl => match us, hl with | [_], _ => rfl) fun f fd F => fnE_data F sc__law_names_of len fun cdv A fr s H E p dd C hot hP hr => ?_
  by_cases hC : ok C
  · have hQ := hQ0 C hC
    exact ⟨rd__law_names_of p.1 dd C (β C), (dss_cons (ds_set sc__law_names_of.nd (d_lst (da_cons (d_tup (da_cons (d_isF (x := "BadKinds") hQ.exc hP (d_var 0) rfl B.b_isinstance rfl (hQ.is_ "BadKinds" (by decide +kernel))) (da_cons d_str da_nil))) (da_cons (d_tup (da_cons (d_isF (x := "BadKind") hQ.exc hP (d_var 0) rfl B.b_isinstance rfl (hQ.is_ "BadKind" (by decide +kernel))) (da_cons d_str da_nil))) da_nil)))) (dss_cons (ds_set sc__law_names_of.nd (d_op (kop_add K rfl) (d_var 1) (d_lst (da_cons (d_tup (da_cons (d_isF (x := "BadRow") hQ.exc hP (d_var 0) rfl B.b_isinstance rfl (hQ.is_ "BadRow" (by decide +kernel))) (da_cons d_str da_nil))) da_nil)))) (dss_cons (ds_set sc__law_names_of.nd (d_op (kop_add K rfl) (d_var 1) (d_lst (da_cons (d_tup (da_cons (d_isF (x := "BadLot") hQ.exc hP (d_var 0) rfl B.b_isinstance rfl (hQ.is_ "BadLot" (by decide +kernel))) (da_cons d_str da_nil))) (da_cons (d_tup (da_cons (d_isF (x := "BadParting") hQ.exc hP (d_var 0) rfl B.b_isinstance rfl (hQ.is_ "BadParting" (by decide +kernel))) (da_cons d_str da_nil))) da_nil))))) (dss_cons (ds_set sc__law_names_of.nd (d_op (kop_add K rfl) (d_var 1) (d_lst (da_cons (d_tup (da_cons (d_isF (x := "BadLetters") hQ.exc hP (d_var 0) rfl B.b_isinstance rfl (hQ.is_ "BadLetters" (by decide +kernel))) (da_cons d_str da_nil))) (da_cons (d_tup (da_cons (d_isF (x := "BadNumber") hQ.exc hP (d_var 0) rfl B.b_isinstance rfl (hQ.is_ "BadNumber" (by decide +kernel))) (da_cons d_str da_nil))) da_nil))))) (dss_cons (ds_set sc__law_names_of.nd (d_op (kop_add K rfl) (d_var 1) (d_lst (da_cons (d_tup (da_cons (d_isF (x := "BadName") hQ.exc hP (d_var 0) rfl B.b_isinstance rfl (hQ.is_ "BadName" (by decide +kernel))) (da_cons d_str da_nil))) (da_cons (d_tup (da_cons (d_isF (x := "BadRoom") hQ.exc hP (d_var 0) rfl B.b_isinstance rfl (hQ.is_ "BadRoom" (by decide +kernel))) (da_cons d_str da_nil))) da_nil))))) (dss_cons (ds_set sc__law_names_of.nd (d_op (kop_add K rfl) (d_var 1) (d_lst (da_cons (d_tup (da_cons (d_isF (x := "BadDay") hQ.exc hP (d_var 0) rfl B.b_isinstance rfl (hQ.is_ "BadDay" (by decide +kernel))) (da_cons d_str da_nil))) (da_cons (d_tup (da_cons (d_isF (x := "TooLong") hQ.exc hP (d_var 0) rfl B.b_isinstance rfl (hQ.is_ "TooLong" (by decide +kernel))) (da_cons d_str da_nil))) da_nil))))) (dss_cons (ds_set sc__law_names_of.nd (d_op (kop_add K rfl) (d_var 1) (d_lst (da_cons (d_tup (da_cons (d_isF (x := "BadStand") hQ.exc hP (d_var 0) rfl B.b_isinstance rfl (hQ.is_ "BadStand" (by decide +kernel))) (da_cons d_str da_nil))) (da_cons (d_tup (da_cons (d_isF (x := "BadRule") hQ.exc hP (d_var 0) rfl B.b_isinstance rfl (hQ.is_ "BadRule" (by decide +kernel))) (da_cons d_str da_nil))) da_nil))))) (dss_cons (ds_set sc__law_names_of.nd (d_op (kop_add K rfl) (d_var 1) (d_lst (da_cons (d_tup (da_cons (d_isF (x := "BadCall") hQ.exc hP (d_var 0) rfl B.b_isinstance rfl (hQ.is_ "BadCall" (by decide +kernel))) (da_cons d_str da_nil))) (da_cons (d_tup (da_cons (d_isF (x := "TooManyStands") hQ.exc hP (d_var 0) rfl B.b_isinstance rfl (hQ.is_ "TooManyStands" (by decide +kernel))) (da_cons d_str da_nil))) da_nil))))) (dss_cons (ds_set sc__law_names_of.nd (d_op (kop_add K rfl) (d_var 1) (d_lst (da_cons (d_tup (da_cons (d_isF (x := "BadText") hQ.exc hP (d_var 0) rfl B.b_isinstance rfl (hQ.is_ "BadText" (by decide +kernel))) (da_cons d_str da_nil))) (da_cons (d_tup (da_cons (d_isF (x := "BadTree") hQ.exc hP (d_var 0) rfl B.b_isinstance rfl (hQ.is_ "BadTree" (by decide +kernel))) (da_cons d_str da_nil))) da_nil))))) (dss_cons (ds_set sc__law_names_of.nd (d_op (kop_add K rfl) (d_var 1) (d_lst (da_cons (d_tup (da_cons (d_isF (x := "BadRows") hQ.exc hP (d_var 0) rfl B.b_isinstance rfl (hQ.is_ "BadRows" (by decide +kernel))) (da_cons d_str da_nil))) (da_cons (d_tup (da_cons (d_isF (x := "BadMachine") hQ.exc hP (d_var 0) rfl B.b_isinstance rfl (hQ.is_ "BadMachine" (by decide +kernel))) (da_cons d_str da_nil))) da_nil))))) (dss_cons (ds_set sc__law_names_of.nd (d_op (kop_add K rfl) (d_var 1) (d_lst (da_cons (d_tup (da_cons (d_isF (x := "BadException") hQ.exc hP (d_var 0) rfl B.b_isinstance rfl (hQ.is_ "BadException" (by decide +kernel))) (da_cons d_str da_nil))) (da_cons (d_tup (da_cons (d_isF (x := "BadPolicy") hQ.exc hP (d_var 0) rfl B.b_isinstance rfl (hQ.is_ "BadPolicy" (by decide +kernel))) (da_cons d_str da_nil))) da_nil))))) (dss_cons (ds_set sc__law_names_of.nd (d_op (kop_add K rfl) (d_var 1) (d_lst (da_cons (d_tup (da_cons (d_isF (x := "BadSpeech") hQ.exc hP (d_var 0) rfl B.b_isinstance rfl (hQ.is_ "BadSpeech" (by decide +kernel))) (da_cons d_str da_nil))) (da_cons (d_tup (da_cons (d_isF (x := "BadGraft") hQ.exc hP (d_var 0) rfl B.b_isinstance rfl (hQ.is_ "BadGraft" (by decide +kernel))) (da_cons d_str da_nil))) da_nil))))) (dss_cons (ds_set sc__law_names_of.nd (d_op (kop_add K rfl) (d_var 1) (d_lst (da_cons (d_tup (da_cons (d_isF (x := "NotSame") hQ.exc hP (d_var 0) rfl B.b_isinstance rfl (hQ.is_ "NotSame" (by decide +kernel))) (da_cons d_str da_nil))) (da_cons (d_tup (da_cons (d_isF (x := "NotGood") hQ.exc hP (d_var 0) rfl B.b_isinstance rfl (hQ.is_ "NotGood" (by decide +kernel))) (da_cons d_str da_nil))) da_nil))))) (dss_cons (ds_set sc__law_names_of.nd (d_op (kop_add K rfl) (d_var 1) (d_lst (da_cons (d_tup (da_cons (d_isF (x := "IsGood") hQ.exc hP (d_var 0) rfl B.b_isinstance rfl (hQ.is_ "IsGood" (by decide +kernel))) (da_cons d_str da_nil))) (da_cons (d_tup (da_cons (d_isF (x := "BadPlaces") hQ.exc hP (d_var 0) rfl B.b_isinstance rfl (hQ.is_ "BadPlaces" (by decide +kernel))) (da_cons d_str da_nil))) da_nil))))) (dss_cons (ds_set sc__law_names_of.nd (d_op (kop_add K rfl) (d_var 1) (d_lst (da_cons (d_tup (da_cons (d_isF (x := "Passed") hQ.exc hP (d_var 0) rfl B.b_isinstance rfl (hQ.is_ "Passed" (by decide +kernel))) (da_cons d_str da_nil))) (da_cons (d_tup (da_cons (d_isF (x := "Empty") hQ.exc hP (d_var 0) rfl B.b_isinstance rfl (hQ.is_ "Empty" (by decide +kernel))) (da_cons d_str da_nil))) da_nil))))) (dss_cons (ds_set sc__law_names_of.nd (d_op (kop_add K rfl) (d_var 1) (d_lst (da_cons (d_tup (da_cons (d_isF (x := "NotEmpty") hQ.exc hP (d_var 0) rfl B.b_isinstance rfl (hQ.is_ "NotEmpty" (by decide +kernel))) (da_cons d_str da_nil))) (da_cons (d_tup (da_cons (d_isF (x := "BadPaper") hQ.exc hP (d_var 0) rfl B.b_isinstance rfl (hQ.is_ "BadPaper" (by decide +kernel))) (da_cons d_str da_nil))) da_nil))))) (dss_cons (ds_set sc__law_names_of.nd (d_op (kop_add K rfl) (d_var 1) (d_lst (da_cons (d_tup (da_cons (d_isF (x := "TooMany") hQ.exc hP (d_var 0) rfl B.b_isinstance rfl (hQ.is_ "TooMany" (by decide +kernel))) (da_cons d_str da_nil))) (da_cons (d_tup (da_cons (d_isF (x := "NotOneLine") hQ.exc hP (d_var 0) rfl B.b_isinstance rfl (hQ.is_ "NotOneLine" (by decide +kernel))) (da_cons d_str da_nil))) da_nil))))) (dss_cons (ds_set sc__law_names_of.nd (d_op (kop_add K rfl) (d_var 1) (d_lst (da_cons (d_tup (da_cons (d_isF (x := "Endless") hQ.exc hP (d_var 0) rfl B.b_isinstance rfl (hQ.is_ "Endless" (by decide +kernel))) (da_cons d_str da_nil))) (da_cons (d_tup (da_cons (d_isF (x := "BadTable") hQ.exc hP (d_var 0) rfl B.b_isinstance rfl (hQ.is_ "BadTable" (by decide +kernel))) (da_cons d_str da_nil))) da_nil))))) (dss_cons (ds_set sc__law_names_of.nd (d_op (kop_add K rfl) (d_var 1) (d_lst (da_cons (d_tup (da_cons (d_isF (x := "BadBook") hQ.exc hP (d_var 0) rfl B.b_isinstance rfl (hQ.is_ "BadBook" (by decide +kernel))) (da_cons d_str da_nil))) (da_cons (d_tup (da_cons (d_isF (x := "Clash") hQ.exc hP (d_var 0) rfl B.b_isinstance rfl (hQ.is_ "Clash" (by decide +kernel))) (da_cons d_str da_nil))) da_nil))))) (dss_cons (ds_set sc__law_names_of.nd (d_op (kop_add K rfl) (d_var 1) (d_lst (da_cons (d_tup (da_cons (d_isF (x := "NothingToUndo") hQ.exc hP (d_var 0) rfl B.b_isinstance rfl (hQ.is_ "NothingToUndo" (by decide +kernel))) (da_cons d_str da_nil))) (da_cons (d_tup (da_cons (d_isF (x := "BadLine") hQ.exc hP (d_var 0) rfl B.b_isinstance rfl (hQ.is_ "BadLine" (by decide +kernel))) (da_cons d_str da_nil))) da_nil))))) (dss_one (ds_ret (d_lcH hot sc__law_names_of.nd (d_var 1) (own := [("mark", 2)]) rfl (fun _ _ _ _ _ => (dg_name 2 sc__law_names_of.nd)) (fun _ _ _ _ _ => (dts_one (dt_val (d_ix (kix K rfl) (d_var 2) d_int)))) (fun _ _ _ _ _ => (d_ix (kix K rfl) (d_var 2) d_int))))))))))))))))))))))))), h p.1 dd C⟩
  · exact ⟨dNever, dss_never, fun ds μ Kd k => absurd (hok _ _ _ _ _ _ k) hC⟩
end K17

set_option Elab.async false
set_option linter.all false
set_option maxRecDepth 100000
set_option maxHeartbeats 4000000
namespace K17
open PySem PySem.Spec PyProof.Rows L2 L2H DL
variable {P : Program} {w : World} {K : PySem.W.Frag} {mg : Str → Option Value} {base : Heap}
/-! ### _law_told -/
abbrev N__law_told : List Str := ["way", "old", "new", "c", "e"]
theorem sc__law_told : FnScope N__law_told ["way", "old", "new", "c"] (defScope s__law_told) := ⟨rfl, rfl, rfl, by decide +kernel, rfl, by decide +kernel, by decide +kernel⟩
def bd_told (sx_f sx_c sx_p : SpX) : DS := dSeq (dIfS (dTest (dOp rdEq (dVar 0) (dC (.int 0)))) (dRetX sx_f (cS "told") (dCons (dVar 1) (dCons (dVar 2) (dCons (dVar 3) dNil)))) dNext)
  (dSeq (dIfS (dTest (dOp rdEq (dVar 0) (dC (.int 1)))) (dRetX sx_c (cS "told") (dCons (dVar 1) (dCons (dVar 2) dNil))) dNext)
  (dRetX sx_p (cS "told") (dCons (dVar 1) (dCons (dVar 3) (dCons (dVar 2) dNil)))))
def su_told (sd_n : Addr → Addr → Addr → SpD) (a dd C : Addr) : DS := dRet (dTup (dCons (dC (cS "refused")) (dCons (dCB (sd_n a dd C) (dCons (dVar 4) dNil)) (dCons (dIsX (dVar 4) a dd C true) (dCons (dAt (dVar 4) a dd C) dNil)))))
def rd__law_told (sx_f sx_c sx_p : SpX) (sd_n : Addr → Addr → Addr → SpD) (ok : Addr → Prop) : DS := dTry 4 ok (bd_told sx_f sx_c sx_p) (su_told sd_n)
theorem w__law_told (B : En K mg) {errs : List Str} (ok : Addr → Prop) (β : Addr → Str → Bool) (hQ0 : ∀ C, ok C → ErrQ K mg "NonePassedError" errs (β C) C) {c0 : Addr} (g0 : mg "NonePassedError" = some (.ref c0))
    (sx_f sx_c sx_p : SpX) (sd_n : Addr → Addr → Addr → SpD) (c_f : CalX P w K mg base 3 "fault" ["old", "new", "c"] sx_f) (c_c : CalX P w K mg base 3 "crossed" ["row", "other"] sx_c) (c_p : CalX P w K mg base 3 "put" ["old", "c", "p"] sx_p)
    (c_n : CalE P w K mg base 1 "_law_names_of" ["e"] sd_n) (sd : SpD) (len : ∀ ds μ Kd, sd ds μ Kd → ds.length = 4)
    (h : ∀ ds μ Kd, sd ds μ Kd → rd__law_told sx_f sx_c sx_p sd_n ok { nx := fun _ μ' => Kd .non μ', rt := Kd } (dstart N__law_told ds) μ) : Cal P w K mg base 4 "_law_told" ["way", "old", "new", "c"] sd :=
  B._law_told.cal (fun _ _ _ _ _ _ us hl => match us, hl with | [_, _, _, _], _ => rfl) fun f fd F => fn_data F sc__law_told len fun cdv A outer s H E hr => by
    have hu64 := hr.units
    refine ⟨rd__law_told sx_f sx_c sx_p sd_n ok, dss_one (ds_try (c := .ref c0) rfl rfl sc__law_told.nd rfl rfl ⟨rfl, by decide, .inl g0⟩ takes_no (fun C hC => (hQ0 C hC).ex c0 g0) (fun W' pn xe tk hp => ?_) (fun a dd C oe pn hC hP hz hf => ?_)), h⟩
    · exact dss_cons (ds_if (dt_cmp (kop_eq K rfl hu64) (d_var 0) d_int rfl) (dss_one (ds_retXC tk c_f (hr.mono (by decide)) (da_cons (d_var 1) (da_cons (d_var 2) (da_cons (d_var 3) da_nil))))) dss_nil)
        (dss_cons (ds_if (dt_cmp (kop_eq K rfl hu64) (d_var 0) d_int rfl) (dss_one (ds_retXC tk c_c (hr.mono (by decide)) (da_cons (d_var 1) (da_cons (d_var 2) da_nil)))) dss_nil)
        (dss_one (ds_retXC tk c_p (hr.mono (by decide)) (da_cons (d_var 1) (da_cons (d_var 3) (da_cons (d_var 2) da_nil))))))
    · have hrH : RoomH 3 (A.deeper (envOfC "_law_told" (defScope s__law_told) s.heap.objs.size f cdv)) := roomH_of hr
      have hr2 : ∀ v, RoomH 3 ((A.deeper (envOfC "_law_told" (defScope s__law_told) s.heap.objs.size f cdv)).mark v) := fun v => ⟨hrH.dp, hrH.un⟩
      exact dss_one (ds_ret (d_tup (da_cons d_str (da_cons (d_calE c_n ((hr2 _).mono (by decide)) hP (da_cons (d_var 4) da_nil)) (da_cons (d_isXT (hQ0 C hC).exc hP.pin (d_var 4) rfl B.b_isinstance rfl B.b_ValueError rfl (hQ0 C hC).ve) (da_cons (d_at (hQ0 C hC).xf (hQ0 C hC).no hz hf (d_var 4)) da_nil))))))
end K17

set_option Elab.async false
set_option linter.all false
set_option maxRecDepth 100000
set_option maxHeartbeats 4000000
/-! Plain readings: what simp needs. -/
namespace DL
open PySem PySem.Spec PyProof.Rows L2
theorem dget_z {o : Option Dt} {ρ : DEnv} : dget (o :: ρ) 0 = o := rfl
theorem dget_s {o : Option Dt} {ρ : DEnv} {i : Nat} : dget (o :: ρ) (i + 1) = dget ρ i := rfl
@[simp] theorem q_deq_str {a b : List Nat} : deq (.str a) (.str b) = decide (a = b) := by
  by_cases h : a = b <;> simp [deq, h]
@[simp] theorem q_deq_int {a b : Int} : deq (.int a) (.int b) = decide (a = b) := by
  by_cases h : a = b <;> simp [deq, h]
theorem cutD_toI {α : Type} (xs : List α) {i : Int} (h : 0 ≤ i) : DL.cutD xs none (some i) = xs.take i.toNat := by
  obtain ⟨n, rfl⟩ := Int.eq_ofNat_of_zero_le h
  exact cutD_to xs n
theorem cutD_fromI {α : Type} (xs : List α) {i : Int} (h : 0 ≤ i) : DL.cutD xs (some i) none = xs.drop i.toNat := by
  obtain ⟨n, rfl⟩ := Int.eq_ofNat_of_zero_le h
  exact cutD_from xs n
theorem atI_n {α : Type} (xs : List α) (n : Nat) : L2.atI xs (n : Int) = xs[n]? := by
  unfold L2.atI L2.ixN
  rw [if_pos (Int.natCast_nonneg n)]
  by_cases h : n < xs.length
  · rw [if_pos (by exact_mod_cast h)]
    simp
  · rw [if_neg (by simpa using h)]
    simp [List.getElem?_eq_none (Nat.le_of_not_lt h)]
section
variable {xs a b : List Dt} {i j : Int} {μ : Mu} {K : KD} {z y : List Nat} {p : Addr} {ns : List Int} {v : Dt} {rest : List Dt → Mu → Prop} {ks : List Key} {ds : List Dt} {lo hi : Option Int} {k : Bool} {c : Nat} {neg : Bool} {g : List Nat → Nat → Int} {x : Dt} {Kp : Mu → Prop}
theorem q_ix_lst : rdIx (.lst xs) (.int i) μ K = ∃ d, L2.atI xs i = some d ∧ K d μ := rfl
theorem q_ix_tup : rdIx (.tup xs) (.int i) μ K = ∃ d, L2.atI xs i = some d ∧ K d μ := rfl
theorem q_ix_str : rdIx (.str z) (.int i) μ K = (z.length ≤ 1000000 ∧ ∃ c, L2.atI z i = some c ∧ K (.str [c]) μ) := rfl
theorem q_ix_hdl : rdIx (.hdl p) (.int i) μ K = ∃ xs d, μ p = some (.lst xs) ∧ L2.atI xs i = some d ∧ K d μ := rfl
theorem q_ix_scr : rdIx (.scr ns) (.int i) μ K = ∃ d, L2.atI ns i = some d ∧ K (.int d) μ := rfl
theorem q_setL_hdl : rdSetL (.hdl p) (.int i) v μ Kp = ∃ xs j, μ p = some (.lst xs) ∧ L2.ixN xs.length i = some j ∧ Kp (mset μ p (.lst (xs.set j v))) := rfl
theorem q_add_int : rdAdd (.int i) (.int j) μ K = K (.int (i + j)) μ := rfl
theorem q_add_str : rdAdd (.str z) (.str y) μ K = (z.length + y.length ≤ 1000000 ∧ K (.str (z ++ y)) μ) := rfl
theorem q_add_lst : rdAdd (.lst a) (.lst b) μ K = (a.length + b.length ≤ 1000000 ∧ K (.lst (a ++ b)) μ) := rfl
theorem q_add_tup : rdAdd (.tup a) (.tup b) μ K = (a.length + b.length ≤ 1000000 ∧ K (.tup (a ++ b)) μ) := rfl
theorem q_mul_int : rdMul (.int i) (.int j) μ K = (CMulW i j ∧ K (.int (i * j)) μ) := rfl
theorem q_mul_str : rdMul (.str z) (.int j) μ K = ((0 ≤ j ∧ j ≤ 1000000 ∧ z.length * j.toNat ≤ 1000000) ∧ K (.str (List.replicate j.toNat z).flatten) μ) := rfl
theorem q_sl_lst : rdSl (.lst xs) lo hi μ K = K (.lst (DL.cutD xs lo hi)) μ := rfl
theorem q_sl_tup : rdSl (.tup xs) lo hi μ K = K (.tup (DL.cutD xs lo hi)) μ := rfl
theorem q_sl_str : rdSl (.str z) lo hi μ K = (z.length ≤ 1000000 ∧ K (.str (DL.cutD z lo hi)) μ) := rfl
theorem q_len_str : rdLen [.str z] μ K = (z.length ≤ 1000000 ∧ K (.int z.length) μ) := rfl
theorem q_len_lst : rdLen [.lst xs] μ K = K (.int xs.length) μ := rfl
theorem q_len_tup : rdLen [.tup xs] μ K = K (.int xs.length) μ := rfl
theorem q_len_scr : rdLen [.scr ns] μ K = K (.int ns.length) μ := rfl
theorem q_len_hdl : rdLen [.hdl p] μ K = ∃ xs, μ p = some (.lst xs) ∧ K (.int xs.length) μ := rfl
theorem q_items_lst : rdItems rest [.lst xs] μ = rest xs μ := rfl
theorem q_items_tup : rdItems rest [.tup xs] μ = rest xs μ := rfl
theorem q_items_str : rdItems rest [.str z] μ = (z.length ≤ 1000000 ∧ rest (sgn z) μ) := rfl
theorem q_items_hdl : rdItems rest [.hdl p] μ = ∃ xs, μ p = some (.lst xs) ∧ rest xs μ := rfl
theorem q_inB_lst : rdInB neg x (.lst xs) μ K = ((flatD x = true ∧ xs.all flatD = true) ∧ K (.bl (if neg then !(xs.any fun y => deq y x) else xs.any fun y => deq y x)) μ) := rfl
theorem q_inB_tup : rdInB neg x (.tup xs) μ K = ((flatD x = true ∧ xs.all flatD = true) ∧ K (.bl (if neg then !(xs.any fun y => deq y x) else xs.any fun y => deq y x)) μ) := rfl
theorem q_sign_str : rdSign g (.str z) (.str [c]) μ K = K (.int (g z c)) μ := rfl
theorem q_index_lst : rdIndex (.lst xs) x μ K = (xs.all flatD = true ∧ flatD x = true ∧ ∃ j, xs.findIdx? (fun z => deq z x) = some j ∧ K (.int j) μ) := rfl
theorem q_dget_dk : rdDGet (.dk ks ds) x μ K = ∃ k d, keyD x = some k ∧ valD ks ds k = some d ∧ K d μ := rfl
theorem q_dget_hdl : rdDGet (.hdl p) x μ K = ∃ ks ds k d, μ p = some (.dk ks ds) ∧ keyD x = some k ∧ valD ks ds k = some d ∧ K d μ := rfl
theorem q_sort_lst : rdSortT [.lst xs] μ K = ∃ zs, xs = zs.map .str ∧ ∀ out : List (List Nat), srtD zs out → K (.lst (out.map .str)) μ := rfl
theorem q_sort_str : rdSortT [.str z] μ K = (z.length ≤ 1000000 ∧ ∀ out : List (List Nat), srtD (z.map fun c => [c]) out → K (.lst (out.map .str)) μ) := rfl
end
theorem q_int_int {i : Int} {μ : Mu} {K : KD} : rdInt [.int i] μ K = K (.int i) μ := rfl
theorem q_int_bl {k : Bool} {μ : Mu} {K : KD} : rdInt [.bl k] μ K = K (.int (if k then 1 else 0)) μ := rfl
theorem q_setD_hdl {p : Addr} {y v : Dt} {μ : Mu} {Kp : Mu → Prop} : rdSetD (.hdl p) y v μ Kp = ∃ ks ds k, μ p = some (.dk ks ds) ∧ keyD y = some k ∧ ks.length < 1000000 ∧ Kp (mset μ p (putD ks ds k v)) := rfl
theorem q_isNon_non : isNon .non = true := rfl
theorem q_isNon_bl {b : Bool} : isNon (.bl b) = false := rfl
theorem q_isNon_int {i : Int} : isNon (.int i) = false := rfl
theorem q_isNon_str {z : List Nat} : isNon (.str z) = false := rfl
theorem q_isNon_tup {z : List Dt} : isNon (.tup z) = false := rfl
theorem q_isNon_lst {z : List Dt} : isNon (.lst z) = false := rfl
theorem q_isBl_bl {b : Bool} : isBlD (.bl b) = true := rfl
theorem q_isBl_int {i : Int} : isBlD (.int i) = false := rfl
theorem q_flat_non : flatD .non = true := rfl
theorem q_flat_bl {b : Bool} : flatD (.bl b) = true := rfl
theorem q_flat_int {i : Int} : flatD (.int i) = true := rfl
theorem q_flat_str {z : List Nat} : flatD (.str z) = true := rfl
theorem q_key_int {i : Int} : keyD (.int i) = some (.inl i) := rfl
theorem q_key_str {z : List Nat} : keyD (.str z) = some (.inr (mkS z)) := rfl
theorem q_shl_non {n : Nat} : shl n .non = true := by unfold shl <;> rfl
theorem q_shl_bl {n : Nat} {b : Bool} : shl n (.bl b) = true := by unfold shl <;> rfl
theorem q_shl_int {n : Nat} {i : Int} : shl n (.int i) = true := by unfold shl <;> rfl
theorem q_shl_str {n : Nat} {z : List Nat} : shl n (.str z) = true := by unfold shl <;> rfl
theorem q_shl_tup {n : Nat} {z : List Dt} : shl (n + 1) (.tup z) = shlAll n z := by simp [shl]
theorem q_shl_lst {n : Nat} {z : List Dt} : shl (n + 1) (.lst z) = shlAll n z := by simp [shl]
theorem q_shlAll_nil {n : Nat} : shlAll n [] = true := rfl
theorem q_shlAll_cons {n : Nat} {x : Dt} {xs : List Dt} : shlAll n (x :: xs) = (shl n x && shlAll n xs) := rfl
theorem q_deq_non : deq .non .non = true := rfl
theorem q_deq_bl {a b : Bool} : deq (.bl a) (.bl b) = (a == b) := rfl
theorem q_deq_tup {a b : List Dt} : deq (.tup a) (.tup b) = deqAll a b := rfl
theorem q_deq_lst {a b : List Dt} : deq (.lst a) (.lst b) = deqAll a b := rfl
theorem q_deqAll_nil : deqAll [] [] = true := rfl
theorem q_deqAll_cons {x y : Dt} {xs ys : List Dt} : deqAll (x :: xs) (y :: ys) = (deq x y && deqAll xs ys) := rfl
/-- a comprehension whose elements are plain -/
theorem lc_pure {α : Type} {di : DI} {dg : DG} {dt : DT} {de : DE} {vs : List Nat} {ρ : DEnv} {μ : Mu} {K : KD} (zs : List α) (f : α → Dt) (b : α → Bool) (g : α → Dt) (hdi : ∀ K' : List Dt → Mu → Prop, K' (zs.map f) μ → di ρ μ K') (hl : zs.length ≤ 1000000)
    (h : ∀ x ∈ zs, ∀ (J : List Dt → Prop) (acc : List Dt), (b x = true → J (acc ++ [g x])) → (b x = false → J acc) → dg (f x) (dwipe ρ vs) μ fun ρ2 μ2 => dt ρ2 μ2 fun c μ3 => (c = true → de ρ2 μ3 fun y μ4 => μ4 = μ ∧ J (acc ++ [y])) ∧ (c = false → μ3 = μ ∧ J acc))
    (hk : K (.lst ((zs.filter b).map g)) μ) : dLc di dg dt de vs ρ μ K := by
  refine hdi _ ⟨by simpa using hl, fun i acc μ' => μ' = μ ∧ acc = ((zs.take i).filter b).map g, ⟨rfl, by simp⟩, fun i x acc μ' hx hI => ?_, fun acc μ' hI => ?_⟩
  · obtain ⟨rfl, rfl⟩ := hI
    rw [List.getElem?_map] at hx
    cases hz : zs[i]? with
    | none => rw [hz] at hx; cases hx
    | some z =>
      rw [hz] at hx
      cases hx
      have e : zs.take (i + 1) = zs.take i ++ [z] := by rw [List.take_succ, hz]; rfl
      refine h z (List.mem_of_getElem? hz) (fun acc => acc = ((zs.take (i + 1)).filter b).map g) _ (fun hb => ?_) (fun hb => ?_)
      · rw [e]; simp [hb]
      · rw [e]; simp [hb]
  · obtain ⟨rfl, rfl⟩ := hI
    rw [List.length_map, List.take_length]
    exact hk
/-- the same, where what is walked may change what is owned -/
theorem lc_gen {α : Type} {di : DI} {dg : DG} {dt : DT} {de : DE} {vs : List Nat} {ρ : DEnv} {μ : Mu} {K : KD} (Pm : Mu → Prop) (zs : List α) (f : α → Dt) (b : α → Bool) (g : α → Dt) (hdi : ∀ K' : List Dt → Mu → Prop, (∀ μ1, Pm μ1 → K' (zs.map f) μ1) → di ρ μ K') (hl : zs.length ≤ 1000000)
    (h : ∀ μ1, Pm μ1 → ∀ x ∈ zs, ∀ (J : List Dt → Prop) (acc : List Dt), (b x = true → J (acc ++ [g x])) → (b x = false → J acc) → dg (f x) (dwipe ρ vs) μ1 fun ρ2 μ2 => dt ρ2 μ2 fun c μ3 => (c = true → de ρ2 μ3 fun y μ4 => μ4 = μ1 ∧ J (acc ++ [y])) ∧ (c = false → μ3 = μ1 ∧ J acc))
    (hk : ∀ μ1, Pm μ1 → K (.lst ((zs.filter b).map g)) μ1) : dLc di dg dt de vs ρ μ K :=
  hdi _ fun μ1 hp => (lc_pure (di := fun _ μ' K' => K' (zs.map f) μ') (μ := μ1) zs f b g (fun _ k => k) hl (h μ1 hp) (hk μ1 hp) : dLc (fun _ μ' K' => K' (zs.map f) μ') dg dt de vs ρ μ1 K)
theorem q_src_str {z : List Nat} : srcD (.str z) = some (sgn z) := rfl
theorem q_src_lst {z : List Dt} : srcD (.lst z) = some z := rfl
theorem q_src_tup {z : List Dt} : srcD (.tup z) = some z := rfl
theorem zip_ints (x y : List Int) : zipD (x.map .int) (y.map .int) = (x.zip y).map fun p => .tup [.int p.1, .int p.2] := by
  induction x generalizing y with
  | nil => simp [zipD]
  | cons a x ih =>
    cases y with
    | nil => simp [zipD]
    | cons b y => simp [zipD, ih]
theorem q_deq_ints (x : Int) (ys : List Int) : ((ys.map Dt.int).any fun y => deq y (.int x)) = decide (x ∈ ys) := by
  induction ys with
  | nil => simp
  | cons y ys ih => simp [ih, eq_comm]
theorem q_flat_ints (ys : List Int) : (ys.map Dt.int).all flatD = true := by
  simp [flatD]
theorem q_idx_ints (x : Int) (ys : List Int) : (ys.map Dt.int).findIdx? (fun z => deq z (.int x)) = ys.findIdx? (fun v => decide (v = x)) := by
  rw [List.findIdx?_map]
  congr 1
theorem filt_true {α : Type} (l : List α) : (l.filter fun _ => true) = l := List.filter_eq_self.mpr fun _ _ => rfl
theorem fi_some {α : Type} {p : α → Bool} {l : List α} {i : Nat} {a : α} (h : l[i]? = some a) (hp : p a = true) (hb : ∀ j b, j < i → l[j]? = some b → p b = false) : l.findIdx? p = some i := by
  rw [List.findIdx?_eq_some_iff_getElem]
  obtain ⟨hi, e⟩ := List.getElem?_eq_some_iff.mp h
  refine ⟨hi, by rw [e]; exact hp, fun j hj => ?_⟩
  rw [hb j _ hj (List.getElem?_eq_getElem (by omega))]
  decide
theorem fi_none {α : Type} {p : α → Bool} {l : List α} (hb : ∀ j b, j < l.length → l[j]? = some b → p b = false) : l.findIdx? p = none := by
  rw [List.findIdx?_eq_none_iff]
  intro x hx
  obtain ⟨j, hj, e⟩ := List.mem_iff_getElem.mp hx
  exact hb j x hj (by rw [List.getElem?_eq_getElem hj, e])
theorem rngD_of {lo : Int} {n i : Nat} {d : Dt} (h : (rngD lo n)[i]? = some d) : i < n ∧ d = .int (lo + i) := by
  unfold rngD at h
  rw [List.getElem?_map] at h
  by_cases hi : i < n
  · rw [List.getElem?_range hi] at h
    exact ⟨hi, (Option.some.inj h).symm⟩
  · rw [List.getElem?_eq_none (by simpa using hi)] at h
    cases h
theorem rngD_len {lo : Int} {n : Nat} : (rngD lo n).length = n := by simp [rngD]
theorem q_nil : (Str.ofString "").cps.toList = [] := rfl
theorem q_deq_strs (x y : List (List Nat)) : deqAll (x.map .str) (y.map .str) = decide (x = y) := by
  induction x generalizing y with
  | nil =>
    cases y with
    | nil => rfl
    | cons b y => simp [deqAll]
  | cons a x ih =>
    cases y with
    | nil => simp [deqAll]
    | cons b y =>
      simp only [List.map_cons, q_deqAll_cons, q_deq_str, ih]
      by_cases h1 : a = b <;> by_cases h2 : x = y <;> simp [h1, h2]
theorem q_shl_strs {n : Nat} (x : List (List Nat)) : shlAll n (x.map .str) = true := by
  rw [shlAll_iff]
  intro d hd
  obtain ⟨z, _, rfl⟩ := List.mem_map.mp hd
  exact q_shl_str
theorem flat1 (z : List Nat) : (z.map fun c => [c]).flatten = z := by
  induction z with
  | nil => rfl
  | cons a z ih => simp [ih]
theorem perm1 {x y : List Nat} : (x.map fun c => [c]).Perm (y.map fun c => [c]) ↔ x.Perm y := by
  refine ⟨fun h => ?_, fun h => h.map _⟩
  have := h.flatten
  rwa [flat1, flat1] at this
theorem srt_eq {x y : List Nat} {a b : List (List Nat)} (h1 : srtD (x.map fun c => [c]) a) (h2 : srtD (y.map fun c => [c]) b) : a = b ↔ x.Perm y := (srtD_unique h1 h2).trans perm1
theorem join_ok {y : Dt} {μ : Mu} {K : KD} (zs : List (List Nat)) (hy : y = .lst (zs.map .str)) (hl : zs.flatten.length ≤ 1000000) (k : K (.str zs.flatten) μ) : rdJoin (cS "") y μ K :=
  ⟨zs, rfl, hy, hl, k⟩
theorem str_src {z : List Nat} {μ : Mu} {ρ : DEnv} {i : Nat} {K' : List Dt → Mu → Prop} (hi : dget ρ i = some (.str z)) (k : K' (z.map fun c => .str [c]) μ) : iStrD (dVar i) ρ μ K' := ⟨_, hi, z, rfl, k⟩
theorem enumD_of : ∀ {k : Nat} {xs : List Dt} {i : Nat} {d : Dt}, (enumD k xs)[i]? = some d → ∃ x, xs[i]? = some x ∧ d = .tup [.int ((k + i : Nat) : Int), x] := fun {k xs i d} h => by
  cases e : xs[i]? with
  | none =>
    rw [List.getElem?_eq_none (by rw [enumD_length]; exact List.getElem?_eq_none_iff.mp e)] at h
    cases h
  | some x =>
    rw [enumD_get e] at h
    exact ⟨x, rfl, (Option.some.inj h).symm⟩
theorem mset_mset {μ : Mu} {p : Addr} {a b : OD} : mset (mset μ p a) p b = mset μ p b := by
  funext x
  unfold mset
  split <;> rfl
/-- what is owned stays as it is -/
def Kp (μ μ' : Mu) : Prop := ∀ p o, μ p = some o → μ' p = some o
theorem Kp.refl {μ : Mu} : Kp μ μ := fun _ _ h => h
theorem Kp.trans {μ μ1 μ2 : Mu} (a : Kp μ μ1) (b : Kp μ1 μ2) : Kp μ μ2 := fun p o h => b p o (a p o h)
theorem Kp.new {μ : Mu} {p : Addr} {o : OD} (h : μ p = none) : Kp μ (mset μ p o) := fun q o' hq => by
  by_cases e : q = p
  · rw [e, h] at hq; cases hq
  · rw [mset_ne e]; exact hq
theorem Kp.give {μ μ' : Mu} {p : Addr} (h : μ p = none) (k : Kp μ μ') : Kp μ (mdel μ' p) := fun q o' hq => by
  by_cases e : q = p
  · rw [e, h] at hq; cases hq
  · rw [mdel_ne e]; exact k q o' hq
/-- a loop, with what holds at each turn -/
theorem for_use {di : DI} {dg : DG} {body : DS} {F : DEnds} {ρ : DEnv} {μ : Mu} (xs : List Dt) (Iv : Nat → DEnv → Mu → Prop) (hdi : ∀ K' : List Dt → Mu → Prop, K' xs μ → di ρ μ K') (h0 : Iv 0 ρ μ)
    (step : ∀ i x ρ' μ', xs[i]? = some x → Iv i ρ' μ' → dg x ρ' μ' fun ρ2 μ2 => body { F with nx := Iv (i + 1), ct := Iv (i + 1), bk := F.nx } ρ2 μ2) (fin : ∀ ρ' μ', Iv xs.length ρ' μ' → F.nx ρ' μ') : dFor di dg body F ρ μ :=
  hdi _ ⟨Iv, h0, step, fin⟩
theorem zip_str {x y : List Nat} {K' : List Dt → Mu → Prop} {μ : Mu} {ρ : DEnv} {i j : Nat} (hi : dget ρ i = some (.str x)) (hj : dget ρ j = some (.str y)) (k : K' (zipD (sgn x) (sgn y)) μ) : iZipD (dCons (dVar i) (dCons (dVar j) dNil)) ρ μ K' :=
  ⟨_, hi, _, hj, _, _, _, _, rfl, rfl, rfl, k⟩
theorem zipD_of : ∀ {x y : List Dt} {i : Nat} {d : Dt}, (zipD x y)[i]? = some d → ∃ a b, x[i]? = some a ∧ y[i]? = some b ∧ d = .tup [a, b]
  | [], _, _, _, h => by simp [zipD] at h
  | _ :: _, [], _, _, h => by simp [zipD] at h
  | a :: x, b :: y, 0, d, h => ⟨a, b, rfl, rfl, by simpa [zipD] using h.symm⟩
  | a :: x, b :: y, i + 1, d, h => by
    have h : (zipD x y)[i]? = some d := by simpa [zipD] using h
    obtain ⟨p, q, h1, h2, h3⟩ := zipD_of h
    exact ⟨p, q, by simpa using h1, by simpa using h2, h3⟩
theorem sgn_of {x : List Nat} {i : Nat} {d : Dt} (h : (sgn x)[i]? = some d) : ∃ a, x[i]? = some a ∧ d = .str [a] := by
  unfold sgn at h
  rw [List.getElem?_map] at h
  cases e : x[i]? with
  | none => rw [e] at h; cases h
  | some a =>
    rw [e] at h
    exact ⟨a, rfl, (Option.some.inj h).symm⟩
end DL

set_option Elab.async false
set_option linter.all false
set_option maxRecDepth 100000
set_option maxHeartbeats 4000000
/-! Plain readings: dicts; where a sign stands. -/
namespace DL
open PySem PySem.Spec PyProof.Rows L2
theorem valD_not : ∀ {ks : List Key} {ds : List Dt} {k : Key}, k ∉ ks → valD ks ds k = none
  | [], _, _, _ => by simp [valD]
  | _ :: _, [], _, _ => by simp [valD]
  | k' :: ks, d :: ds, k, h => by
    have h1 : k' ≠ k := fun e => h (by rw [e]; exact List.mem_cons_self)
    simp only [valD, if_neg h1]
    exact valD_not fun z => h (List.mem_cons_of_mem _ z)
theorem putAt_length : ∀ {ks : List Key} {ds : List Dt} {k : Key} {d : Dt}, ks.length = ds.length → (putAt ks ds k d).length = ks.length
  | [], [], _, _, _ => rfl
  | [], _ :: _, _, _, h => by simp at h
  | _ :: _, [], _, _, h => by simp at h
  | k' :: ks, d' :: ds, k, d, h => by simp only [putAt, List.length_cons]; rw [putAt_length (by simpa using h)]
theorem valD_putAt : ∀ {ks : List Key} {ds : List Dt} {k k' : Key} {d : Dt}, ks.length = ds.length → k ∈ ks → valD ks (putAt ks ds k d) k' = if k = k' then some d else valD ks ds k'
  | [], _, _, _, _, _, h => by simp at h
  | _ :: _, [], _, _, _, hl, _ => by simp at hl
  | k0 :: ks, d0 :: ds, k, k', d, hl, h => by
    simp only [putAt, valD]
    by_cases e : k0 = k'
    · rw [if_pos e, if_pos e]
      by_cases e2 : k = k'
      · rw [if_pos e2, if_pos (e.trans e2.symm)]
      · rw [if_neg e2, if_neg fun z => e2 (z.symm.trans e)]
    · rw [if_neg e, if_neg e]
      by_cases hk : k ∈ ks
      · exact valD_putAt (by simpa using hl) hk
      · have ek : k = k0 := by
          rcases List.mem_cons.mp h with z | z
          · exact z
          · exact absurd z hk
        have nk : k ≠ k' := fun z => e (ek ▸ z)
        rw [if_neg nk]
        have same : ∀ {ks : List Key} {ds : List Dt}, ks.length = ds.length → k ∉ ks → putAt ks ds k d = ds := by
          intro ks
          induction ks with
          | nil => intro ds hl _; cases ds with
            | nil => rfl
            | cons => simp at hl
          | cons a ks ih => intro ds hl hn; cases ds with
            | nil => simp at hl
            | cons b ds =>
              have h1 : a ≠ k := fun e => hn (by rw [e]; exact List.mem_cons_self)
              simp only [putAt, if_neg h1]
              rw [ih (by simpa using hl) fun z => hn (List.mem_cons_of_mem _ z)]
        rw [same (by simpa using hl) hk]
theorem valD_snoc : ∀ {ks : List Key} {ds : List Dt} {k k' : Key} {d : Dt}, ks.length = ds.length → k ∉ ks → valD (ks ++ [k]) (ds ++ [d]) k' = if k = k' then some d else valD ks ds k'
  | [], [], k, k', d, _, _ => by simp [valD]
  | [], _ :: _, _, _, _, hl, _ => by simp at hl
  | _ :: _, [], _, _, _, hl, _ => by simp at hl
  | k0 :: ks, d0 :: ds, k, k', d, hl, h => by
    have h1 : k0 ≠ k := fun e => h (by rw [e]; exact List.mem_cons_self)
    simp only [List.cons_append, valD]
    rw [valD_snoc (by simpa using hl) fun z => h (List.mem_cons_of_mem _ z)]
    by_cases e : k0 = k'
    · rw [if_pos e, if_pos e, if_neg fun z => h1 (e.trans z.symm)]
    · rw [if_neg e, if_neg e]
theorem putD_val {ks : List Key} {ds : List Dt} (hl : ks.length = ds.length) (k : Key) (d : Dt) : ∃ ks' ds', putD ks ds k d = .dk ks' ds' ∧ ks'.length = ds'.length ∧ ks'.length ≤ ks.length + 1 ∧ ∀ k', valD ks' ds' k' = if k = k' then some d else valD ks ds k' := by
  unfold putD
  by_cases h : k ∈ ks
  · have ha : (ks.any fun x => decide (x = k)) = true := List.any_eq_true.mpr ⟨k, h, by simp⟩
    rw [if_pos ha]
    exact ⟨_, _, rfl, by rw [putAt_length hl], by omega, fun k' => valD_putAt hl h⟩
  · have ha : ¬ (ks.any fun x => decide (x = k)) = true := fun z => by
      obtain ⟨x, hx, e⟩ := List.any_eq_true.mp z
      exact h (by rw [← of_decide_eq_true e]; exact hx)
    rw [if_neg ha]
    exact ⟨_, _, rfl, by simp [hl], by simp, fun k' => valD_snoc hl h⟩
abbrev kS (s : Nat) : Key := .inr (mkS [s])
theorem kS_inj {s t : Nat} (h : kS s = kS t) : s = t := by
  have := mkS_inj (Sum.inr.inj h)
  simpa using this
/-- where s stands -/
def posR (s : Nat) : Nat → List Nat → List Int
  | _, [] => []
  | m, x :: r => if x = s then (m : Int) :: posR s (m + 1) r else posR s (m + 1) r
theorem posR_snoc (s x : Nat) : ∀ (m : Nat) (z : List Nat), posR s m (z ++ [x]) = posR s m z ++ (if x = s then [((m + z.length : Nat) : Int)] else [])
  | m, [] => by by_cases h : x = s <;> simp [posR, h]
  | m, y :: r => by
    rw [List.cons_append]
    unfold posR
    rw [posR_snoc s x (m + 1) r]
    have e : m + 1 + r.length = m + (y :: r).length := by simp; omega
    rw [e]
    by_cases h : y = s
    · rw [if_pos h, if_pos h]; rfl
    · rw [if_neg h, if_neg h]
theorem posR_length (s : Nat) : ∀ (m : Nat) (z : List Nat), (posR s m z).length = z.count s
  | m, [] => by simp [posR]
  | m, y :: r => by
    unfold posR
    by_cases h : y = s
    · rw [if_pos h, List.length_cons, posR_length s (m + 1) r, h]; simp
    · rw [if_neg h, posR_length s (m + 1) r, List.count_cons]; simp [h]
theorem Kp.set {μ μ' : Mu} {p : Addr} {o : OD} (h : μ p = none) (k : Kp μ μ') : Kp μ (mset μ' p o) := fun q o' hq => by
  by_cases e : q = p
  · rw [e, h] at hq; cases hq
  · rw [mset_ne e]; exact k q o' hq
theorem mset_swap {μ : Mu} {p q : Addr} {a b c : OD} (h : p ≠ q) : mset (mset (mset μ p a) q b) p c = mset (mset μ p c) q b := by
  funext x
  unfold mset
  by_cases h1 : x = p
  · subst h1
    simp [h]
  · simp [h1]
end DL

set_option Elab.async false
set_option linter.all false
set_option maxRecDepth 100000
set_option maxHeartbeats 4000000
namespace K17
open PySem PySem.Spec PyProof.Rows L2 L2H DL
local macro_rules | `(tactic| walk_at "rd") => `(tactic| simp only [dget_z, dget_s, dSeq, dSet, dRet, dRetN, dDrop, dIfS, dBrk, dCnt, dNever, dNext, dVar, dC, dOp, dTest, dChain, dAnd, dOr, dNot, dAndV, dOrV, dNotV, dIf, dNil, dCons, dTup, dLst, dLstO, dCB, dAug, dGive, dGiveD, dstart, dAsg, dAsg3, dYes, gNm, gNilD, gConsD, gTupD, iLst, iTupD, iStrD, iR1, iR2, iZipD, iEnumD, iEnumZD, dPut, dPutD, dSl, dRevS, oNo, oInt, dM1, dApp, dIndex, dDGet2, dDNew, dSetd, dNeg, dIsB, dRepEq, dRaise, dRetX, dTry, dIsX, dAt, rdEq, rdNe, rdIsN, rdNotN,  rdIn, rdNotIn,   rdI, rdI0, rdSub, rdFdiv, rdMod, rdPow, rdXor, rdLt, rdLe, rdGt, rdGe,      rdMin,  rdListD,   rdCountS, rdRfindS,          dwipe, q_deq_str, q_deq_int,
  q_int_int, q_int_bl, q_setD_hdl, rdListO, q_ix_lst, q_ix_tup, q_ix_str, q_ix_hdl, q_ix_scr, q_setL_hdl, q_add_int, q_add_str, q_add_lst, q_add_tup, q_mul_int, q_mul_str, q_sl_lst, q_sl_tup, q_sl_str, q_len_str, q_len_lst, q_len_tup, q_len_scr, q_len_hdl, q_items_lst, q_items_tup, q_items_str, q_items_hdl, q_inB_lst, q_inB_tup, q_sign_str, q_index_lst, q_dget_dk, q_dget_hdl, q_sort_lst, q_sort_str, q_src_str, q_src_lst, q_src_tup, q_isNon_non, q_isNon_bl, q_isNon_int, q_isNon_str, q_isNon_tup, q_isNon_lst, q_isBl_bl, q_isBl_int, q_flat_non, q_flat_bl, q_flat_int, q_flat_str, q_key_int, q_key_str, q_shl_non, q_shl_bl, q_shl_int, q_shl_str, q_shl_tup, q_shl_lst, q_shlAll_nil, q_shlAll_cons, q_deq_non, q_deq_bl, q_deq_tup, q_deq_lst, q_deqAll_nil, q_deqAll_cons,
  List.any_cons, List.any_nil, List.all_cons, List.all_nil, if_true, Bool.or_false, Bool.and_true, Bool.true_and, Bool.not_or, Bool.and_eq_true, Bool.and_eq_false_iff, q_nil, List.append_nil, q_deq_strs, q_shl_strs, q_flat_ints, q_deq_ints, q_idx_ints, if_false, reduceIte,
  List.length_cons, List.length_nil, List.map_cons, List.map_nil, List.cons_append, List.nil_append, List.set_cons_zero, List.set_cons_succ, List.replicate, Option.some.injEq, exists_eq_left', exists_eq_left, exists_eq', exists_eq, exists_and_left, exists_const, true_and, and_true, and_self, forall_const, Dt.int.injEq, Dt.str.injEq, Dt.bl.injEq, Dt.hdl.injEq, OD.lst.injEq, OD.dk.injEq, mset_same, mset_mset, List.length_map, Dt.tup.injEq, Dt.lst.injEq, Nat.reduceAdd, Nat.reduceSub, Nat.zero_add, decide_eq_true_eq, decide_eq_false_iff_not, List.cons.injEq, and_assoc, eq_self, Bool.not_eq_true', Bool.not_eq_false', Bool.true_eq_false, Bool.false_eq_true, false_implies, implies_true, not_true_eq_false, not_false_eq_true, reduceCtorEq, false_and, and_false, exists_false, ne_eq])
-- body
def struck (old new : List Nat) (x : Nat) : Bool := decide (0 ≤ rfindD new x) && decide (new.take (rfindD new x).toNat ++ new.drop ((rfindD new x).toNat + 1) = old)
def sp_strikes_last : SpD := fun ds μ K => ∃ (old new : List Nat) (x : Nat), ds = [.str old, .str new, .str [x]] ∧ old.length ≤ 1000 ∧ new.length ≤ 1000 ∧ K (.bl (struck old new x)) μ
theorem p_strikes_last (ds : List Dt) (μ : Mu) (Kd : KD) (h : sp_strikes_last ds μ Kd) : rd_strikes_last { nx := fun _ μ' => Kd .non μ', rt := Kd } (dstart N_strikes_last ds) μ := by
  obtain ⟨old, new, x, rfl, h1, h2, k⟩ := h
  unfold rd_strikes_last
  walk_at "rd"
  refine ⟨fun h0 => ⟨by omega, ?_⟩, fun h0 => ?_⟩
  · rw [cutD_toI _ h0, cutD_fromI _ (by omega), show (rfindD new x + 1).toNat = (rfindD new x).toNat + 1 by omega]
    have hl : (new.take (rfindD new x).toNat ++ new.drop ((rfindD new x).toNat + 1)).length ≤ new.length := by simp; omega
    rw [← List.length_append]
    refine ⟨by omega, by omega, ?_⟩
    have e : struck old new x = decide (new.take (rfindD new x).toNat ++ new.drop ((rfindD new x).toNat + 1) = old) := by simp [struck, h0]
    rw [← e]
    exact k
  · simpa [struck, h0] using k
theorem e_strikes_last {old new : List Nat} {x : Nat} {μ : Mu} {K : KD} : sp_strikes_last [.str old, .str new, .str [x]] μ K = (old.length ≤ 1000 ∧ new.length ≤ 1000 ∧ K (.bl (struck old new x)) μ) := by
  unfold sp_strikes_last
  walk_at "rd"
def commonF : List Nat → List Nat → Nat
  | a :: x, b :: y => if a = b then commonF x y + 1 else 0
  | _, _ => 0
def sp_common_front : SpD := fun ds μ K => ∃ (old new : List Nat), ds = [.str old, .str new] ∧ K (.int (commonF old new)) μ
theorem e_common_front {a b : List Nat} {μ : Mu} {K : KD} : sp_common_front [.str a, .str b] μ K = K (.int (commonF a b)) μ := by
  unfold sp_common_front
  walk_at "rd"
theorem commonF_at : ∀ {x y : List Nat} {i : Nat} {a b : Nat}, i ≤ commonF x y → x[i]? = some a → y[i]? = some b → (a = b → i + 1 ≤ commonF x y) ∧ (a ≠ b → commonF x y = i)
  | [], _, _, _, _, _, h1, _ => by simp at h1
  | _ :: _, [], _, _, _, _, _, h2 => by simp at h2
  | c :: x, d :: y, 0, a, b, _, h1, h2 => by
    simp at h1 h2
    subst h1 h2
    refine ⟨fun e => ?_, fun e => ?_⟩ <;> simp [commonF, e]
  | c :: x, d :: y, i + 1, a, b, h, h1, h2 => by
    by_cases e : c = d
    · simp only [commonF, e, if_true] at h ⊢
      obtain ⟨p, q⟩ := commonF_at (Nat.le_of_succ_le_succ h) (by simpa using h1) (by simpa using h2)
      exact ⟨fun e => by have := p e; omega, fun e => by rw [q e]⟩
    · simp [commonF, e] at h
theorem commonF_le : ∀ (x y : List Nat), commonF x y ≤ x.length ∧ commonF x y ≤ y.length
  | [], _ => by simp [commonF]
  | _ :: _, [] => by simp [commonF]
  | a :: x, b :: y => by
    have := commonF_le x y
    unfold commonF
    split <;> simp <;> omega
theorem p_common_front (ds : List Dt) (μ : Mu) (Kd : KD) (h : sp_common_front ds μ Kd) : rd_common_front { nx := fun _ μ' => Kd .non μ', rt := Kd } (dstart N_common_front ds) μ := by
  obtain ⟨old, new, rfl, k⟩ := h
  unfold rd_common_front
  walk_at "rd"
  refine for_use (zipD (sgn old) (sgn new)) (fun i ρ' μ' => μ' = μ ∧ i ≤ commonF old new ∧ ∃ o p, ρ' = [some (.str old), some (.str new), some (.int i), o, p]) (fun K' k => zip_str rfl rfl k) ⟨rfl, Nat.zero_le _, _, _, rfl⟩ (fun i d ρ' μ' hd hI => ?_) (fun ρ' μ' hI => ?_)
  · obtain ⟨rfl, hi, o, p, rfl⟩ := hI
    obtain ⟨_, _, h1, h2, rfl⟩ := zipD_of hd
    obtain ⟨a, ha, rfl⟩ := sgn_of h1
    obtain ⟨b, hb, rfl⟩ := sgn_of h2
    obtain ⟨e1, e2⟩ := commonF_at hi ha hb
    walk_at "rd"
    refine ⟨fun ne => ?_, fun e => ⟨e1 e, by simp⟩⟩
    rw [e2 ne] at k
    exact k
  · obtain ⟨rfl, hi, o, p, rfl⟩ := hI
    walk_at "rd"
    have := commonF_le old new
    rw [zipD_length, sgn_length, sgn_length] at hi ⊢
    have e : min old.length new.length = commonF old new := by omega
    rw [e]
    exact k
-- free places
def runO (old new : List Nat) (k : Nat) : Option (Nat × Nat) :=
  if new.length = old.length + 1 ∧ old.length - commonF old.reverse new.reverse ≤ commonF old new ∧ new[commonF old new]? = some k then some (old.length - commonF old.reverse new.reverse, commonF old new) else none
def runDt : Option (Nat × Nat) → Dt
  | some (a, b) => .tup [.int a, .int b]
  | none => .non
def sp_free_places : SpD := fun ds μ K => ∃ (old new : List Nat) (c : Nat), ds = [.str old, .str new, .str [c]] ∧ old.length ≤ 1000 ∧ new.length ≤ 1000 ∧ K (runDt (runO old new c)) μ
theorem p_free_places (ds : List Dt) (μ : Mu) (Kd : KD) (h : sp_free_places ds μ Kd) : rd_free_places sp_common_front { nx := fun _ μ' => Kd .non μ', rt := Kd } (dstart N_free_places ds) μ := by
  obtain ⟨old, new, c, rfl, h1, h2, k⟩ := h
  unfold rd_free_places
  walk_at "rd"
  simp only [e_common_front]
  walk_at "rd"
  refine ⟨by omega, by omega, fun ne => ?_, fun e => ⟨by omega, by omega, by omega, fun lt => ?_, fun ge => ⟨by omega, ?_⟩⟩⟩
  · have : runO old new c = none := by
      unfold runO
      rw [if_neg fun z => ne (by have := z.1; omega)]
    rw [this] at k
    exact k
  · have : runO old new c = none := by
      unfold runO
      rw [if_neg fun z => by have := z.2.1; omega]
    rw [this] at k
    exact k
  · have hb := commonF_le old new
    have hlt : commonF old new < new.length := by omega
    refine ⟨new[commonF old new], by rw [atI_n, List.getElem?_eq_getElem hlt], fun ne => ?_, fun ec => ⟨by decide, ?_⟩⟩
    · have : runO old new c = none := by
        unfold runO
        rw [if_neg fun z => ne (by have := z.2.2; rw [List.getElem?_eq_getElem hlt] at this; exact Option.some.inj this)]
      rw [this] at k
      exact k
    · have : runO old new c = some (old.length - commonF old.reverse new.reverse, commonF old new) := by
        unfold runO
        rw [if_pos ⟨by omega, by omega, by rw [List.getElem?_eq_getElem hlt, ec]⟩]
      rw [this] at k
      have hr := (commonF_le old.reverse new.reverse).1
      rw [List.length_reverse] at hr
      have e2 : ((old.length : Int) - (commonF old.reverse new.reverse : Int)) = ((old.length - commonF old.reverse new.reverse : Nat) : Int) := by omega
      rw [e2]
      exact k
theorem e_free_places {a b : List Nat} {c : Nat} {μ : Mu} {K : KD} : sp_free_places [.str a, .str b, .str [c]] μ K = (a.length ≤ 1000 ∧ b.length ≤ 1000 ∧ K (runDt (runO a b c)) μ) := by
  unfold sp_free_places
  walk_at "rd"
def sp_strikes_some : SpD := fun ds μ K => ∃ (old new : List Nat) (c : Nat), ds = [.str old, .str new, .str [c]] ∧ old.length ≤ 1000 ∧ new.length ≤ 1000 ∧ K (.bl (runO old new c).isSome) μ
theorem isNon_run (o : Option (Nat × Nat)) : isNon (runDt o) = !o.isSome := by
  cases o <;> rfl
theorem p_strikes_some (ds : List Dt) (μ : Mu) (Kd : KD) (h : sp_strikes_some ds μ Kd) : rd_strikes_some sp_free_places { nx := fun _ μ' => Kd .non μ', rt := Kd } (dstart N_strikes_some ds) μ := by
  obtain ⟨old, new, c, rfl, h1, h2, k⟩ := h
  unfold rd_strikes_some
  walk_at "rd"
  simp only [e_free_places, isNon_run, Bool.not_not]
  exact ⟨h1, h2, k⟩
-- other tokens
def dropC (c : Option Nat) (z : List Nat) : List Nat := z.filter fun s => decide (some s ≠ c)
def cD : Option Nat → Dt
  | some k => .str [k]
  | none => .non
theorem deq_c (s : Nat) (c : Option Nat) : deq (.str [s]) (cD c) = decide (some s = c) := by
  cases c with
  | none => rfl
  | some k =>
    show deq (.str [s]) (.str [k]) = _
    rw [q_deq_str]
    simp
theorem shl_c (c : Option Nat) : shl 60 (cD c) = true := by
  cases c <;> rfl
def sp_other_tokens : SpD := fun ds μ K => ∃ (z : List Nat) (c : Option Nat), ds = [.str z, cD c] ∧ z.length ≤ 1000 ∧ K (.str (dropC c z)) μ
theorem p_other_tokens (ds : List Dt) (μ : Mu) (Kd : KD) (h : sp_other_tokens ds μ Kd) : rd_other_tokens { nx := fun _ μ' => Kd .non μ', rt := Kd } (dstart N_other_tokens ds) μ := by
  obtain ⟨z, c, rfl, h1, k⟩ := h
  unfold rd_other_tokens
  walk_at "rd"
  refine lc_pure z (fun c => .str [c]) (fun s => decide (some s ≠ c)) (fun c => .str [c]) (fun K' k => str_src rfl k) (by omega) (fun x hx J acc h1 h2 => ?_) ?_
  · walk_at "rd"
    simp only [shl_c, deq_c]
    walk_at "rd"
    exact ⟨fun h => h1 (by simpa using h), fun h => h2 (by simpa using h)⟩
  · refine join_ok ((dropC c z).map fun c => [c]) (by simp [dropC]) ?_ ?_
    · rw [flat1]
      have := List.length_filter_le (fun s => decide (some s ≠ c)) z
      unfold dropC
      omega
    · rw [flat1]
      exact k
theorem e_other_tokens {z : List Nat} {c : Option Nat} {μ : Mu} {K : KD} (k : z.length ≤ 1000 ∧ K (.str (dropC c z)) μ) : sp_other_tokens [.str z, cD c] μ K := ⟨z, c, rfl, k.1, k.2⟩
-- counts ahead
def aheadF (k : Nat) : Nat → List Nat → List Int
  | _, [] => []
  | m, s :: r => if s = k then aheadF k (m + 1) r else (m : Int) :: aheadF k m r
theorem aheadF_length (k : Nat) : ∀ (m : Nat) (z : List Nat), (aheadF k m z).length ≤ z.length
  | _, [] => by simp [aheadF]
  | m, s :: r => by
    unfold aheadF
    have h1 := aheadF_length k (m + 1) r
    have h2 := aheadF_length k m r
    split <;> simp <;> omega
theorem aheadF_snoc (k : Nat) (s : Nat) : ∀ (m : Nat) (z : List Nat), aheadF k m (z ++ [s]) = aheadF k m z ++ (if s = k then [] else [((m + z.count k : Nat) : Int)])
  | m, [] => by
    by_cases h : s = k <;> simp [aheadF, h]
  | m, x :: r => by
    rw [List.cons_append]
    unfold aheadF
    rw [aheadF_snoc k s (m + 1) r, aheadF_snoc k s m r]
    by_cases hx : x = k
    · rw [if_pos hx, if_pos hx, List.count_cons, hx]
      have e : m + 1 + r.count k = m + (r.count k + if k == k then 1 else 0) := by simp; omega
      rw [e]
    · rw [if_neg hx, if_neg hx, List.count_cons]
      simp [hx]
def sp_counts_ahead : SpD := fun ds μ K => ∃ (z : List Nat) (c : Nat), ds = [.str z, .str [c]] ∧ z.length ≤ 1000 ∧ ∀ μ', Kp μ μ' → K (.lst ((aheadF c 0 z).map .int)) μ'
theorem p_counts_ahead (ds : List Dt) (μ : Mu) (Kd : KD) (h : sp_counts_ahead ds μ Kd) : rd_counts_ahead { nx := fun _ μ' => Kd .non μ', rt := Kd } (dstart N_counts_ahead ds) μ := by
  obtain ⟨z, c, rfl, h1, k⟩ := h
  unfold rd_counts_ahead
  walk_at "rd"
  refine ⟨by decide, fun p hp => ?_⟩
  refine for_use (sgn z) (fun i ρ' μ' => μ' = mset μ p (.lst ((aheadF c 0 (z.take i)).map .int)) ∧ ∃ o, ρ' = [some (.str z), some (.str [c]), some (.hdl p), some (.int ((z.take i).count c)), o]) (fun K' k => str_src rfl k) ⟨by simp [aheadF], none, by simp⟩ (fun i d ρ' μ' hd hI => ?_) (fun ρ' μ' hI => ?_)
  · obtain ⟨rfl, o, rfl⟩ := hI
    obtain ⟨a, ha, rfl⟩ := sgn_of hd
    have e : z.take (i + 1) = z.take i ++ [a] := by rw [List.take_succ, ha]; rfl
    have hl := aheadF_length c 0 (z.take i)
    have hz : (z.take i).length ≤ 1000 := by rw [List.length_take]; omega
    walk_at "rd"
    refine ⟨fun ea => ⟨?_, ?_⟩, fun na => ⟨by omega, ?_, ?_⟩⟩
    · rw [e, aheadF_snoc, if_pos ea]; simp
    · rw [e, List.count_append]; simp [ea]
    · rw [e, aheadF_snoc, if_neg na]; simp
    · rw [e, List.count_append]; simp [na]
  · obtain ⟨rfl, o, rfl⟩ := hI
    walk_at "rd"
    rw [sgn_length, List.take_length]
    exact k _ (Kp.give hp (Kp.new hp))
theorem e_counts_ahead {z : List Nat} {c : Nat} {μ : Mu} {K : KD} : sp_counts_ahead [.str z, .str [c]] μ K = (z.length ≤ 1000 ∧ ∀ μ', Kp μ μ' → K (.lst ((aheadF c 0 z).map .int)) μ') := by
  unfold sp_counts_ahead
  walk_at "rd"
-- swap
def swapAt (x y : List Nat) : Option Nat := if commonF x y < min x.length y.length then some (commonF x y) else none
def tag1 (t : Str) : Option Nat → Dt
  | some i => .tup [cS t, .int i]
  | none => .non
def sp_swap_fault : SpD := fun ds μ K => ∃ (old new : List Nat) (c : Option Nat), ds = [.str old, .str new, cD c] ∧ old.length ≤ 1000 ∧ new.length ≤ 1000 ∧ K (tag1 "swap" (swapAt (dropC c old) (dropC c new))) μ
theorem p_swap_fault (ds : List Dt) (μ : Mu) (Kd : KD) (h : sp_swap_fault ds μ Kd) : rd_swap_fault sp_other_tokens { nx := fun _ μ' => Kd .non μ', rt := Kd } (dstart N_swap_fault ds) μ := by
  obtain ⟨old, new, c, rfl, h1, h2, k⟩ := h
  unfold rd_swap_fault
  walk_at "rd"
  refine for_use (enumD 0 (zipD (sgn (dropC c old)) (sgn (dropC c new)))) (fun i ρ' μ' => μ' = μ ∧ i ≤ commonF (dropC c old) (dropC c new) ∧ ∃ o p q, ρ' = [some (.str old), some (.str new), some (cD c), o, p, q]) (fun K' k => ?_) ⟨rfl, Nat.zero_le _, none, none, none, rfl⟩ (fun i d ρ' μ' hd hI => ?_) (fun ρ' μ' hI => ?_)
  · walk_at "rd"
    refine e_other_tokens ⟨h1, e_other_tokens ⟨h2, ?_⟩⟩
    walk_at "rd"
    exact k
  · obtain ⟨rfl, hi, o, p, q, rfl⟩ := hI
    obtain ⟨_, hd', rfl⟩ := enumD_of hd
    obtain ⟨_, _, g1, g2, rfl⟩ := zipD_of hd'
    rw [Nat.zero_add] at *
    obtain ⟨a, ha, rfl⟩ := sgn_of g1
    obtain ⟨b, hb, rfl⟩ := sgn_of g2
    obtain ⟨e1, e2⟩ := commonF_at hi ha hb
    walk_at "rd"
    refine ⟨fun ne => ⟨by decide, ?_⟩, e1⟩
    have hc : swapAt (dropC c old) (dropC c new) = some i := by
      unfold swapAt
      have l1 := (List.getElem?_eq_some_iff.mp ha).1
      have l2 := (List.getElem?_eq_some_iff.mp hb).1
      rw [e2 ne, if_pos (by omega)]
    rw [hc] at k
    exact k
  · obtain ⟨rfl, hi, o, p, q, rfl⟩ := hI
    walk_at "rd"
    have := commonF_le (dropC c old) (dropC c new)
    rw [enumD_length, zipD_length, sgn_length, sgn_length] at hi
    have hc : swapAt (dropC c old) (dropC c new) = none := by
      unfold swapAt
      rw [if_neg (by omega)]
    rw [hc] at k
    exact k
theorem e_swap_fault {old new : List Nat} {c : Option Nat} {μ : Mu} {K : KD} (k : old.length ≤ 1000 ∧ new.length ≤ 1000 ∧ K (tag1 "swap" (swapAt (dropC c old) (dropC c new))) μ) : sp_swap_fault [.str old, .str new, cD c] μ K := ⟨old, new, c, rfl, k.1, k.2.1, k.2.2⟩
-- shift
def stepsF (c : Nat) (old new : List Nat) : List Int := ((aheadF c 0 old).zip (aheadF c 0 new)).map fun p => p.2 - p.1
/-- the first jump, else the first bend -/
def shiftD (st : List Int) : Dt :=
  match st.findIdx? (fun v => decide (v ≠ 0 ∧ v ≠ 1)) with
  | some i => .tup [cS "jump", .int i]
  | none => match st.findIdx? (fun v => decide (v = 1)) with
    | none => .non
    | some i => match (st.drop (i + 1)).findIdx? (fun v => decide (v = 0)) with
      | none => .non
      | some j => .tup [cS "bend", .int i, .int (i + 1 + j : Nat)]
def sp_shift_fault : SpD := fun ds μ K => ∃ (old new : List Nat) (c : Nat), ds = [.str old, .str new, .str [c]] ∧ old.length ≤ 1000 ∧ new.length ≤ 1000 ∧ ∀ μ', Kp μ μ' → K (shiftD (stepsF c old new)) μ'
theorem p_shift_fault (ds : List Dt) (μ : Mu) (Kd : KD) (h : sp_shift_fault ds μ Kd) : rd_shift_fault sp_counts_ahead { nx := fun _ μ' => Kd .non μ', rt := Kd } (dstart N_shift_fault ds) μ := by
  obtain ⟨old, new, c, rfl, h1, h2, k⟩ := h
  unfold rd_shift_fault
  walk_at "rd"
  refine lc_gen (fun μ1 => Kp μ μ1) ((aheadF c 0 old).zip (aheadF c 0 new)) (fun p => .tup [.int p.1, .int p.2]) (fun _ => true) (fun p => .int (p.2 - p.1)) (fun K' k => ?_) ?_ (fun μ1 hm x hx J acc h1 h2 => ?_) (fun μ1 hm => ?_)
  · walk_at "rd"
    simp only [e_counts_ahead]
    walk_at "rd"
    refine ⟨h1, fun μ1 m1 => ⟨h2, fun μ2 m2 => ?_⟩⟩
    rw [zip_ints]
    exact k _ (m1.trans m2)
  · have := aheadF_length c 0 old
    simp
    omega
  · walk_at "rd"
    exact h1 rfl
  · have e : (((aheadF c 0 old).zip (aheadF c 0 new)).filter fun _ => true).map (fun p => Dt.int (p.2 - p.1)) = (stepsF c old new).map .int := by rw [filt_true]; simp [stepsF]
    rw [e]
    have hs : (stepsF c old new).length ≤ 1000 := by
      have := aheadF_length c 0 old
      unfold stepsF
      simp
      omega
    have kk : ∀ μ', Kp μ μ' → Kd (shiftD (stepsF c old new)) μ' := k
    clear k e
    generalize stepsF c old new = st at kk hs
    refine for_use (enumD 0 (st.map .int)) (fun i ρ' μ' => μ' = μ1 ∧ (∀ j v, j < i → st[j]? = some v → decide (v ≠ 0 ∧ v ≠ 1) = false) ∧ ∃ o p, ρ' = [some (.str old), some (.str new), some (.str [c]), some (.lst (st.map .int)), o, none, p, none, none]) (fun K' k => ?_) ⟨rfl, fun j v h => absurd h (Nat.not_lt_zero _), none, none, rfl⟩ (fun i d ρ' μ' hd hI => ?_) (fun ρ' μ' hI => ?_)
    · walk_at "rd"
      exact k
    · obtain ⟨rfl, hb, o, p, rfl⟩ := hI
      obtain ⟨_, hd', rfl⟩ := enumD_of hd
      rw [List.getElem?_map] at hd'
      cases hv : st[i]? with
      | none => rw [hv] at hd'; cases hd'
      | some v =>
        rw [hv] at hd'
        cases hd'
        walk_at "rd"
        refine ⟨by decide, fun hn => ⟨by decide, ?_⟩, fun hor j w hj hw => ?_⟩
        · have e : shiftD st = .tup [cS "jump", .int i] := by
            unfold shiftD
            rw [fi_some hv (by simp; exact ⟨fun z => hn.1 z.symm, fun z => hn.2 z.symm⟩) hb]
          have := kk _ hm
          rw [e] at this
          exact this
        · by_cases hji : j < i
          · simpa using hb j w hji hw
          · have : j = i := by omega
            subst this
            rw [hv] at hw
            cases hw
            omega
    · obtain ⟨rfl, hb, o, p, rfl⟩ := hI
      rw [enumD_length, List.length_map] at hb
      have h0 : st.findIdx? (fun v => decide (v ≠ 0 ∧ v ≠ 1)) = none := fi_none hb
      walk_at "rd"
      refine ⟨fun hn => ?_, fun hy => ?_⟩
      · have e : shiftD st = .non := by
          unfold shiftD
          rw [h0, fi_none (p := fun v => decide (v = 1)) fun j b _ hb => by simp; intro z; rw [z] at hb; exact hn (List.mem_of_getElem? hb)]
        have := kk _ hm
        rw [e] at this
        exact this
      · cases ej : st.findIdx? (fun v => decide (v = 1)) with
        | none =>
          rw [List.findIdx?_eq_none_iff] at ej
          have := ej 1 hy
          simp at this
        | some j =>
          have hj : j < st.length := by
            rw [List.findIdx?_eq_some_iff_getElem] at ej
            exact ej.choose
          refine ⟨j, rfl, ?_⟩
          refine for_use (rngD (j + 1) (st.length - (j + 1))) (fun i ρ' μ'' => μ'' = μ' ∧ (∀ m v, m < i → (st.drop (j + 1))[m]? = some v → decide (v = 0) = false) ∧ ∃ o, ρ' = [some (.str old), some (.str new), some (.str [c]), some (.lst (st.map .int)), some (.int j), o, p, none, none]) (fun K' k => ?_) ⟨rfl, fun m v h => absurd h (Nat.not_lt_zero _), none, rfl⟩ (fun i d ρ' μ2 hd hI => ?_) (fun ρ' μ2 hI => ?_)
          · walk_at "rd"
            have e : ((st.length : Int) - (j + 1)).toNat = st.length - (j + 1) := by omega
            rw [e]
            exact ⟨by omega, by omega, by omega, by omega, k⟩
          · obtain ⟨rfl, hm2, o2, rfl⟩ := hI
            obtain ⟨hi, rfl⟩ := rngD_of hd
            have hlt : j + 1 + i < st.length := by omega
            have hat : (st.drop (j + 1))[i]? = some st[j + 1 + i] := by rw [List.getElem?_drop, List.getElem?_eq_getElem hlt]
            walk_at "rd"
            have ei : ((j : Int) + 1 + i) = ((j + 1 + i : Nat) : Int) := by omega
            simp only [ei, atI_n, List.getElem?_map, List.getElem?_eq_getElem hlt, Option.map_some]
            walk_at "rd"
            refine ⟨fun hz => ⟨by decide, ?_⟩, fun hn m w hmi hw => ?_⟩
            · have e : shiftD st = .tup [cS "bend", .int j, .int (j + 1 + i : Nat)] := by
                have h2 : (st.drop (j + 1)).findIdx? (fun v => decide (v = 0)) = some i := fi_some hat (by simpa using hz) hm2
                simp only [shiftD, h0, ej, h2]
              have := kk _ hm
              rw [e] at this
              exact this
            · by_cases hji : m < i
              · simpa using hm2 m w hji hw
              · have : m = i := by omega
                subst this
                rw [hat] at hw
                cases hw
                exact hn
          · obtain ⟨rfl, hm2, o2, rfl⟩ := hI
            walk_at "rd"
            have e : shiftD st = .non := by
              rw [rngD_len] at hm2
              have h2 : (st.drop (j + 1)).findIdx? (fun v => decide (v = 0)) = none := fi_none fun m b hl hb => hm2 m b (by simpa using hl) hb
              simp only [shiftD, h0, ej, h2]
            have := kk _ hm
            rw [e] at this
            exact this
theorem e_shift_fault {old new : List Nat} {c : Nat} {μ : Mu} {K : KD} : sp_shift_fault [.str old, .str new, .str [c]] μ K = (old.length ≤ 1000 ∧ new.length ≤ 1000 ∧ ∀ μ', Kp μ μ' → K (shiftD (stepsF c old new)) μ') := by
  unfold sp_shift_fault
  walk_at "rd"
end K17

set_option Elab.async false
set_option linter.all false
set_option maxRecDepth 100000
set_option maxHeartbeats 4000000
namespace K17
open PySem PySem.Spec PyProof.Rows L2 L2H DL
local macro_rules | `(tactic| walk_at "rd") => `(tactic| simp only [dget_z, dget_s, dSeq, dSet, dRet, dRetN, dDrop, dIfS, dBrk, dCnt, dNever, dNext, dVar, dC, dOp, dTest, dChain, dAnd, dOr, dNot, dAndV, dOrV, dNotV, dIf, dNil, dCons, dTup, dLst, dLstO, dCB, dAug, dGive, dGiveD, dstart, dAsg, dAsg3, dYes, gNm, gNilD, gConsD, gTupD, iLst, iTupD, iStrD, iR1, iR2, iZipD, iEnumD, iEnumZD, dPut, dPutD, dSl, dRevS, oNo, oInt, dM1, dApp, dIndex, dDGet2, dDNew, dSetd, dNeg, dIsB, dRepEq, dRaise, dRetX, dTry, dIsX, dAt, rdEq, rdNe, rdIsN, rdNotN,  rdIn, rdNotIn,   rdI, rdI0, rdSub, rdFdiv, rdMod, rdPow, rdXor, rdLt, rdLe, rdGt, rdGe,      rdMin,  rdListD,   rdCountS, rdRfindS,          dwipe, q_deq_str, q_deq_int,
  q_int_int, q_int_bl, q_setD_hdl, rdListO, q_ix_lst, q_ix_tup, q_ix_str, q_ix_hdl, q_ix_scr, q_setL_hdl, q_add_int, q_add_str, q_add_lst, q_add_tup, q_mul_int, q_mul_str, q_sl_lst, q_sl_tup, q_sl_str, q_len_str, q_len_lst, q_len_tup, q_len_scr, q_len_hdl, q_items_lst, q_items_tup, q_items_str, q_items_hdl, q_inB_lst, q_inB_tup, q_sign_str, q_index_lst, q_dget_dk, q_dget_hdl, q_sort_lst, q_sort_str, q_src_str, q_src_lst, q_src_tup, q_isNon_non, q_isNon_bl, q_isNon_int, q_isNon_str, q_isNon_tup, q_isNon_lst, q_isBl_bl, q_isBl_int, q_flat_non, q_flat_bl, q_flat_int, q_flat_str, q_key_int, q_key_str, q_shl_non, q_shl_bl, q_shl_int, q_shl_str, q_shl_tup, q_shl_lst, q_shlAll_nil, q_shlAll_cons, q_deq_non, q_deq_bl, q_deq_tup, q_deq_lst, q_deqAll_nil, q_deqAll_cons,
  List.any_cons, List.any_nil, List.all_cons, List.all_nil, if_true, Bool.or_false, Bool.and_true, Bool.true_and, Bool.not_or, Bool.and_eq_true, Bool.and_eq_false_iff, q_nil, List.append_nil, q_deq_strs, q_shl_strs, q_flat_ints, q_deq_ints, q_idx_ints, if_false, reduceIte,
  List.length_cons, List.length_nil, List.map_cons, List.map_nil, List.cons_append, List.nil_append, List.set_cons_zero, List.set_cons_succ, List.replicate, Option.some.injEq, exists_eq_left', exists_eq_left, exists_eq', exists_eq, exists_and_left, exists_const, true_and, and_true, and_self, forall_const, Dt.int.injEq, Dt.str.injEq, Dt.bl.injEq, Dt.hdl.injEq, OD.lst.injEq, OD.dk.injEq, mset_same, mset_mset, List.length_map, Dt.tup.injEq, Dt.lst.injEq, Nat.reduceAdd, Nat.reduceSub, Nat.zero_add, Int.zero_add, decide_eq_true_eq, decide_eq_false_iff_not, List.cons.injEq, and_assoc, eq_self, Bool.not_eq_true', Bool.not_eq_false', Bool.true_eq_false, Bool.false_eq_true, false_implies, implies_true, not_true_eq_false, not_false_eq_true, reduceCtorEq, false_and, and_false, exists_false, ne_eq])
-- body
-- put
def putF (old : List Nat) (c : Nat) (p : Nat) : List Nat := old.take p ++ [c] ++ old.drop p
def sp_put (CN : Addr) : SpX := fun ds μ K Kx => ∃ (old : List Nat) (c : Nat) (p : Dt), ds = [.str old, .str [c], p] ∧ old.length ≤ 1000 ∧
  ((∃ i : Nat, p = .int i ∧ i ≤ old.length ∧ K (.str (putF old c i)) μ) ∨ (∃ i : Int, p = .int i ∧ (i < 0 ∨ old.length < i) ∧ Kx CN p μ) ∨ (∃ b, p = .bl b ∧ Kx CN p μ))
theorem p_put (CN : Addr) (ds : List Dt) (μ : Mu) (Kd : KD) (Kx : KXD) (h : sp_put CN ds μ Kd Kx) : rd_put CN { nx := fun _ μ' => Kd .non μ', rt := Kd, rx := fun C d _ μ' => Kx C d μ' } (dstart N_put ds) μ := by
  obtain ⟨old, c, p, rfl, h1, h⟩ := h
  unfold rd_put
  rcases h with ⟨i, rfl, hi, k⟩ | ⟨i, rfl, hi, k⟩ | ⟨b, rfl, k⟩
  · walk_at "rd"
    rw [cutD_to, cutD_from]
    refine ⟨fun _ => ⟨by omega, fun z => absurd (by omega) z, fun _ => ⟨by omega, ?_, by omega, ?_, k⟩⟩, fun z => absurd (by omega) z⟩
    · have := List.length_take_le i old
      omega
    · simp
      omega
  · walk_at "rd"
    refine ⟨fun _ => ⟨by omega, fun _ => k, fun z => ?_⟩, fun _ => k⟩
    omega
  · walk_at "rd"
    exact k
theorem e_put {CN : Addr} {old : List Nat} {c : Nat} {p : Dt} {μ : Mu} {K : KD} {Kx : KXD} (h1 : old.length ≤ 1000) (h : (∃ i : Nat, p = .int i ∧ i ≤ old.length ∧ K (.str (putF old c i)) μ) ∨ (∃ i : Int, p = .int i ∧ (i < 0 ∨ old.length < i) ∧ Kx CN p μ) ∨ (∃ b, p = .bl b ∧ Kx CN p μ)) : sp_put CN [.str old, .str [c], p] μ K Kx := ⟨old, c, p, rfl, h1, h⟩
def sp_leaf_place : SpD := fun ds μ K => ∃ (old new : List Nat) (x : Nat), ds = [.str old, .str new, .str [x]] ∧ old.length ≤ 1000 ∧ new.length ≤ 1000 ∧ K (if struck old new x then .int (rfindD new x) else .non) μ
theorem p_leaf_place (ds : List Dt) (μ : Mu) (Kd : KD) (h : sp_leaf_place ds μ Kd) : rd_leaf_place sp_strikes_last { nx := fun _ μ' => Kd .non μ', rt := Kd } (dstart N_leaf_place ds) μ := by
  obtain ⟨old, new, x, rfl, h1, h2, k⟩ := h
  unfold rd_leaf_place
  walk_at "rd"
  simp only [e_strikes_last]
  walk_at "rd"
  refine ⟨h1, h2, fun e => ?_, fun e => ?_⟩ <;> simpa [e] using k
theorem e_leaf_place {old new : List Nat} {x : Nat} {μ : Mu} {K : KD} : sp_leaf_place [.str old, .str new, .str [x]] μ K = (old.length ≤ 1000 ∧ new.length ≤ 1000 ∧ K (if struck old new x then .int (rfindD new x) else .non) μ) := by
  unfold sp_leaf_place
  walk_at "rd"
-- fault
def faultD (old new : List Nat) (c : Option Nat) : Dt :=
  match swapAt (dropC c old) (dropC c new) with
  | some i => .tup [cS "swap", .int i]
  | none => match c with
    | none => .non
    | some k => shiftD (stepsF k old new)
def sp_fault (CR : Addr) : SpX := fun ds μ K Kx => ∃ (old new : List Nat) (c : Option Nat), ds = [.str old, .str new, cD c] ∧ old.length ≤ 900 ∧ new.length ≤ 900 ∧
  (¬ new.Perm (old ++ c.toList) → Kx CR (.int new.length) μ) ∧ (new.Perm (old ++ c.toList) → ∀ μ', Kp μ μ' → K (faultD old new c) μ')
theorem p_fault (CR : Addr) (ds : List Dt) (μ : Mu) (Kd : KD) (Kx : KXD) (h : sp_fault CR ds μ Kd Kx) : rd_fault sp_swap_fault sp_shift_fault CR { nx := fun _ μ' => Kd .non μ', rt := Kd, rx := fun C d _ μ' => Kx C d μ' } (dstart N_fault ds) μ := by
  obtain ⟨old, new, c, rfl, h1, h2, kx, k⟩ := h
  unfold rd_fault
  cases c with
  | none =>
    have es : ∀ μ' K, K (tag1 "swap" (swapAt (dropC none old) (dropC none new))) μ' → sp_swap_fault [.str old, .str new, .non] μ' K := fun μ' K k => e_swap_fault (c := none) ⟨by omega, by omega, k⟩
    unfold cD
    walk_at "rd"
    refine ⟨by omega, fun out ho => ⟨by omega, by omega, fun out1 ho1 => ?_⟩⟩
    have he := srt_eq ho ho1
    refine ⟨fun ne => ⟨by omega, kx fun z => ne (he.mpr (by simpa using z))⟩, fun e => es _ _ ?_⟩
    have kk := k (by simpa using he.mp e) μ Kp.refl
    cases hs : swapAt (dropC none old) (dropC none new) with
    | none =>
      have ef : faultD old new none = .non := by simp only [faultD, hs]
      rw [ef] at kk
      exact ⟨fun _ => kk, fun _ => kk⟩
    | some i =>
      have ef : faultD old new none = .tup [cS "swap", .int i] := by simp only [faultD, hs]
      rw [ef] at kk
      exact ⟨fun _ => kk, fun _ => kk⟩
  | some c =>
    have es : ∀ μ' K, K (tag1 "swap" (swapAt (dropC (some c) old) (dropC (some c) new))) μ' → sp_swap_fault [.str old, .str new, .str [c]] μ' K := fun μ' K k => e_swap_fault (c := some c) ⟨by omega, by omega, k⟩
    unfold cD
    walk_at "rd"
    refine ⟨by omega, fun out ho => ⟨by omega, by simp; omega, fun out1 ho1 => ?_⟩⟩
    have he := srt_eq ho ho1
    refine ⟨fun ne => ⟨by omega, kx fun z => ne (he.mpr (by simpa using z))⟩, fun e => es _ _ ?_⟩
    have kk := k (by simpa using he.mp e)
    cases hs : swapAt (dropC (some c) old) (dropC (some c) new) with
    | none =>
      have ef : faultD old new (some c) = shiftD (stepsF c old new) := by simp only [faultD, hs]
      rw [ef] at kk
      refine ⟨fun z => absurd z (by decide), fun _ => ?_⟩
      rw [e_shift_fault]
      exact ⟨by omega, by omega, kk⟩
    | some i =>
      have ef : faultD old new (some c) = .tup [cS "swap", .int i] := by simp only [faultD, hs]
      rw [ef] at kk
      exact ⟨fun _ => kk μ Kp.refl, fun z => absurd z Bool.false_ne_true⟩
-- places
def placesF (row other : List Nat) : List Int := (List.range row.length).map fun i => (posR (row.getD i 0) 0 other).getD ((row.take i).count (row.getD i 0)) 0
/-- the dict of places after i turns -/
def StandsI (other : List Nat) (p : Addr) (μ : Mu) (i : Nat) (μ' : Mu) : Prop := ∃ (Q : Nat → Addr) (ks : List Key) (ds : List Dt), μ' p = some (.dk ks ds) ∧ ks.length = ds.length ∧ ks.length ≤ i ∧
      (∀ s, s ∈ other.take i → valD ks ds (kS s) = some (.hdl (Q s)) ∧ μ' (Q s) = some (.lst ((posR s 0 (other.take i)).map .int)) ∧ Q s ≠ p ∧ μ (Q s) = none) ∧
      (∀ s, s ∉ other.take i → valD ks ds (kS s) = none) ∧ (∀ s t, s ∈ other.take i → t ∈ other.take i → Q s = Q t → s = t) ∧ Kp μ μ' ∧ μ p = none
theorem stands_old {other : List Nat} {p n : Addr} {μ μ' : Mu} {i a : Nat} (h : StandsI other p μ i μ') (ha : other[i]? = some a) (hn : μ' n = none) {ks : List Key} {ds : List Dt} {d : Dt} (hm : μ' p = some (.dk ks ds)) (hv : valD ks ds (kS a) = some d) :
    ∃ q xs, d = .hdl q ∧ mset μ' n (.lst []) q = some (.lst xs) ∧ xs.length ≤ i ∧ StandsI other p μ (i + 1) (mset (mset μ' n (.lst [])) q (.lst (xs ++ [.int i]))) := by
  obtain ⟨Q, ks', ds', hm', hlen, hlk, hin, hout, hinj, hkp, hp⟩ := h
  rw [hm] at hm'
  cases hm'
  have e : other.take (i + 1) = other.take i ++ [a] := by rw [List.take_succ, ha]; rfl
  have hmem : a ∈ other.take i := Classical.byContradiction fun z => by
    rw [hout a z] at hv
    cases hv
  obtain ⟨v1, v2, v3, v4⟩ := hin a hmem
  rw [v1] at hv
  cases hv
  have hpn : p ≠ n := fun z => by rw [z] at hm; rw [hn] at hm; cases hm
  have hqn : ∀ s, s ∈ other.take i → Q s ≠ n := fun s hs z => by
    have := (hin s hs).2.1
    rw [z, hn] at this
    cases this
  have hμn : μ n = none := by
    cases hx : μ n with
    | none => rfl
    | some o => rw [hkp n o hx] at hn; cases hn
  have li : (other.take i).length = i := by rw [List.length_take]; have := (List.getElem?_eq_some_iff.mp ha).1; omega
  refine ⟨Q a, _, rfl, by rw [mset_ne (hqn a hmem)]; exact v2, by rw [List.length_map, posR_length]; exact Nat.le_trans List.count_le_length (by omega), Q, ks, ds, ?_, hlen, by omega, fun s hs => ?_, fun s hs => ?_, fun s t hs ht => ?_, (hkp.set hμn).set v4, hp⟩
  · rw [mset_ne (Ne.symm v3), mset_ne hpn]
    exact hm
  · have hs' : s ∈ other.take i := by
      rw [e, List.mem_append] at hs
      rcases hs with z | z
      · exact z
      · rw [List.mem_singleton.mp z]; exact hmem
    obtain ⟨w1, w2, w3, w4⟩ := hin s hs'
    refine ⟨w1, ?_, w3, w4⟩
    rw [e, posR_snoc]
    by_cases es : a = s
    · subst es
      rw [mset_same, if_pos rfl]
      simp [li]
    · have : Q s ≠ Q a := fun z => es (hinj s a hs' hmem z).symm
      rw [mset_ne this, mset_ne (hqn s hs'), if_neg es, List.append_nil]
      exact w2
  · exact hout s fun z => hs (by rw [e]; exact List.mem_append_left _ z)
  · have f : ∀ s, s ∈ other.take (i + 1) → s ∈ other.take i := fun s hs => by
      rw [e, List.mem_append] at hs
      rcases hs with z | z
      · exact z
      · rw [List.mem_singleton.mp z]; exact hmem
    exact hinj s t (f s hs) (f t ht)
theorem stands_new {other : List Nat} {p n : Addr} {μ μ' : Mu} {i a : Nat} (h : StandsI other p μ i μ') (ha : other[i]? = some a) (hn : μ' n = none) {ks : List Key} {ds : List Dt} (hm : μ' p = some (.dk ks ds)) (hv : valD ks ds (kS a) = none) :
    n ≠ p ∧ StandsI other p μ (i + 1) (mset (mset (mset μ' n (.lst [])) p (putD ks ds (kS a) (.hdl n))) n (.lst [.int i])) := by
  obtain ⟨Q, ks', ds', hm', hlen, hlk, hin, hout, hinj, hkp, hp⟩ := h
  rw [hm] at hm'
  cases hm'
  have e : other.take (i + 1) = other.take i ++ [a] := by rw [List.take_succ, ha]; rfl
  have hmem : a ∉ other.take i := fun z => by
    rw [(hin a z).1] at hv
    cases hv
  have hpn : p ≠ n := fun z => by rw [z] at hm; rw [hn] at hm; cases hm
  have hqn : ∀ s, s ∈ other.take i → Q s ≠ n := fun s hs z => by
    have := (hin s hs).2.1
    rw [z, hn] at this
    cases this
  have hμn : μ n = none := by
    cases hx : μ n with
    | none => rfl
    | some o => rw [hkp n o hx] at hn; cases hn
  have li : (other.take i).length = i := by rw [List.length_take]; have := (List.getElem?_eq_some_iff.mp ha).1; omega
  obtain ⟨ks', ds', e1, e2, e3, e4⟩ := putD_val hlen (kS a) (.hdl n)
  have other' : ∀ s, s ∈ other.take (i + 1) → s = a ∨ (s ≠ a ∧ s ∈ other.take i) := fun s hs => by
    rw [e, List.mem_append] at hs
    rcases hs with z | z
    · exact .inr ⟨fun w => hmem (w ▸ z), z⟩
    · exact .inl (List.mem_singleton.mp z)
  have posn : posR a 0 (other.take i) = [] := List.eq_nil_of_length_eq_zero (by rw [posR_length]; exact List.count_eq_zero.mpr hmem)
  refine ⟨Ne.symm hpn, fun s => if s = a then n else Q s, ks', ds', ?_, e2, by omega, fun s hs => ?_, fun s hs => ?_, fun s t hs ht hst => ?_, ((hkp.set hμn).set hp).set hμn, hp⟩
  · rw [mset_ne hpn, mset_same, e1]
  · rcases other' s hs with rfl | ⟨ne, hs'⟩
    · simp only [if_true]
      refine ⟨by rw [e4, if_pos rfl], ?_, Ne.symm hpn, hμn⟩
      rw [mset_same, e, posR_snoc, if_pos rfl, posn]
      simp [li]
    · simp only [if_neg ne]
      obtain ⟨w1, w2, w3, w4⟩ := hin s hs'
      refine ⟨by rw [e4, if_neg fun z => ne (kS_inj z).symm]; exact w1, ?_, w3, w4⟩
      rw [mset_ne (hqn s hs'), mset_ne w3, mset_ne (hqn s hs'), e, posR_snoc, if_neg (Ne.symm ne), List.append_nil]
      exact w2
  · have hsa : s ≠ a := fun z => hs (by rw [e, z]; simp)
    rw [e4, if_neg fun z => hsa (kS_inj z).symm]
    exact hout s fun z => hs (by rw [e]; exact List.mem_append_left _ z)
  · rcases other' s hs with rfl | ⟨ne, hs'⟩ <;> rcases other' t ht with rfl | ⟨ne', ht'⟩
    · rfl
    · simp only [if_true, if_neg ne'] at hst
      exact absurd hst.symm (hqn t ht')
    · simp only [if_true, if_neg ne] at hst
      exact absurd hst (hqn s hs')
    · simp only [if_neg ne, if_neg ne'] at hst
      exact hinj s t hs' ht' hst
def sp_places_in : SpD := fun ds μ K => ∃ (row other : List Nat), ds = [.str row, .str other] ∧ row.length ≤ 1000 ∧ other.length ≤ 1000 ∧ row.Perm other ∧ ∀ μ', Kp μ μ' → K (.lst ((placesF row other).map .int)) μ'
theorem p_places_in (ds : List Dt) (μ : Mu) (Kd : KD) (h : sp_places_in ds μ Kd) : rd_places_in { nx := fun _ μ' => Kd .non μ', rt := Kd } (dstart N_places_in ds) μ := by
  obtain ⟨row, other, rfl, h1, h2, hp, k⟩ := h
  unfold rd_places_in
  walk_at "rd"
  intro p hpn
  refine for_use (enumD 0 (sgn other)) (fun i ρ' μ' => StandsI other p μ i μ' ∧ ∃ o q, ρ' = [some (.str row), some (.str other), some (.hdl p), none, none, o, q, none]) (fun K' k => ?_) ⟨⟨fun _ => 0, [], [], mset_same, rfl, Nat.le_refl _, fun s h => by simp at h, fun s h => by simp [valD], fun s t h => by simp at h, Kp.new hpn, hpn⟩, none, none, rfl⟩ (fun i d ρ' μ' hd hI => ?_) (fun ρ' μ' hI => ?_)
  · walk_at "rd"
    exact k
  · obtain ⟨hS, o, q, rfl⟩ := hI
    obtain ⟨_, hd', rfl⟩ := enumD_of hd
    obtain ⟨a, ha, rfl⟩ := sgn_of hd'
    obtain ⟨Q, ks, ds, hm, hlen, hlk, hrest⟩ := id hS
    have hi := (List.getElem?_eq_some_iff.mp ha).1
    walk_at "rd"
    refine ⟨⟨ks, ds, hm⟩, by decide, fun n hn => ?_⟩
    have hpn : p ≠ n := fun z => by rw [z] at hm; rw [hn] at hm; cases hm
    refine ⟨ks, ds, by rw [mset_ne hpn]; exact hm, by omega, fun d hv => ?_, fun hv => ?_⟩
    · obtain ⟨q, xs, rfl, h1, h2, h3⟩ := stands_old hS ha hn hm hv
      exact ⟨q, rfl, ⟨xs, h1⟩, xs, h1, by omega, h3⟩
    · obtain ⟨h1, h2⟩ := stands_new hS ha hn hm hv
      refine ⟨⟨[], ?_⟩, [], ?_, by decide, h2⟩ <;> rw [mset_ne h1, mset_same]
  · obtain ⟨hS, o, q, rfl⟩ := hI
    rw [enumD_length, sgn_length] at hS
    walk_at "rd"
    intro m hm
    refine ⟨by decide, fun l hl => ?_⟩
    obtain ⟨Q, ks, ds, hmp, hlen, hlk, hin, hout, hinj, hkp, hp0⟩ := hS
    rw [List.take_length] at hin
    have hlm : l ≠ m := fun z => by rw [z, mset_same] at hl; cases hl
    have hl1 : μ' l = none := by rw [mset_ne hlm] at hl; exact hl
    have hpm : p ≠ m := fun z => by rw [z, hm] at hmp; cases hmp
    have hpl : p ≠ l := fun z => by rw [z, hl1] at hmp; cases hmp
    have hμm : μ m = none := by
      cases hx : μ m with
      | none => rfl
      | some o => rw [hkp m o hx] at hm; cases hm
    have hμl : μ l = none := by
      cases hx : μ l with
      | none => rfl
      | some o => rw [hkp l o hx] at hl1; cases hl1
    refine for_use (sgn row) (fun i ρ' μ2 => (∃ ks2 ds2, μ2 = mset (mset μ' m (.dk ks2 ds2)) l (.lst (((placesF row other).take i).map .int)) ∧ ks2.length = ds2.length ∧ ks2.length ≤ i ∧ ∀ s, (valD ks2 ds2 (kS s)).getD (.int 0) = .int ((row.take i).count s)) ∧
      ∃ o t, ρ' = [some (.str row), some (.str other), some (.hdl p), some (.hdl m), some (.hdl l), o, q, t]) (fun K' k => str_src rfl k) ⟨⟨[], [], by simp, rfl, Nat.le_refl _, fun s => by simp [valD]⟩, o, none, rfl⟩ (fun i d ρ' μ2 hd hI => ?_) (fun ρ' μ2 hI => ?_)
    · obtain ⟨⟨ks2, ds2, rfl, e1, e2, e3⟩, o, t, rfl⟩ := hI
      obtain ⟨a, ha, rfl⟩ := sgn_of hd
      have hi := (List.getElem?_eq_some_iff.mp ha).1
      have hao : a ∈ other := hp.subset (List.mem_of_getElem? ha)
      obtain ⟨v1, v2, v3, v4⟩ := hin a hao
      have hqm : Q a ≠ m := fun z => by rw [z, hm] at v2; cases v2
      have hql : Q a ≠ l := fun z => by rw [z, hl1] at v2; cases v2
      have e : row.take (i + 1) = row.take i ++ [a] := by rw [List.take_succ, ha]; rfl
      have hcnt : (row.take i).count a < (posR a 0 other).length := by
        rw [posR_length, ← hp.count_eq]
        have h3 : (row.take (i + 1)).count a ≤ row.count a := (List.take_sublist _ _).count_le _
        rw [e, List.count_append] at h3
        simp at h3
        omega
      have hpl1 : (placesF row other)[i]? = some (posR a 0 other)[(row.take i).count a] := by
        have hr : row.getD i 0 = a := by rw [List.getD_eq_getElem?_getD, ha]; rfl
        unfold placesF
        rw [List.getElem?_map, List.getElem?_range hi, Option.map_some, hr, List.getD_eq_getElem?_getD, List.getElem?_eq_getElem hcnt]
        rfl
      have ep : (placesF row other).take (i + 1) = (placesF row other).take i ++ [(posR a 0 other)[(row.take i).count a]] := by rw [List.take_succ, hpl1]; rfl
      have hlp : ((placesF row other).take i).length ≤ i := by rw [List.length_take]; omega
      walk_at "rd"
      refine ⟨⟨ks2, ds2, by rw [mset_ne (Ne.symm hlm), mset_same]⟩, ks2, ds2, by rw [mset_ne (Ne.symm hlm), mset_same], ks, ds, by rw [mset_ne hpl, mset_ne hpm]; exact hmp, .hdl (Q a), v1, ?_⟩
      rw [show (valD ks2 ds2 (Sum.inr (mkS [a]))).getD (Dt.int 0) = .int ((row.take i).count a) from e3 a]
      walk_at "rd"
      refine ⟨_, by rw [mset_ne hql, mset_ne hqm]; exact v2, .int (posR a 0 other)[(row.take i).count a], by rw [atI_n, List.getElem?_map, List.getElem?_eq_getElem hcnt]; rfl, ?_⟩
      refine ⟨by omega, ks2, ds2, by rw [mset_ne (Ne.symm hlm), mset_same], by omega, ?_⟩
      obtain ⟨ks3, ds3, f1, f2, f3, f4⟩ := putD_val e1 (kS a) (.int (((row.take i).count a : Int) + 1))
      refine ⟨ks3, ds3, ?_, f2, by omega, fun s => ?_⟩
      · rw [show putD ks2 ds2 (Sum.inr (mkS [a])) (.int (((row.take i).count a : Int) + 1)) = .dk ks3 ds3 from f1, mset_swap (Ne.symm hlm), ep]
        simp
      · rw [f4, e, List.count_append]
        by_cases es : a = s
        · subst es
          simp
        · rw [if_neg fun z => es (kS_inj z), e3 s]
          simp [es]
    · obtain ⟨⟨ks2, ds2, rfl, e1, e2, e3⟩, o, t, rfl⟩ := hI
      walk_at "rd"
      have ef : (placesF row other).take (sgn row).length = placesF row other := by
        rw [List.take_of_length_le]
        simp [placesF, sgn_length]
      rw [ef]
      exact k _ (Kp.give hμl ((hkp.set hμm).set hμl))
theorem e_places_in {row other : List Nat} {μ : Mu} {K : KD} : sp_places_in [.str row, .str other] μ K = (row.length ≤ 1000 ∧ other.length ≤ 1000 ∧ row.Perm other ∧ ∀ μ', Kp μ μ' → K (.lst ((placesF row other).map .int)) μ') := by
  unfold sp_places_in
  walk_at "rd"
-- crossed
def crossOf : Nat → List Int → Option (Nat × Nat)
  | _, [] => none
  | i, v :: r => match r.findIdx? (fun w => decide (w < v)) with
    | some j => some (i, i + 1 + j)
    | none => crossOf (i + 1) r
def sp_crossed (CR : Addr) : SpX := fun ds μ K Kx => ∃ (row other : List Nat), ds = [.str row, .str other] ∧ row.length ≤ 1000 ∧ other.length ≤ 1000 ∧
  (¬ row.Perm other → Kx CR (.int other.length) μ) ∧ (row.Perm other → ∀ μ', Kp μ μ' → K (runDt (crossOf 0 (placesF row other))) μ')
theorem p_crossed (CR : Addr) (ds : List Dt) (μ : Mu) (Kd : KD) (Kx : KXD) (h : sp_crossed CR ds μ Kd Kx) : rd_crossed sp_places_in CR { nx := fun _ μ' => Kd .non μ', rt := Kd, rx := fun C d _ μ' => Kx C d μ' } (dstart N_crossed ds) μ := by
  obtain ⟨row, other, rfl, h1, h2, kx, k⟩ := h
  unfold rd_crossed
  walk_at "rd"
  refine ⟨by omega, fun out ho => ⟨by omega, fun out1 ho1 => ?_⟩⟩
  have he := srt_eq ho ho1
  refine ⟨fun ne => ⟨by omega, kx fun z => ne (he.mpr z)⟩, fun e => ?_⟩
  have hp := he.mp e
  have kk := k hp
  rw [e_places_in]
  refine ⟨h1, h2, hp, fun μ1 hm => ?_⟩
  have hl : (placesF row other).length ≤ 1000 := by simp [placesF]; omega
  generalize placesF row other = ps at kk hl
  refine for_use (rngD 0 ps.length) (fun i ρ' μ' => μ' = μ1 ∧ crossOf 0 ps = crossOf i (ps.drop i) ∧ ∃ o p, ρ' = [some (.str row), some (.str other), some (.lst (ps.map .int)), o, p]) (fun K' k => ?_) ⟨rfl, rfl, none, none, rfl⟩ (fun i d ρ' μ' hd hI => ?_) (fun ρ' μ' hI => ?_)
  · walk_at "rd"
    exact ⟨by omega, by omega, k⟩
  · obtain ⟨rfl, hc, o, p, rfl⟩ := hI
    obtain ⟨hi, rfl⟩ := rngD_of hd
    have ed : ps.drop i = ps[i] :: ps.drop (i + 1) := (List.drop_eq_getElem_cons hi)
    walk_at "rd"
    refine for_use (rngD (i + 1) (ps.length - (i + 1))) (fun m ρ' μ'' => μ'' = μ' ∧ (∀ q v, q < m → (ps.drop (i + 1))[q]? = some v → decide (v < ps[i]) = false) ∧ ∃ o, ρ' = [some (.str row), some (.str other), some (.lst (ps.map .int)), some (.int i), o]) (fun K' k => ?_) ⟨rfl, fun m v h => absurd h (Nat.not_lt_zero _), p, by simp⟩ (fun m d ρ' μ2 hd hI => ?_) (fun ρ' μ2 hI => ?_)
    · walk_at "rd"
      have e : ((ps.length : Int) - (i + 1)).toNat = ps.length - (i + 1) := by omega
      rw [e]
      exact ⟨by omega, by omega, by omega, by omega, k⟩
    · obtain ⟨rfl, hm2, o2, rfl⟩ := hI
      obtain ⟨hj, rfl⟩ := rngD_of hd
      have hlt : i + 1 + m < ps.length := by omega
      have hat : (ps.drop (i + 1))[m]? = some ps[i + 1 + m] := by rw [List.getElem?_drop, List.getElem?_eq_getElem hlt]
      walk_at "rd"
      have ei : ((i : Int) + 1 + m) = ((i + 1 + m : Nat) : Int) := by omega
      simp only [ei, atI_n, List.getElem?_map, List.getElem?_eq_getElem hlt, List.getElem?_eq_getElem hi, Option.map_some]
      walk_at "rd"
      refine ⟨fun hz => ⟨by decide, ?_⟩, fun hn q w hq hw => ?_⟩
      · have h2 : (ps.drop (i + 1)).findIdx? (fun w => decide (w < ps[i])) = some m := fi_some hat (by simpa using hz) hm2
        have hx : crossOf 0 ps = some (i, i + 1 + m) := by
          rw [hc, ed]
          simp only [crossOf, h2]
        have := kk _ hm
        rw [hx] at this
        exact this
      · by_cases hji : q < m
        · simpa using hm2 q w hji hw
        · have : q = m := by omega
          subst this
          rw [hat] at hw
          cases hw
          exact hn
    · obtain ⟨rfl, hm2, o2, rfl⟩ := hI
      walk_at "rd"
      rw [rngD_len] at hm2
      have h2 : (ps.drop (i + 1)).findIdx? (fun w => decide (w < ps[i])) = none := fi_none fun q b hl hb => hm2 q b (by simpa using hl) hb
      rw [hc, ed]
      simp only [crossOf, h2]
  · obtain ⟨rfl, hc, o, p, rfl⟩ := hI
    walk_at "rd"
    rw [rngD_len, List.drop_length] at hc
    have := kk _ hm
    rw [hc] at this
    exact this
end K17

set_option Elab.async false
set_option linter.all false
set_option maxRecDepth 100000
set_option maxHeartbeats 4000000
namespace K17
open PySem PySem.Spec PyProof.Rows L2 L2H DL
local macro_rules | `(tactic| walk_at "rd") => `(tactic| simp only [dget_z, dget_s, dSeq, dSet, dRet, dRetN, dDrop, dIfS, dBrk, dCnt, dNever, dNext, dVar, dC, dOp, dTest, dChain, dAnd, dOr, dNot, dAndV, dOrV, dNotV, dIf, dNil, dCons, dTup, dLst, dLstO, dCB, dAug, dGive, dGiveD, dstart, dAsg, dAsg3, dYes, gNm, gNilD, gConsD, gTupD, iLst, iTupD, iStrD, iR1, iR2, iZipD, iEnumD, iEnumZD, dPut, dPutD, dSl, dRevS, oNo, oInt, dM1, dApp, dIndex, dDGet2, dDNew, dSetd, dNeg, dIsB, dRepEq, dRaise, dRetX, dTry, dIsX, dAt, rdEq, rdNe, rdIsN, rdNotN,  rdIn, rdNotIn,   rdI, rdI0, rdSub, rdFdiv, rdMod, rdPow, rdXor, rdLt, rdLe, rdGt, rdGe,      rdMin,  rdListD,   rdCountS, rdRfindS,          dwipe, q_deq_str, q_deq_int,
  q_int_int, q_int_bl, q_setD_hdl, rdListO, q_ix_lst, q_ix_tup, q_ix_str, q_ix_hdl, q_ix_scr, q_setL_hdl, q_add_int, q_add_str, q_add_lst, q_add_tup, q_mul_int, q_mul_str, q_sl_lst, q_sl_tup, q_sl_str, q_len_str, q_len_lst, q_len_tup, q_len_scr, q_len_hdl, q_items_lst, q_items_tup, q_items_str, q_items_hdl, q_inB_lst, q_inB_tup, q_sign_str, q_index_lst, q_dget_dk, q_dget_hdl, q_sort_lst, q_sort_str, q_src_str, q_src_lst, q_src_tup, q_isNon_non, q_isNon_bl, q_isNon_int, q_isNon_str, q_isNon_tup, q_isNon_lst, q_isBl_bl, q_isBl_int, q_flat_non, q_flat_bl, q_flat_int, q_flat_str, q_key_int, q_key_str, q_shl_non, q_shl_bl, q_shl_int, q_shl_str, q_shl_tup, q_shl_lst, q_shlAll_nil, q_shlAll_cons, q_deq_non, q_deq_bl, q_deq_tup, q_deq_lst, q_deqAll_nil, q_deqAll_cons,
  List.any_cons, List.any_nil, List.all_cons, List.all_nil, if_true, Bool.or_false, Bool.and_true, Bool.true_and, Bool.not_or, Bool.and_eq_true, Bool.and_eq_false_iff, q_nil, List.append_nil, q_deq_strs, q_shl_strs, q_flat_ints, q_deq_ints, q_idx_ints, if_false, reduceIte,
  List.length_cons, List.length_nil, List.map_cons, List.map_nil, List.cons_append, List.nil_append, List.set_cons_zero, List.set_cons_succ, List.replicate, Option.some.injEq, exists_eq_left', exists_eq_left, exists_eq', exists_eq, exists_and_left, exists_const, true_and, and_true, and_self, forall_const, Dt.int.injEq, Dt.str.injEq, Dt.bl.injEq, Dt.hdl.injEq, OD.lst.injEq, OD.dk.injEq, mset_same, mset_mset, List.length_map, Dt.tup.injEq, Dt.lst.injEq, Nat.reduceAdd, Nat.reduceSub, Nat.zero_add, Int.zero_add, decide_eq_true_eq, decide_eq_false_iff_not, List.cons.injEq, and_assoc, eq_self, Bool.not_eq_true', Bool.not_eq_false', Bool.true_eq_false, Bool.false_eq_true, false_implies, implies_true, not_true_eq_false, not_false_eq_true, reduceCtorEq, false_and, and_false, exists_false, ne_eq])
-- body
-- mix
theorem xor_bound {x y : Int} (hx : 0 ≤ x) (hy : 0 ≤ y) (h1 : x < 2 ^ 62) (h2 : y < 2 ^ 62) : 0 ≤ Builtin.bitXor x y ∧ Builtin.bitXor x y < 2 ^ 62 := by
  rw [_root_.Bits.bitXor_pp hx hy]
  refine ⟨Int.natCast_nonneg _, ?_⟩
  have := Nat.xor_lt_two_pow (x := x.toNat) (y := y.toNat) (n := 62) (by omega) (by omega)
  omega
theorem log2_le {x : Int} {k : Nat} (h : x.natAbs < 2 ^ (k + 1)) : x.natAbs.log2 ≤ k := by
  by_cases z : x.natAbs = 0
  · rw [z]; simp
  · have := (Nat.log2_lt z).mpr h
    omega
theorem mulw {x y : Int} (hx : x.natAbs < 2 ^ (69 + 1)) (hy : y.natAbs < 2 ^ (69 + 1)) : CMulW x y := by
  have h1 := log2_le hx
  have h2 := log2_le hy
  unfold CMulW
  omega
def sp_mix : SpD := fun ds μ K => ∃ a b : Int, ds = [.int a, .int b] ∧ 0 ≤ b ∧ b < 2 ^ 60 ∧ ∀ r : Int, 0 ≤ r → r < 2 ^ 62 → K (.int r) μ
theorem p_mix (ds : List Dt) (μ : Mu) (Kd : KD) (h : sp_mix ds μ Kd) : rd__law_mix { nx := fun _ μ' => Kd .non μ', rt := Kd } (dstart N__law_mix ds) μ := by
  obtain ⟨a, b, rfl, h1, h2, k⟩ := h
  unfold rd__law_mix
  walk_at "rd"
  have bd : ∀ x : Int, 0 ≤ x % 2305843009213693951 ∧ x % 2305843009213693951 < 2305843009213693951 := fun x => ⟨Int.emod_nonneg _ (by decide), Int.emod_lt_of_pos _ (by decide)⟩
  have cd : ∀ x : Int, CDivW x 1073741824 ∧ CDivW x 134217728 ∧ CDivW x 4294967296 := fun x => ⟨⟨by decide, by decide +kernel⟩, ⟨by decide, by decide +kernel⟩, ⟨by decide, by decide +kernel⟩⟩
  obtain ⟨f1, f2⟩ := bd (a % 2305843009213693951 + b * 1442695040888963407 + 88172645463325252)
  generalize (a % 2305843009213693951 + b * 1442695040888963407 + 88172645463325252) % 2305843009213693951 = f at *
  obtain ⟨x1, x2⟩ := xor_bound (x := f) (y := f / 1073741824) f1 (by omega) (by omega) (by omega)
  obtain ⟨g1, g2⟩ := bd (Builtin.bitXor f (f / 1073741824) * 6364136223846793005)
  generalize (Builtin.bitXor f (f / 1073741824) * 6364136223846793005) % 2305843009213693951 = g at *
  obtain ⟨y1, y2⟩ := xor_bound (x := g) (y := g / 134217728) g1 (by omega) (by omega) (by omega)
  obtain ⟨z1, z2⟩ := bd (Builtin.bitXor g (g / 134217728) * 3935559000370003845)
  generalize (Builtin.bitXor g (g / 134217728) * 3935559000370003845) % 2305843009213693951 = h at *
  obtain ⟨w1, w2⟩ := xor_bound (x := h) (y := h / 4294967296) z1 (by omega) (by omega) (by omega)
  exact ⟨by decide, mulw (by omega) (by decide), by decide, (cd _).1, mulw (by omega) (by decide), by decide, (cd _).2.1, mulw (by omega) (by decide), by decide, (cd _).2.2, k _ w1 w2⟩
end K17

set_option Elab.async false
set_option linter.all false
set_option maxRecDepth 100000
set_option maxHeartbeats 4000000
namespace K17
open DL
/-! ### the run of places -/
theorem commonF_get : ∀ {x y : List Nat} {i : Nat}, i < commonF x y → x[i]? = y[i]?
  | [], _, _, h => by simp [commonF] at h
  | _ :: _, [], _, h => by simp [commonF] at h
  | a :: x, b :: y, i, h => by
    unfold commonF at h
    split at h
    · rename_i e
      cases i with
      | zero => simp [e]
      | succ i => simpa using commonF_get (i := i) (by omega)
    · omega
theorem le_commonF : ∀ {x y : List Nat} {n : Nat}, n ≤ x.length → n ≤ y.length → (∀ i, i < n → x[i]? = y[i]?) → n ≤ commonF x y
  | _, _, 0, _, _, _ => Nat.zero_le _
  | [], _, n + 1, h, _, _ => by simp at h
  | _ :: _, [], n + 1, _, h, _ => by simp at h
  | a :: x, b :: y, n + 1, h1, h2, h => by
    have e : a = b := by simpa using h 0 (by omega)
    unfold commonF
    rw [if_pos e]
    have := le_commonF (x := x) (y := y) (n := n) (by simpa using h1) (by simpa using h2) (fun i hi => by simpa using h (i + 1) (by omega))
    omega
theorem putF_length {old : List Nat} {c p : Nat} : (putF old c p).length = old.length + 1 := by
  unfold putF
  simp
  omega
theorem putF_lt {old : List Nat} {c p i : Nat} (hp : p ≤ old.length) (h : i < p) : (putF old c p)[i]? = old[i]? := by
  unfold putF
  rw [List.append_assoc, List.getElem?_append_left (by simp; omega), List.getElem?_take_of_lt h]
theorem putF_eq {old : List Nat} {c p : Nat} (hp : p ≤ old.length) : (putF old c p)[p]? = some c := by
  unfold putF
  rw [List.append_assoc, List.getElem?_append_right (by simp; omega)]
  simp [Nat.min_eq_left hp]
theorem putF_gt {old : List Nat} {c p i : Nat} (hp : p ≤ old.length) (h : p ≤ i) : (putF old c p)[i + 1]? = old[i]? := by
  unfold putF
  rw [List.getElem?_append_right (by simp; omega)]
  have e : i + 1 - (old.take p ++ [c]).length = i - p := by simp; omega
  rw [e, List.getElem?_drop]
  congr 1
  omega
theorem rev_get {z : List Nat} {i : Nat} (h : i < z.length) : z.reverse[i]? = z[z.length - 1 - i]? := by
  rw [List.getElem?_reverse h]
theorem run_of_put {old new : List Nat} {c p : Nat} (hp : p ≤ old.length) (h : putF old c p = new) : ∃ a b, runO old new c = some (a, b) ∧ a ≤ p ∧ p ≤ b := by
  have hl : new.length = old.length + 1 := by rw [← h]; exact putF_length
  have hf : p ≤ commonF old new := le_commonF hp (by omega) fun i hi => by rw [← h, putF_lt hp hi]
  have hr : old.length - p ≤ commonF old.reverse new.reverse := le_commonF (by simp) (by simp; omega) fun i hi => by
    rw [rev_get (by omega), rev_get (by omega), hl]
    have e : old.length + 1 - 1 - i = (old.length - 1 - i) + 1 := by omega
    rw [e, ← h, putF_gt hp (by omega)]
  have hle := commonF_le old new
  have key : ∀ d, p + d ≤ commonF old new → new[p + d]? = some c := by
    intro d
    induction d with
    | zero => intro _; rw [← h, Nat.add_zero, putF_eq hp]
    | succ d ih =>
      intro hd
      have h1 := ih (by omega)
      have h2 : old[p + d]? = new[p + d]? := commonF_get (by omega)
      have h3 : new[p + d + 1]? = old[p + d]? := by rw [← h]; exact putF_gt hp (by omega)
      rw [← Nat.add_assoc, h3, h2, h1]
  have hc : new[commonF old new]? = some c := by
    have := key (commonF old new - p) (by omega)
    have e : p + (commonF old new - p) = commonF old new := by omega
    rwa [e] at this
  refine ⟨old.length - commonF old.reverse new.reverse, commonF old new, ?_, by omega, hf⟩
  unfold runO
  rw [if_pos ⟨hl, by omega, hc⟩]
theorem put_of_run {old new : List Nat} {c a b p : Nat} (h : runO old new c = some (a, b)) (h1 : a ≤ p) (h2 : p ≤ b) : putF old c p = new ∧ b ≤ old.length := by
  unfold runO at h
  split at h
  · rename_i hc
    obtain ⟨hl, hle, hn⟩ := hc
    cases h
    have hb := commonF_le old new
    have hr := commonF_le old.reverse new.reverse
    rw [List.length_reverse] at hr
    have fr : ∀ i, i < commonF old new → old[i]? = new[i]? := fun i hi => commonF_get hi
    have bk : ∀ i, old.length - commonF old.reverse new.reverse ≤ i → i < old.length → new[i + 1]? = old[i]? := fun i hi hj => by
      have := commonF_get (x := old.reverse) (y := new.reverse) (i := old.length - 1 - i) (by omega)
      rw [rev_get (by omega), rev_get (by omega), hl] at this
      have e1 : old.length - 1 - (old.length - 1 - i) = i := by omega
      have e2 : old.length + 1 - 1 - (old.length - 1 - i) = i + 1 := by omega
      rw [e1, e2] at this
      exact this.symm
    have key : ∀ d, p + d = commonF old new → new[p]? = some c := by
      intro d
      induction d generalizing p with
      | zero => intro hd; rw [Nat.add_zero] at hd; rw [hd]; exact hn
      | succ d ih =>
        intro hd
        have h5 := ih (p := p + 1) (by omega) (by omega) (by omega)
        rw [bk p h1 (by omega)] at h5
        rw [← fr p (by omega)]
        exact h5
    refine ⟨List.ext_getElem? fun i => ?_, hb.1⟩
    have hp : p ≤ old.length := by omega
    by_cases hi : i < p
    · rw [putF_lt hp hi, fr i (by omega)]
    · by_cases he : i = p
      · rw [he, putF_eq hp, key (commonF old new - p) (by omega)]
      · obtain ⟨j, rfl⟩ : ∃ j, i = j + 1 := ⟨i - 1, by omega⟩
        rw [putF_gt hp (by omega)]
        by_cases hj : j < old.length
        · exact (bk j (by omega) hj).symm
        · rw [List.getElem?_eq_none (by omega), List.getElem?_eq_none (by omega)]
  · cases h
theorem run_bounds {old new : List Nat} {c a b : Nat} (h : runO old new c = some (a, b)) : a ≤ b ∧ b ≤ old.length := by
  unfold runO at h
  split at h
  · rename_i hc
    cases h
    exact ⟨hc.2.1, (commonF_le old new).1⟩
  · cases h
theorem run_iff {old new : List Nat} {c : Nat} : (runO old new c).isSome = true ↔ ∃ p, p ≤ old.length ∧ putF old c p = new := by
  constructor
  · intro h
    cases hr : runO old new c with
    | none => rw [hr] at h; cases h
    | some q =>
      obtain ⟨a, b⟩ := q
      obtain ⟨h1, h2⟩ := run_bounds hr
      exact ⟨a, by omega, (put_of_run hr (Nat.le_refl a) h1).1⟩
  · rintro ⟨p, hp, h⟩
    obtain ⟨a, b, e, _⟩ := run_of_put hp h
    rw [e]
    rfl
/-- all places -/
def plcs (old new : List Nat) (c : Nat) : List Nat := (List.range (old.length + 1)).filter fun p => decide (putF old c p = new)
theorem range_filter (a b n : Nat) (h : b < n) (h2 : a ≤ b) : (List.range n).filter (fun p => decide (a ≤ p ∧ p ≤ b)) = List.range' a (b + 1 - a) := by
  have e : List.range n = List.range' 0 a ++ (List.range' a (b + 1 - a) ++ List.range' (b + 1) (n - (b + 1))) := by
    rw [List.range_eq_range']
    have e1 : n = a + ((b + 1 - a) + (n - (b + 1))) := by omega
    have e2 := List.range'_append_1 (s := 0) (m := a) (n := (b + 1 - a) + (n - (b + 1)))
    have e3 := List.range'_append_1 (s := a) (m := b + 1 - a) (n := n - (b + 1))
    have e4 : a + (b + 1 - a) = b + 1 := by omega
    rw [e4] at e3
    rw [e3, ← Nat.zero_add a, Nat.zero_add]
    rw [Nat.zero_add] at e2
    rw [e2]
    congr 1
  have f1 : (List.range' 0 a).filter (fun p => decide (a ≤ p ∧ p ≤ b)) = [] := List.filter_eq_nil_iff.mpr fun x hx => by
    rw [List.mem_range'_1] at hx
    simp
    omega
  have f2 : (List.range' a (b + 1 - a)).filter (fun p => decide (a ≤ p ∧ p ≤ b)) = List.range' a (b + 1 - a) := List.filter_eq_self.mpr fun x hx => by
    rw [List.mem_range'_1] at hx
    simp
    omega
  have f3 : (List.range' (b + 1) (n - (b + 1))).filter (fun p => decide (a ≤ p ∧ p ≤ b)) = [] := List.filter_eq_nil_iff.mpr fun x hx => by
    rw [List.mem_range'_1] at hx
    simp
    omega
  rw [e, List.filter_append, List.filter_append, f1, f2, f3]
  simp
theorem plcs_some {old new : List Nat} {c a b : Nat} (h : runO old new c = some (a, b)) : plcs old new c = List.range' a (b + 1 - a) := by
  obtain ⟨h1, h2⟩ := run_bounds h
  rw [← range_filter a b (old.length + 1) (by omega) h1]
  unfold plcs
  refine List.filter_congr fun p hp => ?_
  rw [List.mem_range] at hp
  rw [decide_eq_decide]
  refine ⟨fun e => ?_, fun e => (put_of_run h e.1 e.2).1⟩
  obtain ⟨a', b', e', q1, q2⟩ := run_of_put (by omega) e
  rw [h] at e'
  cases e'
  exact ⟨q1, q2⟩
theorem plcs_none {old new : List Nat} {c : Nat} (h : runO old new c = none) : plcs old new c = [] := by
  unfold plcs
  rw [List.filter_eq_nil_iff]
  intro p hp
  rw [List.mem_range] at hp
  simp
  intro e
  obtain ⟨a', b', e', _⟩ := run_of_put (by omega) e
  rw [h] at e'
  cases e'
theorem putF_perm (old : List Nat) (c p : Nat) : (putF old c p).Perm (old ++ [c]) := by
  unfold putF
  have h : (old.take p ++ [c] ++ old.drop p).Perm (old.take p ++ old.drop p ++ [c]) := by
    rw [List.append_assoc, List.append_assoc]
    exact List.Perm.append_left _ List.perm_append_comm
  rwa [List.take_append_drop] at h
/-! ### a fault is there exactly where no run is -/
theorem aheadF_shift (k : Nat) : ∀ (m : Nat) (z : List Nat), aheadF k (m + 1) z = (aheadF k m z).map (· + 1)
  | _, [] => rfl
  | m, s :: r => by
    unfold aheadF
    split
    · rw [aheadF_shift k (m + 1) r]
    · rw [aheadF_shift k m r]
      simp
theorem aheadF_len (k : Nat) : ∀ (m : Nat) (z : List Nat), (aheadF k m z).length = (dropC (some k) z).length
  | _, [] => rfl
  | m, s :: r => by
    unfold aheadF
    by_cases h : s = k
    · rw [if_pos h, aheadF_len k (m + 1) r, h]
      simp [dropC]
    · rw [if_neg h, List.length_cons, aheadF_len k m r]
      simp [dropC, h]
theorem stepsF_cons_same (k s : Nat) (x y : List Nat) (h : s ≠ k) (a b : Nat) (ha : a ≠ k) (hb : b ≠ k) : stepsF k (a :: x) (b :: y) = 0 :: stepsF k x y := by
  simp [stepsF, aheadF, ha, hb]
theorem zip_steps (u v : List Int) : ((u.map (· + 1)).zip (v.map (· + 1))).map (fun p => p.2 - p.1) = (u.zip v).map fun p => p.2 - p.1 := by
  induction u generalizing v with
  | nil => simp
  | cons a u ih =>
    cases v with
    | nil => simp
    | cons b v =>
      simp only [List.map_cons, List.zip_cons_cons, ih]
      congr 1
      omega
theorem stepsF_cc (k : Nat) (x y : List Nat) : stepsF k (k :: x) (k :: y) = stepsF k x y := by
  simp only [stepsF, aheadF, if_true]
  rw [aheadF_shift, aheadF_shift, zip_steps]
/-- all 0, then all 1 -/
inductive Up : List Int → Prop
  | nil : Up []
  | zero {st : List Int} : Up st → Up (0 :: st)
  | one {st : List Int} : (∀ v ∈ st, v = 1) → Up (1 :: st)
theorem up_ones : ∀ {st : List Int}, (∀ v ∈ st, v = 1) → Up st
  | [], _ => .nil
  | v :: st, h => by
    rw [h v (by simp)]
    exact .one fun w hw => h w (by simp [hw])
theorem shift_up {st : List Int} (h : Up st) : shiftD st = .non := by
  have h1 : st.findIdx? (fun v => decide (v ≠ 0 ∧ v ≠ 1)) = none := by
    rw [List.findIdx?_eq_none_iff]
    intro x hx
    induction h with
    | nil => simp at hx
    | zero _ ih =>
      rcases List.mem_cons.mp hx with z | z
      · simp [z]
      · exact ih z
    | one hh =>
      rcases List.mem_cons.mp hx with z | z
      · simp [z]
      · simp [hh x z]
  unfold shiftD
  rw [h1]
  dsimp only
  cases e : st.findIdx? (fun v => decide (v = 1)) with
  | none => rfl
  | some i =>
    dsimp only
    have h2 : (st.drop (i + 1)).findIdx? (fun v => decide (v = 0)) = none := by
      rw [List.findIdx?_eq_none_iff]
      intro x hx
      clear h1
      induction h generalizing i with
      | nil => simp at e
      | @zero st _ ih =>
        rw [List.findIdx?_cons] at e
        simp at e
        obtain ⟨j, hj, rfl⟩ := e
        exact ih j hj (by simpa using hx)
      | @one st hh =>
        have := hh x (by
          rw [List.drop_succ_cons] at hx
          exact List.mem_of_mem_drop hx)
        simp [this]
    rw [h2]
theorem up_of_shift : ∀ {st : List Int}, shiftD st = .non → Up st
  | [], _ => .nil
  | v :: st, h => by
    unfold shiftD at h
    split at h
    · cases h
    · rename_i h1
      rw [List.findIdx?_eq_none_iff] at h1
      have hv := h1 v (by simp)
      simp at hv
      by_cases z : v = 0
      · subst z
        refine .zero (up_of_shift ?_)
        have h1' : st.findIdx? (fun v => decide (v ≠ 0 ∧ v ≠ 1)) = none := by
          rw [List.findIdx?_eq_none_iff]
          exact fun x hx => h1 x (by simp [hx])
        unfold shiftD
        rw [h1']
        dsimp only
        rw [List.findIdx?_cons] at h
        simp only [show decide ((0:Int) = 1) = false from rfl] at h
        cases e : st.findIdx? (fun v => decide (v = 1)) with
        | none => rfl
        | some i =>
          rw [e] at h
          simp only [Option.map_some, List.drop_succ_cons] at h
          dsimp only
          cases e2 : (st.drop (i + 1)).findIdx? (fun v => decide (v = 0)) with
          | none => rfl
          | some j =>
            simp [e2] at h
      · have z1 : v = 1 := hv z
        subst z1
        refine .one fun w hw => ?_
        have hw1 := h1 w (by simp [hw])
        simp at hw1
        refine hw1 ?_
        rw [List.findIdx?_cons] at h
        simp at h
        cases e2 : st.findIdx? (fun v => decide (v = 0)) with
        | none =>
          rw [List.findIdx?_eq_none_iff] at e2
          have := e2 w hw
          simpa using this
        | some j =>
          simp [e2] at h
theorem up_put (k : Nat) : ∀ (old : List Nat) (p : Nat), p ≤ old.length → Up (stepsF k old (putF old k p)) ∧ dropC (some k) (putF old k p) = dropC (some k) old
  | old, 0, _ => by
    have e : putF old k 0 = k :: old := by simp [putF]
    rw [e]
    refine ⟨?_, by simp [dropC]⟩
    have : stepsF k old (k :: old) = ((aheadF k 0 old).map fun _ => 1) := by
      simp only [stepsF, aheadF, if_true, Nat.zero_add]
      rw [aheadF_shift]
      generalize aheadF k 0 old = u
      induction u with
      | nil => rfl
      | cons a u ih =>
        simp only [List.map_cons, List.zip_cons_cons, ih]
        congr 1
        omega
    rw [this]
    exact up_ones fun v hv => by
      rw [List.mem_map] at hv
      obtain ⟨_, _, rfl⟩ := hv
      rfl
  | [], p + 1, h => by simp at h
  | x :: o, p + 1, h => by
    have e : putF (x :: o) k (p + 1) = x :: putF o k p := by simp [putF]
    obtain ⟨h1, h2⟩ := up_put k o p (by simpa using h)
    rw [e]
    by_cases hx : x = k
    · subst hx
      refine ⟨by rw [stepsF_cc]; exact h1, by simpa [dropC] using h2⟩
    · refine ⟨by rw [stepsF_cons_same k x o _ hx x x hx hx]; exact .zero h1, ?_⟩
      have : dropC (some k) (x :: putF o k p) = x :: dropC (some k) (putF o k p) := by simp [dropC, hx]
      rw [this, h2]
      simp [dropC, hx]
/-- a text is told by its other tokens, the counts ahead and how many signs there are -/
theorem tell (k : Nat) : ∀ (x y : List Nat) (m : Nat), dropC (some k) x = dropC (some k) y → aheadF k m x = aheadF k m y → x.count k = y.count k → x = y
  | [], [], _, _, _, _ => rfl
  | [], b :: y, m, h1, h2, h3 => by
    by_cases hb : b = k
    · subst hb; simp at h3
    · simp [dropC, hb] at h1
  | a :: x, [], m, h1, h2, h3 => by
    by_cases hb : a = k
    · subst hb; simp at h3
    · simp [dropC, hb] at h1
  | a :: x, b :: y, m, h1, h2, h3 => by
    by_cases ha : a = k
    · by_cases hb : b = k
      · subst ha hb
        rw [tell b x y (m + 1) (by simpa [dropC] using h1) (by simpa [aheadF] using h2) (by simpa using h3)]
      · exfalso
        subst ha
        simp only [aheadF, if_true, if_neg hb] at h2
        rw [aheadF_shift] at h2
        cases e : aheadF a m x with
        | nil => rw [e] at h2; simp at h2
        | cons u us =>
          rw [e] at h2
          simp at h2
          have : ∀ (z : List Nat) (n : Nat) (u : Int) (us : List Int), aheadF a n z = u :: us → (n : Int) ≤ u := by
            intro z
            induction z with
            | nil => intro n u us h; simp [aheadF] at h
            | cons c z ih =>
              intro n u us h
              unfold aheadF at h
              split at h
              · have := ih (n + 1) u us h
                omega
              · simp at h
                omega
          have := this x m u us e
          omega
    · by_cases hb : b = k
      · exfalso
        subst hb
        simp only [aheadF, if_true, if_neg ha] at h2
        rw [aheadF_shift] at h2
        cases e : aheadF b m y with
        | nil => rw [e] at h2; simp at h2
        | cons u us =>
          rw [e] at h2
          simp at h2
          have : ∀ (z : List Nat) (n : Nat) (u : Int) (us : List Int), aheadF b n z = u :: us → (n : Int) ≤ u := by
            intro z
            induction z with
            | nil => intro n u us h; simp [aheadF] at h
            | cons c z ih =>
              intro n u us h
              unfold aheadF at h
              split at h
              · have := ih (n + 1) u us h
                omega
              · simp at h
                omega
          have := this y m u us e
          omega
      · have e1 : a = b ∧ dropC (some k) x = dropC (some k) y := by simpa [dropC, ha, hb] using h1
        obtain ⟨rfl, e1⟩ := e1
        rw [tell k x y m e1 (by simpa [aheadF, ha] using h2) (by simpa [ha] using h3)]
theorem ahead_ge (a : Nat) : ∀ (z : List Nat) (n : Nat) (u : Int) (us : List Int), aheadF a n z = u :: us → (n : Int) ≤ u := by
  intro z
  induction z with
  | nil => intro n u us h; simp [aheadF] at h
  | cons c z ih =>
    intro n u us h
    unfold aheadF at h
    split at h
    · have := ih (n + 1) u us h
      omega
    · simp at h
      omega
theorem steps_ones : ∀ (u v : List Int), u.length = v.length → (∀ w ∈ (u.zip v).map (fun p => p.2 - p.1), w = 1) → v = u.map (· + 1)
  | [], [], _, _ => rfl
  | [], _ :: _, h, _ => by simp at h
  | _ :: _, [], h, _ => by simp at h
  | a :: u, b :: v, h, hh => by
    have h1 := hh (b - a) (by simp)
    rw [steps_ones u v (by simpa using h) fun w hw => hh w (by simp at hw ⊢; exact .inr hw)]
    simp
    omega
theorem put_of_up (k : Nat) : ∀ (old new : List Nat), dropC (some k) old = dropC (some k) new → new.count k = old.count k + 1 → Up (stepsF k old new) → ∃ p, p ≤ old.length ∧ putF old k p = new
  | old, [], _, h2, _ => by simp at h2
  | [], y :: n, h1, h2, _ => by
    refine ⟨0, Nat.le_refl _, ?_⟩
    by_cases hy : y = k
    · subst hy
      have : n.count y = 0 := by simpa using h2
      have h3 : dropC (some y) n = [] := by simpa [dropC] using h1.symm
      have hn : n = [] := tell y n [] 0 (by rw [h3]; rfl) (by
        have := aheadF_len y 0 n
        rw [h3] at this
        exact List.eq_nil_of_length_eq_zero this) (by simpa using this)
      simp [putF, hn]
    · simp [dropC, hy] at h1
  | x :: o, y :: n, h1, h2, h3 => by
    by_cases hx : x = k
    · by_cases hy : y = k
      · subst hx hy
        obtain ⟨p, hp, e⟩ := put_of_up y o n (by simpa [dropC] using h1) (by simpa using h2) (by rwa [stepsF_cc] at h3)
        exact ⟨p + 1, by simpa using hp, by rw [← e]; simp [putF]⟩
      · exfalso
        subst hx
        have hl : (aheadF x 0 o).length = (dropC (some x) (y :: n)).length := by
          rw [aheadF_len, ← h1]
          simp [dropC]
        simp only [stepsF, aheadF, if_true, if_neg hy] at h3
        rw [aheadF_shift] at h3
        cases e : aheadF x 0 o with
        | nil => rw [e] at hl; simp [dropC, hy] at hl
        | cons u us =>
          rw [e] at h3
          have h5 := ahead_ge x o 0 u us e
          simp only [List.map_cons, List.zip_cons_cons] at h3
          generalize hq : ((0 : Nat) : Int) - (u + 1) = q at h3
          cases h3 <;> omega
    · by_cases hy : y = k
      · subst hy
        refine ⟨0, Nat.zero_le _, ?_⟩
        have hlen : (aheadF y 0 (x :: o)).length = (aheadF y 0 n).length := by
          rw [aheadF_len, aheadF_len, h1]
          simp [dropC]
        have hst : stepsF y (x :: o) (y :: n) = ((aheadF y 0 (x :: o)).zip ((aheadF y 0 n).map (· + 1))).map fun p => p.2 - p.1 := by
          have : aheadF y 0 (y :: n) = (aheadF y 0 n).map (· + 1) := by
            rw [← aheadF_shift]
            simp [aheadF]
          unfold stepsF
          rw [this]
        have hh : ∀ w ∈ stepsF y (x :: o) (y :: n), w = 1 := by
          rw [hst] at h3 ⊢
          have e0 : aheadF y 0 (x :: o) = 0 :: aheadF y 0 o := by simp [aheadF, hx]
          rw [e0] at h3 ⊢ hlen
          cases e : aheadF y 0 n with
          | nil => rw [e] at hlen; simp at hlen
          | cons u us =>
            rw [e] at h3
            have h5 := ahead_ge y n 0 u us e
            simp only [List.map_cons, List.zip_cons_cons] at h3 ⊢
            generalize hq : (u + 1) - (0 : Int) = q at h3 ⊢
            cases h3 with
            | zero => omega
            | one hh =>
              intro w hw
              rcases List.mem_cons.mp hw with z | z
              · exact z
              · exact hh w z
        rw [hst] at hh
        have hv := steps_ones _ _ (by rw [List.length_map]; exact hlen) hh
        have inj : ∀ (u v : List Int), u.map (· + 1) = v.map (· + 1) → u = v := fun u v h => by
          induction u generalizing v with
          | nil => cases v with
            | nil => rfl
            | cons => simp at h
          | cons a u ih => cases v with
            | nil => simp at h
            | cons b v =>
              simp only [List.map_cons, List.cons.injEq] at h
              rw [ih v h.2]
              have : a = b := by omega
              rw [this]
        have hv := inj _ _ hv
        have hn : n = x :: o := tell y n (x :: o) 0 (by rw [h1]; simp [dropC]) hv (by simpa using h2)
        rw [hn]
        simp [putF]
      · have e1 : x = y ∧ dropC (some k) o = dropC (some k) n := by simpa [dropC, hx, hy] using h1
        obtain ⟨rfl, e1⟩ := e1
        rw [stepsF_cons_same k x o n hx x x hx hx] at h3
        have h3' : Up (stepsF k o n) := by
          generalize hq : (0 : Int) = q at h3
          cases h3 with
          | zero h => exact h
          | one => omega
        obtain ⟨p, hp, e⟩ := put_of_up k o n e1 (by simpa [hx] using h2) h3'
        exact ⟨p + 1, by simpa using hp, by rw [← e]; simp [putF]⟩
theorem swap_none {x y : List Nat} (hl : x.length = y.length) : swapAt x y = none ↔ x = y := by
  unfold swapAt
  have hb := commonF_le x y
  constructor
  · intro h
    split at h
    · cases h
    · refine List.ext_getElem? fun i => ?_
      by_cases hi : i < x.length
      · exact commonF_get (by omega)
      · rw [List.getElem?_eq_none (by omega), List.getElem?_eq_none (by omega)]
  · intro h
    subst h
    have : x.length ≤ commonF x x := le_commonF (Nat.le_refl _) (Nat.le_refl _) fun _ _ => rfl
    rw [if_neg (by omega)]
theorem drop_len {old new : List Nat} {c : Option Nat} (h : new.Perm (old ++ c.toList)) : (dropC c old).length = (dropC c new).length := by
  have := (h.filter fun s => decide (some s ≠ c)).length_eq
  rw [List.filter_append] at this
  unfold dropC
  rw [this, List.length_append]
  have : (c.toList.filter fun s => decide (some s ≠ c)) = [] := by
    cases c <;> simp
  rw [this]
  simp
theorem fault_run {old new : List Nat} {c : Nat} (h : new.Perm (old ++ [c])) : faultD old new (some c) = .non ↔ (runO old new c).isSome = true := by
  have hl := drop_len (c := some c) h
  rw [run_iff]
  unfold faultD
  cases hs : swapAt (dropC (some c) old) (dropC (some c) new) with
  | some i =>
    refine ⟨fun z => (by cases z), fun ⟨p, hp, e⟩ => ?_⟩
    have := (up_put c old p hp).2
    rw [e] at this
    rw [(swap_none hl).mpr this.symm] at hs
    cases hs
  | none =>
    have hd := (swap_none hl).mp hs
    refine ⟨fun z => ?_, fun ⟨p, hp, e⟩ => ?_⟩
    · refine put_of_up c old new hd ?_ (up_of_shift z)
      rw [h.count_eq]
      simp
    · have := (up_put c old p hp).1
      rw [e] at this
      exact shift_up this
/-! ### signs exchanged -/
section
variable {g : Nat → Nat} (hg : ∀ x y, g x = g y → x = y)
include hg
theorem commonF_ren : ∀ (x y : List Nat), commonF (x.map g) (y.map g) = commonF x y
  | [], _ => by simp [commonF]
  | _ :: _, [] => by simp [commonF]
  | a :: x, b :: y => by
    simp only [List.map_cons, commonF]
    rw [commonF_ren x y]
    by_cases h : a = b
    · simp [h]
    · rw [if_neg h, if_neg fun z => h (hg _ _ z)]
theorem runO_ren (old new : List Nat) (c : Nat) : runO (old.map g) (new.map g) (g c) = runO old new c := by
  unfold runO
  rw [← List.map_reverse, ← List.map_reverse, commonF_ren hg, commonF_ren hg, List.length_map, List.length_map, List.getElem?_map]
  have e : (Option.map g new[commonF old new]? = some (g c)) ↔ new[commonF old new]? = some c := by
    cases new[commonF old new]? with
    | none => simp
    | some v =>
      simp
      exact ⟨hg _ _, fun z => by rw [z]⟩
  simp only [e]
theorem rfindD_ren (c : Nat) : ∀ z : List Nat, rfindD (z.map g) (g c) = rfindD z c
  | [] => rfl
  | x :: r => by
    simp only [List.map_cons, rfindD]
    rw [rfindD_ren c r]
    by_cases h : x = c
    · simp [h]
    · rw [if_neg h, if_neg fun z => h (hg _ _ z)]
theorem map_inj {x y : List Nat} : x.map g = y.map g ↔ x = y := by
  refine ⟨fun h => ?_, fun h => by rw [h]⟩
  induction x generalizing y with
  | nil => cases y with
    | nil => rfl
    | cons => simp at h
  | cons a x ih => cases y with
    | nil => simp at h
    | cons b y =>
      simp only [List.map_cons, List.cons.injEq] at h
      rw [hg _ _ h.1, ih h.2]
theorem struck_ren (old new : List Nat) (c : Nat) : struck (old.map g) (new.map g) (g c) = struck old new c := by
  unfold struck
  rw [rfindD_ren hg, ← List.map_take, ← List.map_drop, ← List.map_append]
  simp only [map_inj hg]
theorem dropC_ren (c : Option Nat) (z : List Nat) : dropC (c.map g) (z.map g) = (dropC c z).map g := by
  unfold dropC
  rw [List.filter_map]
  congr 1
  refine List.filter_congr fun x _ => ?_
  simp only [Function.comp]
  rw [decide_eq_decide]
  cases c with
  | none => simp
  | some k =>
    simp
    exact ⟨fun h z => h (by rw [z]), fun h z => h (hg _ _ z)⟩
theorem aheadF_ren (k : Nat) : ∀ (m : Nat) (z : List Nat), aheadF (g k) m (z.map g) = aheadF k m z
  | _, [] => rfl
  | m, s :: r => by
    simp only [List.map_cons, aheadF]
    rw [aheadF_ren k (m + 1) r, aheadF_ren k m r]
    by_cases h : s = k
    · simp [h]
    · rw [if_neg h, if_neg fun z => h (hg _ _ z)]
theorem faultD_ren (old new : List Nat) (c : Option Nat) : faultD (old.map g) (new.map g) (c.map g) = faultD old new c := by
  unfold faultD
  have e : swapAt (dropC (c.map g) (old.map g)) (dropC (c.map g) (new.map g)) = swapAt (dropC c old) (dropC c new) := by
    rw [dropC_ren hg, dropC_ren hg]
    unfold swapAt
    rw [commonF_ren hg, List.length_map, List.length_map]
  rw [e]
  cases c with
  | none => rfl
  | some k =>
    have e2 : stepsF (g k) (old.map g) (new.map g) = stepsF k old new := by
      unfold stepsF
      rw [aheadF_ren hg, aheadF_ren hg]
    simp only [Option.map_some, e2]
theorem count_ren (k : Nat) (z : List Nat) : (z.map g).count (g k) = z.count k := by
  induction z with
  | nil => rfl
  | cons a z ih =>
    rw [List.map_cons, List.count_cons, List.count_cons, ih]
    by_cases h : a = k
    · simp [h]
    · have h2 : ¬ g a = g k := fun z => h (hg _ _ z)
      simp [h, h2]
theorem perm_ren {x y : List Nat} : (x.map g).Perm (y.map g) ↔ x.Perm y := by
  refine ⟨fun h => ?_, fun h => List.Perm.map g h⟩
  rw [List.perm_iff_count]
  intro a
  rw [← count_ren hg a x, ← count_ren hg a y]
  exact h.count_eq _
theorem posR_ren (s : Nat) : ∀ (m : Nat) (z : List Nat), posR (g s) m (z.map g) = posR s m z
  | _, [] => rfl
  | m, x :: r => by
    simp only [List.map_cons, posR]
    rw [posR_ren s (m + 1) r]
    by_cases h : x = s
    · simp [h]
    · rw [if_neg h, if_neg fun z => h (hg _ _ z)]
theorem placesF_ren (row other : List Nat) : placesF (row.map g) (other.map g) = placesF row other := by
  unfold placesF
  rw [List.length_map]
  refine List.map_congr_left fun i hi => ?_
  rw [List.mem_range] at hi
  have e : (row.map g).getD i 0 = g (row.getD i 0) := by
    rw [List.getD_eq_getElem?_getD, List.getD_eq_getElem?_getD, List.getElem?_map, List.getElem?_eq_getElem hi]
    rfl
  rw [e, posR_ren hg, ← List.map_take, count_ren hg]
end
/-! ### reversed -/
theorem putF_rev {old : List Nat} {c p : Nat} (hp : p ≤ old.length) : putF old.reverse c (old.length - p) = (putF old c p).reverse := by
  have h1 : old.reverse.take (old.length - p) = (old.drop p).reverse := by rw [List.reverse_drop]
  have h2 : old.reverse.drop (old.length - p) = (old.take p).reverse := by rw [List.reverse_take]
  simp [putF, h1, h2]
theorem run_rev {old new : List Nat} {c a b : Nat} (h : runO old new c = some (a, b)) : runO old.reverse new.reverse c = some (old.length - b, old.length - a) := by
  obtain ⟨h1, h2⟩ := run_bounds h
  have hp : putF old.reverse c (old.length - a) = new.reverse := by rw [putF_rev (by omega), (put_of_run h (Nat.le_refl _) h1).1]
  obtain ⟨a', b', e, _⟩ := run_of_put (by simp) hp
  rw [e]
  unfold runO at h e
  split at h
  · split at e
    · cases h
      cases e
      simp only [List.reverse_reverse, List.length_reverse]
      have hr := commonF_le old.reverse new.reverse
      rw [List.length_reverse] at hr
      congr 2
      omega
    · cases e
  · cases h
theorem run_rev_none {old new : List Nat} {c : Nat} (h : runO old new c = none) : runO old.reverse new.reverse c = none := by
  cases e : runO old.reverse new.reverse c with
  | none => rfl
  | some q =>
    have := run_rev e
    rw [List.reverse_reverse, List.reverse_reverse, h] at this
    cases this
end K17

set_option Elab.async false
set_option linter.all false
set_option maxRecDepth 100000
set_option maxHeartbeats 4000000
namespace K17
open DL
/-! ### lists by their places -/
def fb {α : Type} (l : List α) (p : α → Bool) (j : Nat) : Bool := match l[j]? with
  | some v => p v
  | none => false
theorem fb_at {α : Type} {l : List α} {p : α → Bool} {j : Nat} {v : α} (h : l[j]? = some v) : fb l p j = p v := by
  unfold fb
  rw [h]
theorem filter_map_succ (b : Nat → Bool) (xs : List Nat) : (xs.map Nat.succ).filter b = (xs.filter fun i => b (i + 1)).map Nat.succ := by
  rw [List.filter_map]
  rfl
theorem head_fb {α : Type} (p : α → Bool) : ∀ l : List α, ((List.range l.length).filter (fb l p)).head? = l.findIdx? p
  | [] => rfl
  | a :: l => by
    rw [List.length_cons, List.range_succ_eq_map, List.filter_cons, List.findIdx?_cons, filter_map_succ]
    have e0 : fb (a :: l) p 0 = p a := fb_at rfl
    have e1 : (List.range l.length).filter (fun i => fb (a :: l) p (i + 1)) = (List.range l.length).filter (fb l p) := List.filter_congr fun i _ => by simp [fb]
    rw [e0, e1]
    cases p a with
    | true => simp
    | false =>
      simp only [Bool.false_eq_true, if_false]
      rw [List.head?_map, head_fb p l]
theorem later_some {α : Type} {p : α → Bool} {l : List α} {j : Nat} (h : l.findIdx? p = some j) : ∃ r, (List.range l.length).filter (fb l p) = j :: r := by
  have := head_fb p l
  rw [h] at this
  cases e : (List.range l.length).filter (fb l p) with
  | nil => rw [e] at this; cases this
  | cons x r => rw [e] at this; cases this; exact ⟨r, rfl⟩
theorem later_none {α : Type} {p : α → Bool} {l : List α} (h : l.findIdx? p = none) : (List.range l.length).filter (fb l p) = [] := by
  have := head_fb p l
  rw [h] at this
  cases e : (List.range l.length).filter (fb l p) with
  | nil => rfl
  | cons x r => rw [e] at this; cases this
theorem snoc_ind {α : Type} {P : List α → Prop} (h0 : P []) (h1 : ∀ x a, P x → P (x ++ [a])) : ∀ z, P z := fun z => by
  have : ∀ y : List α, P y.reverse := fun y => by
    induction y with
    | nil => exact h0
    | cons a y ih => rw [List.reverse_cons]; exact h1 _ _ ih
  have := this z.reverse
  rwa [List.reverse_reverse] at this
theorem posR_fb (s : Nat) : ∀ z : List Nat, ((List.range z.length).filter (fb z fun v => decide (v = s))).map (fun i => ((i : Nat) : Int)) = posR s 0 z := by
  refine snoc_ind rfl fun x a ih => ?_
  rw [posR_snoc, List.length_append, List.length_singleton, List.range_succ, List.filter_append, List.map_append]
  have e : (List.range x.length).filter (fb (x ++ [a]) fun v => decide (v = s)) = (List.range x.length).filter (fb x fun v => decide (v = s)) := List.filter_congr fun i hi => by
    rw [List.mem_range] at hi
    unfold fb
    rw [List.getElem?_append_left hi]
  rw [e, ih]
  congr 1
  have e2 : fb (x ++ [a]) (fun v => decide (v = s)) x.length = decide (a = s) := fb_at (by rw [List.getElem?_append_right (Nat.le_refl _)]; simp)
  rw [List.filter_cons, e2]
  by_cases h : a = s
  · rw [if_pos h, if_pos (by simpa using h)]; simp
  · rw [if_neg h, if_neg (by simpa using h)]; simp
theorem ahead_fb (c : Nat) : ∀ z : List Nat, ((List.range z.length).filter (fb z fun v => decide (v ≠ c))).map (fun i => (((z.take i).count c : Nat) : Int)) = aheadF c 0 z := by
  refine snoc_ind rfl fun x a ih => ?_
  rw [aheadF_snoc, List.length_append, List.length_singleton, List.range_succ, List.filter_append, List.map_append]
  have e : (List.range x.length).filter (fb (x ++ [a]) fun v => decide (v ≠ c)) = (List.range x.length).filter (fb x fun v => decide (v ≠ c)) := List.filter_congr fun i hi => by
    rw [List.mem_range] at hi
    unfold fb
    rw [List.getElem?_append_left hi]
  have e3 : ((List.range x.length).filter (fb x fun v => decide (v ≠ c))).map (fun i => ((((x ++ [a]).take i).count c : Nat) : Int)) = ((List.range x.length).filter (fb x fun v => decide (v ≠ c))).map (fun i => (((x.take i).count c : Nat) : Int)) := List.map_congr_left fun i hi => by
    have := (List.mem_filter.mp hi).1
    rw [List.mem_range] at this
    rw [List.take_append_of_le_length (by omega)]
  rw [e, e3, ih]
  congr 1
  have e2 : fb (x ++ [a]) (fun v => decide (v ≠ c)) x.length = decide (a ≠ c) := fb_at (by rw [List.getElem?_append_right (Nat.le_refl _)]; simp)
  rw [List.filter_cons, e2]
  by_cases h : a = c
  · rw [if_pos h, if_neg (by simpa using h)]; simp
  · rw [if_neg h, if_pos (by simpa using h)]; simp
/-! ### bends -/
def bendF : Nat → List Int → Dt
  | _, [] => .non
  | i, v :: r => if v = 1 then match r.findIdx? (fun w => decide (w = 0)) with
      | some j => .tup [cS "bend", .int i, .int (i + 1 + j : Nat)]
      | none => bendF (i + 1) r
    else bendF (i + 1) r
theorem bend_nozero : ∀ {k : Nat} {st : List Int}, st.findIdx? (fun w => decide (w = 0)) = none → bendF k st = .non
  | _, [], _ => rfl
  | k, v :: r, h => by
    have h2 : r.findIdx? (fun w => decide (w = 0)) = none := by
      rw [List.findIdx?_eq_none_iff] at h ⊢
      exact fun x hx => h x (by simp [hx])
    unfold bendF
    split
    · rw [h2]
      exact bend_nozero h2
    · exact bend_nozero h2
def shiftB (k : Nat) (st : List Int) : Dt := match st.findIdx? (fun v => decide (v = 1)) with
    | none => .non
    | some i => match (st.drop (i + 1)).findIdx? (fun v => decide (v = 0)) with
      | none => .non
      | some j => .tup [cS "bend", .int (k + i : Nat), .int (k + i + 1 + j : Nat)]
theorem shiftB_eq : ∀ (k : Nat) (st : List Int), shiftB k st = bendF k st
  | _, [] => rfl
  | k, v :: r => by
    unfold bendF shiftB
    rw [List.findIdx?_cons]
    by_cases h : v = 1
    · simp only [h, decide_true, if_true, List.drop_succ_cons, List.drop_zero]
      cases e : r.findIdx? (fun w => decide (w = 0)) with
      | none => simp only [Nat.add_zero, e]; exact (bend_nozero e).symm
      | some j => simp only [Nat.add_zero, e]
    · simp only [h, decide_false, if_false, Bool.false_eq_true]
      rw [← shiftB_eq (k + 1) r]
      unfold shiftB
      cases e : r.findIdx? (fun w => decide (w = 1)) with
      | none => rfl
      | some i =>
        simp only [Option.map_some, List.drop_succ_cons]
        have e1 : k + (i + 1) = k + 1 + i := by omega
        simp only [e1]
theorem shiftD_jump {st : List Int} {i : Nat} (h : st.findIdx? (fun v => decide (v ≠ 0 ∧ v ≠ 1)) = some i) : shiftD st = .tup [cS "jump", .int i] := by
  unfold shiftD
  rw [h]
theorem shiftD_bend {st : List Int} (h : st.findIdx? (fun v => decide (v ≠ 0 ∧ v ≠ 1)) = none) : shiftD st = bendF 0 st := by
  rw [← shiftB_eq]
  unfold shiftD shiftB
  rw [h]
  simp only [Nat.zero_add]
  all_goals rfl
/-! ### the round of signs -/
def ren (A : List Nat) (sh : Nat) (x : Nat) : Nat := if x ∈ A then A.getD ((A.idxOf x + sh) % A.length) 0 else x
theorem idx_at {A : List Nat} (hA : A.Nodup) {i : Nat} (h : i < A.length) : A.idxOf A[i] = i := by
  have h1 : A.idxOf A[i] < A.length := List.idxOf_lt_length_iff.mpr (List.getElem_mem h)
  have h2 := List.getElem_idxOf h1
  exact (List.getElem_inj hA).mp h2
theorem ren_at {A : List Nat} (hA : A.Nodup) {sh i : Nat} (h : i < A.length) : ren A sh A[i] = A.getD ((i + sh) % A.length) 0 := by
  unfold ren
  rw [if_pos (List.getElem_mem h), idx_at hA h]
theorem ren_mem {A : List Nat} {sh x : Nat} (h : x ∈ A) : ren A sh x ∈ A := by
  have hl : 0 < A.length := List.length_pos_of_mem h
  have hm := Nat.mod_lt (A.idxOf x + sh) hl
  unfold ren
  rw [if_pos h, List.getD_eq_getElem?_getD, List.getElem?_eq_getElem hm]
  exact List.getElem_mem hm
theorem mod_inj {i j s n : Nat} (hi : i < n) (hj : j < n) (h : (i + s) % n = (j + s) % n) : i = j := by
  have h1 := Nat.div_add_mod (i + s) n
  have h2 := Nat.div_add_mod (j + s) n
  rw [h] at h1
  have h3 : n * ((i + s) / n) + j = n * ((j + s) / n) + i := by omega
  by_cases e : (i + s) / n = (j + s) / n
  · rw [e] at h3; omega
  · rcases Nat.lt_or_gt_of_ne e with z | z
    · have := Nat.mul_le_mul_left n (show (i + s) / n + 1 ≤ (j + s) / n from z)
      rw [Nat.mul_add] at this
      omega
    · have := Nat.mul_le_mul_left n (show (j + s) / n + 1 ≤ (i + s) / n from z)
      rw [Nat.mul_add] at this
      omega
theorem ren_inj {A : List Nat} (hA : A.Nodup) (sh : Nat) : ∀ x y, ren A sh x = ren A sh y → x = y := fun x y h => by
  by_cases hx : x ∈ A
  · by_cases hy : y ∈ A
    · have lx : A.idxOf x < A.length := List.idxOf_lt_length_iff.mpr hx
      have ly : A.idxOf y < A.length := List.idxOf_lt_length_iff.mpr hy
      have mx := Nat.mod_lt (A.idxOf x + sh) (show 0 < A.length by omega)
      have my := Nat.mod_lt (A.idxOf y + sh) (show 0 < A.length by omega)
      unfold ren at h
      rw [if_pos hx, if_pos hy, List.getD_eq_getElem?_getD, List.getD_eq_getElem?_getD, List.getElem?_eq_getElem mx, List.getElem?_eq_getElem my] at h
      have h2 := mod_inj lx ly ((List.getElem_inj hA).mp h)
      have e1 := List.getElem_idxOf lx
      have e2 := List.getElem_idxOf ly
      rw [← e1, ← e2]
      simp only [h2]
    · have := ren_mem (sh := sh) hx
      rw [h] at this
      unfold ren at this
      rw [if_neg hy] at this
      exact absurd this hy
  · by_cases hy : y ∈ A
    · have := ren_mem (sh := sh) hy
      rw [← h] at this
      unfold ren at this
      rw [if_neg hx] at this
      exact absurd this hx
    · unfold ren at h
      rwa [if_neg hx, if_neg hy] at h
end K17

set_option Elab.async false
set_option linter.all false
set_option maxRecDepth 100000
set_option maxHeartbeats 4000000
namespace K17
open PySem PySem.Spec PyProof.Rows L2 L2H DL
local macro_rules | `(tactic| walk_at "rd") => `(tactic| simp only [dget_z, dget_s, dSeq, dSet, dRet, dRetN, dDrop, dIfS, dBrk, dCnt, dNever, dNext, dVar, dC, dOp, dTest, dChain, dAnd, dOr, dNot, dAndV, dOrV, dNotV, dIf, dNil, dCons, dTup, dLst, dLstO, dCB, dAug, dGive, dGiveD, dstart, dAsg, dAsg3, dYes, gNm, gNilD, gConsD, gTupD, iLst, iTupD, iStrD, iR1, iR2, iZipD, iEnumD, iEnumZD, dPut, dPutD, dSl, dRevS, oNo, oInt, dM1, dApp, dIndex, dDGet2, dDNew, dSetd, dNeg, dIsB, dRepEq, dRaise, dRetX, dTry, dIsX, dAt, rdEq, rdNe, rdIsN, rdNotN,  rdIn, rdNotIn,   rdI, rdI0, rdSub, rdFdiv, rdMod, rdPow, rdXor, rdLt, rdLe, rdGt, rdGe,      rdMin,  rdListD,   rdCountS, rdRfindS,          dwipe, q_deq_str, q_deq_int,
  q_int_int, q_int_bl, q_setD_hdl, rdListO, q_ix_lst, q_ix_tup, q_ix_str, q_ix_hdl, q_ix_scr, q_setL_hdl, q_add_int, q_add_str, q_add_lst, q_add_tup, q_mul_int, q_mul_str, q_sl_lst, q_sl_tup, q_sl_str, q_len_str, q_len_lst, q_len_tup, q_len_scr, q_len_hdl, q_items_lst, q_items_tup, q_items_str, q_items_hdl, q_inB_lst, q_inB_tup, q_sign_str, q_index_lst, q_dget_dk, q_dget_hdl, q_sort_lst, q_sort_str, q_src_str, q_src_lst, q_src_tup, q_isNon_non, q_isNon_bl, q_isNon_int, q_isNon_str, q_isNon_tup, q_isNon_lst, q_isBl_bl, q_isBl_int, q_flat_non, q_flat_bl, q_flat_int, q_flat_str, q_key_int, q_key_str, q_shl_non, q_shl_bl, q_shl_int, q_shl_str, q_shl_tup, q_shl_lst, q_shlAll_nil, q_shlAll_cons, q_deq_non, q_deq_bl, q_deq_tup, q_deq_lst, q_deqAll_nil, q_deqAll_cons,
  List.any_cons, List.any_nil, List.all_cons, List.all_nil, if_true, Bool.or_false, Bool.and_true, Bool.true_and, Bool.not_or, Bool.and_eq_true, Bool.and_eq_false_iff, q_nil, List.append_nil, q_deq_strs, q_shl_strs, q_flat_ints, q_deq_ints, q_idx_ints, if_false, reduceIte,
  List.length_cons, List.length_nil, List.map_cons, List.map_nil, List.cons_append, List.nil_append, List.set_cons_zero, List.set_cons_succ, List.replicate, Option.some.injEq, exists_eq_left', exists_eq_left, exists_eq', exists_eq, exists_and_left, exists_const, true_and, and_true, and_self, forall_const, Dt.int.injEq, Dt.str.injEq, Dt.bl.injEq, Dt.hdl.injEq, OD.lst.injEq, OD.dk.injEq, mset_same, mset_mset, List.length_map, Dt.tup.injEq, Dt.lst.injEq, Nat.reduceAdd, Nat.reduceSub, Nat.zero_add, Int.zero_add, decide_eq_true_eq, decide_eq_false_iff_not, List.cons.injEq, and_assoc, eq_self, Bool.not_eq_true', Bool.not_eq_false', Bool.true_eq_false, Bool.false_eq_true, false_implies, implies_true, not_true_eq_false, not_false_eq_true, reduceCtorEq, false_and, and_false, exists_false, ne_eq])
-- body
section
variable {a b c d e : Dt} {v : Dt}
theorem q_st0 : L2.atI [a, b, c, d, e] 0 = some a := rfl
theorem q_st1 : L2.atI [a, b, c, d, e] 1 = some b := rfl
theorem q_st2 : L2.atI [a, b, c, d, e] 2 = some c := rfl
theorem q_st3 : L2.atI [a, b, c, d, e] 3 = some d := rfl
theorem q_st4 : L2.atI [a, b, c, d, e] 4 = some e := rfl
theorem q_ix2 : L2.ixN 5 2 = some 2 := rfl
theorem q_ix4 : L2.ixN 5 4 = some 4 := rfl
end
theorem e_mix {a b : Int} {μ : Mu} {K : KD} : sp_mix [.int a, .int b] μ K = (0 ≤ b ∧ b < 2 ^ 60 ∧ ∀ r : Int, 0 ≤ r → r < 2 ^ 62 → K (.int r) μ) := by
  unfold sp_mix
  walk_at "rd"
-- the store: its handle s, its cells c, its lefts l; b bounds what was drawn behind the cells
def Sto (s c l : Addr) (b : Int) (μ : Mu) : Prop := ∃ (cells lefts : List Int) (at' seed n : Int), μ s = some (.lst [.hdl c, .hdl l, .int at', .int seed, .int n]) ∧ μ c = some (.lst (cells.map .int)) ∧ μ l = some (.lst (lefts.map .int)) ∧
  cells.length = lefts.length ∧ cells.length ≤ 63 ∧ 0 ≤ at' ∧ s ≠ c ∧ s ≠ l ∧ c ≠ l ∧ (∀ v ∈ cells, 0 ≤ v) ∧ (∀ v ∈ lefts, 0 ≤ v ∧ v ≤ 6) ∧ 0 ≤ n ∧ n ≤ b ∧ b < 2 ^ 59
/-- the store goes on; all else stays -/
def Gon (s c l : Addr) (b : Int) (μ μ' : Mu) : Prop := Sto s c l b μ' ∧ ∀ p o, p ≠ s → p ≠ c → p ≠ l → μ p = some o → μ' p = some o
def sp_take : SpD := fun ds μ K => ∃ (s c l : Addr) (b many : Int), ds = [.hdl s, .int many] ∧ Sto s c l b μ ∧ b < 2 ^ 58 ∧ many < 2 ^ 60 ∧ ∀ (r : Int) μ', Gon s c l (b + 1) μ μ' → 0 ≤ r → (1 < many → r < many) → (many ≤ 1 → r = 0) → K (.int r) μ'
theorem ixN_n {n i : Nat} (h : i < n) : L2.ixN n (i : Int) = some i := by
  unfold L2.ixN
  rw [if_pos (Int.natCast_nonneg i), if_pos (by exact_mod_cast h)]
  rfl
theorem cdiv {x m : Int} (h : 0 < m) (h2 : m < 2 ^ 60) : CDivW x m := ⟨h, by
  have : m.natAbs.log2 ≤ 59 := log2_le (by omega)
  omega⟩
theorem Gon.same {s c l : Addr} {b : Int} {μ : Mu} (h : Sto s c l b μ) (hb : b + 1 < 2 ^ 59) : Gon s c l (b + 1) μ μ := by
  obtain ⟨cells, lefts, at', seed, n, hs, hc, hl, e1, e2, e3, n1, n2, n3, v1, v2, b1, b2, b3⟩ := h
  exact ⟨⟨cells, lefts, at', seed, n, hs, hc, hl, e1, e2, e3, n1, n2, n3, v1, v2, b1, by omega, hb⟩, fun _ _ _ _ _ h => h⟩
theorem p_take (ds : List Dt) (μ : Mu) (Kd : KD) (h : sp_take ds μ Kd) : rd__law_take sp_mix { nx := fun _ μ' => Kd .non μ', rt := Kd } (dstart N__law_take ds) μ := by
  obtain ⟨s, c, l, b, many, rfl, hS, hb, hm, k⟩ := h
  obtain ⟨cells, lefts, at', seed, n, hs, hc, hl, e1, e2, e3, n1, n2, n3, v1, v2, b1, b2, b3⟩ := id hS
  obtain ⟨i, rfl⟩ := Int.eq_ofNat_of_zero_le e3
  unfold rd__law_take
  walk_at "rd"
  refine ⟨fun h1 => k 0 μ (Gon.same hS (by omega)) (Int.le_refl _) (fun z => absurd z (by omega)) (fun _ => rfl), fun h1 => ?_⟩
  have hm0 : 0 < many := by omega
  have fin : ∀ (r : Int) μ', Gon s c l (b + 1) μ μ' → Kd (.int (r % many)) μ' := fun r μ' g => k _ _ g (Int.emod_nonneg _ (by omega)) (fun _ => Int.emod_lt_of_pos _ hm0) (fun z => absurd z h1)
  simp only [hs, hc, hl, q_st0, q_st1, q_st2, q_st3, q_st4]
  walk_at "rd"
  simp only [hs, hc, hl, q_st0, q_st1, q_st2, q_st3, q_st4]
  walk_at "rd"
  simp only [hs, hc, hl, q_st0, q_st1, q_st2, q_st3, q_st4]
  walk_at "rd"
  refine ⟨fun hge => ?_, fun hlt => ?_⟩
  · simp only [q_st4]
    walk_at "rd"
    simp only [hs]
    walk_at "rd"
    simp only [q_ix4]
    walk_at "rd"
    simp only [q_st3, q_st4]
    walk_at "rd"
    simp only [e_mix]
    refine ⟨by omega, by omega, fun r r1 r2 => ?_⟩
    walk_at "rd"
    refine ⟨hm0, fin _ _ ⟨⟨cells, lefts, i, seed, n + 1, mset_same, ?_, ?_, e1, e2, e3, n1, n2, n3, v1, v2, by omega, by omega, by omega⟩, fun p o p1 p2 p3 h => by rw [mset_ne p1]; exact h⟩⟩
    · rw [mset_ne (Ne.symm n1)]; exact hc
    · rw [mset_ne (Ne.symm n2)]; exact hl
  · have hi : i < cells.length := by omega
    have hj : i < lefts.length := by omega
    have hcv : (cells.map Dt.int)[i]? = some (.int cells[i]) := by rw [List.getElem?_map, List.getElem?_eq_getElem hi]; rfl
    have hlv : (lefts.map Dt.int)[i]? = some (.int lefts[i]) := by rw [List.getElem?_map, List.getElem?_eq_getElem hj]; rfl
    simp only [atI_n, hcv, hlv]
    walk_at "rd"
    refine ⟨fun hz => ?_, fun hz => ?_⟩
    · simp only [hc]
      walk_at "rd"
      simp only [ixN_n hi, hs]
      walk_at "rd"
      have em : (cells.map Dt.int).set i (.int (cells[i] / many)) = (cells.set i (cells[i] / many)).map .int := by rw [List.map_set]
      have vv : ∀ v ∈ cells.set i (cells[i] / many), 0 ≤ v := fun v hv => by
        rcases List.mem_or_eq_of_mem_set hv with z | z
        · exact v1 v z
        · rw [z]; exact Int.ediv_nonneg (v1 _ (List.getElem_mem hi)) (by omega)
      rw [em]
      simp only [mset_ne n1, hs]
      walk_at "rd"
      simp only [q_ix2]
      walk_at "rd"
      refine ⟨cdiv hm0 hm, fun hr => ⟨hm0, fin _ _ ⟨⟨cells.set i (cells[i] / many), lefts, i + 1, seed, n, mset_same, ?_, ?_, by rw [List.length_set]; exact e1, by rw [List.length_set]; exact e2, by omega, n1, n2, n3, vv, v2, b1, by omega, by omega⟩, fun p o p1 p2 p3 h => ?_⟩⟩,
        fun hr => ⟨hm0, fin _ _ ⟨⟨cells.set i (cells[i] / many), lefts, i, seed, n, ?_, mset_same, ?_, by rw [List.length_set]; exact e1, by rw [List.length_set]; exact e2, by omega, n1, n2, n3, vv, v2, b1, by omega, by omega⟩, fun p o p1 p2 p3 h => by rw [mset_ne p2]; exact h⟩⟩⟩
      · rw [mset_ne (Ne.symm n1), mset_same]
      · rw [mset_ne (Ne.symm n2), mset_ne (Ne.symm n3)]; exact hl
      · rw [mset_ne p1, mset_ne p2]; exact h
      · rw [mset_ne n1]; exact hs
      · rw [mset_ne (Ne.symm n3)]; exact hl
    · have lz := v2 _ (List.getElem_mem hj)
      have em : (lefts.map Dt.int).set i (.int (lefts[i] - 1)) = (lefts.set i (lefts[i] - 1)).map .int := by rw [List.map_set]
      have vv : ∀ v ∈ lefts.set i (lefts[i] - 1), 0 ≤ v ∧ v ≤ 6 := fun v hv => by
        rcases List.mem_or_eq_of_mem_set hv with z | z
        · exact v2 v z
        · rw [z]; omega
      have hlv2 : ((lefts.set i (lefts[i] - 1)).map Dt.int)[i]? = some (.int (lefts[i] - 1)) := by
        rw [List.getElem?_map, List.getElem?_set_self hj]; rfl
      simp only [ixN_n hj]
      walk_at "rd"
      rw [em]
      simp only [hlv2]
      walk_at "rd"
      simp only [mset_ne n2, mset_ne n3, hs, hc]
      walk_at "rd"
      simp only [q_ix2]
      walk_at "rd"
      simp only [mset_ne n3, mset_ne (Ne.symm n1), mset_ne (Ne.symm n2), mset_same, hc, hs]
      walk_at "rd"
      simp only [hcv, hlv2]
      walk_at "rd"
      simp only [hlv2, e_mix]
      walk_at "rd"
      refine ⟨fun h0 => ⟨by omega, by omega, fun r r1 r2 => ?_⟩, fun h0 => ⟨by omega, by omega, fun r r1 r2 => ?_⟩⟩
      · skip
        refine ⟨hm0, fin _ _ ⟨⟨cells, lefts.set i (lefts[i] - 1), i + 1, seed, n, mset_same, ?_, ?_, by rw [List.length_set]; exact e1, e2, by omega, n1, n2, n3, v1, vv, b1, by omega, by omega⟩, fun p o p1 p2 p3 h => ?_⟩⟩
        · rw [mset_ne (Ne.symm n1), mset_ne n3]; exact hc
        · rw [mset_ne (Ne.symm n2), mset_same]
        · rw [mset_ne p1, mset_ne p3]; exact h
      · skip
        refine ⟨hm0, fin _ _ ⟨⟨cells, lefts.set i (lefts[i] - 1), i, seed, n, ?_, ?_, mset_same, by rw [List.length_set]; exact e1, e2, by omega, n1, n2, n3, v1, vv, b1, by omega, by omega⟩, fun p o p1 p2 p3 h => ?_⟩⟩
        · rw [mset_ne n2]; exact hs
        · rw [mset_ne n3]; exact hc
        · rw [mset_ne p3]; exact h
end K17

set_option Elab.async false
set_option linter.all false
set_option maxRecDepth 100000
set_option maxHeartbeats 4000000
namespace K17
open PySem PySem.Spec PyProof.Rows L2 L2H DL
local macro_rules | `(tactic| walk_at "rd") => `(tactic| simp only [dget_z, dget_s, dSeq, dSet, dRet, dRetN, dDrop, dIfS, dBrk, dCnt, dNever, dNext, dVar, dC, dOp, dTest, dChain, dAnd, dOr, dNot, dAndV, dOrV, dNotV, dIf, dNil, dCons, dTup, dLst, dLstO, dCB, dAug, dGive, dGiveD, dstart, dAsg, dAsg3, dYes, gNm, gNilD, gConsD, gTupD, iLst, iTupD, iStrD, iR1, iR2, iZipD, iEnumD, iEnumZD, dPut, dPutD, dSl, dRevS, oNo, oInt, dM1, dApp, dIndex, dDGet2, dDNew, dSetd, dNeg, dIsB, dRepEq, dRaise, dRetX, dTry, dIsX, dAt, rdEq, rdNe, rdIsN, rdNotN,  rdIn, rdNotIn,   rdI, rdI0, rdSub, rdFdiv, rdMod, rdPow, rdXor, rdLt, rdLe, rdGt, rdGe,      rdMin,  rdListD,   rdCountS, rdRfindS,          dwipe, q_deq_str, q_deq_int,
  q_int_int, q_int_bl, q_setD_hdl, rdListO, q_ix_lst, q_ix_tup, q_ix_str, q_ix_hdl, q_ix_scr, q_setL_hdl, q_add_int, q_add_str, q_add_lst, q_add_tup, q_mul_int, q_mul_str, q_sl_lst, q_sl_tup, q_sl_str, q_len_str, q_len_lst, q_len_tup, q_len_scr, q_len_hdl, q_items_lst, q_items_tup, q_items_str, q_items_hdl, q_inB_lst, q_inB_tup, q_sign_str, q_index_lst, q_dget_dk, q_dget_hdl, q_sort_lst, q_sort_str, q_src_str, q_src_lst, q_src_tup, q_isNon_non, q_isNon_bl, q_isNon_int, q_isNon_str, q_isNon_tup, q_isNon_lst, q_isBl_bl, q_isBl_int, q_flat_non, q_flat_bl, q_flat_int, q_flat_str, q_key_int, q_key_str, q_shl_non, q_shl_bl, q_shl_int, q_shl_str, q_shl_tup, q_shl_lst, q_shlAll_nil, q_shlAll_cons, q_deq_non, q_deq_bl, q_deq_tup, q_deq_lst, q_deqAll_nil, q_deqAll_cons,
  List.any_cons, List.any_nil, List.all_cons, List.all_nil, if_true, Bool.or_false, Bool.and_true, Bool.true_and, Bool.not_or, Bool.and_eq_true, Bool.and_eq_false_iff, q_nil, List.append_nil, q_deq_strs, q_shl_strs, q_flat_ints, q_deq_ints, q_idx_ints, if_false, reduceIte,
  List.length_cons, List.length_nil, List.map_cons, List.map_nil, List.cons_append, List.nil_append, List.set_cons_zero, List.set_cons_succ, List.replicate, Option.some.injEq, exists_eq_left', exists_eq_left, exists_eq', exists_eq, exists_and_left, exists_const, true_and, and_true, and_self, forall_const, Dt.int.injEq, Dt.str.injEq, Dt.bl.injEq, Dt.hdl.injEq, OD.lst.injEq, OD.dk.injEq, mset_same, mset_mset, List.length_map, Dt.tup.injEq, Dt.lst.injEq, Nat.reduceAdd, Nat.reduceSub, Nat.zero_add, Int.zero_add, decide_eq_true_eq, decide_eq_false_iff_not, List.cons.injEq, and_assoc, eq_self, Bool.not_eq_true', Bool.not_eq_false', Bool.true_eq_false, Bool.false_eq_true, false_implies, implies_true, not_true_eq_false, not_false_eq_true, reduceCtorEq, false_and, and_false, exists_false, ne_eq])
-- body
theorem rng0 {n : Nat} : rngD 0 n = (List.range n).map fun (i : Nat) => Dt.int i := by
  unfold rngD
  refine List.map_congr_left fun i _ => ?_
  rw [Int.zero_add]
theorem rng1 {m n : Nat} : rngD ((m : Int) + 1) n = (List.range n).map fun (i : Nat) => Dt.int ((m + 1 + i : Nat) : Int) := by
  unfold rngD
  refine List.map_congr_left fun i _ => ?_
  congr 1
theorem Gon.trans {s c l : Addr} {b b' : Int} {μ μ1 μ2 : Mu} (h1 : Gon s c l b μ μ1) (h2 : Gon s c l b' μ1 μ2) : Gon s c l b' μ μ2 := ⟨h2.1, fun p o p1 p2 p3 h => h2.2 p o p1 p2 p3 (h1.2 p o p1 p2 p3 h)⟩
theorem Sto.le {s c l : Addr} {b b' : Int} {μ : Mu} (h : Sto s c l b μ) (h1 : b ≤ b') (h2 : b' < 2 ^ 59) : Sto s c l b' μ := by
  obtain ⟨cells, lefts, at', seed, n, hs, hc, hl, e1, e2, e3, n1, n2, n3, v1, v2, b1, b2, b3⟩ := h
  exact ⟨cells, lefts, at', seed, n, hs, hc, hl, e1, e2, e3, n1, n2, n3, v1, v2, b1, by omega, h2⟩
theorem Gon.le {s c l : Addr} {b b' : Int} {μ μ1 : Mu} (h : Gon s c l b μ μ1) (h1 : b ≤ b') (h2 : b' < 2 ^ 59) : Gon s c l b' μ μ1 := ⟨h.1.le h1 h2, h.2⟩
theorem Gon.refl {s c l : Addr} {b b' : Int} {μ : Mu} (h : Sto s c l b μ) (h1 : b ≤ b') (h2 : b' < 2 ^ 59) : Gon s c l b' μ μ := ⟨h.le h1 h2, fun _ _ _ _ _ h => h⟩
theorem Sto.kp {s c l : Addr} {b : Int} {μ μ' : Mu} (h : Sto s c l b μ) (k : Kp μ μ') : Sto s c l b μ' := by
  obtain ⟨cells, lefts, at', seed, n, hs, hc, hl, r⟩ := h
  exact ⟨cells, lefts, at', seed, n, k _ _ hs, k _ _ hc, k _ _ hl, r⟩
theorem Gon.kp {s c l : Addr} {b : Int} {μ μ1 μ2 : Mu} (h : Gon s c l b μ μ1) (k : Kp μ1 μ2) : Gon s c l b μ μ2 := ⟨h.1.kp k, fun p o p1 p2 p3 q => k _ _ (h.2 p o p1 p2 p3 q)⟩
theorem Sto.ne {s c l : Addr} {b : Int} {μ : Mu} (h : Sto s c l b μ) {p : Addr} (hp : μ p = none) : p ≠ s ∧ p ≠ c ∧ p ≠ l := by
  obtain ⟨cells, lefts, at', seed, n, hs, hc, hl, r⟩ := h
  refine ⟨fun z => ?_, fun z => ?_, fun z => ?_⟩ <;> subst z
  · rw [hp] at hs; cases hs
  · rw [hp] at hc; cases hc
  · rw [hp] at hl; cases hl
theorem Sto.put {s c l p : Addr} {b : Int} {μ : Mu} {o : OD} (h : Sto s c l b μ) (hn : p ≠ s ∧ p ≠ c ∧ p ≠ l) : Sto s c l b (mset μ p o) := by
  obtain ⟨cells, lefts, at', seed, n, hs, hc, hl, r⟩ := h
  exact ⟨cells, lefts, at', seed, n, by rw [mset_ne (Ne.symm hn.1)]; exact hs, by rw [mset_ne (Ne.symm hn.2.1)]; exact hc, by rw [mset_ne (Ne.symm hn.2.2)]; exact hl, r⟩
theorem Sto.del {s c l p : Addr} {b : Int} {μ : Mu} (h : Sto s c l b μ) (hn : p ≠ s ∧ p ≠ c ∧ p ≠ l) : Sto s c l b (mdel μ p) := by
  obtain ⟨cells, lefts, at', seed, n, hs, hc, hl, r⟩ := h
  exact ⟨cells, lefts, at', seed, n, by rw [mdel_ne (Ne.symm hn.1)]; exact hs, by rw [mdel_ne (Ne.symm hn.2.1)]; exact hc, by rw [mdel_ne (Ne.symm hn.2.2)]; exact hl, r⟩
theorem Gon.put {s c l p : Addr} {b : Int} {μ μ' : Mu} {o : OD} (h : Gon s c l b μ μ') (hp : μ p = none) (hn : p ≠ s ∧ p ≠ c ∧ p ≠ l) : Gon s c l b μ (mset μ' p o) := ⟨h.1.put hn, fun q u q1 q2 q3 e => by
  have ne : q ≠ p := fun z => by rw [z, hp] at e; cases e
  rw [mset_ne ne]
  exact h.2 q u q1 q2 q3 e⟩
theorem Gon.del {s c l p : Addr} {b : Int} {μ μ' : Mu} (h : Gon s c l b μ μ') (hp : μ p = none) (hn : p ≠ s ∧ p ≠ c ∧ p ≠ l) : Gon s c l b μ (mdel μ' p) := ⟨h.1.del hn, fun q u q1 q2 q3 e => by
  have ne : q ≠ p := fun z => by rw [z, hp] at e; cases e
  rw [mdel_ne ne]
  exact h.2 q u q1 q2 q3 e⟩
theorem u_take {s c l : Addr} {b many : Int} {μ : Mu} {K : KD} (h : Sto s c l b μ) (hb : b < 2 ^ 58) (hm : many < 2 ^ 60) (k : ∀ (r : Int) μ', Gon s c l (b + 1) μ μ' → 0 ≤ r → (1 < many → r < many) → (many ≤ 1 → r = 0) → K (.int r) μ') : sp_take [.hdl s, .int many] μ K :=
  ⟨s, c, l, b, many, rfl, h, hb, hm, k⟩
-- yes
def sp_yes : SpD := fun ds μ K => ∃ (s c l : Addr) (b many : Int), ds = [.hdl s, .int many] ∧ Sto s c l b μ ∧ b < 2 ^ 50 ∧ many < 2 ^ 60 ∧ ∀ (r : Bool) μ', Gon s c l (b + 1) μ μ' → K (.bl r) μ'
theorem p_yes (ds : List Dt) (μ : Mu) (Kd : KD) (h : sp_yes ds μ Kd) : rd__law_yes sp_take { nx := fun _ μ' => Kd .non μ', rt := Kd } (dstart N__law_yes ds) μ := by
  obtain ⟨s, c, l, b, many, rfl, hS, hb, hm, k⟩ := h
  unfold rd__law_yes
  walk_at "rd"
  refine u_take hS (by omega) hm fun r μ' g r1 r2 r3 => ?_
  walk_at "rd"
  exact k _ _ g
theorem u_yes {s c l : Addr} {b many : Int} {μ : Mu} {K : KD} (h : Sto s c l b μ) (hb : b < 2 ^ 50) (hm : many < 2 ^ 60) (k : ∀ (r : Bool) μ', Gon s c l (b + 1) μ μ' → K (.bl r) μ') : sp_yes [.hdl s, .int many] μ K :=
  ⟨s, c, l, b, many, rfl, h, hb, hm, k⟩
-- span
def sp_span : SpD := fun ds μ K => ∃ (s c l : Addr) (b lo hi : Int), ds = [.hdl s, .int lo, .int hi] ∧ Sto s c l b μ ∧ b < 2 ^ 50 ∧ hi - lo < 2 ^ 50 ∧ ∀ (r : Int) μ', Gon s c l (b + 2) μ μ' → lo ≤ r → (lo ≤ hi → r ≤ hi) → (hi ≤ lo → r = lo) → K (.int r) μ'
theorem p_span (ds : List Dt) (μ : Mu) (Kd : KD) (h : sp_span ds μ Kd) : rd__law_span sp_take { nx := fun _ μ' => Kd .non μ', rt := Kd } (dstart N__law_span ds) μ := by
  obtain ⟨s, c, l, b, lo, hi, rfl, hS, hb, hm, k⟩ := h
  unfold rd__law_span
  walk_at "rd"
  refine ⟨fun h1 => k lo μ (Gon.refl hS (by omega) (by omega)) (by omega) (fun _ => by omega) (fun _ => rfl), fun h1 => ?_⟩
  refine u_take hS (by omega) (by omega) fun r μ' g r1 r2 r3 => ?_
  walk_at "rd"
  have g' := g.le (b' := b + 2) (by omega) (by omega)
  refine ⟨fun e => k _ _ g' (by omega) (fun _ => by omega) (fun _ => by omega), fun e => ⟨fun e2 => k _ _ g' (by omega) (fun _ => by omega) (fun _ => by omega), fun e2 => ⟨fun e3 => k _ _ g' (by omega) (fun _ => by omega) (fun _ => by omega), fun e3 => ?_⟩⟩⟩
  refine u_take g.1 (by omega) (by omega) fun r' μ2 g2 q1 q2 q3 => ?_
  walk_at "rd"
  have e4 : b + 1 + 1 = b + 2 := by omega
  rw [e4] at g2
  have := q2 (by omega)
  exact k _ _ (g.trans g2) (by omega) (fun _ => by omega) (fun _ => by omega)
theorem u_span {s c l : Addr} {b lo hi : Int} {μ : Mu} {K : KD} (h : Sto s c l b μ) (hb : b < 2 ^ 50) (hm : hi - lo < 2 ^ 50) (k : ∀ (r : Int) μ', Gon s c l (b + 2) μ μ' → lo ≤ r → (lo ≤ hi → r ≤ hi) → (hi ≤ lo → r = lo) → K (.int r) μ') : sp_span [.hdl s, .int lo, .int hi] μ K :=
  ⟨s, c, l, b, lo, hi, rfl, h, hb, hm, k⟩
-- of
def itemsD : Dt → Option (List Dt)
  | .lst xs => some xs
  | .tup xs => some xs
  | .str z => if z.length ≤ 1000000 then some (sgn z) else none
  | _ => none
def sp_of : SpD := fun ds μ K => ∃ (s c l : Addr) (b : Int) (t : Dt) (xs : List Dt), ds = [.hdl s, t] ∧ itemsD t = some xs ∧ xs ≠ [] ∧ xs.length < 2 ^ 50 ∧ Sto s c l b μ ∧ b < 2 ^ 50 ∧ ∀ x ∈ xs, ∀ μ', Gon s c l (b + 1) μ μ' → K x μ'
theorem p_of (ds : List Dt) (μ : Mu) (Kd : KD) (h : sp_of ds μ Kd) : rd__law_of sp_take { nx := fun _ μ' => Kd .non μ', rt := Kd } (dstart N__law_of ds) μ := by
  obtain ⟨s, c, l, b, t, xs, rfl, ht, hx, hlen, hS, hb, k⟩ := h
  have hpos : 0 < xs.length := List.length_pos_iff.mpr hx
  have fin : ∀ (r : Int), 0 ≤ r → (1 < (xs.length : Int) → r < xs.length) → ((xs.length : Int) ≤ 1 → r = 0) → ∃ d, L2.atI xs r = some d ∧ d ∈ xs := fun r r1 r2 r3 => by
    obtain ⟨i, rfl⟩ := Int.eq_ofNat_of_zero_le r1
    have hi : i < xs.length := by omega
    exact ⟨xs[i], by rw [atI_n, List.getElem?_eq_getElem hi], List.getElem_mem hi⟩
  unfold rd__law_of
  walk_at "rd"
  cases t <;> simp only [itemsD, reduceCtorEq] at ht
  · rename_i z
    split at ht
    · rename_i hz
      cases ht
      walk_at "rd"
      refine ⟨hz, u_take hS (by omega) (by rw [sgn_length] at hlen; omega) fun r μ' g r1 r2 r3 => ?_⟩
      rw [sgn_length] at fin
      obtain ⟨d, hd, hm⟩ := fin r r1 r2 r3
      obtain ⟨i, rfl⟩ := Int.eq_ofNat_of_zero_le r1
      rw [atI_n] at hd
      obtain ⟨a, ha, rfl⟩ := sgn_of hd
      walk_at "rd"
      exact ⟨hz, a, by rw [atI_n]; exact ha, k _ hm _ g⟩
    · cases ht
  · cases ht
    walk_at "rd"
    refine u_take hS (by omega) (by omega) fun r μ' g r1 r2 r3 => ?_
    obtain ⟨d, hd, hm⟩ := fin r r1 r2 r3
    walk_at "rd"
    exact ⟨d, hd, k _ hm _ g⟩
  · cases ht
    walk_at "rd"
    refine u_take hS (by omega) (by omega) fun r μ' g r1 r2 r3 => ?_
    obtain ⟨d, hd, hm⟩ := fin r r1 r2 r3
    walk_at "rd"
    exact ⟨d, hd, k _ hm _ g⟩
theorem u_of {s c l : Addr} {b : Int} {t : Dt} {μ : Mu} {K : KD} (xs : List Dt) (ht : itemsD t = some xs) (hx : xs ≠ []) (hl : xs.length < 2 ^ 50) (h : Sto s c l b μ) (hb : b < 2 ^ 50) (k : ∀ x ∈ xs, ∀ μ', Gon s c l (b + 1) μ μ' → K x μ') : sp_of [.hdl s, t] μ K :=
  ⟨s, c, l, b, t, xs, rfl, ht, hx, hl, h, hb, k⟩
theorem u_ofS {s c l : Addr} {b : Int} {z : List Nat} {μ : Mu} {K : KD} (hx : z ≠ []) (hl : z.length ≤ 1000) (h : Sto s c l b μ) (hb : b < 2 ^ 50) (k : ∀ x ∈ z, ∀ μ', Gon s c l (b + 1) μ μ' → K (.str [x]) μ') : sp_of [.hdl s, .str z] μ K :=
  u_of (sgn z) (by simp only [itemsD]; rw [if_pos (by omega)]) (by cases z with
    | nil => exact absurd rfl hx
    | cons => simp [sgn]) (by rw [sgn_length]; omega) h hb fun x hx μ' g => by
    unfold sgn at hx
    rw [List.mem_map] at hx
    obtain ⟨a, ha, rfl⟩ := hx
    exact k a ha μ' g
-- order
theorem swap_perm {xs : List Dt} {i j : Nat} (hi : i < xs.length) (hj : j < xs.length) : ((xs.set i xs[j]).set j xs[i]).Perm xs := by
  exact List.set_set_perm hi hj
def sp_order : SpD := fun ds μ K => ∃ (s c l : Addr) (b : Int) (t : Dt) (xs : List Dt), ds = [.hdl s, t] ∧ (t = .lst xs ∨ ∃ z, t = .str z ∧ xs = sgn z) ∧ xs.length ≤ 1000 ∧ Sto s c l b μ ∧ b < 2 ^ 50 ∧ ∀ ys, ys.Perm xs → ∀ μ', Gon s c l (b + 1000) μ μ' → K (.lst ys) μ'
theorem p_order (ds : List Dt) (μ : Mu) (Kd : KD) (h : sp_order ds μ Kd) : rd__law_order sp_take { nx := fun _ μ' => Kd .non μ', rt := Kd } (dstart N__law_order ds) μ := by
  obtain ⟨s, c, l, b, t, xs, rfl, ht, hx, hS, hb, k⟩ := h
  have main : ∀ p, μ p = none → dSeq (dFor (iR1 (dCons (dOp rdSub (dCB rdLen (dCons (dVar 2) dNil)) (dC (.int 1))) dNil)) (gNm 3)
      (dSeq (dSet 4 (dOp rdSub (dOp rdSub (dCB rdLen (dCons (dVar 2) dNil)) (dC (.int 1))) (dVar 3)))
      (dSeq (dSet 5 (dCB sp_take (dCons (dVar 0) (dCons (dOp rdAdd (dVar 4) (dC (.int 1))) dNil))))
      (dSeq (dSet 6 (dOp rdIx (dVar 2) (dVar 4)))
      (dSeq (dPut (dOp rdIx (dVar 2) (dVar 5)) (dVar 2) (dVar 4))
      (dPut (dVar 6) (dVar 2) (dVar 5)))))))
      (dGive 2 (dRet (dVar 2))) { nx := fun _ μ' => Kd .non μ', rt := Kd } [some (.hdl s), some t, some (.hdl p), none, none, none, none] (mset μ p (.lst xs)) := by
    intro p hp
    obtain ⟨ps, pc, pl⟩ := hS.ne hp
    show dFor _ _ _ _ _ _
    refine for_use (rngD 0 (xs.length - 1)) (fun i ρ' μ' => (∃ ys, ys.Perm xs ∧ μ' p = some (.lst ys) ∧ Gon s c l (b + i) μ μ') ∧ ∃ o1 o2 o3 o4, ρ' = [some (.hdl s), some t, some (.hdl p), o1, o2, o3, o4]) (fun K' k => ?_) ⟨⟨xs, .refl _, mset_same, (Gon.refl hS (by omega) (by omega)).kp (Kp.new hp)⟩, _, _, _, _, rfl⟩ (fun i d ρ' μ' hd hI => ?_) (fun ρ' μ' hI => ?_)
    · walk_at "rd"
      have e : ((xs.length : Int) - 1).toNat = xs.length - 1 := by omega
      rw [e]
      exact ⟨by omega, by omega, k⟩
    · obtain ⟨⟨ys, hy, hm, g⟩, o1, o2, o3, o4, rfl⟩ := hI
      obtain ⟨hi, rfl⟩ := rngD_of hd
      have hl := hy.length_eq
      walk_at "rd"
      have e1 : (ys.length : Int) - 1 - i = ((ys.length - 1 - i : Nat) : Int) := by omega
      refine ⟨ys, hm, ?_⟩
      rw [e1]
      refine u_take g.1 (by omega) (by omega) fun r μ1 g1 r1 r2 r3 => ?_
      obtain ⟨j, rfl⟩ := Int.eq_ofNat_of_zero_le r1
      have hj : j < ys.length := by omega
      have ha : ys.length - 1 - i < ys.length := by omega
      have hm1 : μ1 p = some (.lst ys) := g1.2 p _ ps pc pl hm
      refine ⟨ys, hm1, ys[ys.length - 1 - i], by rw [atI_n, List.getElem?_eq_getElem ha], ys, ys[j], hm1, by rw [atI_n, List.getElem?_eq_getElem hj], ys, hm1, _, ixN_n ha, ?_⟩
      refine ⟨_, j, mset_same, by rw [List.length_set]; exact ixN_n hj, _, ?_, mset_same, ?_⟩
      · exact (List.set_set_perm ha hj).trans hy
      · have e2 : b + (i : Int) + 1 = b + ((i + 1 : Nat) : Int) := by omega
        rw [e2] at g1
        exact ((g.trans g1).put hp ⟨ps, pc, pl⟩).put hp ⟨ps, pc, pl⟩
    · obtain ⟨⟨ys, hy, hm, g⟩, o1, o2, o3, o4, rfl⟩ := hI
      walk_at "rd"
      rw [rngD_len] at g
      exact ⟨ys, hm, k ys hy _ ((g.del hp ⟨ps, pc, pl⟩).le (by omega) (by omega))⟩
  unfold rd__law_order
  walk_at "rd"
  rcases ht with rfl | ⟨z, rfl, rfl⟩
  · exact fun p hp => main p hp
  · refine ⟨by rw [sgn_length] at hx; omega, fun p hp => main p hp⟩
theorem u_order {s c l : Addr} {b : Int} {t : Dt} {μ : Mu} {K : KD} (xs : List Dt) (ht : t = .lst xs ∨ ∃ z, t = .str z ∧ xs = sgn z) (hx : xs.length ≤ 1000) (h : Sto s c l b μ) (hb : b < 2 ^ 50) (k : ∀ ys, ys.Perm xs → ∀ μ', Gon s c l (b + 1000) μ μ' → K (.lst ys) μ') : sp_order [.hdl s, t] μ K :=
  ⟨s, c, l, b, t, xs, rfl, ht, hx, h, hb, k⟩
/-- a list of signs in another order -/
theorem perm_sgn {z : List Nat} {ys : List Dt} (h : ys.Perm (sgn z)) : ∃ y, ys = sgn y ∧ y.Perm z := by
  have : ∀ (a b : List Dt), a.Perm b → ∀ z, b = sgn z → ∃ y, a = sgn y ∧ y.Perm z := by
    intro a b h
    induction h with
    | nil => intro z hz; cases z with
      | nil => exact ⟨[], rfl, .refl _⟩
      | cons => simp [sgn] at hz
    | cons x _ ih => intro z hz; cases z with
      | nil => simp [sgn] at hz
      | cons c z =>
        simp only [sgn, List.map_cons, List.cons.injEq] at hz
        obtain ⟨y, h1, h2⟩ := ih z hz.2
        exact ⟨c :: y, by rw [h1, hz.1]; rfl, h2.cons c⟩
    | swap x y l => intro z hz; match z, hz with
      | [], hz => simp [sgn] at hz
      | [_], hz => simp [sgn] at hz
      | c :: d :: z, hz =>
        simp only [sgn, List.map_cons, List.cons.injEq] at hz
        obtain ⟨h1, h2, h3⟩ := hz
        exact ⟨d :: c :: z, by rw [h1, h2, h3]; rfl, .swap _ _ _⟩
    | trans _ _ ih1 ih2 => intro z hz; obtain ⟨y, h1, h2⟩ := ih2 z hz; obtain ⟨y', h3, h4⟩ := ih1 y h1; exact ⟨y', h3, h4.trans h2⟩
  exact this _ _ h z rfl
-- wide
def sp_wide : SpD := fun ds μ K => ∃ (s c l : Addr) (b f : Int), ds = [.hdl s, .int f] ∧ 1 ≤ f ∧ f ≤ 20 ∧ Sto s c l b μ ∧ b < 2 ^ 49 ∧ ∀ (r : Int), 0 ≤ r → ∀ μ', Gon s c l (b + 40) μ μ' → K (.int r) μ'
theorem p_wide (ds : List Dt) (μ : Mu) (Kd : KD) (h : sp_wide ds μ Kd) : rd__law_wide sp_span sp_take { nx := fun _ μ' => Kd .non μ', rt := Kd } (dstart N__law_wide ds) μ := by
  obtain ⟨s, c, l, b, f, rfl, f1, f2, hS, hb, k⟩ := h
  unfold rd__law_wide
  walk_at "rd"
  unfold dFor
  walk_at "rd"
  refine u_span hS (by omega) (by omega) fun t μ1 g t1 t2 t3 => ?_
  have ht := t2 f1
  obtain ⟨n, rfl⟩ := Int.eq_ofNat_of_zero_le (show 0 ≤ t by omega)
  walk_at "rd"
  rw [Int.toNat_natCast, rng0]
  refine ⟨by omega, by omega, fun i ρ' μ' => (∃ v : Int, 0 ≤ v ∧ v < 10 ^ i ∧ ∃ o, ρ' = [some (.hdl s), some (.int f), some (.int v), o]) ∧ Gon s c l (b + 2 + i) μ μ', ⟨⟨0, by omega, by decide, none, rfl⟩, by simpa using g⟩, fun i x ρ' μ' hx ⟨⟨v, v1, v2, o, e⟩, g'⟩ => ?_, fun ρ' μ' ⟨⟨v, v1, v2, o, e⟩, g'⟩ => ?_⟩
  · subst e
    have hi : i < n := by
      have := (List.getElem?_eq_some_iff.mp hx).1
      simpa using this
    have h20 : (10 : Int) ^ i ≤ 10 ^ 20 := by exact_mod_cast Nat.pow_le_pow_right (show 0 < 10 by decide) (show i ≤ 20 by omega)
    walk_at "rd"
    refine ⟨mulw (by omega) (by decide), u_take g'.1 (by omega) (by omega) fun r μ2 g2 r1 r2 r3 => ?_⟩
    have := r2 (by omega)
    walk_at "rd"
    refine ⟨⟨v * 10 + r, by omega, ?_, rfl⟩, ?_⟩
    · rw [Int.pow_succ]; omega
    · have e2 : b + 2 + (i : Int) + 1 = b + 2 + ((i + 1 : Nat) : Int) := by omega
      rw [e2] at g2
      exact g'.trans g2
  · subst e
    walk_at "rd"
    rw [List.length_map, List.length_range] at g'
    exact k v v1 _ (g'.le (by omega) (by omega))
theorem u_wide {s c l : Addr} {b f : Int} {μ : Mu} {K : KD} (f1 : 1 ≤ f) (f2 : f ≤ 20) (h : Sto s c l b μ) (hb : b < 2 ^ 49) (k : ∀ (r : Int), 0 ≤ r → ∀ μ', Gon s c l (b + 40) μ μ' → K (.int r) μ') : sp_wide [.hdl s, .int f] μ K :=
  ⟨s, c, l, b, f, rfl, f1, f2, h, hb, k⟩
-- outside, beyond
def sp_outside : SpD := fun ds μ K => ∃ (s c l : Addr) (b lo hi : Int), ds = [.hdl s, .int lo, .int hi] ∧ Sto s c l b μ ∧ b < 2 ^ 48 ∧ ∀ (r : Int), (r < lo ∨ hi < r) → ∀ μ', Gon s c l (b + 50) μ μ' → K (.int r) μ'
theorem p_outside (ds : List Dt) (μ : Mu) (Kd : KD) (h : sp_outside ds μ Kd) : rd__law_outside sp_yes sp_wide { nx := fun _ μ' => Kd .non μ', rt := Kd } (dstart N__law_outside ds) μ := by
  obtain ⟨s, c, l, b, lo, hi, rfl, hS, hb, k⟩ := h
  unfold rd__law_outside
  walk_at "rd"
  refine u_yes hS (by omega) (by omega) fun y μ1 g1 => ?_
  have rest : ∀ (far : Int) μ2, 0 ≤ far → Gon s c l (b + 41) μ μ2 → sp_yes [.hdl s, .int 2] μ2 fun x μ1 => ∃ k, x = .bl k ∧ (k = true → Kd (.int (lo - 1 - far)) μ1) ∧ (k = false → Kd (.int (hi + 1 + far)) μ1) := fun far μ2 h0 g2 =>
    u_yes g2.1 (by omega) (by omega) fun y μ3 g3 => ⟨y, rfl, fun _ => k _ (.inl (by omega)) _ ((g2.trans g3).le (by omega) (by omega)), fun _ => k _ (.inr (by omega)) _ ((g2.trans g3).le (by omega) (by omega))⟩
  walk_at "rd"
  refine ⟨fun hy => u_wide (by omega) (by omega) g1.1 (by omega) fun r r1 μ2 g2 => ?_, fun hy => ?_⟩
  · have e : b + 1 + 40 = b + 41 := by omega
    rw [e] at g2
    walk_at "rd"
    exact rest r μ2 r1 (g1.trans g2)
  · exact rest 0 μ1 (by omega) (g1.le (by omega) (by omega))
theorem u_outside {s c l : Addr} {b lo hi : Int} {μ : Mu} {K : KD} (h : Sto s c l b μ) (hb : b < 2 ^ 48) (k : ∀ (r : Int), (r < lo ∨ hi < r) → ∀ μ', Gon s c l (b + 50) μ μ' → K (.int r) μ') : sp_outside [.hdl s, .int lo, .int hi] μ K :=
  ⟨s, c, l, b, lo, hi, rfl, h, hb, k⟩
def sp_beyond : SpD := fun ds μ K => ∃ (s c l : Addr) (b lo hi : Int), ds = [.hdl s, .int lo, .int hi] ∧ Sto s c l b μ ∧ b < 2 ^ 47 ∧ ∀ μ', Gon s c l (b + 60) μ μ' → (∀ k, K (.bl k) μ') ∧ ∀ (r : Int), (r < lo ∨ hi < r) → K (.int r) μ'
theorem p_beyond (ds : List Dt) (μ : Mu) (Kd : KD) (h : sp_beyond ds μ Kd) : rd__law_beyond sp_yes sp_outside { nx := fun _ μ' => Kd .non μ', rt := Kd } (dstart N__law_beyond ds) μ := by
  obtain ⟨s, c, l, b, lo, hi, rfl, hS, hb, k⟩ := h
  unfold rd__law_beyond
  walk_at "rd"
  refine u_yes hS (by omega) (by omega) fun y μ1 g1 => ?_
  walk_at "rd"
  refine ⟨fun _ => u_yes g1.1 (by omega) (by omega) fun y μ2 g2 => (k _ ((g1.trans g2).le (by omega) (by omega))).1 y, fun _ => u_outside g1.1 (by omega) fun r hr μ2 g2 => (k _ ((g1.trans g2).le (by omega) (by omega))).2 r hr⟩
theorem u_beyond {s c l : Addr} {b lo hi : Int} {μ : Mu} {K : KD} (h : Sto s c l b μ) (hb : b < 2 ^ 47) (k : ∀ μ', Gon s c l (b + 60) μ μ' → (∀ k, K (.bl k) μ') ∧ ∀ (r : Int), (r < lo ∨ hi < r) → K (.int r) μ') : sp_beyond [.hdl s, .int lo, .int hi] μ K :=
  ⟨s, c, l, b, lo, hi, rfl, h, hb, k⟩
-- ascii
def asciiZ : List Nat := (Str.ofString " !\"#$&'()*+,-./0123456789:;<=>?@ABCDEFGHIJKLMNOPQRSTUVWXYZ[\\]^_`").cps.toList ++ (Str.ofString "abcdefghijklmnopqrstuvwxyz{|}~").cps.toList
theorem ascii_len : asciiZ.length = 94 := by decide +kernel
theorem ascii_nodup : asciiZ.Nodup := by decide +kernel
theorem ascii_tilde : 126 ∈ asciiZ := by decide +kernel
def sp_ascii : SpD := fun ds μ K => ds = [] ∧ K (.str asciiZ) μ
theorem p_ascii (ds : List Dt) (μ : Mu) (Kd : KD) (h : sp_ascii ds μ Kd) : rd__law_ascii { nx := fun _ μ' => Kd .non μ', rt := Kd } (dstart N__law_ascii ds) μ := by
  obtain ⟨rfl, k⟩ := h
  unfold rd__law_ascii
  walk_at "rd"
  exact ⟨by decide +kernel, k⟩
theorem e_ascii {μ : Mu} {K : KD} : sp_ascii [] μ K = K (.str asciiZ) μ := by
  unfold sp_ascii
  walk_at "rd"
-- text
theorem join_sgn {z : List Nat} {μ : Mu} {K : KD} (h : z.length ≤ 1000000) (k : K (.str z) μ) : rdJoin (cS "") (.lst (sgn z)) μ K :=
  join_ok (z.map fun c => [c]) (by simp [sgn]) (by rw [flat1]; exact h) (by rw [flat1]; exact k)
theorem lc_draw {s c l : Addr} {b : Int} {al : List Nat} {μ : Mu} {K : KD} {o2 o3 o4 : Option Dt} {di : DI} (N : Nat)
    (hdi : ∀ K' : List Dt → Mu → Prop, (∀ n : Nat, n ≤ N → ∀ μ1, Gon s c l b μ μ1 → K' ((List.range n).map fun (i : Nat) => Dt.int i) μ1) → di [some (.hdl s), some (.str al), o2, o3, o4, none] μ K')
    (hN : N ≤ 1000) (ha : al ≠ []) (hal : al.length ≤ 1000) (hb : b < 2 ^ 48)
    (k : ∀ (z : List Nat), z.length ≤ N → (∀ x ∈ z, x ∈ al) → ∀ μ', Gon s c l (b + N) μ μ' → K (.lst (sgn z)) μ') : dLc di (gNm 5) dYes (dCB sp_of (dCons (dVar 0) (dCons (dVar 1) dNil))) [5] [some (.hdl s), some (.str al), o2, o3, o4, none] μ K := by
  refine hdi _ fun n hn μ1 g => ⟨by simp; omega, fun i acc μ' => (∃ z, acc = sgn z ∧ z.length = i ∧ ∀ x ∈ z, x ∈ al) ∧ Gon s c l (b + i) μ μ', ⟨⟨[], rfl, rfl, by simp⟩, by simpa using g⟩, fun i x acc μ' hx ⟨⟨z, e, hz, hm⟩, g'⟩ => ?_, fun acc μ' ⟨⟨z, e, hz, hm⟩, g'⟩ => ?_⟩
  · have hi : i < n := by
      have := (List.getElem?_eq_some_iff.mp hx).1
      simpa using this
    walk_at "rd"
    refine u_ofS ha hal g'.1 (by omega) fun a haa μ2 g2 => ?_
    have e2 : b + (i : Int) + 1 = b + ((i + 1 : Nat) : Int) := by omega
    rw [e2] at g2
    refine ⟨⟨z ++ [a], by rw [e]; simp [sgn], by simp [hz], fun x hx => ?_⟩, g'.trans g2⟩
    rcases List.mem_append.mp hx with q | q
    · exact hm x q
    · rw [List.mem_singleton.mp q]; exact haa
  · rw [List.length_map, List.length_range] at hz g'
    rw [e]
    exact k z (by omega) hm _ (g'.le (by omega) (by omega))
def sp_text : SpD := fun ds μ K => ∃ (s c l : Addr) (b n : Int) (al : List Nat), ds = [.hdl s, .str al, .int n] ∧ 0 ≤ n ∧ n ≤ 200 ∧ al ≠ [] ∧ al.length ≤ 100 ∧ Sto s c l b μ ∧ b < 2 ^ 47 ∧ ∀ z : List Nat, (z.length : Int) ≤ n → (∀ x ∈ z, x ∈ al) → ∀ μ', Gon s c l (b + 300) μ μ' → K (.str z) μ'
theorem rep_flat {n : Nat} {x : Nat} : (List.replicate n [x]).flatten = List.replicate n x := by
  induction n with
  | zero => rfl
  | succ n ih => rw [List.replicate_succ, List.flatten_cons, ih]; rfl
theorem p_text (ds : List Dt) (μ : Mu) (Kd : KD) (h : sp_text ds μ Kd) : rd__law_text sp_take sp_of { nx := fun _ μ' => Kd .non μ', rt := Kd } (dstart N__law_text ds) μ := by
  obtain ⟨s, c, l, b, n, al, rfl, n1, n2, ha, hal, hS, hb, k⟩ := h
  obtain ⟨m, rfl⟩ := Int.eq_ofNat_of_zero_le n1
  have kz : ∀ μ', Gon s c l (b + 300) μ μ' → Kd (cS (Str.ofString "")) μ' := fun μ' g => k [] (by simp) (by simp) _ g
  unfold rd__law_text
  walk_at "rd"
  refine ⟨fun _ => kz μ (Gon.refl hS (by omega) (by omega)), fun h0 => ⟨fun _ => kz μ (Gon.refl hS (by omega) (by omega)), fun hne => u_take hS (by omega) (by omega) fun r μ1 g1 r1 r2 r3 => ?_⟩⟩
  walk_at "rd"
  refine ⟨fun e => u_ofS ha (by omega) g1.1 (by omega) fun a haa μ2 g2 => ?_, fun e => ⟨fun e1 => ?_, fun e1 => ?_⟩⟩
  · walk_at "rd"
    rw [Int.toNat_natCast, rep_flat]
    refine ⟨by omega, by omega, by omega, k _ (by simp) (fun x hx => by rw [List.eq_of_mem_replicate hx]; exact haa) _ ((g1.trans g2).le (by omega) (by omega))⟩
  · refine lc_draw (s := s) (c := c) (l := l) (b := b + 2) (al := al) 5 (fun K' kk => ?_) (by omega) ha (by omega) (by omega) fun z z1 z2 μ' g => ?_
    · walk_at "rd"
      refine u_take g1.1 (by omega) (by omega) fun r μ2 g2 r1 r2 r3 => ?_
      have := r2 (by omega)
      obtain ⟨q, rfl⟩ := Int.eq_ofNat_of_zero_le r1
      walk_at "rd"
      have e : ((2 : Int) + q).toNat = 2 + q := by omega
      rw [e, rng0]
      have e3 : b + 1 + 1 = b + 2 := by omega
      rw [e3] at g2
      exact ⟨by omega, by omega, kk (2 + q) (by omega) _ g2⟩
    · refine join_sgn (by omega) ?_
      walk_at "rd"
      have hlen : ((List.replicate m z).flatten.take m).length ≤ m := List.length_take_le _ _
      rw [Int.toNat_natCast, cutD_to]
      have hz : z.length * m ≤ 5 * 200 := Nat.mul_le_mul (by omega) (by omega)
      refine ⟨by omega, by omega, by omega, ?_, k _ (by exact_mod_cast hlen) (fun x hx => ?_) _ ((g1.trans g).le (by omega) (by omega))⟩
      · rw [List.length_flatten]; simp; rw [Nat.mul_comm]; omega
      · have := List.mem_of_mem_take hx
        rw [List.mem_flatten] at this
        obtain ⟨y, hy, hx⟩ := this
        rw [List.eq_of_mem_replicate hy] at hx
        exact z2 x hx
  · refine lc_draw (s := s) (c := c) (l := l) (b := b + 1) (al := al) m (fun K' kk => ?_) (by omega) ha (by omega) (by omega) fun z z1 z2 μ' g => ?_
    · walk_at "rd"
      rw [Int.toNat_natCast, rng0]
      exact ⟨by omega, by omega, kk m (by omega) _ (Gon.refl g1.1 (by omega) (by omega))⟩
    · exact join_sgn (by omega) (k _ (by omega) z2 _ ((g1.trans g).le (by omega) (by omega)))
theorem u_text {s c l : Addr} {b n : Int} {al : List Nat} {μ : Mu} {K : KD} (n1 : 0 ≤ n) (n2 : n ≤ 200) (ha : al ≠ []) (hal : al.length ≤ 100) (h : Sto s c l b μ) (hb : b < 2 ^ 47) (k : ∀ z : List Nat, (z.length : Int) ≤ n → (∀ x ∈ z, x ∈ al) → ∀ μ', Gon s c l (b + 300) μ μ' → K (.str z) μ') : sp_text [.hdl s, .str al, .int n] μ K :=
  ⟨s, c, l, b, n, al, rfl, n1, n2, ha, hal, h, hb, k⟩
-- store
def sp_store : SpD := fun ds μ K => ∃ ns : List Int, ds = [.scr ns] ∧ ns.length ≤ 63 ∧ ∀ s c l μ', Sto s c l 0 μ' → K (.hdl s) μ'
theorem p_store (ds : List Dt) (μ : Mu) (Kd : KD) (h : sp_store ds μ Kd) : rd__law_store sp_mix { nx := fun _ μ' => Kd .non μ', rt := Kd } (dstart N__law_store ds) μ := by
  obtain ⟨ns, rfl, hn, k⟩ := h
  unfold rd__law_store
  walk_at "rd"
  have W0 : (0 : Int) < 10 ^ Int.toNat 60 * 10 ^ Int.toNat 60 * 10 ^ Int.toNat 60 * 10 ^ Int.toNat 60 := by decide +kernel
  have cp : CPow 10 60 := ⟨by decide, by decide, by decide⟩
  have cm : ∀ {x y : Int}, x.natAbs.log2 + y.natAbs.log2 < 1000000 → CMulW x y := fun h => h
  refine ⟨cp, cp, cm (by decide +kernel), cp, cm (by decide +kernel), cp, cm (by decide +kernel), by decide, fun p hp => ⟨by decide, fun q hq => ?_⟩⟩
  generalize (10 : Int) ^ Int.toNat 60 * 10 ^ Int.toNat 60 * 10 ^ Int.toNat 60 * 10 ^ Int.toNat 60 = W at W0 ⊢
  have hpq : p ≠ q := fun z => by rw [z, mset_same] at hq; cases hq
  refine for_use (rngD 0 ns.length) (fun i ρ' μ' => ∃ (cells lefts : List Int) (seed : Int) (o1 o2 o3 : Option Dt), ρ' = [some (.scr ns), some (.int W), some (.hdl p), some (.hdl q), some (.int seed), o1, o2, o3] ∧ μ' p = some (.lst (cells.map .int)) ∧ μ' q = some (.lst (lefts.map .int)) ∧
    cells.length = lefts.length ∧ cells.length ≤ i ∧ (∀ v ∈ cells, 0 ≤ v) ∧ ∀ v ∈ lefts, 0 ≤ v ∧ v ≤ 6) (fun K' k => ?_) ⟨[], [], _, _, _, _, rfl, by rw [mset_ne hpq, mset_same]; rfl, by rw [mset_same]; rfl, rfl, Nat.le_refl _, by simp, by simp⟩ (fun i d ρ' μ' hd hI => ?_) (fun ρ' μ' hI => ?_)
  · walk_at "rd"
    have e : (if (63 : Int) < ns.length then (63 : Int) else ns.length) = ns.length := if_neg (by omega)
    rw [e, Int.toNat_natCast]
    exact ⟨by omega, by omega, k⟩
  · obtain ⟨cells, lefts, seed, o1, o2, o3, rfl, hc, hl, e1, e2, v1, v2⟩ := hI
    obtain ⟨hi, rfl⟩ := rngD_of hd
    walk_at "rd"
    rw [atI_n]
    refine ⟨ns[i], List.getElem?_eq_getElem hi, ?_⟩
    have cp18 : CPow 10 18 := ⟨by decide, by decide, by decide⟩
    simp only [e_mix]
    refine ⟨by decide, by omega, by omega, fun sd sd1 sd2 => ⟨cp18, fun hlt => ⟨⟨_, hc⟩, by omega, by omega, fun r r1 r2 => ?_⟩, fun hge => ⟨W0, fun hw => ?_, fun hw => ⟨cells, lefts, sd, rfl, hc, hl, e1, by omega, v1, v2⟩⟩⟩⟩
    · have hlq : mset μ' p (OD.lst (cells.map Dt.int ++ [Dt.int r])) q = some (OD.lst (lefts.map Dt.int)) := by rw [mset_ne (Ne.symm hpq)]; exact hl
      refine ⟨_, hc, by rw [List.length_map]; omega, ⟨_, hlq⟩, _, hlq, by rw [List.length_map]; omega, cells ++ [r], lefts ++ [6], sd, rfl, ?_, by simp, by simp [e1], by simp; omega, fun v hv => ?_, fun v hv => ?_⟩
      · rw [mset_ne hpq, mset_same]; simp
      · rcases List.mem_append.mp hv with z | z
        · exact v1 v z
        · rw [List.mem_singleton.mp z]; exact r1
      · rcases List.mem_append.mp hv with z | z
        · exact v2 v z
        · rw [List.mem_singleton.mp z]; omega
    · have hlq : mset μ' p (OD.lst (cells.map Dt.int ++ [Dt.int (ns[i] % W)])) q = some (OD.lst (lefts.map Dt.int)) := by rw [mset_ne (Ne.symm hpq)]; exact hl
      refine ⟨⟨_, hc⟩, W0, _, hc, by rw [List.length_map]; omega, ⟨_, hlq⟩, _, hlq, by rw [List.length_map]; omega, cells ++ [ns[i] % W], lefts ++ [0], sd, rfl, ?_, by simp, by simp [e1], by simp; omega, fun v hv => ?_, fun v hv => ?_⟩
      · rw [mset_ne hpq, mset_same]; simp
      · rcases List.mem_append.mp hv with z | z
        · exact v1 v z
        · rw [List.mem_singleton.mp z]; omega
      · rcases List.mem_append.mp hv with z | z
        · exact v2 v z
        · rw [List.mem_singleton.mp z]; omega
  · obtain ⟨cells, lefts, seed, o1, o2, o3, rfl, hc, hl, e1, e2, v1, v2⟩ := hI
    rw [rngD_len] at e2
    walk_at "rd"
    refine ⟨by decide, fun s hs => k s p q _ ⟨cells, lefts, 0, seed, 0, mset_same, ?_, ?_, e1, by omega, by omega, ?_, ?_, hpq, v1, v2, by omega, by omega, by decide⟩⟩
    · rw [mset_ne]; exact hc
      intro z; rw [z, hs] at hc; cases hc
    · rw [mset_ne]; exact hl
      intro z; rw [z, hs] at hl; cases hl
    · intro z; rw [← z, hs] at hc; cases hc
    · intro z; rw [← z, hs] at hl; cases hl
end K17

set_option Elab.async false
set_option linter.all false
set_option maxRecDepth 100000
set_option maxHeartbeats 4000000
namespace K17
open PySem PySem.Spec PyProof.Rows L2 L2H DL
local macro_rules | `(tactic| walk_at "rd") => `(tactic| simp only [dget_z, dget_s, dSeq, dSet, dRet, dRetN, dDrop, dIfS, dBrk, dCnt, dNever, dNext, dVar, dC, dOp, dTest, dChain, dAnd, dOr, dNot, dAndV, dOrV, dNotV, dIf, dNil, dCons, dTup, dLst, dLstO, dCB, dAug, dGive, dGiveD, dstart, dAsg, dAsg3, dYes, gNm, gNilD, gConsD, gTupD, iLst, iTupD, iStrD, iR1, iR2, iZipD, iEnumD, iEnumZD, dPut, dPutD, dSl, dRevS, oNo, oInt, dM1, dApp, dIndex, dDGet2, dDNew, dSetd, dNeg, dIsB, dRepEq, dRaise, dRetX, dTry, dIsX, dAt, rdEq, rdNe, rdIsN, rdNotN,  rdIn, rdNotIn,   rdI, rdI0, rdSub, rdFdiv, rdMod, rdPow, rdXor, rdLt, rdLe, rdGt, rdGe,      rdMin,  rdListD,   rdCountS, rdRfindS,          dwipe, q_deq_str, q_deq_int,
  q_int_int, q_int_bl, q_setD_hdl, rdListO, q_ix_lst, q_ix_tup, q_ix_str, q_ix_hdl, q_ix_scr, q_setL_hdl, q_add_int, q_add_str, q_add_lst, q_add_tup, q_mul_int, q_mul_str, q_sl_lst, q_sl_tup, q_sl_str, q_len_str, q_len_lst, q_len_tup, q_len_scr, q_len_hdl, q_items_lst, q_items_tup, q_items_str, q_items_hdl, q_inB_lst, q_inB_tup, q_sign_str, q_index_lst, q_dget_dk, q_dget_hdl, q_sort_lst, q_sort_str, q_src_str, q_src_lst, q_src_tup, q_isNon_non, q_isNon_bl, q_isNon_int, q_isNon_str, q_isNon_tup, q_isNon_lst, q_isBl_bl, q_isBl_int, q_flat_non, q_flat_bl, q_flat_int, q_flat_str, q_key_int, q_key_str, q_shl_non, q_shl_bl, q_shl_int, q_shl_str, q_shl_tup, q_shl_lst, q_shlAll_nil, q_shlAll_cons, q_deq_non, q_deq_bl, q_deq_tup, q_deq_lst, q_deqAll_nil, q_deqAll_cons,
  List.any_cons, List.any_nil, List.all_cons, List.all_nil, if_true, Bool.or_false, Bool.and_true, Bool.true_and, Bool.not_or, Bool.and_eq_true, Bool.and_eq_false_iff, q_nil, List.append_nil, q_deq_strs, q_shl_strs, q_flat_ints, q_deq_ints, q_idx_ints, if_false, reduceIte,
  List.length_cons, List.length_nil, List.map_cons, List.map_nil, List.cons_append, List.nil_append, List.set_cons_zero, List.set_cons_succ, List.replicate, Option.some.injEq, exists_eq_left', exists_eq_left, exists_eq', exists_eq, exists_and_left, exists_const, true_and, and_true, and_self, forall_const, Dt.int.injEq, Dt.str.injEq, Dt.bl.injEq, Dt.hdl.injEq, OD.lst.injEq, OD.dk.injEq, mset_same, mset_mset, List.length_map, Dt.tup.injEq, Dt.lst.injEq, Nat.reduceAdd, Nat.reduceSub, Nat.zero_add, Int.zero_add, decide_eq_true_eq, decide_eq_false_iff_not, List.cons.injEq, and_assoc, eq_self, Bool.not_eq_true', Bool.not_eq_false', Bool.true_eq_false, Bool.false_eq_true, false_implies, implies_true, not_true_eq_false, not_false_eq_true, reduceCtorEq, false_and, and_false, exists_false, ne_eq])
-- body
-- ahead
def sp_ahead : SpD := fun ds μ K => ∃ (z : List Nat) (c : Nat), ds = [.str z, .str [c]] ∧ z.length ≤ 1000 ∧ K (.lst ((aheadF c 0 z).map .int)) μ
theorem p_ahead (ds : List Dt) (μ : Mu) (Kd : KD) (h : sp_ahead ds μ Kd) : rd__law_ahead { nx := fun _ μ' => Kd .non μ', rt := Kd } (dstart N__law_ahead ds) μ := by
  obtain ⟨z, c, rfl, h1, k⟩ := h
  unfold rd__law_ahead
  walk_at "rd"
  refine lc_pure (List.range z.length) (fun i => .int i) (fb z fun v => decide (v ≠ c)) (fun i => .int ((z.take i).count c : Nat)) (fun K' k => ?_) (by simp; omega) (fun i hi J acc h1 h2 => ?_) ?_
  · walk_at "rd"
    rw [Int.toNat_natCast, rng0]
    exact ⟨by omega, by omega, by omega, k⟩
  · rw [List.mem_range] at hi
    walk_at "rd"
    have hg : z[i]? = some z[i] := List.getElem?_eq_getElem hi
    rw [fb_at hg] at h1 h2
    rw [cutD_to, atI_n]
    exact ⟨by omega, z[i], hg, fun hc => ⟨by omega, h1 (by simpa using hc)⟩, fun hc => h2 (by simpa using hc)⟩
  · have e := ahead_fb c z
    have e2 : ((List.range z.length).filter (fb z fun v => decide (v ≠ c))).map (fun i => Dt.int ((z.take i).count c : Nat)) = (aheadF c 0 z).map .int := by
      rw [← e, List.map_map]
      rfl
    rw [e2]
    exact k
theorem e_ahead {z : List Nat} {c : Nat} {μ : Mu} {K : KD} : sp_ahead [.str z, .str [c]] μ K = (z.length ≤ 1000 ∧ K (.lst ((aheadF c 0 z).map .int)) μ) := by
  unfold sp_ahead
  walk_at "rd"
theorem atI_0 {α : Type} {a : α} {r : List α} : L2.atI (a :: r) 0 = some a := by
  have := atI_n (a :: r) 0
  simpa using this
theorem atI_m1 {α : Type} {xs : List α} (h : 0 < xs.length) : L2.atI xs (-1) = xs[xs.length - 1]? := by
  unfold L2.atI L2.ixN
  have e : (-1 + (xs.length : Int)).toNat = xs.length - 1 := by omega
  rw [if_neg (by decide), if_pos (by omega), e]
  rfl
theorem zip_range (u v : List Int) (h : u.length = v.length) : ((List.range u.length).map fun i => v.getD i 0 - u.getD i 0) = (u.zip v).map fun p => p.2 - p.1 := by
  refine List.ext_getElem (by simp [h]) fun i h1 h2 => ?_
  have hi : i < u.length := by simpa using h1
  have hj : i < v.length := by omega
  simp [List.getD_eq_getElem?_getD, List.getElem?_eq_getElem hi, List.getElem?_eq_getElem hj]
theorem ints_at {u : List Int} {i : Nat} (h : i < u.length) : (u.map Dt.int)[i]? = some (.int (u.getD i 0)) := by
  rw [List.getElem?_map, List.getElem?_eq_getElem h, List.getD_eq_getElem?_getD, List.getElem?_eq_getElem h]
  rfl
-- fault
def cE : Option Nat → Dt
  | some k => .str [k]
  | none => .str []
def sp_lfault : SpD := fun ds μ K => ∃ (old new : List Nat) (c : Option Nat), ds = [.str old, .str new, cE c] ∧ old.length ≤ 900 ∧ new.length ≤ 900 ∧ new.Perm (old ++ c.toList) ∧ K (faultD old new c) μ
theorem deq_cE (s : Nat) (c : Option Nat) : deq (.str [s]) (cE c) = decide (some s = c) := by
  cases c with
  | none => rfl
  | some k =>
    show deq (.str [s]) (.str [k]) = _
    rw [q_deq_str]
    simp
theorem shl_cE (c : Option Nat) : shl 60 (cE c) = true := by
  cases c <;> rfl
theorem p_lfault (ds : List Dt) (μ : Mu) (Kd : KD) (h : sp_lfault ds μ Kd) : rd__law_fault sp_ahead { nx := fun _ μ' => Kd .non μ', rt := Kd } (dstart N__law_fault ds) μ := by
  obtain ⟨old, new, c, rfl, h1, h2, hp, k⟩ := h
  have hl := drop_len hp
  unfold rd__law_fault
  walk_at "rd"
  refine lc_pure old (fun c => .str [c]) (fun s => decide (some s ≠ c)) (fun c => .str [c]) (fun K' k => str_src rfl k) (by omega) (fun x hx J acc h1 h2 => ?_) ?_
  · walk_at "rd"
    simp only [shl_cE, deq_cE]
    walk_at "rd"
    exact ⟨fun h => h1 (by simpa using h), fun h => h2 (by simpa using h)⟩
  walk_at "rd"
  refine lc_pure new (fun c => .str [c]) (fun s => decide (some s ≠ c)) (fun c => .str [c]) (fun K' k => str_src rfl k) (by omega) (fun x hx J acc h1 h2 => ?_) ?_
  · walk_at "rd"
    simp only [shl_cE, deq_cE]
    walk_at "rd"
    exact ⟨fun h => h1 (by simpa using h), fun h => h2 (by simpa using h)⟩
  walk_at "rd"
  have eo : List.map (fun c => Dt.str [c]) (List.filter (fun s => decide (some s ≠ c)) old) = sgn (dropC c old) := rfl
  have en : List.map (fun c => Dt.str [c]) (List.filter (fun s => decide (some s ≠ c)) new) = sgn (dropC c new) := rfl
  rw [eo, en]
  have hlen : (dropC c old).length ≤ 900 := Nat.le_trans (List.length_filter_le _ _) h1
  refine for_use (rngD 0 (dropC c old).length) (fun i ρ' μ' => μ' = μ ∧ i ≤ commonF (dropC c old) (dropC c new) ∧ ∃ o, ρ' = [some (.str old), some (.str new), some (cE c), some (.lst (sgn (dropC c old))), some (.lst (sgn (dropC c new))), o, none, none, none, none, none, none]) (fun K' k => ?_) ⟨rfl, Nat.zero_le _, none, rfl⟩ (fun i d ρ' μ' hd hI => ?_) (fun ρ' μ' hI => ?_)
  · walk_at "rd"
    rw [sgn_length, Int.toNat_natCast]
    exact ⟨by omega, by omega, k⟩
  · obtain ⟨rfl, hi, o, rfl⟩ := hI
    obtain ⟨hlt, rfl⟩ := rngD_of hd
    have ga : (dropC c old)[i]? = some (dropC c old)[i] := List.getElem?_eq_getElem hlt
    have hlt2 : i < (dropC c new).length := by omega
    have gb : (dropC c new)[i]? = some (dropC c new)[i] := List.getElem?_eq_getElem hlt2
    obtain ⟨q1, q2⟩ := commonF_at hi ga gb
    have sa : (sgn (dropC c old))[i]? = some (.str [(dropC c old)[i]]) := by unfold sgn; rw [List.getElem?_map, ga]; rfl
    have sb : (sgn (dropC c new))[i]? = some (.str [(dropC c new)[i]]) := by unfold sgn; rw [List.getElem?_map, gb]; rfl
    walk_at "rd"
    simp only [atI_n, sa, sb]
    walk_at "rd"
    refine ⟨fun ne => ⟨by decide, ?_⟩, fun e => q1 e⟩
    have hc : swapAt (dropC c old) (dropC c new) = some i := by
      unfold swapAt
      rw [q2 ne, if_pos (by omega)]
    have ef : faultD old new c = .tup [cS "swap", .int i] := by simp only [faultD, hc]
    rw [ef] at k
    exact k
  · obtain ⟨rfl, hi, o, rfl⟩ := hI
    rw [rngD_len] at hi
    have hs : swapAt (dropC c old) (dropC c new) = none := by
      unfold swapAt
      rw [if_neg (by omega)]
    cases c with
    | none =>
      have ef : faultD old new none = .non := by simp only [faultD, hs]
      rw [ef] at k
      unfold cE
      walk_at "rd"
      exact k
    | some c =>
      have ef : faultD old new (some c) = shiftD (stepsF c old new) := by simp only [faultD, hs]
      rw [ef] at k
      unfold cE
      walk_at "rd"
      simp only [e_ahead]
      refine ⟨by omega, by omega, ?_⟩
      have hu := aheadF_length c 0 old
      have hv : (aheadF c 0 old).length = (aheadF c 0 new).length := by rw [aheadF_len, aheadF_len, hl]
      have ez := zip_range _ _ hv
      have es : ((aheadF c 0 old).zip (aheadF c 0 new)).map (fun p => p.2 - p.1) = stepsF c old new := rfl
      rw [es] at ez
      have hstl : (stepsF c old new).length = (aheadF c 0 old).length := by rw [← ez]; simp
      generalize aheadF c 0 old = u at *
      generalize aheadF c 0 new = v at *
      generalize stepsF c old new = st at *
      refine lc_pure (List.range u.length) (fun i => .int i) (fun _ => true) (fun i => .int (v.getD i 0 - u.getD i 0)) (fun K' k => ?_) (by simp; omega) (fun i hi J acc h1 h2 => ?_) ?_
      · walk_at "rd"
        rw [Int.toNat_natCast, rng0]
        exact ⟨by omega, by omega, k⟩
      · rw [List.mem_range] at hi
        walk_at "rd"
        simp only [atI_n, ints_at hi, ints_at (show i < v.length by omega)]
        walk_at "rd"
        exact h1 rfl
      rw [filt_true]
      have em : (List.range u.length).map (fun i => Dt.int (v.getD i 0 - u.getD i 0)) = st.map .int := by rw [← ez, List.map_map]; rfl
      rw [em]
      refine for_use (rngD 0 st.length) (fun i ρ' μ2 => μ2 = μ' ∧ (∀ j v, j < i → st[j]? = some v → decide (v ≠ 0 ∧ v ≠ 1) = false) ∧ ∃ o2, ρ' = [some (.str old), some (.str new), some (.str [c]), some (.lst (sgn (dropC (some c) old))), some (.lst (sgn (dropC (some c) new))), o2, some (.lst (u.map .int)), some (.lst (v.map .int)), some (.lst (st.map .int)), none, none, none]) (fun K' k => ?_) ⟨rfl, fun j v h => absurd h (Nat.not_lt_zero _), o, rfl⟩ (fun i d ρ' μ2 hd hI => ?_) (fun ρ' μ2 hI => ?_)
      · walk_at "rd"
        rw [Int.toNat_natCast]
        exact ⟨by omega, by omega, k⟩
      · obtain ⟨rfl, hb, o2, rfl⟩ := hI
        obtain ⟨hlt, rfl⟩ := rngD_of hd
        have gv : st[i]? = some st[i] := List.getElem?_eq_getElem hlt
        have gd : st.getD i 0 = st[i] := by rw [List.getD_eq_getElem?_getD, gv]; rfl
        walk_at "rd"
        simp only [atI_n, ints_at hlt, gd]
        walk_at "rd"
        have up : (st[i] = 0 ∨ st[i] = 1) → ∀ (j : Nat) (v : Int), j < i + 1 → st[j]? = some v → ¬(¬v = 0 ∧ ¬v = 1) := fun h j v hj hv => by
          by_cases hji : j < i
          · simpa using hb j v hji hv
          · have : j = i := by omega
            subst this
            rw [gv] at hv
            cases hv
            omega
        refine ⟨fun n0 => ⟨fun n1 => ⟨by decide, ?_⟩, fun e1 => up (.inr e1)⟩, fun e0 => up (.inl e0)⟩
        have e := shiftD_jump (fi_some gv (by simp; exact ⟨n0, n1⟩) hb)
        rw [e] at k
        exact k
      · obtain ⟨rfl, hb, o2, rfl⟩ := hI
        rw [rngD_len] at hb
        have h0 : st.findIdx? (fun v => decide (v ≠ 0 ∧ v ≠ 1)) = none := fi_none hb
        rw [shiftD_bend h0] at k
        walk_at "rd"
        refine for_use (rngD 0 st.length) (fun i ρ' μ3 => μ3 = μ2 ∧ bendF 0 st = bendF i (st.drop i) ∧ ∃ o2 o3, ρ' = [some (.str old), some (.str new), some (.str [c]), some (.lst (sgn (dropC (some c) old))), some (.lst (sgn (dropC (some c) new))), o2, some (.lst (u.map .int)), some (.lst (v.map .int)), some (.lst (st.map .int)), o3, none, none]) (fun K' k => ?_) ⟨rfl, rfl, o2, none, rfl⟩ (fun i d ρ' μ3 hd hI => ?_) (fun ρ' μ3 hI => ?_)
        · walk_at "rd"
          rw [Int.toNat_natCast]
          exact ⟨by omega, by omega, k⟩
        · obtain ⟨rfl, hc, o2, o3, rfl⟩ := hI
          obtain ⟨hlt, rfl⟩ := rngD_of hd
          have gv : st[i]? = some st[i] := List.getElem?_eq_getElem hlt
          have gd : st.getD i 0 = st[i] := by rw [List.getD_eq_getElem?_getD, gv]; rfl
          have ed : st.drop i = st[i] :: st.drop (i + 1) := List.drop_eq_getElem_cons hlt
          walk_at "rd"
          refine lc_pure (List.range (st.drop (i + 1)).length) (fun j => .int ((i + 1 + j : Nat) : Int)) (fun j => decide (st[i] = 1) && fb (st.drop (i + 1)) (fun w => decide (w = 0)) j) (fun j => .int ((i + 1 + j : Nat) : Int)) (fun K' k => ?_) (by simp; omega) (fun j hj J acc h1 h2 => ?_) ?_
          · walk_at "rd"
            have e : ((st.length : Int) - (i + 1)).toNat = (st.drop (i + 1)).length := by rw [List.length_drop]; omega
            rw [e, rng1]
            exact ⟨by omega, by omega, by omega, by omega, k⟩
          · rw [List.mem_range, List.length_drop] at hj
            have hlt2 : i + 1 + j < st.length := by omega
            have g2 : (st.drop (i + 1))[j]? = some st[i + 1 + j] := by rw [List.getElem?_drop, List.getElem?_eq_getElem hlt2]
            have gd2 : st.getD (i + 1 + j) 0 = st[i + 1 + j] := by rw [List.getD_eq_getElem?_getD, List.getElem?_eq_getElem hlt2]; rfl
            rw [fb_at g2] at h1 h2
            walk_at "rd"
            simp only [atI_n, ints_at hlt, ints_at hlt2, gd, gd2]
            walk_at "rd"
            exact ⟨fun h => ⟨fun h' => h1 (by simp [h, h']), fun h' => h2 (by simp [h, h'])⟩, fun h => h2 (by simp [h])⟩
          · walk_at "rd"
            by_cases hone : st[i] = 1
            · cases e : (st.drop (i + 1)).findIdx? (fun w => decide (w = 0)) with
              | some j =>
                obtain ⟨r, hr⟩ := later_some e
                have hr' : (List.range (st.drop (i + 1)).length).filter (fun j => decide (st[i] = 1) && fb (st.drop (i + 1)) (fun w => decide (w = 0)) j) = j :: r := by rw [← hr]; exact List.filter_congr fun x _ => by simp [hone]
                rw [hr']
                have hb2 : bendF 0 st = .tup [cS "bend", .int i, .int (i + 1 + j : Nat)] := by rw [hc, ed]; simp only [bendF, hone, if_true, e]
                rw [hb2] at k
                exact ⟨fun _ => ⟨_, atI_0, by decide, k⟩, fun z => absurd z (by simp)⟩
              | none =>
                have hr' : (List.range (st.drop (i + 1)).length).filter (fun j => decide (st[i] = 1) && fb (st.drop (i + 1)) (fun w => decide (w = 0)) j) = [] := by rw [← later_none e]; exact List.filter_congr fun x _ => by simp [hone]
                rw [hr']
                refine ⟨fun z => absurd z (by simp), fun _ => ?_⟩
                rw [hc, ed]
                simp only [bendF, hone, if_true, e]
            · have hr' : (List.range (st.drop (i + 1)).length).filter (fun j => decide (st[i] = 1) && fb (st.drop (i + 1)) (fun w => decide (w = 0)) j) = [] := by
                rw [List.filter_eq_nil_iff]
                intro x _
                simp [hone]
              rw [hr']
              refine ⟨fun z => absurd z (by simp), fun _ => ?_⟩
              rw [hc, ed]
              simp only [bendF, hone, if_false]
        · obtain ⟨rfl, hc, o2, o3, rfl⟩ := hI
          rw [rngD_len, List.drop_length] at hc
          walk_at "rd"
          rw [hc] at k
          exact k
theorem u_lfault {old new : List Nat} (c : Option Nat) {t : Dt} {μ : Mu} {K : KD} (ht : t = cE c) (h1 : old.length ≤ 900) (h2 : new.length ≤ 900) (hp : new.Perm (old ++ c.toList)) (k : K (faultD old new c) μ) : sp_lfault [.str old, .str new, t] μ K :=
  ⟨old, new, c, by rw [ht], h1, h2, hp, k⟩
-- cross
def sp_cross : SpD := fun ds μ K => ∃ (row other : List Nat), ds = [.str row, .str other] ∧ row.length ≤ 900 ∧ other.length ≤ 900 ∧ row.Perm other ∧ ∀ μ', Kp μ μ' → K (runDt (crossOf 0 (placesF row other))) μ'
theorem p_cross (ds : List Dt) (μ : Mu) (Kd : KD) (h : sp_cross ds μ Kd) : rd__law_cross { nx := fun _ μ' => Kd .non μ', rt := Kd } (dstart N__law_cross ds) μ := by
  obtain ⟨row, other, rfl, h1, h2, hp, k⟩ := h
  unfold rd__law_cross
  walk_at "rd"
  refine ⟨by decide, fun p hpn => ?_⟩
  have hpl : (placesF row other).length = row.length := by simp [placesF]
  refine for_use (rngD 0 row.length) (fun i ρ' μ' => μ' = mset μ p (.lst (((placesF row other).take i).map .int)) ∧ ∃ o1 o2, ρ' = [some (.str row), some (.str other), some (.hdl p), o1, o2, none, none]) (fun K' k => ?_) ⟨by simp, none, none, rfl⟩ (fun i d ρ' μ2 hd hI => ?_) (fun ρ' μ2 hI => ?_)
  · walk_at "rd"
    rw [Int.toNat_natCast]
    exact ⟨by omega, by omega, by omega, k⟩
  · obtain ⟨rfl, o1, o2, rfl⟩ := hI
    obtain ⟨hi, rfl⟩ := rngD_of hd
    have ga : row[i]? = some row[i] := List.getElem?_eq_getElem hi
    walk_at "rd"
    refine lc_pure (List.range other.length) (fun j => .int j) (fb other fun v => decide (v = row[i])) (fun j => .int j) (fun K' k => ?_) (by simp; omega) (fun j hj J acc q1 q2 => ?_) ?_
    · walk_at "rd"
      rw [Int.toNat_natCast, rng0]
      exact ⟨by omega, by omega, by omega, k⟩
    · rw [List.mem_range] at hj
      have gb : other[j]? = some other[j] := List.getElem?_eq_getElem hj
      rw [fb_at gb] at q1 q2
      walk_at "rd"
      rw [atI_n, atI_n]
      refine ⟨by omega, _, gb, by omega, _, ga, ?_⟩
      exact ⟨fun h => q1 (by simpa using h), fun h => q2 (by simpa using h)⟩
    · walk_at "rd"
      have eq : ((List.range other.length).filter (fb other fun v => decide (v = row[i]))).map (fun (j : Nat) => Dt.int j) = (posR row[i] 0 other).map .int := by rw [← posR_fb, List.map_map]; rfl
      rw [eq]
      have hao : row[i] ∈ other := hp.subset (List.mem_of_getElem? ga)
      have e : row.take (i + 1) = row.take i ++ [row[i]] := by rw [List.take_succ, ga]; rfl
      have hcnt : (row.take i).count row[i] < (posR row[i] 0 other).length := by
        rw [posR_length, ← hp.count_eq]
        have h3 : (row.take (i + 1)).count row[i] ≤ row.count row[i] := (List.take_sublist _ _).count_le _
        rw [e, List.count_append] at h3
        simp at h3
        omega
      have hpl1 : (placesF row other)[i]? = some (posR row[i] 0 other)[(row.take i).count row[i]] := by
        have hr : row.getD i 0 = row[i] := by rw [List.getD_eq_getElem?_getD, ga]; rfl
        unfold placesF
        rw [List.getElem?_map, List.getElem?_range hi, Option.map_some, hr, List.getD_eq_getElem?_getD, List.getElem?_eq_getElem hcnt]
        rfl
      have ep : (placesF row other).take (i + 1) = (placesF row other).take i ++ [(posR row[i] 0 other)[(row.take i).count row[i]]] := by rw [List.take_succ, hpl1]; rfl
      rw [atI_n]
      refine ⟨by omega, by omega, _, ga, .int (posR row[i] 0 other)[(row.take i).count row[i]], ?_, by rw [List.length_take]; omega, ?_⟩
      · rw [cutD_to, atI_n, List.getElem?_map, List.getElem?_eq_getElem hcnt]; rfl
      · rw [ep]; simp
  · obtain ⟨rfl, o1, o2, rfl⟩ := hI
    rw [rngD_len, ← hpl, List.take_length]
    walk_at "rd"
    have kk := k
    have hl : (placesF row other).length ≤ 900 := by omega
    generalize placesF row other = ps at kk hl ⊢
    refine for_use (rngD 0 ps.length) (fun i ρ' μ' => μ' = mset μ p (.lst (ps.map .int)) ∧ crossOf 0 ps = crossOf i (ps.drop i) ∧ ∃ o1 o2 o3, ρ' = [some (.str row), some (.str other), some (.hdl p), o1, o2, o3, none]) (fun K' k => ?_) ⟨rfl, rfl, o1, o2, none, rfl⟩ (fun i d ρ' μ' hd hI => ?_) (fun ρ' μ' hI => ?_)
    · walk_at "rd"
      rw [Int.toNat_natCast]
      exact ⟨by omega, by omega, k⟩
    · obtain ⟨rfl, hc, o1, o2, o3, rfl⟩ := hI
      obtain ⟨hi, rfl⟩ := rngD_of hd
      have gv : ps[i]? = some ps[i] := List.getElem?_eq_getElem hi
      have gd : ps.getD i 0 = ps[i] := by rw [List.getD_eq_getElem?_getD, gv]; rfl
      have ed : ps.drop i = ps[i] :: ps.drop (i + 1) := List.drop_eq_getElem_cons hi
      walk_at "rd"
      refine lc_pure (List.range (ps.drop (i + 1)).length) (fun j => .int ((i + 1 + j : Nat) : Int)) (fb (ps.drop (i + 1)) (fun w => decide (w < ps[i]))) (fun j => .int ((i + 1 + j : Nat) : Int)) (fun K' k => ?_) (by simp; omega) (fun j hj J acc h1 h2 => ?_) ?_
      · walk_at "rd"
        have e : ((ps.length : Int) - (i + 1)).toNat = (ps.drop (i + 1)).length := by rw [List.length_drop]; omega
        rw [e, rng1]
        exact ⟨by omega, by omega, by omega, by omega, k⟩
      · rw [List.mem_range, List.length_drop] at hj
        have hlt2 : i + 1 + j < ps.length := by omega
        have g2 : (ps.drop (i + 1))[j]? = some ps[i + 1 + j] := by rw [List.getElem?_drop, List.getElem?_eq_getElem hlt2]
        have gd2 : ps.getD (i + 1 + j) 0 = ps[i + 1 + j] := by rw [List.getD_eq_getElem?_getD, List.getElem?_eq_getElem hlt2]; rfl
        rw [fb_at g2] at h1 h2
        walk_at "rd"
        simp only [atI_n, ints_at hi, ints_at hlt2, gd, gd2]
        walk_at "rd"
        exact ⟨fun h => h1 (by simpa using h), fun h => h2 (by simpa using h)⟩
      · walk_at "rd"
        cases e : (ps.drop (i + 1)).findIdx? (fun w => decide (w < ps[i])) with
        | some j =>
          obtain ⟨r, hr⟩ := later_some e
          rw [hr]
          have hb2 : crossOf 0 ps = some (i, i + 1 + j) := by rw [hc, ed]; simp only [crossOf, e]
          have := kk (mset μ p (.lst (ps.map .int))) (Kp.new hpn)
          rw [hb2] at this
          exact ⟨fun _ => ⟨_, atI_0, by decide, this⟩, fun z => absurd z (by simp)⟩
        | none =>
          rw [later_none e]
          refine ⟨fun z => absurd z (by simp), fun _ => ?_⟩
          rw [hc, ed]
          simp only [crossOf, e]
    · obtain ⟨rfl, hc, o1, o2, o3, rfl⟩ := hI
      rw [rngD_len, List.drop_length] at hc
      walk_at "rd"
      have := kk (mset μ p (.lst (ps.map .int))) (Kp.new hpn)
      rw [hc] at this
      exact this
theorem u_cross {row other : List Nat} {μ : Mu} {K : KD} (h1 : row.length ≤ 900) (h2 : other.length ≤ 900) (hp : row.Perm other) (k : ∀ μ', Kp μ μ' → K (runDt (crossOf 0 (placesF row other))) μ') : sp_cross [.str row, .str other] μ K :=
  ⟨row, other, rfl, h1, h2, hp, k⟩
-- shaken
theorem Gon.fresh {s c l p : Addr} {b : Int} {μ μ' : Mu} (h : Gon s c l b μ μ') (hp : μ' p = none) : μ p = none := by
  obtain ⟨n1, n2, n3⟩ := h.1.ne hp
  cases e : μ p with
  | none => rfl
  | some o => rw [h.2 p o n1 n2 n3 e] at hp; cases hp
def sp_shaken : SpD := fun ds μ K => ∃ (s c l : Addr) (b : Int) (z : List Nat), ds = [.hdl s, .str z] ∧ z.length ≤ 400 ∧ Sto s c l b μ ∧ b < 2 ^ 46 ∧ ∀ z' : List Nat, z'.length = z.length → (∀ x ∈ z', x ∈ z) → ∀ μ', Gon s c l (b + 1010) μ μ' → K (.str z') μ'
theorem p_shaken (ds : List Dt) (μ : Mu) (Kd : KD) (h : sp_shaken ds μ Kd) : rd__law_shaken sp_take sp_order { nx := fun _ μ' => Kd .non μ', rt := Kd } (dstart N__law_shaken ds) μ := by
  obtain ⟨s, c, l, b, z, rfl, hz, hS, hb, k⟩ := h
  unfold rd__law_shaken
  walk_at "rd"
  refine u_take hS (by omega) (by omega) fun r μ1 g1 r1 r2 r3 => ?_
  walk_at "rd"
  refine ⟨by omega, fun p hp => ?_⟩
  have hn := g1.1.ne hp
  have hp0 := g1.fresh hp
  have gp : Gon s c l (b + 1) μ (mset μ1 p (.lst (sgn z))) := g1.put hp0 hn
  have same : Kd (.str z) (mset μ1 p (.lst (sgn z))) := k z rfl (fun _ h => h) _ (gp.le (by omega) (by omega))
  have tail : ∀ (i j : Nat) (I J : Int) μ2, I = i → J = j → i < z.length → j < z.length → Gon s c l (b + 3) μ μ2 → μ2 p = some (.lst (sgn z)) → z.length ≤ 1000000 ∧ ∃ c, L2.atI z J = some c ∧ ∃ xs, μ2 p = some (.lst xs) ∧ ∃ x, L2.ixN xs.length I = some x ∧ z.length ≤ 1000000 ∧
      ∃ c1, L2.atI z I = some c1 ∧ ∃ x1, L2.ixN (xs.set x (.str [c])).length J = some x1 ∧ rdJoin (cS "") (.lst ((xs.set x (.str [c])).set x1 (.str [c1]))) (mdel (mset μ2 p (.lst ((xs.set x (.str [c])).set x1 (.str [c1])))) p) Kd := by
    rintro i j _ _ μ2 rfl rfl hi hj g2 hm
    refine ⟨by omega, z[j], by rw [atI_n, List.getElem?_eq_getElem hj], _, hm, i, ixN_n (by rw [sgn_length]; exact hi), by omega, z[i], by rw [atI_n, List.getElem?_eq_getElem hi], j, ixN_n (by rw [List.length_set, sgn_length]; exact hj), ?_⟩
    have e : ((sgn z).set i (.str [z[j]])).set j (.str [z[i]]) = sgn ((z.set i z[j]).set j z[i]) := by unfold sgn; rw [List.map_set, List.map_set]
    rw [e]
    refine join_sgn (by simp; omega) (k _ (by simp) (fun x hx => ?_) _ (((g2.put hp0 hn).del hp0 hn).le (by omega) (by omega)))
    rcases List.mem_or_eq_of_mem_set hx with q | q
    · rcases List.mem_or_eq_of_mem_set q with q | q
      · exact q
      · rw [q]; exact List.getElem_mem hj
    · rw [q]; exact List.getElem_mem hi
  refine ⟨fun _ => same, fun h2 => ⟨by omega, fun _ => same, fun hl => ⟨fun h0 => ?_, fun h0 => ⟨by omega, ?_⟩⟩⟩⟩
  · refine u_order (sgn z) (.inl rfl) (by rw [sgn_length]; omega) (gp.del hp0 hn).1 (by omega) fun ys hy μ2 g2 => ?_
    obtain ⟨y, rfl, hy2⟩ := perm_sgn hy
    exact join_sgn (by rw [hy2.length_eq]; omega) (k y hy2.length_eq (fun x hx => hy2.subset hx) _ (((gp.del hp0 hn).trans g2).le (by omega) (by omega)))
  · refine u_take gp.1 (by omega) (by omega) fun t μ2 g2 t1 t2 t3 => ?_
    obtain ⟨i, rfl⟩ := Int.eq_ofNat_of_zero_le t1
    have hi : i + 1 < z.length := by
      by_cases hq : 1 < (z.length : Int) - 1
      · have := t2 hq; omega
      · have := t3 (by omega); omega
    have hm2 : μ2 p = some (.lst (sgn z)) := g2.2 p _ hn.1 hn.2.1 hn.2.2 mset_same
    walk_at "rd"
    refine ⟨fun hr => ?_, fun hr => ?_⟩
    · refine ⟨by omega, u_take g2.1 (by omega) (by omega) fun u μ3 g3 u1 u2 u3 => ?_⟩
      obtain ⟨j, rfl⟩ := Int.eq_ofNat_of_zero_le u1
      have hj : i + 1 + j < z.length := by
        by_cases hq : 1 < (z.length : Int) - 1 - i
        · have := u2 hq; omega
        · have := u3 (by omega); omega
      have hm3 : μ3 p = some (.lst (sgn z)) := g3.2 p _ hn.1 hn.2.1 hn.2.2 hm2
      walk_at "rd"
      exact tail i (i + 1 + j) _ _ μ3 rfl (by omega) (by omega) hj (((gp.trans g2).trans g3).le (by omega) (by omega)) hm3
    · exact tail i (i + 1) _ _ μ2 rfl (by omega) (by omega) hi ((gp.trans g2).le (by omega) (by omega)) hm2
theorem u_shaken {s c l : Addr} {b : Int} {z : List Nat} {μ : Mu} {K : KD} (hz : z.length ≤ 400) (h : Sto s c l b μ) (hb : b < 2 ^ 46) (k : ∀ z' : List Nat, z'.length = z.length → (∀ x ∈ z', x ∈ z) → ∀ μ', Gon s c l (b + 1010) μ μ' → K (.str z') μ') : sp_shaken [.hdl s, .str z] μ K :=
  ⟨s, c, l, b, z, rfl, hz, h, hb, k⟩
-- due_all
def dueD (old new : List Nat) (c : Nat) : Dt := .tup [runDt (runO old new c), .bl (runO old new c).isSome, .bl (struck old new c), if struck old new c then .int (rfindD new c) else .non]
def sp_due_all : SpD := fun ds μ K => ∃ (old new : List Nat) (c : Nat), ds = [.str old, .str new, .str [c]] ∧ old.length ≤ 900 ∧ new.length ≤ 900 ∧ K (dueD old new c) μ
theorem p_due_all (ds : List Dt) (μ : Mu) (Kd : KD) (h : sp_due_all ds μ Kd) : rd__law_due_all { nx := fun _ μ' => Kd .non μ', rt := Kd } (dstart N__law_due_all ds) μ := by
  obtain ⟨old, new, c, rfl, h1, h2, k⟩ := h
  unfold rd__law_due_all
  walk_at "rd"
  refine lc_pure (List.range (old.length + 1)) (fun i => .int i) (fun p => decide (putF old c p = new)) (fun i => .int i) (fun K' k => ?_) (by simp; omega) (fun i hi J acc q1 q2 => ?_) ?_
  · walk_at "rd"
    have e : ((old.length : Int) + 1).toNat = old.length + 1 := by omega
    rw [e, rng0]
    exact ⟨by omega, by omega, by omega, k⟩
  · rw [List.mem_range] at hi
    walk_at "rd"
    rw [cutD_to, cutD_from]
    have l1 := List.length_take_le i old
    have l2 : (old.drop i).length ≤ old.length := by rw [List.length_drop]; omega
    exact ⟨by omega, by omega, by omega, by simp; omega, fun h => q1 (by simpa [putF] using h), fun h => q2 (by simpa [putF] using h)⟩
  · have e : ((List.range (old.length + 1)).filter fun p => decide (putF old c p = new)) = plcs old new c := rfl
    rw [e]
    walk_at "rd"
    have fin : ∀ (R S : Dt), Kd (.tup [R, S, .bl (struck old new c), if struck old new c then .int (rfindD new c) else .non]) μ →
        ((0 ≤ rfindD new c → new.length ≤ 1000000 ∧ new.length ≤ 1000000 ∧ (DL.cutD new none (some (rfindD new c))).length + (DL.cutD new (some (rfindD new c + 1)) none).length ≤ 1000000 ∧
            (DL.cutD new none (some (rfindD new c)) ++ DL.cutD new (some (rfindD new c + 1)) none = old → 4 ≤ 1000000 ∧ Kd (.tup [R, S, .bl (decide (DL.cutD new none (some (rfindD new c)) ++ DL.cutD new (some (rfindD new c + 1)) none = old)), .int (rfindD new c)]) μ) ∧
            (¬DL.cutD new none (some (rfindD new c)) ++ DL.cutD new (some (rfindD new c + 1)) none = old → 4 ≤ 1000000 ∧ Kd (.tup [R, S, .bl (decide (DL.cutD new none (some (rfindD new c)) ++ DL.cutD new (some (rfindD new c + 1)) none = old)), .non]) μ)) ∧
          (¬0 ≤ rfindD new c → 4 ≤ 1000000 ∧ Kd (.tup [R, S, .bl false, .non]) μ)) := fun R S kk => by
      refine ⟨fun h0 => ?_, fun h0 => ⟨by decide, ?_⟩⟩
      · rw [cutD_toI _ h0, cutD_fromI _ (by omega), show (rfindD new c + 1).toNat = (rfindD new c).toNat + 1 by omega]
        have es : struck old new c = decide (new.take (rfindD new c).toNat ++ new.drop ((rfindD new c).toNat + 1) = old) := by simp [struck, h0]
        rw [es] at kk
        have l1 := List.length_take_le (rfindD new c).toNat new
        have l2 : (new.drop ((rfindD new c).toNat + 1)).length ≤ new.length := by rw [List.length_drop]; omega
        refine ⟨by omega, by omega, by simp; omega, fun h => ⟨by decide, ?_⟩, fun h => ⟨by decide, ?_⟩⟩
        · rw [if_pos (by simpa using h)] at kk; exact kk
        · rw [if_neg (by simpa using h)] at kk; exact kk
      · have es : struck old new c = false := by simp [struck, h0]
        rw [es] at kk
        exact kk
    unfold dueD at k
    cases hr : runO old new c with
    | none =>
      rw [plcs_none hr]
      rw [hr] at k
      exact ⟨fun z => absurd z (by simp), fun _ => fin _ _ k⟩
    | some q =>
      obtain ⟨u, v⟩ := q
      obtain ⟨b1, b2⟩ := run_bounds hr
      rw [plcs_some hr]
      rw [hr] at k
      have hl : (List.range' u (v + 1 - u)).length = v + 1 - u := List.length_range'
      refine ⟨fun _ => ⟨.int u, ?_, .int v, ?_, by decide, ?_⟩, fun z => absurd (by rw [hl]; omega) z⟩
      · have := atI_n ((List.range' u (v + 1 - u)).map fun (i : Nat) => Dt.int i) 0
        rw [show ((0 : Nat) : Int) = 0 from rfl] at this
        rw [this, List.getElem?_map, List.getElem?_range' (by omega)]
        simp
      · rw [atI_m1 (by rw [List.length_map, hl]; omega), List.length_map, hl, List.getElem?_map, List.getElem?_range' (by omega)]
        simp
        omega
      · refine fin _ _ ?_
        have e3 : decide (0 < ((List.range' u (v + 1 - u)).length : Int)) = true := by rw [hl]; simp; omega
        rw [e3]
        exact k
theorem e_due_all {old new : List Nat} {c : Nat} {μ : Mu} {K : KD} : sp_due_all [.str old, .str new, .str [c]] μ K = (old.length ≤ 900 ∧ new.length ≤ 900 ∧ K (dueD old new c) μ) := by
  unfold sp_due_all
  walk_at "rd"
end K17

set_option Elab.async false
set_option linter.all false
set_option maxRecDepth 100000
set_option maxHeartbeats 4000000
namespace K17
open PySem PySem.Spec PyProof.Rows L2 L2H DL
def tl__law_puts_2 (sd__law_is_due : SpD) (sd__law_told : SpD) (sd__law_beyond : SpD) : DS :=
  (dSeq (dFor (iLst (dVar 5)) (gNm 6)
  (dSeq (dSet 9 (dOp rdAdd (dOp rdAdd (dSl (dVar 1) oNo (oInt (dVar 6))) (dVar 3)) (dSl (dVar 1) (oInt (dVar 6)) oNo)))
  (dIfS (dOr (dAnd (dTest (dOp rdNotN (dVar 4) (dC .non))) (dTest (dOp rdNe (dVar 9) (dVar 2)))) (dNot (dTest (dCB sd__law_is_due (dCons (dCB sd__law_told (dCons (dC (.int 2)) (dCons (dVar 1) (dCons (dVar 6) (dCons (dVar 3) dNil))))) (dCons (dTup (dCons (dC (cS "told")) (dCons (dVar 9) dNil))) dNil)))))) (dRet (dC (.bl false))) dNext)))
  (dSeq (dSet 7 (dCB sd__law_beyond (dCons (dVar 0) (dCons (dC (.int 0)) (dCons (dCB rdLen (dCons (dVar 1) dNil)) dNil)))))
  (dSeq (dSet 8 (dCB sd__law_told (dCons (dC (.int 2)) (dCons (dVar 1) (dCons (dVar 7) (dCons (dVar 3) dNil))))))
  (dRet (dAndV (dRepEq (dSl (dVar 8) oNo (oInt (dC (.int 3)))) (dTup (dCons (dC (cS "refused")) (dCons (dLst (dCons (dC (cS "BadNumber")) dNil)) (dCons (dC (.bl true)) dNil))))) (dOp rdEq (dOp rdIx (dVar 8) (dC (.int 3))) (dVar 7)))))))
theorem tq__law_puts_2 {sd__law_is_due : SpD} {sd__law_told : SpD} {sd__law_beyond : SpD} : rd__law_puts sd__law_is_due sd__law_told sd__law_beyond = (dSeq (dSet 5 (dLst (dCons (dC (.int 0)) (dCons (dCB rdLen (dCons (dVar 1) dNil)) dNil)))) (dSeq (dIfS (dTest (dOp rdNotN (dVar 4) (dC .non))) (dSet 5 (dLst (dCons (dOp rdIx (dVar 4) (dC (.int 0))) (dCons (dOp rdIx (dVar 4) (dC (.int 1))) (dCons (dOp rdFdiv (dOp rdAdd (dOp rdIx (dVar 4) (dC (.int 0))) (dOp rdIx (dVar 4) (dC (.int 1)))) (dC (.int 2))) dNil))))) dNext) (tl__law_puts_2 sd__law_is_due sd__law_told sd__law_beyond))) := rfl
def tl__law_pair_2 (sd__law_span : SpD) (sd__law_yes : SpD) (sd__law_take : SpD) (sd__law_text : SpD) (sd__law_of : SpD) (sd__law_shaken : SpD) : DS :=
  (dSeq (dSet 3 (dCB sd__law_text (dCons (dVar 0) (dCons (dVar 1) (dCons (dVar 2) dNil)))))
  (dSeq (dSet 4 (dCB sd__law_of (dCons (dVar 0) (dCons (dVar 1) dNil))))
  (dSeq (dSet 5 (dCB sd__law_span (dCons (dVar 0) (dCons (dC (.int 0)) (dCons (dVar 2) dNil)))))
  (dSeq (dSet 6 (dOp rdAdd (dOp rdAdd (dSl (dVar 3) oNo (oInt (dVar 5))) (dVar 4)) (dSl (dVar 3) (oInt (dVar 5)) oNo)))
  (dSeq (dSet 7 (dCB sd__law_take (dCons (dVar 0) (dCons (dC (.int 8)) dNil))))
  (dSeq (dIfS (dTest (dOp rdLt (dVar 7) (dC (.int 5)))) (dSet 6 (dCB sd__law_shaken (dCons (dVar 0) (dCons (dVar 6) dNil)))) dNext)
  (dSeq (dIfS (dTest (dOp rdEq (dVar 7) (dC (.int 5)))) (dSet 6 (dOp rdAdd (dOp rdAdd (dSl (dVar 6) oNo (oInt (dVar 5))) (dCB sd__law_of (dCons (dVar 0) (dCons (dVar 1) dNil)))) (dSl (dVar 6) (oInt (dOp rdAdd (dVar 5) (dC (.int 1)))) oNo))) dNext)
  (dSeq (dIfS (dTest (dOp rdEq (dVar 7) (dC (.int 6)))) (dSet 6 (dCB sd__law_of (dCons (dVar 0) (dCons (dLst (dCons (dVar 3) (dCons (dOp rdAdd (dSl (dVar 3) (oInt (dC (.int 1))) oNo) (dVar 4)) (dCons (dC (cS "")) dNil)))) dNil)))) dNext)
  (dRet (dTup (dCons (dVar 3) (dCons (dVar 6) (dCons (dVar 4) dNil)))))))))))))
def tl__law_pair_8 (sd__law_span : SpD) (sd__law_yes : SpD) (sd__law_take : SpD) (sd__law_text : SpD) (sd__law_of : SpD) (sd__law_shaken : SpD) : DS :=
  (dSeq (dIfS (dTest (dOp rdEq (dVar 7) (dC (.int 5)))) (dSet 6 (dOp rdAdd (dOp rdAdd (dSl (dVar 6) oNo (oInt (dVar 5))) (dCB sd__law_of (dCons (dVar 0) (dCons (dVar 1) dNil)))) (dSl (dVar 6) (oInt (dOp rdAdd (dVar 5) (dC (.int 1)))) oNo))) dNext)
  (dSeq (dIfS (dTest (dOp rdEq (dVar 7) (dC (.int 6)))) (dSet 6 (dCB sd__law_of (dCons (dVar 0) (dCons (dLst (dCons (dVar 3) (dCons (dOp rdAdd (dSl (dVar 3) (oInt (dC (.int 1))) oNo) (dVar 4)) (dCons (dC (cS "")) dNil)))) dNil)))) dNext)
  (dRet (dTup (dCons (dVar 3) (dCons (dVar 6) (dCons (dVar 4) dNil)))))))
theorem tq__law_pair_2 {sd__law_span : SpD} {sd__law_yes : SpD} {sd__law_take : SpD} {sd__law_text : SpD} {sd__law_of : SpD} {sd__law_shaken : SpD} : rd__law_pair sd__law_span sd__law_yes sd__law_take sd__law_text sd__law_of sd__law_shaken = (dSeq (dSet 2 (dCB sd__law_span (dCons (dVar 0) (dCons (dC (.int 0)) (dCons (dC (.int 12)) dNil))))) (dSeq (dIfS (dTest (dCB sd__law_yes (dCons (dVar 0) (dCons (dC (.int 8)) dNil)))) (dSet 2 (dOp rdSub (dC (.int 199)) (dCB sd__law_take (dCons (dVar 0) (dCons (dC (.int 2)) dNil))))) dNext) (tl__law_pair_2 sd__law_span sd__law_yes sd__law_take sd__law_text sd__law_of sd__law_shaken))) := rfl
theorem tq__law_pair_8 {sd__law_span : SpD} {sd__law_yes : SpD} {sd__law_take : SpD} {sd__law_text : SpD} {sd__law_of : SpD} {sd__law_shaken : SpD} : tl__law_pair_2 sd__law_span sd__law_yes sd__law_take sd__law_text sd__law_of sd__law_shaken = (dSeq (dSet 3 (dCB sd__law_text (dCons (dVar 0) (dCons (dVar 1) (dCons (dVar 2) dNil))))) (dSeq (dSet 4 (dCB sd__law_of (dCons (dVar 0) (dCons (dVar 1) dNil)))) (dSeq (dSet 5 (dCB sd__law_span (dCons (dVar 0) (dCons (dC (.int 0)) (dCons (dVar 2) dNil))))) (dSeq (dSet 6 (dOp rdAdd (dOp rdAdd (dSl (dVar 3) oNo (oInt (dVar 5))) (dVar 4)) (dSl (dVar 3) (oInt (dVar 5)) oNo))) (dSeq (dSet 7 (dCB sd__law_take (dCons (dVar 0) (dCons (dC (.int 8)) dNil)))) (dSeq (dIfS (dTest (dOp rdLt (dVar 7) (dC (.int 5)))) (dSet 6 (dCB sd__law_shaken (dCons (dVar 0) (dCons (dVar 6) dNil)))) dNext) (tl__law_pair_8 sd__law_span sd__law_yes sd__law_take sd__law_text sd__law_of sd__law_shaken))))))) := rfl
def tl__law_none_and_rows_5 (sd__law_take : SpD) (sd__law_shaken : SpD) (sd__law_order : SpD) (sd__law_of : SpD) (sd__law_counts_alike : SpD) (sd__law_fault : SpD) (sd__law_cross : SpD) (sd__law_exchanged : SpD) (sd__law_is_due : SpD) (sd__law_told : SpD) : DS :=
  (dSeq (dSet 5 (dTup (dCons (dC (cS "refused")) (dCons (dLst (dCons (dC (cS "BadRows")) dNil)) (dCons (dC (.bl true)) (dCons (dCB rdLen (dCons (dVar 3) dNil)) dNil))))))
  (dSeq (dSet 6 (dVar 5))
  (dSeq (dIfS (dTest (dCB sd__law_counts_alike (dCons (dVar 1) (dCons (dVar 3) dNil)))) (dSeq (dSet 5 (dTup (dCons (dC (cS "told")) (dCons (dCB sd__law_fault (dCons (dVar 1) (dCons (dVar 3) (dCons (dC (cS "")) dNil)))) dNil))))
  (dSet 6 (dTup (dCons (dC (cS "told")) (dCons (dCB sd__law_cross (dCons (dVar 1) (dCons (dVar 3) dNil))) dNil))))) dNext)
  (dSeq (dSet 7 (dLst (dCons (dTup (dCons (dVar 1) (dCons (dVar 3) dNil))) (dCons (dTup (dCons (dCB sd__law_exchanged (dCons (dVar 1) (dCons (dVar 2) dNil))) (dCons (dCB sd__law_exchanged (dCons (dVar 3) (dCons (dVar 2) dNil))) dNil))) (dCons (dTup (dCons (dVar 1) (dCons (dVar 3) dNil))) dNil)))))
  (dSeq (dFor (iLst (dVar 7)) (gTupD 2 (gConsD (gNm 8) (gConsD (gNm 9) gNilD)))
  (dSeq (dIfS (dNot (dTest (dCB sd__law_is_due (dCons (dCB sd__law_told (dCons (dC (.int 0)) (dCons (dVar 8) (dCons (dVar 9) (dCons (dC .non) dNil))))) (dCons (dVar 5) dNil))))) (dRet (dC (.bl false))) dNext)
  (dIfS (dNot (dTest (dCB sd__law_is_due (dCons (dCB sd__law_told (dCons (dC (.int 1)) (dCons (dVar 8) (dCons (dVar 9) (dCons (dC .non) dNil))))) (dCons (dVar 6) dNil))))) (dRet (dC (.bl false))) dNext)))
  (dRet (dC (.bl true))))))))
def tl__law_none_and_rows_8 (sd__law_take : SpD) (sd__law_shaken : SpD) (sd__law_order : SpD) (sd__law_of : SpD) (sd__law_counts_alike : SpD) (sd__law_fault : SpD) (sd__law_cross : SpD) (sd__law_exchanged : SpD) (sd__law_is_due : SpD) (sd__law_told : SpD) : DS :=
  (dSeq (dSet 7 (dLst (dCons (dTup (dCons (dVar 1) (dCons (dVar 3) dNil))) (dCons (dTup (dCons (dCB sd__law_exchanged (dCons (dVar 1) (dCons (dVar 2) dNil))) (dCons (dCB sd__law_exchanged (dCons (dVar 3) (dCons (dVar 2) dNil))) dNil))) (dCons (dTup (dCons (dVar 1) (dCons (dVar 3) dNil))) dNil)))))
  (dSeq (dFor (iLst (dVar 7)) (gTupD 2 (gConsD (gNm 8) (gConsD (gNm 9) gNilD)))
  (dSeq (dIfS (dNot (dTest (dCB sd__law_is_due (dCons (dCB sd__law_told (dCons (dC (.int 0)) (dCons (dVar 8) (dCons (dVar 9) (dCons (dC .non) dNil))))) (dCons (dVar 5) dNil))))) (dRet (dC (.bl false))) dNext)
  (dIfS (dNot (dTest (dCB sd__law_is_due (dCons (dCB sd__law_told (dCons (dC (.int 1)) (dCons (dVar 8) (dCons (dVar 9) (dCons (dC .non) dNil))))) (dCons (dVar 6) dNil))))) (dRet (dC (.bl false))) dNext)))
  (dRet (dC (.bl true)))))
theorem tq__law_none_and_rows_5 {sd__law_take : SpD} {sd__law_shaken : SpD} {sd__law_order : SpD} {sd__law_of : SpD} {sd__law_counts_alike : SpD} {sd__law_fault : SpD} {sd__law_cross : SpD} {sd__law_exchanged : SpD} {sd__law_is_due : SpD} {sd__law_told : SpD} : rd__law_none_and_rows sd__law_take sd__law_shaken sd__law_order sd__law_of sd__law_counts_alike sd__law_fault sd__law_cross sd__law_exchanged sd__law_is_due sd__law_told = (dSeq (dSet 3 (dVar 1)) (dSeq (dSet 4 (dCB sd__law_take (dCons (dVar 0) (dCons (dC (.int 6)) dNil)))) (dSeq (dIfS (dTest (dOp rdLt (dVar 4) (dC (.int 3)))) (dSet 3 (dCB sd__law_shaken (dCons (dVar 0) (dCons (dVar 1) dNil)))) dNext) (dSeq (dIfS (dTest (dOp rdEq (dVar 4) (dC (.int 3)))) (dSet 3 (dM1 rdJoin (dC (cS "")) (dCB sd__law_order (dCons (dVar 0) (dCons (dVar 1) dNil))))) dNext) (dSeq (dIfS (dTest (dOp rdEq (dVar 4) (dC (.int 4)))) (dSet 3 (dCB sd__law_of (dCons (dVar 0) (dCons (dLst (dCons (dOp rdAdd (dVar 1) (dSl (dVar 1) oNo (oInt (dC (.int 1))))) (dCons (dSl (dVar 1) (oInt (dC (.int 1))) oNo) (dCons (dRevS (dVar 1)) (dCons (dOp rdAdd (dSl (dVar 1) (oInt (dC (.int 1))) oNo) (dC (cS "~"))) dNil))))) dNil)))) dNext) (tl__law_none_and_rows_5 sd__law_take sd__law_shaken sd__law_order sd__law_of sd__law_counts_alike sd__law_fault sd__law_cross sd__law_exchanged sd__law_is_due sd__law_told)))))) := rfl
theorem tq__law_none_and_rows_8 {sd__law_take : SpD} {sd__law_shaken : SpD} {sd__law_order : SpD} {sd__law_of : SpD} {sd__law_counts_alike : SpD} {sd__law_fault : SpD} {sd__law_cross : SpD} {sd__law_exchanged : SpD} {sd__law_is_due : SpD} {sd__law_told : SpD} : tl__law_none_and_rows_5 sd__law_take sd__law_shaken sd__law_order sd__law_of sd__law_counts_alike sd__law_fault sd__law_cross sd__law_exchanged sd__law_is_due sd__law_told = (dSeq (dSet 5 (dTup (dCons (dC (cS "refused")) (dCons (dLst (dCons (dC (cS "BadRows")) dNil)) (dCons (dC (.bl true)) (dCons (dCB rdLen (dCons (dVar 3) dNil)) dNil)))))) (dSeq (dSet 6 (dVar 5)) (dSeq (dIfS (dTest (dCB sd__law_counts_alike (dCons (dVar 1) (dCons (dVar 3) dNil)))) (dSeq (dSet 5 (dTup (dCons (dC (cS "told")) (dCons (dCB sd__law_fault (dCons (dVar 1) (dCons (dVar 3) (dCons (dC (cS "")) dNil)))) dNil))))
  (dSet 6 (dTup (dCons (dC (cS "told")) (dCons (dCB sd__law_cross (dCons (dVar 1) (dCons (dVar 3) dNil))) dNil))))) dNext) (tl__law_none_and_rows_8 sd__law_take sd__law_shaken sd__law_order sd__law_of sd__law_counts_alike sd__law_fault sd__law_cross sd__law_exchanged sd__law_is_due sd__law_told)))) := rfl
def tl_law_4 (sd__law_store : SpD) (sd__law_order : SpD) (sd__law_ascii : SpD) (sd__law_take : SpD) (sd__law_pair : SpD) (sd__law_of : SpD) (sd__law_due_all : SpD) (sd__law_fault_due : SpD) (sd__law_asked : SpD) (sd__law_exchanged : SpD) (sd__law_puts : SpD) (sd__law_none_and_rows : SpD) : DS :=
  (dSeq (dFor (iR1 (dCons (dC (.int 94)) dNil)) (gNm 5)
  (dPutD (dOp rdIx (dVar 2) (dOp rdMod (dCB rdInt (dCons (dOp rdAdd (dVar 5) (dVar 3)) dNil)) (dC (.int 94)))) (dVar 4) (dOp rdIx (dVar 2) (dVar 5))))
  (dGiveD 4 (dSeq (dFor (iR1 (dCons (dC (.int 2)) dNil)) (gNm 6)
  (dSeq (dAsg (dCB sd__law_pair (dCons (dVar 1) (dCons (dSl (dVar 2) oNo (oInt (dOp rdAdd (dC (.int 2)) (dCB sd__law_take (dCons (dVar 1) (dCons (dCB sd__law_of (dCons (dVar 1) (dCons (dTup (dCons (dC (.int 1)) (dCons (dC (.int 2)) (dCons (dC (.int 19)) dNil)))) dNil))) dNil)))))) dNil))) (gTupD 3 (gConsD (gNm 10) (gConsD (gNm 11) (gConsD (gNm 12) gNilD)))))
  (dSeq (dSet 7 (dCB sd__law_due_all (dCons (dVar 10) (dCons (dVar 11) (dCons (dVar 12) dNil)))))
  (dSeq (dSet 8 (dCB sd__law_fault_due (dCons (dVar 10) (dCons (dVar 11) (dCons (dVar 12) dNil)))))
  (dSeq (dIfS (dOr (dTest (dOp rdNe (dOp rdEq (dVar 8) (dTup (dCons (dC (cS "told")) (dCons (dC .non) dNil)))) (dOp rdIx (dVar 7) (dC (.int 1))))) (dNot (dTest (dCB sd__law_asked (dCons (dVar 10) (dCons (dVar 11) (dCons (dVar 12) (dCons (dVar 7) (dCons (dVar 8) dNil))))))))) (dRet (dC (.bl false))) dNext)
  (dSeq (dAsg3 13 14 15 (dTup (dCons (dCB sd__law_exchanged (dCons (dVar 10) (dCons (dVar 4) dNil))) (dCons (dCB sd__law_exchanged (dCons (dVar 11) (dCons (dVar 4) dNil))) (dCons (dOp rdDGet (dVar 4) (dVar 12)) dNil)))))
  (dSeq (dIfS (dNot (dTest (dCB sd__law_asked (dCons (dVar 13) (dCons (dVar 14) (dCons (dVar 15) (dCons (dVar 7) (dCons (dVar 8) dNil)))))))) (dRet (dC (.bl false))) dNext)
  (dSeq (dSet 9 (dCB sd__law_due_all (dCons (dRevS (dVar 10)) (dCons (dRevS (dVar 11)) (dCons (dVar 12) dNil)))))
  (dSeq (dIfS (dTest (dOp rdNotN (dOp rdIx (dVar 7) (dC (.int 0))) (dC .non))) (dSet 9 (dOp rdAdd (dTup (dCons (dTup (dCons (dOp rdSub (dCB rdLen (dCons (dVar 10) dNil)) (dOp rdIx (dOp rdIx (dVar 7) (dC (.int 0))) (dC (.int 1)))) (dCons (dOp rdSub (dCB rdLen (dCons (dVar 10) dNil)) (dOp rdIx (dOp rdIx (dVar 7) (dC (.int 0))) (dC (.int 0)))) dNil))) (dCons (dC (.bl true)) dNil))) (dSl (dVar 9) (oInt (dC (.int 2))) oNo))) dNext)
  (dSeq (dIfS (dNot (dTest (dCB sd__law_asked (dCons (dRevS (dVar 10)) (dCons (dRevS (dVar 11)) (dCons (dVar 12) (dCons (dVar 9) (dCons (dCB sd__law_fault_due (dCons (dRevS (dVar 10)) (dCons (dRevS (dVar 11)) (dCons (dVar 12) dNil)))) dNil)))))))) (dRet (dC (.bl false))) dNext)
  (dSeq (dIfS (dOr (dNot (dTest (dCB sd__law_asked (dCons (dVar 10) (dCons (dVar 11) (dCons (dVar 12) (dCons (dVar 7) (dCons (dVar 8) dNil)))))))) (dNot (dTest (dCB sd__law_puts (dCons (dVar 1) (dCons (dVar 10) (dCons (dVar 11) (dCons (dVar 12) (dCons (dOp rdIx (dVar 7) (dC (.int 0))) dNil))))))))) (dRet (dC (.bl false))) dNext)
  (dIfS (dOr (dNot (dTest (dCB sd__law_puts (dCons (dVar 1) (dCons (dVar 13) (dCons (dVar 14) (dCons (dVar 15) (dCons (dOp rdIx (dVar 7) (dC (.int 0))) dNil)))))))) (dNot (dTest (dCB sd__law_none_and_rows (dCons (dVar 1) (dCons (dVar 10) (dCons (dVar 4) dNil))))))) (dRet (dC (.bl false))) dNext))))))))))))
  (dRet (dC (.bl true))))))
def tl_law_5 (sd__law_store : SpD) (sd__law_order : SpD) (sd__law_ascii : SpD) (sd__law_take : SpD) (sd__law_pair : SpD) (sd__law_of : SpD) (sd__law_due_all : SpD) (sd__law_fault_due : SpD) (sd__law_asked : SpD) (sd__law_exchanged : SpD) (sd__law_puts : SpD) (sd__law_none_and_rows : SpD) : DS :=
  (dGiveD 4 (dSeq (dFor (iR1 (dCons (dC (.int 2)) dNil)) (gNm 6)
  (dSeq (dAsg (dCB sd__law_pair (dCons (dVar 1) (dCons (dSl (dVar 2) oNo (oInt (dOp rdAdd (dC (.int 2)) (dCB sd__law_take (dCons (dVar 1) (dCons (dCB sd__law_of (dCons (dVar 1) (dCons (dTup (dCons (dC (.int 1)) (dCons (dC (.int 2)) (dCons (dC (.int 19)) dNil)))) dNil))) dNil)))))) dNil))) (gTupD 3 (gConsD (gNm 10) (gConsD (gNm 11) (gConsD (gNm 12) gNilD)))))
  (dSeq (dSet 7 (dCB sd__law_due_all (dCons (dVar 10) (dCons (dVar 11) (dCons (dVar 12) dNil)))))
  (dSeq (dSet 8 (dCB sd__law_fault_due (dCons (dVar 10) (dCons (dVar 11) (dCons (dVar 12) dNil)))))
  (dSeq (dIfS (dOr (dTest (dOp rdNe (dOp rdEq (dVar 8) (dTup (dCons (dC (cS "told")) (dCons (dC .non) dNil)))) (dOp rdIx (dVar 7) (dC (.int 1))))) (dNot (dTest (dCB sd__law_asked (dCons (dVar 10) (dCons (dVar 11) (dCons (dVar 12) (dCons (dVar 7) (dCons (dVar 8) dNil))))))))) (dRet (dC (.bl false))) dNext)
  (dSeq (dAsg3 13 14 15 (dTup (dCons (dCB sd__law_exchanged (dCons (dVar 10) (dCons (dVar 4) dNil))) (dCons (dCB sd__law_exchanged (dCons (dVar 11) (dCons (dVar 4) dNil))) (dCons (dOp rdDGet (dVar 4) (dVar 12)) dNil)))))
  (dSeq (dIfS (dNot (dTest (dCB sd__law_asked (dCons (dVar 13) (dCons (dVar 14) (dCons (dVar 15) (dCons (dVar 7) (dCons (dVar 8) dNil)))))))) (dRet (dC (.bl false))) dNext)
  (dSeq (dSet 9 (dCB sd__law_due_all (dCons (dRevS (dVar 10)) (dCons (dRevS (dVar 11)) (dCons (dVar 12) dNil)))))
  (dSeq (dIfS (dTest (dOp rdNotN (dOp rdIx (dVar 7) (dC (.int 0))) (dC .non))) (dSet 9 (dOp rdAdd (dTup (dCons (dTup (dCons (dOp rdSub (dCB rdLen (dCons (dVar 10) dNil)) (dOp rdIx (dOp rdIx (dVar 7) (dC (.int 0))) (dC (.int 1)))) (dCons (dOp rdSub (dCB rdLen (dCons (dVar 10) dNil)) (dOp rdIx (dOp rdIx (dVar 7) (dC (.int 0))) (dC (.int 0)))) dNil))) (dCons (dC (.bl true)) dNil))) (dSl (dVar 9) (oInt (dC (.int 2))) oNo))) dNext)
  (dSeq (dIfS (dNot (dTest (dCB sd__law_asked (dCons (dRevS (dVar 10)) (dCons (dRevS (dVar 11)) (dCons (dVar 12) (dCons (dVar 9) (dCons (dCB sd__law_fault_due (dCons (dRevS (dVar 10)) (dCons (dRevS (dVar 11)) (dCons (dVar 12) dNil)))) dNil)))))))) (dRet (dC (.bl false))) dNext)
  (dSeq (dIfS (dOr (dNot (dTest (dCB sd__law_asked (dCons (dVar 10) (dCons (dVar 11) (dCons (dVar 12) (dCons (dVar 7) (dCons (dVar 8) dNil)))))))) (dNot (dTest (dCB sd__law_puts (dCons (dVar 1) (dCons (dVar 10) (dCons (dVar 11) (dCons (dVar 12) (dCons (dOp rdIx (dVar 7) (dC (.int 0))) dNil))))))))) (dRet (dC (.bl false))) dNext)
  (dIfS (dOr (dNot (dTest (dCB sd__law_puts (dCons (dVar 1) (dCons (dVar 13) (dCons (dVar 14) (dCons (dVar 15) (dCons (dOp rdIx (dVar 7) (dC (.int 0))) dNil)))))))) (dNot (dTest (dCB sd__law_none_and_rows (dCons (dVar 1) (dCons (dVar 10) (dCons (dVar 4) dNil))))))) (dRet (dC (.bl false))) dNext))))))))))))
  (dRet (dC (.bl true)))))
theorem tq_law_4 {sd__law_store : SpD} {sd__law_order : SpD} {sd__law_ascii : SpD} {sd__law_take : SpD} {sd__law_pair : SpD} {sd__law_of : SpD} {sd__law_due_all : SpD} {sd__law_fault_due : SpD} {sd__law_asked : SpD} {sd__law_exchanged : SpD} {sd__law_puts : SpD} {sd__law_none_and_rows : SpD} : rd_law sd__law_store sd__law_order sd__law_ascii sd__law_take sd__law_pair sd__law_of sd__law_due_all sd__law_fault_due sd__law_asked sd__law_exchanged sd__law_puts sd__law_none_and_rows = (dSeq (dSet 1 (dCB sd__law_store (dCons (dVar 0) dNil))) (dSeq (dSet 2 (dM1 rdJoin (dC (cS "")) (dCB sd__law_order (dCons (dVar 1) (dCons (dCB sd__law_ascii dNil) dNil))))) (dSeq (dSet 3 (dOp rdAdd (dC (.int 1)) (dCB sd__law_take (dCons (dVar 1) (dCons (dC (.int 93)) dNil))))) (dSeq (dSet 4 dDNew) (tl_law_4 sd__law_store sd__law_order sd__law_ascii sd__law_take sd__law_pair sd__law_of sd__law_due_all sd__law_fault_due sd__law_asked sd__law_exchanged sd__law_puts sd__law_none_and_rows))))) := rfl
theorem tq_law_5 {sd__law_store : SpD} {sd__law_order : SpD} {sd__law_ascii : SpD} {sd__law_take : SpD} {sd__law_pair : SpD} {sd__law_of : SpD} {sd__law_due_all : SpD} {sd__law_fault_due : SpD} {sd__law_asked : SpD} {sd__law_exchanged : SpD} {sd__law_puts : SpD} {sd__law_none_and_rows : SpD} : tl_law_4 sd__law_store sd__law_order sd__law_ascii sd__law_take sd__law_pair sd__law_of sd__law_due_all sd__law_fault_due sd__law_asked sd__law_exchanged sd__law_puts sd__law_none_and_rows = (dSeq (dFor (iR1 (dCons (dC (.int 94)) dNil)) (gNm 5)
  (dPutD (dOp rdIx (dVar 2) (dOp rdMod (dCB rdInt (dCons (dOp rdAdd (dVar 5) (dVar 3)) dNil)) (dC (.int 94)))) (dVar 4) (dOp rdIx (dVar 2) (dVar 5)))) (tl_law_5 sd__law_store sd__law_order sd__law_ascii sd__law_take sd__law_pair sd__law_of sd__law_due_all sd__law_fault_due sd__law_asked sd__law_exchanged sd__law_puts sd__law_none_and_rows)) := rfl
def bl_law_3 (sd__law_store : SpD) (sd__law_order : SpD) (sd__law_ascii : SpD) (sd__law_take : SpD) (sd__law_pair : SpD) (sd__law_of : SpD) (sd__law_due_all : SpD) (sd__law_fault_due : SpD) (sd__law_asked : SpD) (sd__law_exchanged : SpD) (sd__law_puts : SpD) (sd__law_none_and_rows : SpD) : DS :=
  (dSeq (dIfS (dOr (dTest (dOp rdNe (dOp rdEq (dVar 8) (dTup (dCons (dC (cS "told")) (dCons (dC .non) dNil)))) (dOp rdIx (dVar 7) (dC (.int 1))))) (dNot (dTest (dCB sd__law_asked (dCons (dVar 10) (dCons (dVar 11) (dCons (dVar 12) (dCons (dVar 7) (dCons (dVar 8) dNil))))))))) (dRet (dC (.bl false))) dNext)
  (dSeq (dAsg3 13 14 15 (dTup (dCons (dCB sd__law_exchanged (dCons (dVar 10) (dCons (dVar 4) dNil))) (dCons (dCB sd__law_exchanged (dCons (dVar 11) (dCons (dVar 4) dNil))) (dCons (dOp rdDGet (dVar 4) (dVar 12)) dNil)))))
  (dSeq (dIfS (dNot (dTest (dCB sd__law_asked (dCons (dVar 13) (dCons (dVar 14) (dCons (dVar 15) (dCons (dVar 7) (dCons (dVar 8) dNil)))))))) (dRet (dC (.bl false))) dNext)
  (dSeq (dSet 9 (dCB sd__law_due_all (dCons (dRevS (dVar 10)) (dCons (dRevS (dVar 11)) (dCons (dVar 12) dNil)))))
  (dSeq (dIfS (dTest (dOp rdNotN (dOp rdIx (dVar 7) (dC (.int 0))) (dC .non))) (dSet 9 (dOp rdAdd (dTup (dCons (dTup (dCons (dOp rdSub (dCB rdLen (dCons (dVar 10) dNil)) (dOp rdIx (dOp rdIx (dVar 7) (dC (.int 0))) (dC (.int 1)))) (dCons (dOp rdSub (dCB rdLen (dCons (dVar 10) dNil)) (dOp rdIx (dOp rdIx (dVar 7) (dC (.int 0))) (dC (.int 0)))) dNil))) (dCons (dC (.bl true)) dNil))) (dSl (dVar 9) (oInt (dC (.int 2))) oNo))) dNext)
  (dSeq (dIfS (dNot (dTest (dCB sd__law_asked (dCons (dRevS (dVar 10)) (dCons (dRevS (dVar 11)) (dCons (dVar 12) (dCons (dVar 9) (dCons (dCB sd__law_fault_due (dCons (dRevS (dVar 10)) (dCons (dRevS (dVar 11)) (dCons (dVar 12) dNil)))) dNil)))))))) (dRet (dC (.bl false))) dNext)
  (dSeq (dIfS (dOr (dNot (dTest (dCB sd__law_asked (dCons (dVar 10) (dCons (dVar 11) (dCons (dVar 12) (dCons (dVar 7) (dCons (dVar 8) dNil)))))))) (dNot (dTest (dCB sd__law_puts (dCons (dVar 1) (dCons (dVar 10) (dCons (dVar 11) (dCons (dVar 12) (dCons (dOp rdIx (dVar 7) (dC (.int 0))) dNil))))))))) (dRet (dC (.bl false))) dNext)
  (dIfS (dOr (dNot (dTest (dCB sd__law_puts (dCons (dVar 1) (dCons (dVar 13) (dCons (dVar 14) (dCons (dVar 15) (dCons (dOp rdIx (dVar 7) (dC (.int 0))) dNil)))))))) (dNot (dTest (dCB sd__law_none_and_rows (dCons (dVar 1) (dCons (dVar 10) (dCons (dVar 4) dNil))))))) (dRet (dC (.bl false))) dNext))))))))
def bl_law_8 (sd__law_store : SpD) (sd__law_order : SpD) (sd__law_ascii : SpD) (sd__law_take : SpD) (sd__law_pair : SpD) (sd__law_of : SpD) (sd__law_due_all : SpD) (sd__law_fault_due : SpD) (sd__law_asked : SpD) (sd__law_exchanged : SpD) (sd__law_puts : SpD) (sd__law_none_and_rows : SpD) : DS :=
  (dSeq (dIfS (dNot (dTest (dCB sd__law_asked (dCons (dRevS (dVar 10)) (dCons (dRevS (dVar 11)) (dCons (dVar 12) (dCons (dVar 9) (dCons (dCB sd__law_fault_due (dCons (dRevS (dVar 10)) (dCons (dRevS (dVar 11)) (dCons (dVar 12) dNil)))) dNil)))))))) (dRet (dC (.bl false))) dNext)
  (dSeq (dIfS (dOr (dNot (dTest (dCB sd__law_asked (dCons (dVar 10) (dCons (dVar 11) (dCons (dVar 12) (dCons (dVar 7) (dCons (dVar 8) dNil)))))))) (dNot (dTest (dCB sd__law_puts (dCons (dVar 1) (dCons (dVar 10) (dCons (dVar 11) (dCons (dVar 12) (dCons (dOp rdIx (dVar 7) (dC (.int 0))) dNil))))))))) (dRet (dC (.bl false))) dNext)
  (dIfS (dOr (dNot (dTest (dCB sd__law_puts (dCons (dVar 1) (dCons (dVar 13) (dCons (dVar 14) (dCons (dVar 15) (dCons (dOp rdIx (dVar 7) (dC (.int 0))) dNil)))))))) (dNot (dTest (dCB sd__law_none_and_rows (dCons (dVar 1) (dCons (dVar 10) (dCons (dVar 4) dNil))))))) (dRet (dC (.bl false))) dNext)))
theorem bq_law_3 {sd__law_store : SpD} {sd__law_order : SpD} {sd__law_ascii : SpD} {sd__law_take : SpD} {sd__law_pair : SpD} {sd__law_of : SpD} {sd__law_due_all : SpD} {sd__law_fault_due : SpD} {sd__law_asked : SpD} {sd__law_exchanged : SpD} {sd__law_puts : SpD} {sd__law_none_and_rows : SpD} : tl_law_5 sd__law_store sd__law_order sd__law_ascii sd__law_take sd__law_pair sd__law_of sd__law_due_all sd__law_fault_due sd__law_asked sd__law_exchanged sd__law_puts sd__law_none_and_rows = (dGiveD 4 (dSeq (dFor (iR1 (dCons (dC (.int 2)) dNil)) (gNm 6) (dSeq (dAsg (dCB sd__law_pair (dCons (dVar 1) (dCons (dSl (dVar 2) oNo (oInt (dOp rdAdd (dC (.int 2)) (dCB sd__law_take (dCons (dVar 1) (dCons (dCB sd__law_of (dCons (dVar 1) (dCons (dTup (dCons (dC (.int 1)) (dCons (dC (.int 2)) (dCons (dC (.int 19)) dNil)))) dNil))) dNil)))))) dNil))) (gTupD 3 (gConsD (gNm 10) (gConsD (gNm 11) (gConsD (gNm 12) gNilD))))) (dSeq (dSet 7 (dCB sd__law_due_all (dCons (dVar 10) (dCons (dVar 11) (dCons (dVar 12) dNil))))) (dSeq (dSet 8 (dCB sd__law_fault_due (dCons (dVar 10) (dCons (dVar 11) (dCons (dVar 12) dNil))))) (bl_law_3 sd__law_store sd__law_order sd__law_ascii sd__law_take sd__law_pair sd__law_of sd__law_due_all sd__law_fault_due sd__law_asked sd__law_exchanged sd__law_puts sd__law_none_and_rows))))) (dRet (dC (.bl true))))) := rfl
theorem bq_law_8 {sd__law_store : SpD} {sd__law_order : SpD} {sd__law_ascii : SpD} {sd__law_take : SpD} {sd__law_pair : SpD} {sd__law_of : SpD} {sd__law_due_all : SpD} {sd__law_fault_due : SpD} {sd__law_asked : SpD} {sd__law_exchanged : SpD} {sd__law_puts : SpD} {sd__law_none_and_rows : SpD} : bl_law_3 sd__law_store sd__law_order sd__law_ascii sd__law_take sd__law_pair sd__law_of sd__law_due_all sd__law_fault_due sd__law_asked sd__law_exchanged sd__law_puts sd__law_none_and_rows = (dSeq (dIfS (dOr (dTest (dOp rdNe (dOp rdEq (dVar 8) (dTup (dCons (dC (cS "told")) (dCons (dC .non) dNil)))) (dOp rdIx (dVar 7) (dC (.int 1))))) (dNot (dTest (dCB sd__law_asked (dCons (dVar 10) (dCons (dVar 11) (dCons (dVar 12) (dCons (dVar 7) (dCons (dVar 8) dNil))))))))) (dRet (dC (.bl false))) dNext) (dSeq (dAsg3 13 14 15 (dTup (dCons (dCB sd__law_exchanged (dCons (dVar 10) (dCons (dVar 4) dNil))) (dCons (dCB sd__law_exchanged (dCons (dVar 11) (dCons (dVar 4) dNil))) (dCons (dOp rdDGet (dVar 4) (dVar 12)) dNil))))) (dSeq (dIfS (dNot (dTest (dCB sd__law_asked (dCons (dVar 13) (dCons (dVar 14) (dCons (dVar 15) (dCons (dVar 7) (dCons (dVar 8) dNil)))))))) (dRet (dC (.bl false))) dNext) (dSeq (dSet 9 (dCB sd__law_due_all (dCons (dRevS (dVar 10)) (dCons (dRevS (dVar 11)) (dCons (dVar 12) dNil))))) (dSeq (dIfS (dTest (dOp rdNotN (dOp rdIx (dVar 7) (dC (.int 0))) (dC .non))) (dSet 9 (dOp rdAdd (dTup (dCons (dTup (dCons (dOp rdSub (dCB rdLen (dCons (dVar 10) dNil)) (dOp rdIx (dOp rdIx (dVar 7) (dC (.int 0))) (dC (.int 1)))) (dCons (dOp rdSub (dCB rdLen (dCons (dVar 10) dNil)) (dOp rdIx (dOp rdIx (dVar 7) (dC (.int 0))) (dC (.int 0)))) dNil))) (dCons (dC (.bl true)) dNil))) (dSl (dVar 9) (oInt (dC (.int 2))) oNo))) dNext) (bl_law_8 sd__law_store sd__law_order sd__law_ascii sd__law_take sd__law_pair sd__law_of sd__law_due_all sd__law_fault_due sd__law_asked sd__law_exchanged sd__law_puts sd__law_none_and_rows)))))) := rfl
end K17

set_option Elab.async false
set_option linter.all false
set_option maxRecDepth 100000
set_option maxHeartbeats 4000000
namespace K17
open PySem PySem.Spec PyProof.Rows L2 L2H DL
local macro_rules | `(tactic| walk_at "rd") => `(tactic| simp only [dget_z, dget_s, dSeq, dSet, dRet, dRetN, dDrop, dIfS, dBrk, dCnt, dNever, dNext, dVar, dC, dOp, dTest, dChain, dAnd, dOr, dNot, dAndV, dOrV, dNotV, dIf, dNil, dCons, dTup, dLst, dLstO, dCB, dAug, dGive, dGiveD, dstart, dAsg, dAsg3, dYes, gNm, gNilD, gConsD, gTupD, iLst, iTupD, iStrD, iR1, iR2, iZipD, iEnumD, iEnumZD, dPut, dPutD, dSl, dRevS, oNo, oInt, dM1, dApp, dIndex, dDGet2, dDNew, dSetd, dNeg, dIsB, dRepEq, dRaise, dRetX, dTry, dIsX, dAt, rdEq, rdNe, rdIsN, rdNotN,  rdIn, rdNotIn,   rdI, rdI0, rdSub, rdFdiv, rdMod, rdPow, rdXor, rdLt, rdLe, rdGt, rdGe,      rdMin,  rdListD,   rdCountS, rdRfindS,          dwipe, q_deq_str, q_deq_int,
  q_int_int, q_int_bl, q_setD_hdl, rdListO, q_ix_lst, q_ix_tup, q_ix_str, q_ix_hdl, q_ix_scr, q_setL_hdl, q_add_int, q_add_str, q_add_lst, q_add_tup, q_mul_int, q_mul_str, q_sl_lst, q_sl_tup, q_sl_str, q_len_str, q_len_lst, q_len_tup, q_len_scr, q_len_hdl, q_items_lst, q_items_tup, q_items_str, q_items_hdl, q_inB_lst, q_inB_tup, q_sign_str, q_index_lst, q_dget_dk, q_dget_hdl, q_sort_lst, q_sort_str, q_src_str, q_src_lst, q_src_tup, q_isNon_non, q_isNon_bl, q_isNon_int, q_isNon_str, q_isNon_tup, q_isNon_lst, q_isBl_bl, q_isBl_int, q_flat_non, q_flat_bl, q_flat_int, q_flat_str, q_key_int, q_key_str, q_shl_non, q_shl_bl, q_shl_int, q_shl_str, q_shl_tup, q_shl_lst, q_shlAll_nil, q_shlAll_cons, q_deq_non, q_deq_bl, q_deq_tup, q_deq_lst, q_deqAll_nil, q_deqAll_cons,
  List.any_cons, List.any_nil, List.all_cons, List.all_nil, if_true, Bool.or_false, Bool.and_true, Bool.true_and, Bool.not_or, Bool.and_eq_true, Bool.and_eq_false_iff, q_nil, List.append_nil, q_deq_strs, q_shl_strs, q_flat_ints, q_deq_ints, q_idx_ints, if_false, reduceIte,
  List.length_cons, List.length_nil, List.map_cons, List.map_nil, List.cons_append, List.nil_append, List.set_cons_zero, List.set_cons_succ, List.replicate, Option.some.injEq, exists_eq_left', exists_eq_left, exists_eq', exists_eq, exists_and_left, exists_const, true_and, and_true, and_self, forall_const, Dt.int.injEq, Dt.str.injEq, Dt.bl.injEq, Dt.hdl.injEq, OD.lst.injEq, OD.dk.injEq, mset_same, mset_mset, List.length_map, Dt.tup.injEq, Dt.lst.injEq, Nat.reduceAdd, Nat.reduceSub, Nat.zero_add, Int.zero_add, decide_eq_true_eq, decide_eq_false_iff_not, List.cons.injEq, and_assoc, eq_self, Bool.not_eq_true', Bool.not_eq_false', Bool.true_eq_false, Bool.false_eq_true, false_implies, implies_true, not_true_eq_false, not_false_eq_true, reduceCtorEq, false_and, and_false, exists_false, ne_eq])
-- body
-- names of an error
def βn (CR C : Addr) (y : Str) : Bool := if C = CR then y == "BadRows" else y == "BadNumber"
def sp_names (CR CN : Addr) (a dd C : Addr) : SpD := fun ds μ K => ∃ d, ds = [.exc a dd C d] ∧ ((C = CR ∧ K (.lst [cS "BadRows"]) μ) ∨ (C ≠ CR ∧ C = CN ∧ K (.lst [cS "BadNumber"]) μ))
def marksD (β : Str → Bool) : List (Bool × Str) := K17.errs.tail.map fun y => (β y, y)
theorem p_names (CR CN a dd C : Addr) (ds : List Dt) (μ : Mu) (Kd : KD) (h : sp_names CR CN a dd C ds μ Kd) : rd__law_names_of a dd C (βn CR C) { nx := fun _ μ' => Kd .non μ', rt := Kd } (dstart N__law_names_of ds) μ := by
  obtain ⟨d, rfl, h⟩ := h
  have main : ∀ β : Str → Bool, Kd (.lst (((marksD β).filter (·.1)).map fun p => cS p.2)) μ → rd__law_names_of a dd C β { nx := fun _ μ' => Kd .non μ', rt := Kd } (dstart N__law_names_of [.exc a dd C d]) μ := by
    intro β k
    unfold rd__law_names_of
    walk_at "rd"
    repeat (refine ⟨by first | decide | exact ⟨_, rfl⟩, ?_⟩)
    refine lc_pure (marksD β) (fun p => .tup [.bl p.1, cS p.2]) (·.1) (fun p => cS p.2) (fun K' k => ⟨_, rfl, _, rfl, k⟩) (show (marksD β).length ≤ 1000000 by unfold marksD; rw [List.length_map]; decide +kernel) (fun x hx J acc h1 h2 => ?_) k
    clear hx
    obtain ⟨x1, x2⟩ := x
    walk_at "rd"
    refine ⟨.bl x1, rfl, _, rfl, fun h => ⟨cS x2, rfl, h1 h⟩, fun h => h2 h⟩
  rcases h with ⟨e, k⟩ | ⟨ne, e, k⟩
  · refine main _ ?_
    have : (((marksD (βn CR C)).filter (·.1)).map fun p => cS p.2) = [cS "BadRows"] := by
      have e2 : marksD (βn CR C) = marksD (fun y => y == "BadRows") := by
        unfold marksD βn
        simp only [e, if_true]
      rw [e2]
      have e3 : ((marksD (fun y => y == "BadRows")).filter (·.1)).map (·.2) = [("BadRows" : Str)] := by decide +kernel
      have e4 := congrArg (List.map cS) e3
      rw [List.map_map] at e4
      exact e4
    rw [this]
    exact k
  · refine main _ ?_
    have : (((marksD (βn CR C)).filter (·.1)).map fun p => cS p.2) = [cS "BadNumber"] := by
      have e2 : marksD (βn CR C) = marksD (fun y => y == "BadNumber") := by
        unfold marksD βn
        simp only [ne, if_false]
      rw [e2]
      have e3 : ((marksD (fun y => y == "BadNumber")).filter (·.1)).map (·.2) = [("BadNumber" : Str)] := by decide +kernel
      have e4 := congrArg (List.map cS) e3
      rw [List.map_map] at e4
      exact e4
    rw [this]
    exact k
-- counts alike
def sp_alike : SpD := fun ds μ K => ∃ x y : List Nat, ds = [.str x, .str y] ∧ x.length ≤ 1000 ∧ y.length ≤ 1000 ∧ (x.Perm y → K (.bl true) μ) ∧ (¬ x.Perm y → K (.bl false) μ)
theorem p_alike (ds : List Dt) (μ : Mu) (Kd : KD) (h : sp_alike ds μ Kd) : rd__law_counts_alike { nx := fun _ μ' => Kd .non μ', rt := Kd } (dstart N__law_counts_alike ds) μ := by
  obtain ⟨x, y, rfl, h1, h2, k1, k2⟩ := h
  unfold rd__law_counts_alike
  walk_at "rd"
  refine ⟨by omega, x.map fun c => [c], by simp [sgn], fun out ho => ⟨by omega, y.map fun c => [c], by simp [sgn], fun out1 ho1 => ?_⟩⟩
  have he := srt_eq ho ho1
  by_cases hp : x.Perm y
  · rw [show decide (out = out1) = true by simpa using he.mpr hp]; exact k1 hp
  · rw [show decide (out = out1) = false by simpa using fun z => hp (he.mp z)]; exact k2 hp
theorem u_alike {x y : List Nat} {μ : Mu} {K : KD} (h1 : x.length ≤ 1000) (h2 : y.length ≤ 1000) (k1 : x.Perm y → K (.bl true) μ) (k2 : ¬ x.Perm y → K (.bl false) μ) : sp_alike [.str x, .str y] μ K := ⟨x, y, rfl, h1, h2, k1, k2⟩
-- what is due
def refD (n : Nat) : Dt := .tup [cS "refused", .lst [cS "BadRows"], .bl true, .int n]
def tldD (d : Dt) : Dt := .tup [cS "told", d]
def sp_fdue : SpD := fun ds μ K => ∃ (old new : List Nat) (c : Nat), ds = [.str old, .str new, .str [c]] ∧ old.length ≤ 500 ∧ new.length ≤ 500 ∧ (new.Perm (old ++ [c]) → K (tldD (faultD old new (some c))) μ) ∧ (¬ new.Perm (old ++ [c]) → K (refD new.length) μ)
theorem p_fdue (ds : List Dt) (μ : Mu) (Kd : KD) (h : sp_fdue ds μ Kd) : rd__law_fault_due sp_alike sp_lfault { nx := fun _ μ' => Kd .non μ', rt := Kd } (dstart N__law_fault_due ds) μ := by
  obtain ⟨old, new, c, rfl, h1, h2, k1, k2⟩ := h
  unfold rd__law_fault_due
  walk_at "rd"
  refine ⟨by omega, u_alike (by simp; omega) (by omega) (fun hp => ?_) (fun hp => ?_)⟩
  · exact ⟨true, rfl, fun z => absurd z (by decide), fun _ => u_lfault (some c) rfl (by omega) (by omega) hp.symm ⟨by decide, k1 hp.symm⟩⟩
  · exact ⟨false, rfl, fun _ => ⟨by decide, by omega, by decide, k2 fun z => hp z.symm⟩, fun z => absurd z (by decide)⟩
theorem u_fdue {old new : List Nat} {c : Nat} {μ : Mu} {K : KD} (h1 : old.length ≤ 500) (h2 : new.length ≤ 500) (k1 : new.Perm (old ++ [c]) → K (tldD (faultD old new (some c))) μ) (k2 : ¬ new.Perm (old ++ [c]) → K (refD new.length) μ) : sp_fdue [.str old, .str new, .str [c]] μ K :=
  ⟨old, new, c, rfl, h1, h2, k1, k2⟩
-- is due
mutual
theorem deq_self : ∀ (n : Nat) (d : Dt), shl n d = true → deq d d = true
  | n, .non, _ => rfl
  | n, .bl b, _ => by simp [deq]
  | n, .int i, _ => by simp [deq]
  | n, .str z, _ => by simp [deq]
  | n, .lst xs, h => by
    simp only [shl, Bool.and_eq_true] at h
    exact deqAll_self (n - 1) xs h.2
  | n, .tup xs, h => by
    simp only [shl, Bool.and_eq_true] at h
    exact deqAll_self (n - 1) xs h.2
  | n, .dk _ _, h => by simp [shl] at h
  | n, .hdl _, h => by simp [shl] at h
  | n, .scr _, h => by simp [shl] at h
  | n, .exc _ _ _ _, h => by simp [shl] at h
theorem deqAll_self : ∀ (n : Nat) (xs : List Dt), shlAll n xs = true → deqAll xs xs = true
  | _, [], _ => rfl
  | n, x :: xs, h => by
    simp only [shlAll, Bool.and_eq_true] at h
    simp only [deqAll, Bool.and_eq_true]
    exact ⟨deq_self n x h.1, deqAll_self n xs h.2⟩
end
def sp_isdue : SpD := fun ds μ K => ∃ x, ds = [x, x] ∧ okRep x ∧ K (.bl true) μ
theorem p_isdue (ds : List Dt) (μ : Mu) (Kd : KD) (h : sp_isdue ds μ Kd) : rd__law_is_due { nx := fun _ μ' => Kd .non μ', rt := Kd } (dstart N__law_is_due ds) μ := by
  obtain ⟨x, rfl, ok, k⟩ := h
  have h2 := deq_self 60 x ok.2.1
  unfold rd__law_is_due
  walk_at "rd"
  refine ⟨ok.2.1, ok.2.1, fun _ => ⟨ok, ok, ?_⟩, fun z => ?_⟩
  · rw [repSame_refl]; exact k
  · rw [h2] at z; cases z
theorem u_isdue {x y : Dt} {μ : Mu} {K : KD} (e : x = y) (ok : okRep x) (k : K (.bl true) μ) : sp_isdue [x, y] μ K := ⟨x, by rw [e], ok, k⟩
-- signs exchanged
def Tab (A : List Nat) (g : Nat → Nat) (t : Dt) : Prop := ∃ ks ds, t = .dk ks ds ∧ ∀ x ∈ A, valD ks ds (kS x) = some (.str [g x])
def sp_exch : SpD := fun ds μ K => ∃ (z A : List Nat) (g : Nat → Nat) (t : Dt), ds = [.str z, t] ∧ Tab A g t ∧ z.length ≤ 1000 ∧ (∀ x ∈ z, x ∈ A) ∧ K (.str (z.map g)) μ
theorem p_exch (ds : List Dt) (μ : Mu) (Kd : KD) (h : sp_exch ds μ Kd) : rd__law_exchanged { nx := fun _ μ' => Kd .non μ', rt := Kd } (dstart N__law_exchanged ds) μ := by
  obtain ⟨z, A, g, t, rfl, ⟨ks, xs, rfl, ht⟩, hz, hA, k⟩ := h
  unfold rd__law_exchanged
  walk_at "rd"
  refine lc_pure z (fun c => .str [c]) (fun _ => true) (fun c => .str [g c]) (fun K' k => str_src rfl k) (by omega) (fun x hx J acc h1 h2 => ?_) ?_
  · walk_at "rd"
    exact ⟨_, ht x (hA x hx), h1 rfl⟩
  · rw [filt_true]
    have e : z.map (fun c => Dt.str [g c]) = sgn (z.map g) := by unfold sgn; rw [List.map_map]; rfl
    rw [e]
    exact join_sgn (by rw [List.length_map]; omega) k
theorem u_exch {z A : List Nat} {g : Nat → Nat} {t : Dt} {μ : Mu} {K : KD} (ht : Tab A g t) (hz : z.length ≤ 1000) (hA : ∀ x ∈ z, x ∈ A) (k : K (.str (z.map g)) μ) : sp_exch [.str z, t] μ K := ⟨z, A, g, t, rfl, ht, hz, hA, k⟩
theorem dget_tab {A : List Nat} {g : Nat → Nat} {t : Dt} {x : Nat} {μ : Mu} {K : KD} (ht : Tab A g t) (hx : x ∈ A) (k : K (.str [g x]) μ) : rdDGet t (.str [x]) μ K := by
  obtain ⟨ks, ds, rfl, h⟩ := ht
  exact ⟨_, _, rfl, h x hx, k⟩
-- told
def okT (CR CN : Addr) (C : Addr) : Prop := C = CR ∨ C = CN
def refND : Dt := .tup [cS "refused", .lst [cS "BadNumber"], .bl true]
def sp_told (CR CN : Addr) : SpD := fun ds μ K =>
  (∃ (old new : List Nat) (c : Option Nat), ds = [.int 0, .str old, .str new, cD c] ∧ old.length ≤ 500 ∧ new.length ≤ 500 ∧ (new.Perm (old ++ c.toList) → ∀ μ', Kp μ μ' → K (tldD (faultD old new c)) μ') ∧ (¬ new.Perm (old ++ c.toList) → ∀ μ', Kp μ μ' → K (refD new.length) μ')) ∨
  (∃ (row other : List Nat) (d : Dt), ds = [.int 1, .str row, .str other, d] ∧ row.length ≤ 500 ∧ other.length ≤ 500 ∧ (row.Perm other → ∀ μ', Kp μ μ' → K (tldD (runDt (crossOf 0 (placesF row other)))) μ') ∧ (¬ row.Perm other → ∀ μ', Kp μ μ' → K (refD other.length) μ')) ∨
  (∃ (old : List Nat) (c : Nat) (p : Dt), ds = [.int 2, .str old, p, .str [c]] ∧ old.length ≤ 500 ∧
    ((∃ i : Nat, p = .int i ∧ i ≤ old.length ∧ K (tldD (.str (putF old c i))) μ) ∨ (((∃ i : Int, p = .int i ∧ (i < 0 ∨ old.length < i)) ∨ ∃ b, p = .bl b) ∧ K (.tup [cS "refused", .lst [cS "BadNumber"], .bl true, p]) μ)))
theorem p_told (CR CN : Addr) (ne : CN ≠ CR) (ds : List Dt) (μ : Mu) (Kd : KD) (h : sp_told CR CN ds μ Kd) : rd__law_told (sp_fault CR) (sp_crossed CR) (sp_put CN) (sp_names CR CN) (okT CR CN) { nx := fun _ μ' => Kd .non μ', rt := Kd } (dstart N__law_told ds) μ := by
  unfold rd__law_told bd_told su_told
  rcases h with ⟨old, new, c, rfl, h1, h2, k1, k2⟩ | ⟨row, other, d, rfl, h1, h2, k1, k2⟩ | ⟨old, c, p, rfl, h1, h⟩
  · walk_at "rd"
    exact ⟨old, new, c, rfl, by omega, by omega, fun hn => ⟨.inl rfl, fun a dd => ⟨_, rfl, .inl ⟨rfl, ⟨_, rfl⟩, _, rfl, by decide, k2 hn _ Kp.refl⟩⟩⟩, fun hp μ' m => k1 hp μ' m⟩
  · walk_at "rd"
    exact ⟨fun z => absurd z (by decide), fun _ => ⟨row, other, rfl, by omega, by omega, fun hn => ⟨.inl rfl, fun a dd => ⟨_, rfl, .inl ⟨rfl, ⟨_, rfl⟩, _, rfl, by decide, k2 hn _ Kp.refl⟩⟩⟩, fun hp μ' m => k1 hp μ' m⟩⟩
  · walk_at "rd"
    refine ⟨fun z => absurd z (by decide), fun _ => ⟨fun z => absurd z (by decide), fun _ => ⟨old, c, p, rfl, by omega, ?_⟩⟩⟩
    rcases h with ⟨i, rfl, hi, k⟩ | ⟨⟨i, rfl, hi⟩ | ⟨b, rfl⟩, k⟩
    · exact .inl ⟨i, rfl, hi, k⟩
    · exact .inr (.inl ⟨i, rfl, hi, .inr rfl, fun a dd => ⟨_, rfl, .inr ⟨ne, rfl, ⟨_, rfl⟩, _, rfl, by decide, k⟩⟩⟩)
    · exact .inr (.inr ⟨b, rfl, .inr rfl, fun a dd => ⟨_, rfl, .inr ⟨ne, rfl, ⟨_, rfl⟩, _, rfl, by decide, k⟩⟩⟩)
-- what repr shows
theorem rfindD_lt (c : Nat) : ∀ z : List Nat, rfindD z c < z.length
  | [] => by simp [rfindD]
  | x :: r => by
    have := rfindD_lt c r
    unfold rfindD
    simp only [List.length_cons]
    split
    · omega
    · split <;> omega
theorem find_lt {α : Type} {p : α → Bool} {l : List α} {i : Nat} (h : l.findIdx? p = some i) : i < l.length := by
  rw [List.findIdx?_eq_some_iff_getElem] at h
  exact h.choose
def smallD (d : Dt) : Prop := d = .non ∨ (∃ (t : Str) (i : Nat), d = .tup [cS t, .int i] ∧ t.cps.size ≤ 100 ∧ i ≤ 5000) ∨ (∃ (t : Str) (i j : Nat), d = .tup [cS t, .int i, .int j] ∧ t.cps.size ≤ 100 ∧ i ≤ 5000 ∧ j ≤ 5000) ∨ (∃ i j : Nat, d = .tup [.int i, .int j] ∧ i ≤ 5000 ∧ j ≤ 5000) ∨ ∃ z, d = .str z ∧ z.length ≤ 5000
theorem ok_told {d : Dt} (h : smallD d) : okRep (tldD d) := by
  unfold tldD
  refine ⟨⟨_, .inl rfl⟩, ?_⟩
  have ht : (Str.ofString "told").cps.size = 4 := by decide +kernel
  rcases h with rfl | ⟨t, i, rfl, h1, h2⟩ | ⟨t, i, j, rfl, h1, h2, h3⟩ | ⟨i, j, rfl, h2, h3⟩ | ⟨z, rfl, h1⟩
  all_goals simp [shl, shlAll, smi, smiAll, wt, wtAll, cS]
  all_goals omega
theorem ok_ref {n : Nat} (h : n ≤ 5000) : okRep (refD n) := by
  unfold refD
  refine ⟨⟨_, .inl rfl⟩, ?_⟩
  have h1 : (Str.ofString "refused").cps.size = 7 := by decide +kernel
  have h2 : (Str.ofString "BadRows").cps.size = 7 := by decide +kernel
  simp [shl, shlAll, smi, smiAll, wt, wtAll, cS]
  omega
theorem ok_refN : okRep refND := by
  unfold refND
  refine ⟨⟨_, .inl rfl⟩, ?_⟩
  have h1 : (Str.ofString "refused").cps.size = 7 := by decide +kernel
  have h2 : (Str.ofString "BadNumber").cps.size = 9 := by decide +kernel
  simp [shl, shlAll, smi, smiAll, wt, wtAll, cS]
  omega
theorem ok_due {old new : List Nat} {c : Nat} (h1 : old.length ≤ 5000) (h2 : new.length ≤ 5000) : okRep (dueD old new c) := by
  unfold dueD
  refine ⟨⟨_, .inl rfl⟩, ?_⟩
  have l1 := rfindD_lt c new
  have l2 := rfindD_ge c new
  cases hr : runO old new c with
  | none => cases struck old new c <;> simp [runDt, shl, shlAll, smi, smiAll, wt, wtAll] <;> omega
  | some q =>
    obtain ⟨a, b⟩ := q
    obtain ⟨b1, b2⟩ := run_bounds hr
    cases struck old new c <;> simp [runDt, shl, shlAll, smi, smiAll, wt, wtAll] <;> omega
theorem ok_fault {old new : List Nat} {c : Option Nat} (h1 : old.length ≤ 5000) (h2 : new.length ≤ 2000) : smallD (faultD old new c) := by
  have t1 : (Str.ofString "swap").cps.size ≤ 100 := by decide +kernel
  have t2 : (Str.ofString "jump").cps.size ≤ 100 := by decide +kernel
  have t3 : (Str.ofString "bend").cps.size ≤ 100 := by decide +kernel
  unfold faultD
  cases e : swapAt (dropC c old) (dropC c new) with
  | some i =>
    unfold swapAt at e
    split at e
    · cases e
      have := List.length_filter_le (fun s => decide (some s ≠ c)) new
      have q : (dropC c new).length ≤ new.length := this
      exact .inr (.inl ⟨_, _, rfl, t1, by omega⟩)
    · cases e
  | none =>
    cases c with
    | none => exact .inl rfl
    | some k =>
      have hst : (stepsF k old new).length ≤ new.length := by
        have := aheadF_length k 0 new
        unfold stepsF
        simp
        omega
      show smallD (shiftD (stepsF k old new))
      generalize stepsF k old new = st at hst
      unfold shiftD
      cases e1 : st.findIdx? (fun v => decide (v ≠ 0 ∧ v ≠ 1)) with
      | some i => exact .inr (.inl ⟨_, _, rfl, t2, by have := find_lt e1; omega⟩)
      | none =>
        dsimp only
        cases e2 : st.findIdx? (fun v => decide (v = 1)) with
        | none => exact .inl rfl
        | some i =>
          dsimp only
          have q := find_lt e2
          cases e3 : (st.drop (i + 1)).findIdx? (fun v => decide (v = 0)) with
          | none => exact .inl rfl
          | some j =>
            have q2 := find_lt e3
            rw [List.length_drop] at q2
            exact .inr (.inr (.inl ⟨_, _, _, rfl, t3, by omega, by omega⟩))
theorem cross_lt : ∀ {k : Nat} {l : List Int} {i j : Nat}, crossOf k l = some (i, j) → i < k + l.length ∧ j < k + l.length
  | _, [], _, _, h => by simp [crossOf] at h
  | k, v :: r, i, j, h => by
    unfold crossOf at h
    split at h
    · rename_i m e
      cases h
      have := find_lt e
      simp
      omega
    · have := cross_lt h
      simp
      omega
theorem ok_cross {row other : List Nat} (h1 : row.length ≤ 5000) : smallD (runDt (crossOf 0 (placesF row other))) := by
  cases e : crossOf 0 (placesF row other) with
  | none => exact .inl rfl
  | some q =>
    obtain ⟨i, j⟩ := q
    have := cross_lt e
    have hl : (placesF row other).length = row.length := by simp [placesF]
    exact .inr (.inr (.inr (.inl ⟨i, j, rfl, by omega, by omega⟩)))
-- asked
def Fdue (old new : List Nat) (c : Option Nat) (d : Dt) : Prop := (new.Perm (old ++ c.toList) → d = tldD (faultD old new c)) ∧ (¬ new.Perm (old ++ c.toList) → d = refD new.length)
def sp_asked : SpD := fun ds μ K => ∃ (old new : List Nat) (c : Nat) (d : Dt), ds = [.str old, .str new, .str [c], dueD old new c, d] ∧ old.length ≤ 400 ∧ new.length ≤ 400 ∧ Fdue old new (some c) d ∧ ∀ μ', Kp μ μ' → K (.bl true) μ'
theorem p_asked (CR CN : Addr) (ds : List Dt) (μ : Mu) (Kd : KD) (h : sp_asked ds μ Kd) : rd__law_asked sp_leaf_place sp_strikes_last sp_strikes_some sp_free_places sp_isdue (sp_told CR CN) { nx := fun _ μ' => Kd .non μ', rt := Kd } (dstart N__law_asked ds) μ := by
  obtain ⟨old, new, c, d, rfl, h1, h2, hd, k⟩ := h
  unfold rd__law_asked
  walk_at "rd"
  simp only [e_free_places, e_strikes_last, e_leaf_place]
  refine ⟨by omega, by omega, old, new, c, rfl, by omega, by omega, by omega, by omega, by omega, by omega, by decide, ?_⟩
  refine u_isdue rfl (ok_due (by omega) (by omega)) ⟨true, rfl, fun _ => .inl ⟨old, new, some c, rfl, by omega, by omega, fun hp μ' m => ?_, fun hn μ' m => ?_⟩, fun z => absurd z (by decide)⟩
  · exact u_isdue (hd.1 hp).symm (ok_told (ok_fault (by omega) (by omega))) (k _ m)
  · exact u_isdue (hd.2 hn).symm (ok_ref (by omega)) (k _ m)
theorem u_asked {old new : List Nat} {c : Nat} {d d1 : Dt} {μ : Mu} {K : KD} (e : d1 = dueD old new c) (h1 : old.length ≤ 400) (h2 : new.length ≤ 400) (hd : Fdue old new (some c) d) (k : ∀ μ', Kp μ μ' → K (.bl true) μ') : sp_asked [.str old, .str new, .str [c], d1, d] μ K :=
  ⟨old, new, c, d, by rw [e], h1, h2, hd, k⟩
-- puts
def sp_puts : SpD := fun ds μ K => ∃ (s c l : Addr) (b : Int) (old new : List Nat) (x : Nat), ds = [.hdl s, .str old, .str new, .str [x], runDt (runO old new x)] ∧ old.length ≤ 400 ∧ new.length ≤ 400 ∧ Sto s c l b μ ∧ b < 2 ^ 46 ∧ ∀ μ', Gon s c l (b + 60) μ μ' → K (.bl true) μ'
theorem p_puts_t (CR CN : Addr) {s c l : Addr} {b : Int} {old new : List Nat} {x : Nat} {μ : Mu} {Kd : KD} (r : Dt) (ps : List Nat) (o1 o2 o3 o4 : Option Dt) (hr : ∃ j, isNon r = j ∧ (j = false → ∀ p ∈ ps, putF old x p = new)) (hp : ∀ p ∈ ps, p ≤ old.length) (hl : ps.length ≤ 5) (h1 : old.length ≤ 400) (h2 : new.length ≤ 400) (hS : Sto s c l b μ) (hb : b < 2 ^ 46) (k : ∀ μ', Gon s c l (b + 60) μ μ' → Kd (.bl true) μ') :
    tl__law_puts_2 sp_isdue (sp_told CR CN) sp_beyond { nx := fun _ μ' => Kd .non μ', rt := Kd } [some (.hdl s), some (.str old), some (.str new), some (.str [x]), some r, some (.lst (ps.map fun (p : Nat) => .int p)), o1, o2, o3, o4] μ := by
  unfold tl__law_puts_2
  walk_at "rd"
  refine for_use (ps.map fun (p : Nat) => .int p) (fun i ρ' μ' => μ' = μ ∧ ∃ o1 o2 o3 o4, ρ' = [some (.hdl s), some (.str old), some (.str new), some (.str [x]), some r, some (.lst (ps.map fun (p : Nat) => .int p)), o1, o2, o3, o4]) (fun K' k => ?_) ⟨rfl, _, _, _, _, rfl⟩ (fun i d ρ' μ' hd hI => ?_) (fun ρ' μ' hI => ?_)
  · walk_at "rd"
    exact k
  · obtain ⟨rfl, o1, o2, o3, o4, rfl⟩ := hI
    rw [List.getElem?_map] at hd
    cases hg : ps[i]? with
    | none => rw [hg] at hd; cases hd
    | some p =>
      rw [hg] at hd
      cases hd
      have hm := List.mem_of_getElem? hg
      have hpl := hp p hm
      have l1 := List.length_take_le p old
      have l2 : (old.drop p).length ≤ old.length := by rw [List.length_drop]; omega
      walk_at "rd"
      rw [cutD_to, cutD_from]
      have go : sp_told CR CN [.int 2, .str old, .int p, .str [x]] μ' fun x_1 μ1 => 2 ≤ 1000000 ∧ sp_isdue [x_1, .tup [cS "told", .str (old.take p ++ [x] ++ old.drop p)]] μ1 fun x μ1 => ∃ k, x = .bl k ∧ (k = false → Kd (.bl false) μ1) ∧ (k = true → μ1 = μ') :=
        .inr (.inr ⟨old, x, .int p, rfl, by omega, .inl ⟨p, rfl, hpl, by decide, u_isdue rfl (ok_told (.inr (.inr (.inr (.inr ⟨_, rfl, by rw [putF_length]; omega⟩))))) ⟨true, rfl, fun z => absurd z (by decide), fun _ => rfl⟩⟩⟩)
      obtain ⟨j, hj, hr⟩ := hr
      refine ⟨by omega, by omega, by omega, by simp; omega, fun hf => ⟨fun ne => absurd (hr (hj ▸ hf) p hm) ne, fun _ => go⟩, fun _ => go⟩
  · obtain ⟨rfl, o1, o2, o3, o4, rfl⟩ := hI
    walk_at "rd"
    refine ⟨by omega, u_beyond hS (by omega) fun μ1 g => ?_⟩
    have fin : ∀ d, ((∃ i : Int, d = .int i ∧ (i < 0 ∨ old.length < i)) ∨ ∃ b, d = .bl b) → sp_told CR CN [.int 2, .str old, d, .str [x]] μ1 fun d_1 μ1 => rdSl d_1 none (some 3) μ1 fun x μ1 => okRep x ∧ 1 ≤ 1000000 ∧ 3 ≤ 1000000 ∧ okRep (.tup [cS "refused", .lst [cS "BadNumber"], .bl true]) ∧
        (repSame x (.tup [cS "refused", .lst [cS "BadNumber"], .bl true]) = true → rdIx d_1 (.int 3) μ1 fun x μ1 => shl 60 x = true ∧ shl 60 d = true ∧ Kd (.bl (deq x d)) μ1) ∧ (repSame x (.tup [cS "refused", .lst [cS "BadNumber"], .bl true]) = false → Kd (.bl false) μ1) := by
      intro d hd
      refine .inr (.inr ⟨old, x, d, rfl, by omega, .inr ⟨hd, ?_⟩⟩)
      have hs : shl 60 d = true := by rcases hd with ⟨i, rfl, _⟩ | ⟨b, rfl⟩ <;> rfl
      have ec : DL.cutD [cS "refused", .lst [cS "BadNumber"], .bl true, d] none (some 3) = [cS "refused", .lst [cS "BadNumber"], .bl true] := by
        have := cutD_to [cS "refused", .lst [cS "BadNumber"], .bl true, d] 3
        exact this
      have e3 : L2.atI [cS "refused", .lst [cS "BadNumber"], .bl true, d] 3 = some d := atI_n [cS "refused", .lst [cS "BadNumber"], .bl true, d] 3
      simp only [q_sl_tup, ec]
      refine ⟨ok_refN, by decide, by decide, ok_refN, fun _ => ?_, fun z => ?_⟩
      · rw [q_ix_tup]
        refine ⟨d, e3, hs, hs, ?_⟩
        rw [deq_self 60 d hs]
        exact k _ g
      · rw [repSame_refl] at z
        cases z
    exact ⟨fun j => fin _ (.inr ⟨j, rfl⟩), fun r hr => fin _ (.inl ⟨r, rfl, hr⟩)⟩
theorem p_puts (CR CN : Addr) (ds : List Dt) (μ : Mu) (Kd : KD) (h : sp_puts ds μ Kd) : rd__law_puts sp_isdue (sp_told CR CN) sp_beyond { nx := fun _ μ' => Kd .non μ', rt := Kd } (dstart N__law_puts ds) μ := by
  obtain ⟨s, c, l, b, old, new, x, rfl, h1, h2, hS, hb, k⟩ := h
  rw [tq__law_puts_2]
  walk_at "rd"
  cases hr : runO old new x with
  | none =>
    unfold runDt
    walk_at "rd"
    exact ⟨by omega, by decide, p_puts_t CR CN .non [0, old.length] none none none none ⟨true, rfl, fun z => absurd z (by decide)⟩ (by simp) (by simp) h1 h2 hS hb k⟩
  | some q =>
    obtain ⟨u, v⟩ := q
    obtain ⟨b1, b2⟩ := run_bounds hr
    have hm : (((u : Int) + v) / 2) = (((u + v) / 2 : Nat) : Int) := by omega
    unfold runDt
    walk_at "rd"
    refine ⟨by omega, by decide, .int u, rfl, .int v, rfl, .int u, rfl, .int v, rfl, ?_⟩
    walk_at "rd"
    rw [hm]
    refine ⟨⟨by decide, by decide +kernel⟩, by decide, p_puts_t CR CN (.tup [.int u, .int v]) [u, v, (u + v) / 2] none none none none ⟨false, rfl, fun _ p hp => ?_⟩ (fun p hp => ?_) (by simp) h1 h2 hS hb k⟩
    · have : u ≤ p ∧ p ≤ v := by
        simp at hp
        omega
      exact (put_of_run hr this.1 this.2).1
    · simp at hp
      omega
theorem u_puts {s c l : Addr} {b : Int} {old new : List Nat} {x : Nat} {d : Dt} {μ : Mu} {K : KD} (hd : d = runDt (runO old new x)) (h1 : old.length ≤ 400) (h2 : new.length ≤ 400) (h : Sto s c l b μ) (hb : b < 2 ^ 46) (k : ∀ μ', Gon s c l (b + 60) μ μ' → K (.bl true) μ') : sp_puts [.hdl s, .str old, .str new, .str [x], d] μ K :=
  ⟨s, c, l, b, old, new, x, by rw [hd], h1, h2, h, hb, k⟩
-- pair
def sp_pair : SpD := fun ds μ K => ∃ (s c l : Addr) (b : Int) (al : List Nat), ds = [.hdl s, .str al] ∧ al ≠ [] ∧ al.length ≤ 100 ∧ Sto s c l b μ ∧ b < 2 ^ 45 ∧ ∀ (old new : List Nat) (x : Nat) μ', old.length ≤ 200 → new.length ≤ 202 → x ∈ al → (∀ y ∈ old, y ∈ al) → (∀ y ∈ new, y ∈ al) → Gon s c l (b + 1500) μ μ' → K (.tup [.str old, .str new, .str [x]]) μ'
theorem p_pair_8 {s c l : Addr} {b : Int} {al old new : List Nat} {x p : Nat} {t : Int} {μ : Mu} {Kd : KD} {o2 : Option Dt} (ha : al ≠ []) (hal : al.length ≤ 100) (hS : Sto s c l b μ) (hb : b < 2 ^ 46) (h1 : old.length ≤ 200) (h2 : new.length ≤ 201) (hx : x ∈ al) (ho : ∀ y ∈ old, y ∈ al) (hn : ∀ y ∈ new, y ∈ al)
    (k : ∀ (new' : List Nat) μ', new'.length ≤ 202 → (∀ y ∈ new', y ∈ al) → Gon s c l (b + 1) μ μ' → Kd (.tup [.str old, .str new', .str [x]]) μ') :
    tl__law_pair_8 sp_span sp_yes sp_take sp_text sp_of sp_shaken { nx := fun _ μ' => Kd .non μ', rt := Kd } [some (.hdl s), some (.str al), o2, some (.str old), some (.str [x]), some (.int p), some (.str new), some (.int t)] μ := by
  unfold tl__law_pair_8
  walk_at "rd"
  have l1 := List.length_take_le p new
  have l2 : (new.drop (p + 1)).length ≤ new.length := by rw [List.length_drop]; omega
  have six : ∀ {b0 : Int} (μ1 : Mu), b0 ≤ b → Gon s c l b0 μ μ1 → old.length ≤ 1000000 ∧ (DL.cutD old (some 1) none).length + 1 ≤ 1000000 ∧ 3 ≤ 1000000 ∧ sp_of [.hdl s, .lst [.str old, .str (DL.cutD old (some 1) none ++ [x]), cS ""]] μ1 fun d μ1 => 3 ≤ 1000000 ∧ Kd (.tup [.str old, d, .str [x]]) μ1 := by
    intro b0 μ1 hb0 g
    have e1 : DL.cutD old (some 1) none = old.drop 1 := cutD_from old 1
    rw [e1]
    have l3 : (old.drop 1).length ≤ old.length := by rw [List.length_drop]; omega
    refine ⟨by omega, by omega, by decide, u_of [.str old, .str (old.drop 1 ++ [x]), cS ""] rfl (by simp) (by simp) (g.1.le hb0 (by omega)) (by omega) fun d hd μ2 g2 => ⟨by decide, ?_⟩⟩
    have g3 : Gon s c l (b + 1) μ μ2 := g.trans g2
    simp only [List.mem_cons, List.not_mem_nil, or_false] at hd
    rcases hd with rfl | rfl | rfl
    · exact k _ _ (by omega) ho g3
    · refine k _ _ (by simp; omega) (fun y hy => ?_) g3
      rcases List.mem_append.mp hy with z | z
      · exact ho y (List.mem_of_mem_drop z)
      · rw [List.mem_singleton.mp z]; exact hx
    · exact k _ _ (by decide +kernel) (fun y hy => absurd hy (by rw [q_nil]; simp)) g3
  refine ⟨fun e5 => ⟨by omega, u_ofS ha (by omega) hS (by omega) fun y hy μ1 g1 => ?_⟩, fun e5 => ⟨fun e6 => six μ (Int.le_refl b) (Gon.refl hS (Int.le_refl b) (by omega)), fun e6 => ⟨by decide, k _ _ (by omega) hn (Gon.refl hS (by omega) (by omega))⟩⟩⟩
  walk_at "rd"
  have e1 : DL.cutD new (some ((p : Int) + 1)) none = new.drop (p + 1) := cutD_from new (p + 1)
  rw [cutD_to, e1]
  have l3 : (new.take p).length ≤ new.length := by rw [List.length_take]; omega
  refine ⟨by omega, by omega, by simp; omega, fun e6 => absurd e6 (by omega), fun e6 => ⟨by decide, k _ _ ?_ (fun z hz => ?_) g1⟩⟩
  · simp; omega
  · rcases List.mem_append.mp hz with q | q
    · rcases List.mem_append.mp q with q | q
      · exact hn z (List.mem_of_mem_take q)
      · rw [List.mem_singleton.mp q]; exact hy
    · exact hn z (List.mem_of_mem_drop q)
theorem p_pair_2 {s c l : Addr} {b n : Int} {al : List Nat} {μ : Mu} {Kd : KD} (ha : al ≠ []) (hal : al.length ≤ 100) (hS : Sto s c l b μ) (hb : b < 2 ^ 45 + 10) (n1 : 0 ≤ n) (n2 : n ≤ 199)
    (k : ∀ (old new : List Nat) (x : Nat) μ', old.length ≤ 200 → new.length ≤ 202 → x ∈ al → (∀ y ∈ old, y ∈ al) → (∀ y ∈ new, y ∈ al) → Gon s c l (b + 1400) μ μ' → Kd (.tup [.str old, .str new, .str [x]]) μ') :
    tl__law_pair_2 sp_span sp_yes sp_take sp_text sp_of sp_shaken { nx := fun _ μ' => Kd .non μ', rt := Kd } [some (.hdl s), some (.str al), some (.int n), none, none, none, none, none] μ := by
  rw [tq__law_pair_8]
  walk_at "rd"
  refine u_text n1 (by omega) ha hal hS (by omega) fun old h1 ho μ1 g1 => ?_
  refine u_ofS ha (by omega) g1.1 (by omega) fun x hx μ2 g2 => ?_
  refine u_span g2.1 (by omega) (by omega) fun q μ3 g3 q1 q2 q3 => ?_
  obtain ⟨p, rfl⟩ := Int.eq_ofNat_of_zero_le q1
  walk_at "rd"
  rw [cutD_to, cutD_from]
  have l1 : (old.take p).length ≤ old.length := by rw [List.length_take]; omega
  have l2 : (old.drop p).length ≤ old.length := by rw [List.length_drop]; omega
  have hnew : ∀ y ∈ old.take p ++ [x] ++ old.drop p, y ∈ al := fun y hy => by
    rcases List.mem_append.mp hy with q | q
    · rcases List.mem_append.mp q with q | q
      · exact ho y (List.mem_of_mem_take q)
      · rw [List.mem_singleton.mp q]; exact hx
    · exact ho y (List.mem_of_mem_drop q)
  have lnew : (old.take p ++ [x] ++ old.drop p).length = old.length + 1 := putF_length (old := old) (c := x) (p := p)
  have l0 : (old.take p ++ [x]).length ≤ old.length + 1 := by simp; omega
  generalize old.take p ++ [x] ++ old.drop p = new at hnew lnew ⊢
  refine ⟨by omega, by omega, by omega, by omega, u_take g3.1 (by omega) (by omega) fun t μ4 g4 t1 t2 t3 => ?_⟩
  walk_at "rd"
  have g := ((g1.trans g2).trans g3).trans g4
  refine ⟨fun h5 => u_shaken (by omega) g4.1 (by omega) fun new' hl' hm' μ5 g5 => ?_, fun h5 => ?_⟩
  · exact p_pair_8 ha hal g5.1 (by omega) (by omega) (by omega) hx ho (fun y hy => hnew y (hm' y hy)) fun new'' μ6 l6 m6 g6 => k old new'' x μ6 (by omega) l6 hx ho m6 (((g.trans g5).trans g6).le (by omega) (by omega))
  · exact p_pair_8 ha hal g4.1 (by omega) (by omega) (by omega) hx ho hnew fun new'' μ6 l6 m6 g6 => k old new'' x μ6 (by omega) l6 hx ho m6 ((g.trans g6).le (by omega) (by omega))
theorem p_pair (ds : List Dt) (μ : Mu) (Kd : KD) (h : sp_pair ds μ Kd) : rd__law_pair sp_span sp_yes sp_take sp_text sp_of sp_shaken { nx := fun _ μ' => Kd .non μ', rt := Kd } (dstart N__law_pair ds) μ := by
  obtain ⟨s, c, l, b, al, rfl, ha, hal, hS, hb, k⟩ := h
  rw [tq__law_pair_2]
  walk_at "rd"
  refine u_span hS (by omega) (by omega) fun n μ1 g1 n1 n2 n3 => u_yes g1.1 (by omega) (by omega) fun y μ2 g2 => ?_
  have hn := n2 (by decide)
  walk_at "rd"
  refine ⟨fun _ => u_take g2.1 (by omega) (by omega) fun r μ3 g3 r1 r2 r3 => ?_, fun _ => ?_⟩
  · have := r2 (by decide)
    walk_at "rd"
    exact p_pair_2 ha hal g3.1 (by omega) (by omega) (by omega) fun old new x μ' a1 a2 a3 a4 a5 g => k old new x μ' a1 a2 a3 a4 a5 ((((g1.trans g2).trans g3).trans g).le (by omega) (by omega))
  · exact p_pair_2 ha hal g2.1 (by omega) (by omega) (by omega) fun old new x μ' a1 a2 a3 a4 a5 g => k old new x μ' a1 a2 a3 a4 a5 (((g1.trans g2).trans g).le (by omega) (by omega))
theorem u_pair {s c l : Addr} {b : Int} {al : List Nat} {μ : Mu} {K : KD} (ha : al ≠ []) (hal : al.length ≤ 100) (h : Sto s c l b μ) (hb : b < 2 ^ 45) (k : ∀ (old new : List Nat) (x : Nat) μ', old.length ≤ 200 → new.length ≤ 202 → x ∈ al → (∀ y ∈ old, y ∈ al) → (∀ y ∈ new, y ∈ al) → Gon s c l (b + 1500) μ μ' → K (.tup [.str old, .str new, .str [x]]) μ') : sp_pair [.hdl s, .str al] μ K :=
  ⟨s, c, l, b, al, rfl, ha, hal, h, hb, k⟩
end K17

set_option Elab.async false
set_option linter.all false
set_option maxRecDepth 100000
set_option maxHeartbeats 4000000
namespace K17
open PySem PySem.Spec PyProof.Rows L2 L2H DL
local macro_rules | `(tactic| walk_at "rd") => `(tactic| simp only [dget_z, dget_s, dSeq, dSet, dRet, dRetN, dDrop, dIfS, dBrk, dCnt, dNever, dNext, dVar, dC, dOp, dTest, dChain, dAnd, dOr, dNot, dAndV, dOrV, dNotV, dIf, dNil, dCons, dTup, dLst, dLstO, dCB, dAug, dGive, dGiveD, dstart, dAsg, dAsg3, dYes, gNm, gNilD, gConsD, gTupD, iLst, iTupD, iStrD, iR1, iR2, iZipD, iEnumD, iEnumZD, dPut, dPutD, dSl, dRevS, oNo, oInt, dM1, dApp, dIndex, dDGet2, dDNew, dSetd, dNeg, dIsB, dRepEq, dRaise, dRetX, dTry, dIsX, dAt, rdEq, rdNe, rdIsN, rdNotN,  rdIn, rdNotIn,   rdI, rdI0, rdSub, rdFdiv, rdMod, rdPow, rdXor, rdLt, rdLe, rdGt, rdGe,      rdMin,  rdListD,   rdCountS, rdRfindS,          dwipe, q_deq_str, q_deq_int,
  q_int_int, q_int_bl, q_setD_hdl, rdListO, q_ix_lst, q_ix_tup, q_ix_str, q_ix_hdl, q_ix_scr, q_setL_hdl, q_add_int, q_add_str, q_add_lst, q_add_tup, q_mul_int, q_mul_str, q_sl_lst, q_sl_tup, q_sl_str, q_len_str, q_len_lst, q_len_tup, q_len_scr, q_len_hdl, q_items_lst, q_items_tup, q_items_str, q_items_hdl, q_inB_lst, q_inB_tup, q_sign_str, q_index_lst, q_dget_dk, q_dget_hdl, q_sort_lst, q_sort_str, q_src_str, q_src_lst, q_src_tup, q_isNon_non, q_isNon_bl, q_isNon_int, q_isNon_str, q_isNon_tup, q_isNon_lst, q_isBl_bl, q_isBl_int, q_flat_non, q_flat_bl, q_flat_int, q_flat_str, q_key_int, q_key_str, q_shl_non, q_shl_bl, q_shl_int, q_shl_str, q_shl_tup, q_shl_lst, q_shlAll_nil, q_shlAll_cons, q_deq_non, q_deq_bl, q_deq_tup, q_deq_lst, q_deqAll_nil, q_deqAll_cons,
  List.any_cons, List.any_nil, List.all_cons, List.all_nil, if_true, Bool.or_false, Bool.and_true, Bool.true_and, Bool.not_or, Bool.and_eq_true, Bool.and_eq_false_iff, q_nil, List.append_nil, q_deq_strs, q_shl_strs, q_flat_ints, q_deq_ints, q_idx_ints, if_false, reduceIte,
  List.length_cons, List.length_nil, List.map_cons, List.map_nil, List.cons_append, List.nil_append, List.set_cons_zero, List.set_cons_succ, List.replicate, Option.some.injEq, exists_eq_left', exists_eq_left, exists_eq', exists_eq, exists_and_left, exists_const, true_and, and_true, and_self, forall_const, Dt.int.injEq, Dt.str.injEq, Dt.bl.injEq, Dt.hdl.injEq, OD.lst.injEq, OD.dk.injEq, mset_same, mset_mset, List.length_map, Dt.tup.injEq, Dt.lst.injEq, Nat.reduceAdd, Nat.reduceSub, Nat.zero_add, Int.zero_add, decide_eq_true_eq, decide_eq_false_iff_not, List.cons.injEq, and_assoc, eq_self, Bool.not_eq_true', Bool.not_eq_false', Bool.true_eq_false, Bool.false_eq_true, false_implies, implies_true, not_true_eq_false, not_false_eq_true, reduceCtorEq, false_and, and_false, exists_false, ne_eq])
-- body
def Cdue (row other : List Nat) (d : Dt) : Prop := (row.Perm other → d = tldD (runDt (crossOf 0 (placesF row other)))) ∧ (¬ row.Perm other → d = refD other.length)
theorem Fdue.ren {g : Nat → Nat} (hg : ∀ x y, g x = g y → x = y) {old new : List Nat} {c : Option Nat} {d : Dt} (h : Fdue old new c d) : Fdue (old.map g) (new.map g) (c.map g) d := by
  have e : old.map g ++ (c.map g).toList = (old ++ c.toList).map g := by cases c <;> simp
  unfold Fdue at *
  rw [e, perm_ren hg, faultD_ren hg, List.length_map]
  exact h
theorem Cdue.ren {g : Nat → Nat} (hg : ∀ x y, g x = g y → x = y) {row other : List Nat} {d : Dt} (h : Cdue row other d) : Cdue (row.map g) (other.map g) d := by
  unfold Cdue at *
  rw [perm_ren hg, placesF_ren hg, List.length_map]
  exact h
theorem dueD_ren {g : Nat → Nat} (hg : ∀ x y, g x = g y → x = y) (old new : List Nat) (c : Nat) : dueD (old.map g) (new.map g) (g c) = dueD old new c := by
  unfold dueD
  rw [runO_ren hg, struck_ren hg, rfindD_ren hg]
theorem rows_8 (CR CN : Addr) {old other A : List Nat} {g : Nat → Nat} {t f5 f6 : Dt} {o0 o4 : Option Dt} {μ : Mu} {Kd : KD} (ht : Tab A g t) (hg : ∀ x y, g x = g y → x = y) (h1 : old.length ≤ 300) (h2 : other.length ≤ 300) (hA : ∀ y ∈ old, y ∈ A) (hB : ∀ y ∈ other, y ∈ A) (d5 : Fdue old other none f5) (d6 : Cdue old other f6)
    (k : ∀ μ', Kp μ μ' → Kd (.bl true) μ') :
    tl__law_none_and_rows_8 sp_take sp_shaken sp_order sp_of sp_alike sp_lfault sp_cross sp_exch sp_isdue (sp_told CR CN) { nx := fun _ μ' => Kd .non μ', rt := Kd } [o0, some (.str old), some t, some (.str other), o4, some f5, some f6, none, none, none] μ := by
  unfold tl__law_none_and_rows_8
  walk_at "rd"
  refine ⟨by decide, u_exch ht (by omega) hA (u_exch ht (by omega) hB ?_)⟩
  refine ⟨by decide, by decide, by decide, ?_⟩
  refine for_use [.tup [.str old, .str other], .tup [.str (old.map g), .str (other.map g)], .tup [.str old, .str other]] (fun i ρ' μ' => Kp μ μ' ∧ ∃ o7 o8 o9, ρ' = [o0, some (.str old), some t, some (.str other), o4, some f5, some f6, o7, o8, o9]) (fun K' k => ?_) ⟨Kp.refl, _, _, _, rfl⟩ (fun i d ρ' μ' hd hI => ?_) (fun ρ' μ' hI => ?_)
  · walk_at "rd"
    exact k
  · obtain ⟨hm, o7, o8, o9, rfl⟩ := hI
    have : ∃ one two : List Nat, d = .tup [.str one, .str two] ∧ one.length ≤ 300 ∧ two.length ≤ 300 ∧ Fdue one two none f5 ∧ Cdue one two f6 := by
      match i, hd with
      | 0, hd => cases hd; exact ⟨old, other, rfl, h1, h2, d5, d6⟩
      | 1, hd => cases hd; exact ⟨old.map g, other.map g, rfl, by rw [List.length_map]; exact h1, by rw [List.length_map]; exact h2, d5.ren hg, d6.ren hg⟩
      | 2, hd => cases hd; exact ⟨old, other, rfl, h1, h2, d5, d6⟩
      | i + 3, hd => simp at hd
    obtain ⟨one, two, rfl, l1, l2, q5, q6⟩ := this
    walk_at "rd"
    have second : ∀ μ1, Kp μ' μ1 → sp_told CR CN [.int 1, .str one, .str two, .non] μ1 fun x μ1 => sp_isdue [x, f6] μ1 fun x μ1 => ∃ k, x = .bl k ∧ (k = false → Kd (.bl false) μ1) ∧ (k = true → Kp μ μ1) := fun μ1 m1 =>
      .inr (.inl ⟨one, two, .non, rfl, by omega, by omega, fun hp μ2 m2 => u_isdue (q6.1 hp).symm (ok_told (ok_cross (by omega))) ⟨true, rfl, fun z => absurd z (by decide), fun _ => hm.trans (m1.trans m2)⟩, fun hn μ2 m2 => u_isdue (q6.2 hn).symm (ok_ref (by omega)) ⟨true, rfl, fun z => absurd z (by decide), fun _ => hm.trans (m1.trans m2)⟩⟩)
    refine .inl ⟨one, two, none, rfl, by omega, by omega, fun hp μ2 m2 => ?_, fun hn μ2 m2 => ?_⟩
    · exact u_isdue (q5.1 hp).symm (ok_told (ok_fault (by omega) (by omega))) ⟨true, rfl, fun z => absurd z (by decide), fun _ => second μ2 m2⟩
    · exact u_isdue (q5.2 hn).symm (ok_ref (by omega)) ⟨true, rfl, fun z => absurd z (by decide), fun _ => second μ2 m2⟩
  · obtain ⟨hm, o7, o8, o9, rfl⟩ := hI
    walk_at "rd"
    exact k _ hm
theorem rows_5 (CR CN : Addr) {old other A : List Nat} {g : Nat → Nat} {t : Dt} {o0 o4 : Option Dt} {μ : Mu} {Kd : KD} (ht : Tab A g t) (hg : ∀ x y, g x = g y → x = y) (h1 : old.length ≤ 300) (h2 : other.length ≤ 300) (hA : ∀ y ∈ old, y ∈ A) (hB : ∀ y ∈ other, y ∈ A)
    (k : ∀ μ', Kp μ μ' → Kd (.bl true) μ') :
    tl__law_none_and_rows_5 sp_take sp_shaken sp_order sp_of sp_alike sp_lfault sp_cross sp_exch sp_isdue (sp_told CR CN) { nx := fun _ μ' => Kd .non μ', rt := Kd } [o0, some (.str old), some t, some (.str other), o4, none, none, none, none, none] μ := by
  rw [tq__law_none_and_rows_8]
  walk_at "rd"
  have ec : cS "" = cE none := by unfold cS cE; rw [q_nil]
  refine ⟨by decide, by omega, by decide, u_alike (by omega) (by omega) (fun hp => ⟨true, rfl, fun _ => ?_, fun z => absurd z (by decide)⟩) (fun hp => ⟨false, rfl, fun z => absurd z (by decide), fun _ => ?_⟩)⟩
  · refine u_lfault none ec (by omega) (by omega) (by simpa using hp.symm) ⟨by decide, u_cross (by omega) (by omega) hp fun μ' m => ⟨by decide, ?_⟩⟩
    exact rows_8 CR CN ht hg h1 h2 hA hB ⟨fun _ => rfl, fun z => absurd (by simpa using hp.symm) z⟩ ⟨fun _ => rfl, fun z => absurd hp z⟩ fun μ2 m2 => k _ (m.trans m2)
  · exact rows_8 CR CN ht hg h1 h2 hA hB ⟨fun z => absurd (by simpa using z.symm) hp, fun _ => rfl⟩ ⟨fun z => absurd z hp, fun _ => rfl⟩ k
def sp_rows : SpD := fun ds μ K => ∃ (s c l : Addr) (b : Int) (old A : List Nat) (g : Nat → Nat) (t : Dt), ds = [.hdl s, .str old, t] ∧ Tab A g t ∧ (∀ x y, g x = g y → x = y) ∧ 126 ∈ A ∧ old.length ≤ 250 ∧ (∀ y ∈ old, y ∈ A) ∧ Sto s c l b μ ∧ b < 2 ^ 45 ∧ ∀ μ', Gon s c l (b + 1100) μ μ' → K (.bl true) μ'
theorem p_rows (CR CN : Addr) (ds : List Dt) (μ : Mu) (Kd : KD) (h : sp_rows ds μ Kd) : rd__law_none_and_rows sp_take sp_shaken sp_order sp_of sp_alike sp_lfault sp_cross sp_exch sp_isdue (sp_told CR CN) { nx := fun _ μ' => Kd .non μ', rt := Kd } (dstart N__law_none_and_rows ds) μ := by
  obtain ⟨s, c, l, b, old, A, g, t, rfl, ht, hg, h126, h1, hA, hS, hb, k⟩ := h
  rw [tq__law_none_and_rows_5]
  walk_at "rd"
  refine u_take hS (by omega) (by omega) fun r μ1 g1 r1 r2 r3 => ?_
  have go : ∀ (other : List Nat) μ2 o4, other.length ≤ 300 → (∀ y ∈ other, y ∈ A) → Gon s c l (b + 1100) μ μ2 → tl__law_none_and_rows_5 sp_take sp_shaken sp_order sp_of sp_alike sp_lfault sp_cross sp_exch sp_isdue (sp_told CR CN) { nx := fun _ μ' => Kd .non μ', rt := Kd } [some (.hdl s), some (.str old), some t, some (.str other), o4, none, none, none, none, none] μ2 := fun other μ2 o4 l2 hB g2 =>
    rows_5 CR CN ht hg (by omega) l2 hA hB fun μ' m => k _ (g2.kp m)
  have four : r = 4 → ∀ μ2, Gon s c l (b + 1) μ μ2 → old.length ≤ 1000000 ∧ old.length + (DL.cutD old none (some 1)).length ≤ 1000000 ∧ old.length ≤ 1000000 ∧ old.length ≤ 1000000 ∧ old.length ≤ 1000000 ∧ (DL.cutD old (some 1) none).length + (Str.ofString "~").cps.toList.length ≤ 1000000 ∧ 4 ≤ 1000000 ∧
      sp_of [.hdl s, .lst [.str (old ++ DL.cutD old none (some 1)), .str (DL.cutD old (some 1) none), .str old.reverse, .str (DL.cutD old (some 1) none ++ (Str.ofString "~").cps.toList)]] μ2 fun d μ1 =>
        tl__law_none_and_rows_5 sp_take sp_shaken sp_order sp_of sp_alike sp_lfault sp_cross sp_exch sp_isdue (sp_told CR CN) { nx := fun _ μ' => Kd .non μ', rt := Kd } [some (.hdl s), some (.str old), some t, some d, some (.int r), none, none, none, none, none] μ1 := by
    intro _ μ2 g2
    have e1 : DL.cutD old (some 1) none = old.drop 1 := cutD_from old 1
    have e2 : DL.cutD old none (some 1) = old.take 1 := cutD_to old 1
    have e3 : (Str.ofString "~").cps.toList = [126] := by decide +kernel
    rw [e1, e2, e3]
    have l3 : (old.drop 1).length ≤ old.length := by rw [List.length_drop]; omega
    have l4 : (old.take 1).length ≤ 1 := List.length_take_le _ _
    refine ⟨by omega, by omega, by omega, by omega, by omega, by simp; omega, by decide, u_of [.str (old ++ old.take 1), .str (old.drop 1), .str old.reverse, .str (old.drop 1 ++ [126])] rfl (by simp) (by simp) g2.1 (by omega) fun d hd μ3 g3 => ?_⟩
    have g4 := (g2.trans g3).le (b' := b + 1100) (by omega) (by omega)
    simp only [List.mem_cons, List.not_mem_nil, or_false] at hd
    rcases hd with rfl | rfl | rfl | rfl
    · refine go _ _ _ (by rw [List.length_append]; omega) (fun y hy => ?_) g4
      rcases List.mem_append.mp hy with z | z
      · exact hA y z
      · exact hA y (List.mem_of_mem_take z)
    · exact go _ _ _ (by omega) (fun y hy => hA y (List.mem_of_mem_drop hy)) g4
    · exact go _ _ _ (by rw [List.length_reverse]; omega) (fun y hy => hA y (List.mem_reverse.mp hy)) g4
    · refine go _ _ _ (by simp; omega) (fun y hy => ?_) g4
      rcases List.mem_append.mp hy with z | z
      · exact hA y (List.mem_of_mem_drop z)
      · rw [List.mem_singleton.mp z]; exact h126
  walk_at "rd"
  refine ⟨fun lt => u_shaken (by omega) g1.1 (by omega) fun z' hl' hm' μ2 g2 => ⟨fun e => absurd e (by omega), fun _ => ⟨fun e => absurd e (by omega), fun _ => ?_⟩⟩, fun ge => ⟨fun e3 => ?_, fun ne3 => ⟨fun e4 => four e4 μ1 g1, fun ne4 => go _ _ _ (by omega) hA (g1.le (by omega) (by omega))⟩⟩⟩
  · exact go _ _ _ (by omega) (fun y hy => hA y (hm' y hy)) ((g1.trans g2).le (by omega) (by omega))
  · refine u_order (sgn old) (.inr ⟨old, rfl, rfl⟩) (by rw [sgn_length]; omega) g1.1 (by omega) fun ys hy μ2 g2 => ?_
    obtain ⟨y, rfl, hy2⟩ := perm_sgn hy
    have hl := hy2.length_eq
    refine join_sgn (by omega) ⟨fun e => absurd e (by omega), fun _ => ?_⟩
    exact go _ _ _ (by omega) (fun x hx => hA x (hy2.subset hx)) ((g1.trans g2).le (by omega) (by omega))
theorem u_rows {s c l : Addr} {b : Int} {old A : List Nat} {g : Nat → Nat} {t : Dt} {μ : Mu} {K : KD} (ht : Tab A g t) (hg : ∀ x y, g x = g y → x = y) (h126 : 126 ∈ A) (h1 : old.length ≤ 250) (hA : ∀ y ∈ old, y ∈ A) (h : Sto s c l b μ) (hb : b < 2 ^ 45) (k : ∀ μ', Gon s c l (b + 1100) μ μ' → K (.bl true) μ') : sp_rows [.hdl s, .str old, t] μ K :=
  ⟨s, c, l, b, old, A, g, t, rfl, ht, hg, h126, h1, hA, h, hb, k⟩
-- the law
theorem deq_non (d : Dt) : deq d .non = true → d = .non := by
  cases d <;> simp [deq]
theorem check_ok {old new : List Nat} {x : Nat} {d : Dt} (h : Fdue old new (some x) d) : deq (.bl (deq d (.tup [cS "told", .non]))) (.bl (runO old new x).isSome) = true := by
  rw [q_deq_bl, beq_iff_eq]
  by_cases hp : new.Perm (old ++ [x])
  · rw [h.1 hp]
    have e : deq (tldD (faultD old new (some x))) (.tup [cS "told", .non]) = deq (faultD old new (some x)) .non := by
      have h1 : deq (cS "told") (cS "told") = true := deq_self 60 _ rfl
      unfold tldD
      rw [q_deq_tup, q_deqAll_cons, q_deqAll_cons, q_deqAll_nil, h1]
      simp
    rw [e, Bool.eq_iff_iff]
    refine ⟨fun z => (fault_run hp).mp (deq_non _ z), fun z => ?_⟩
    rw [(fault_run hp).mpr z]
    rfl
  · rw [h.2 hp]
    have e : deq (refD new.length) (.tup [cS "told", .non]) = false := by
      have h1 : deq (cS "refused") (cS "told") = false := by
        unfold cS
        rw [q_deq_str]
        decide +kernel
      unfold refD
      rw [q_deq_tup, q_deqAll_cons, h1]
      rfl
    rw [e]
    cases hr : (runO old new x).isSome with
    | false => rfl
    | true =>
      obtain ⟨p, _, hq⟩ := run_iff.mp hr
      exact absurd (by rw [← hq]; exact putF_perm old x p) hp
theorem ok_fdue {old new : List Nat} {c : Option Nat} {d : Dt} (h : Fdue old new c d) (h1 : old.length ≤ 2000) (h2 : new.length ≤ 2000) : okRep d := by
  by_cases hp : new.Perm (old ++ c.toList)
  · rw [h.1 hp]; exact ok_told (ok_fault (by omega) (by omega))
  · rw [h.2 hp]; exact ok_ref (by omega)
theorem fdue_of {old new : List Nat} {x : Nat} {μ : Mu} {K : KD} (h1 : old.length ≤ 500) (h2 : new.length ≤ 500) (k : ∀ d, Fdue old new (some x) d → K d μ) : sp_fdue [.str old, .str new, .str [x]] μ K :=
  u_fdue h1 h2 (fun hp => k _ ⟨fun _ => rfl, fun z => absurd hp z⟩) (fun hp => k _ ⟨fun z => absurd z hp, fun _ => rfl⟩)
section
variable {s c l : Addr} {A : List Nat} {g : Nat → Nat} {p : Addr} {t : Dt} {o0 o3 o5 o6 o9 o13 o14 o15 : Option Dt} {μ : Mu} {F : DEnds} {b : Int} {old new : List Nat} {x : Nat} {d8 : Dt}
theorem law_b8 (ht : Tab A g t) (hg : ∀ x y, g x = g y → x = y) (h126 : 126 ∈ A) (hS : Sto s c l b μ) (hb : b < 2 ^ 40) (h1 : old.length ≤ 200) (h2 : new.length ≤ 202) (hx : x ∈ A) (hA : ∀ y ∈ old, y ∈ A) (hB : ∀ y ∈ new, y ∈ A) (hd : Fdue old new (some x) d8)
    (k : ∀ μ', Sto s c l (b + 5000) μ' → F.nx [o0, some (.hdl s), some (.str A), o3, some t, o5, o6, some (dueD old new x), some d8, some (dueD old.reverse new.reverse x), some (.str old), some (.str new), some (.str [x]), some (.str (old.map g)), some (.str (new.map g)), some (.str [g x])] μ') :
    bl_law_8 sp_store sp_order sp_ascii sp_take sp_pair sp_of sp_due_all sp_fdue sp_asked sp_exch sp_puts sp_rows F [o0, some (.hdl s), some (.str A), o3, some t, o5, o6, some (dueD old new x), some d8, some (dueD old.reverse new.reverse x), some (.str old), some (.str new), some (.str [x]), some (.str (old.map g)), some (.str (new.map g)), some (.str [g x])] μ := by
  unfold bl_law_8
  walk_at "rd"
  have ix0 : ∀ (μ' : Mu) (K : KD), K (runDt (runO old new x)) μ' → rdIx (dueD old new x) (.int 0) μ' K := fun μ' K k => ⟨_, atI_0, k⟩
  have lr1 : old.reverse.length = old.length := List.length_reverse
  have lr2 : new.reverse.length = new.length := List.length_reverse
  have lg1 : (old.map g).length = old.length := List.length_map _
  have lg2 : (new.map g).length = new.length := List.length_map _
  refine ⟨by omega, by omega, by omega, by omega, fdue_of (by omega) (by omega) fun d9 hd9 => ?_⟩
  refine u_asked rfl (by omega) (by omega) hd9 fun μ1 m1 => ⟨true, rfl, fun z => absurd z (by decide), fun _ => ?_⟩
  refine u_asked rfl (by omega) (by omega) hd fun μ2 m2 => ⟨true, rfl, fun z => absurd z (by decide), fun _ => ix0 _ _ ?_⟩
  have hS2 := hS.kp (m1.trans m2)
  refine u_puts rfl (by omega) (by omega) hS2 (by omega) fun μ3 g3 => ⟨true, rfl, fun z => absurd z (by decide), fun _ => ix0 _ _ ?_⟩
  refine u_puts (by rw [runO_ren hg]) (by omega) (by omega) g3.1 (by omega) fun μ4 g4 => ⟨true, rfl, fun z => absurd z (by decide), fun _ => ?_⟩
  refine u_rows ht hg h126 (by omega) hA g4.1 (by omega) fun μ5 g5 => ⟨true, rfl, fun z => absurd z (by decide), fun _ => k _ (g5.1.le (by omega) (by omega))⟩
theorem law_b3 (ht : Tab A g t) (hg : ∀ x y, g x = g y → x = y) (h126 : 126 ∈ A) (hS : Sto s c l b μ) (hb : b < 2 ^ 40) (h1 : old.length ≤ 200) (h2 : new.length ≤ 202) (hx : x ∈ A) (hA : ∀ y ∈ old, y ∈ A) (hB : ∀ y ∈ new, y ∈ A) (hd : Fdue old new (some x) d8)
    (k : ∀ μ' o9, Sto s c l (b + 5000) μ' → F.nx [o0, some (.hdl s), some (.str A), o3, some t, o5, o6, some (dueD old new x), some d8, o9, some (.str old), some (.str new), some (.str [x]), some (.str (old.map g)), some (.str (new.map g)), some (.str [g x])] μ') :
    bl_law_3 sp_store sp_order sp_ascii sp_take sp_pair sp_of sp_due_all sp_fdue sp_asked sp_exch sp_puts sp_rows F [o0, some (.hdl s), some (.str A), o3, some t, o5, o6, some (dueD old new x), some d8, o9, some (.str old), some (.str new), some (.str [x]), o13, o14, o15] μ := by
  rw [bq_law_8]
  walk_at "rd"
  have ix0 : ∀ (μ' : Mu) (K : KD), K (runDt (runO old new x)) μ' → rdIx (dueD old new x) (.int 0) μ' K := fun μ' K k => ⟨_, atI_0, k⟩
  have ix1 : ∀ (μ' : Mu) (K : KD), K (.bl (runO old new x).isSome) μ' → rdIx (dueD old new x) (.int 1) μ' K := fun μ' K k => ⟨.bl (runO old new x).isSome, atI_n _ 1, k⟩
  have lg1 : (old.map g).length = old.length := List.length_map _
  have lg2 : (new.map g).length = new.length := List.length_map _
  have hok := ok_fdue hd (by omega) (by omega)
  refine ⟨by decide, hok.2.1, ix1 _ _ ⟨rfl, fun z => ?_, fun _ => ?_⟩⟩
  · rw [check_ok hd] at z
    cases z
  · refine u_asked rfl (by omega) (by omega) hd fun μ1 m1 => ⟨true, rfl, fun z => absurd z (by decide), fun _ => ?_⟩
    refine u_exch ht (by omega) hA (u_exch ht (by omega) hB (dget_tab ht hx ?_))
    have lr1 : old.reverse.length = old.length := List.length_reverse
    have lr2 : new.reverse.length = new.length := List.length_reverse
    refine ⟨by decide, u_asked (dueD_ren hg old new x).symm (by omega) (by omega) (hd.ren hg) fun μ2 m2 => ⟨true, rfl, fun z => absurd z (by decide), fun _ => ⟨by omega, by omega, ?_⟩⟩⟩
    rw [e_due_all]
    have hS2 := hS.kp (m1.trans m2)
    refine ⟨by omega, by omega, ix0 _ _ ⟨fun hn => ?_, fun hn => law_b8 ht hg h126 hS2 hb h1 h2 hx hA hB hd fun μ' q => k μ' _ q⟩⟩
    cases hr : runO old new x with
    | none => rw [hr] at hn; cases hn
    | some q =>
      obtain ⟨u, v⟩ := q
      obtain ⟨b1, b2⟩ := run_bounds hr
      have ixr : ∀ (μ' : Mu) (K : KD), K (.tup [.int u, .int v]) μ' → rdIx (dueD old new x) (.int 0) μ' K := fun μ' K k => ix0 μ' K (by rw [hr]; exact k)
      have iu : ∀ (μ' : Mu) (K : KD), K (.int u) μ' → rdIx (.tup [.int u, .int v]) (.int 0) μ' K := fun μ' K k => ⟨_, atI_0, k⟩
      have iv : ∀ (μ' : Mu) (K : KD), K (.int v) μ' → rdIx (.tup [.int u, .int v]) (.int 1) μ' K := fun μ' K k => ⟨.int v, atI_n _ 1, k⟩
      refine ⟨by omega, ixr _ _ (iv _ _ ⟨_, rfl, by omega, ixr _ _ (iu _ _ ⟨_, rfl, by decide, by decide, ?_⟩)⟩)⟩
      have e2 : dueD old.reverse new.reverse x = .tup ([.tup [.int ((old.length : Int) - v), .int ((old.length : Int) - u)], .bl true] ++ [.bl (struck old.reverse new.reverse x), if struck old.reverse new.reverse x then .int (rfindD new.reverse x) else .non]) := by
        unfold dueD
        rw [run_rev hr]
        have q1 : ((old.length - v : Nat) : Int) = (old.length : Int) - v := by omega
        have q2 : ((old.length - u : Nat) : Int) = (old.length : Int) - u := by omega
        simp only [runDt, q1, q2]
        rfl
      have e3 : DL.cutD [runDt (runO old.reverse new.reverse x), .bl (runO old.reverse new.reverse x).isSome, .bl (struck old.reverse new.reverse x), if struck old.reverse new.reverse x then .int (rfindD new.reverse x) else .non] (some 2) none = [.bl (struck old.reverse new.reverse x), if struck old.reverse new.reverse x then .int (rfindD new.reverse x) else .non] := cutD_from _ 2
      have fin : ∀ (d : Dt), d = dueD old.reverse new.reverse x → bl_law_8 sp_store sp_order sp_ascii sp_take sp_pair sp_of sp_due_all sp_fdue sp_asked sp_exch sp_puts sp_rows F [o0, some (.hdl s), some (.str A), o3, some t, o5, o6, some (dueD old new x), some d8, some d, some (.str old), some (.str new), some (.str [x]), some (.str (old.map g)), some (.str (new.map g)), some (.str [g x])] μ2 := fun d e => by
        subst e
        exact law_b8 ht hg h126 hS2 hb h1 h2 hx hA hB hd fun μ' q => k μ' _ q
      have e4 : ∀ (K : KD), rdSl (dueD old.reverse new.reverse x) (some 2) none μ2 K = K (.tup [.bl (struck old.reverse new.reverse x), if struck old.reverse new.reverse x then .int (rfindD new.reverse x) else .non]) μ2 := fun K => by
        rw [← e3]
        rfl
      rw [e4, q_add_tup]
      exact ⟨by simp, fin _ e2.symm⟩
theorem law_5 {ks : List Key} {xs : List Dt} {Kd : KD} (hp : μ p = some (.dk ks xs)) (ht : Tab A g (.dk ks xs)) (hg : ∀ x y, g x = g y → x = y) (hl : A.length = 94) (h126 : 126 ∈ A) (hS : Sto s c l 5000 μ) (hn : p ≠ s ∧ p ≠ c ∧ p ≠ l) (k : ∀ μ', Kd (.bl true) μ') :
    tl_law_5 sp_store sp_order sp_ascii sp_take sp_pair sp_of sp_due_all sp_fdue sp_asked sp_exch sp_puts sp_rows { nx := fun _ μ' => Kd .non μ', rt := Kd } [o0, some (.hdl s), some (.str A), o3, some (.hdl p), o5, none, none, none, none, none, none, none, none, none, none] μ := by
  rw [bq_law_3]
  walk_at "rd"
  refine ⟨ks, xs, hp, ?_⟩
  refine for_use (rngD 0 2) (fun i ρ' μ' => Sto s c l (5000 + 10000 * i) μ' ∧ ∃ o6 o7 o8 o9 o10 o11 o12 o13 o14 o15, ρ' = [o0, some (.hdl s), some (.str A), o3, some (.dk ks xs), o5, o6, o7, o8, o9, o10, o11, o12, o13, o14, o15]) (fun K' k => ?_) ⟨(hS.del hn).le (by omega) (by omega), _, _, _, _, _, _, _, _, _, _, rfl⟩ (fun i d ρ' μ' hd hI => ?_) (fun ρ' μ' hI => ?_)
  · walk_at "rd"
    exact ⟨by decide, by decide, k⟩
  · obtain ⟨hI, o6, o7, o8, o9, o10, o11, o12, o13, o14, o15, rfl⟩ := hI
    obtain ⟨hi, rfl⟩ := rngD_of hd
    walk_at "rd"
    refine ⟨by decide, u_of [.int 1, .int 2, .int 19] rfl (by simp) (by simp) hI (by omega) fun w hw μ1 g1 => ?_⟩
    obtain ⟨m, rfl, m1, m2⟩ : ∃ m : Int, w = .int m ∧ 1 ≤ m ∧ m ≤ 19 := by
      simp only [List.mem_cons, List.not_mem_nil, or_false] at hw
      rcases hw with rfl | rfl | rfl
      · exact ⟨1, rfl, by decide, by decide⟩
      · exact ⟨2, rfl, by decide, by decide⟩
      · exact ⟨19, rfl, by decide, by decide⟩
    refine u_take g1.1 (by omega) (by omega) fun r μ2 g2 r1 r2 r3 => ?_
    obtain ⟨n, rfl⟩ := Int.eq_ofNat_of_zero_le r1
    walk_at "rd"
    have e2 : ((2 : Int) + n) = ((2 + n : Nat) : Int) := by omega
    rw [e2, cutD_to]
    have hne : A.take (2 + n) ≠ [] := fun z => by
      have := congrArg List.length z
      rw [List.length_take, hl] at this
      simp at this
    refine ⟨by omega, u_pair hne (by rw [List.length_take]; omega) g2.1 (by omega) fun old new x μ3 h1 h2 hx ho hw g3 => ?_⟩
    walk_at "rd"
    rw [e_due_all]
    have sub : ∀ y, y ∈ A.take (2 + n) → y ∈ A := fun y hy => List.mem_of_mem_take hy
    refine ⟨by omega, by omega, fdue_of (by omega) (by omega) fun d8 hd8 => ?_⟩
    refine law_b3 ht hg h126 g3.1 (by omega) h1 h2 (sub x hx) (fun y hy => sub y (ho y hy)) (fun y hy => sub y (hw y hy)) hd8 fun μ' o9 q => ⟨q.le (by omega) (by omega), ?_⟩
    exact ⟨_, _, _, _, _, _, _, _, _, _, rfl⟩
  · obtain ⟨hI, o6, o7, o8, o9, o10, o11, o12, o13, o14, o15, rfl⟩ := hI
    walk_at "rd"
    exact k _
end
theorem law_4 {s c l : Addr} {A : List Nat} {p : Addr} {sh : Nat} {o0 : Option Dt} {μ : Mu} {Kd : KD} (hp : μ p = some (.dk [] [])) (hA : A.Nodup) (hl : A.length = 94) (h126 : 126 ∈ A) (hs : sh ≤ 100) (hS : Sto s c l 5000 μ) (hn : p ≠ s ∧ p ≠ c ∧ p ≠ l) (k : ∀ μ', Kd (.bl true) μ') :
    tl_law_4 sp_store sp_order sp_ascii sp_take sp_pair sp_of sp_due_all sp_fdue sp_asked sp_exch sp_puts sp_rows { nx := fun _ μ' => Kd .non μ', rt := Kd } [o0, some (.hdl s), some (.str A), some (.int sh), some (.hdl p), none, none, none, none, none, none, none, none, none, none, none] μ := by
  rw [tq_law_5]
  walk_at "rd"
  refine for_use (rngD 0 94) (fun i ρ' μ' => (∃ ks ds, μ' p = some (.dk ks ds) ∧ ks.length = ds.length ∧ ks.length ≤ i ∧ ∀ j, j < i → ∀ a, A[j]? = some a → valD ks ds (kS a) = some (.str [ren A sh a])) ∧ Sto s c l 5000 μ' ∧ ∃ o5, ρ' = [o0, some (.hdl s), some (.str A), some (.int sh), some (.hdl p), o5, none, none, none, none, none, none, none, none, none, none]) (fun K' k => ?_) ⟨⟨[], [], hp, rfl, Nat.le_refl _, fun j h => absurd h (Nat.not_lt_zero _)⟩, hS, none, rfl⟩ (fun i d ρ' μ' hd hI => ?_) (fun ρ' μ' hI => ?_)
  · walk_at "rd"
    exact ⟨by decide, by decide, k⟩
  · obtain ⟨⟨ks, ds, hm, e1, e2, e3⟩, hS', o5, rfl⟩ := hI
    obtain ⟨hi, rfl⟩ := rngD_of hd
    have hi' : i < A.length := by omega
    have hmod := Nat.mod_lt (i + sh) (show 0 < A.length by omega)
    have em : ((i : Int) + sh) % 94 = (((i + sh) % A.length : Nat) : Int) := by rw [hl]; omega
    have er : ren A sh A[i] = A[(i + sh) % A.length] := by
      rw [ren_at hA hi', List.getD_eq_getElem?_getD, List.getElem?_eq_getElem hmod]
      rfl
    walk_at "rd"
    rw [em]
    refine ⟨by decide, by omega, _, by rw [atI_n, List.getElem?_eq_getElem hmod], by omega, _, by rw [atI_n, List.getElem?_eq_getElem hi'], ks, ds, hm, by omega, ?_, hS'.put hn⟩
    obtain ⟨ks3, ds3, f1, f2, f3, f4⟩ := putD_val e1 (kS A[i]) (.str [A[(i + sh) % A.length]])
    refine ⟨ks3, ds3, f1, f2, by omega, fun j hj a ha => ?_⟩
    obtain ⟨hjl, hja⟩ := List.getElem?_eq_some_iff.mp ha
    rw [f4]
    by_cases hji : j = i
    · subst hji
      rw [if_pos (by rw [hja]), ← hja, er]
    · rw [if_neg fun z => hji ((List.getElem_inj hA).mp (hja.trans (kS_inj z).symm))]
      exact e3 j (by omega) a ha
  · obtain ⟨⟨ks, ds, hm, e1, e2, e3⟩, hS', o5, rfl⟩ := hI
    rw [rngD_len] at e3
    refine law_5 hm ⟨ks, ds, rfl, fun x hx => ?_⟩ (ren_inj hA sh) hl h126 hS' hn k
    obtain ⟨j, hj, e⟩ := List.mem_iff_getElem.mp hx
    exact e3 j (by omega) x (by rw [List.getElem?_eq_getElem hj, e])
def sp_law : SpD := fun ds μ K => ∃ ns : List Int, ds = [.scr ns] ∧ ns.length ≤ 63 ∧ ∀ μ', K (.bl true) μ'
theorem p_law (ds : List Dt) (μ : Mu) (Kd : KD) (h : sp_law ds μ Kd) : rd_law sp_store sp_order sp_ascii sp_take sp_pair sp_of sp_due_all sp_fdue sp_asked sp_exch sp_puts sp_rows { nx := fun _ μ' => Kd .non μ', rt := Kd } (dstart N_law ds) μ := by
  obtain ⟨ns, rfl, hn, k⟩ := h
  rw [tq_law_4]
  walk_at "rd"
  refine ⟨ns, rfl, hn, fun s c l μ1 hS => ?_⟩
  simp only [e_ascii]
  refine u_order (sgn asciiZ) (.inr ⟨asciiZ, rfl, rfl⟩) (by rw [sgn_length, ascii_len]; omega) hS (by omega) fun ys hy μ2 g2 => ?_
  obtain ⟨A, rfl, hA⟩ := perm_sgn hy
  have hl : A.length = 94 := by rw [hA.length_eq, ascii_len]
  refine join_sgn (by omega) (u_take g2.1 (by omega) (by omega) fun r μ3 g3 r1 r2 r3 => ?_)
  obtain ⟨n, rfl⟩ := Int.eq_ofNat_of_zero_le r1
  have hr := r2 (by decide)
  walk_at "rd"
  intro p hp
  have hn := g3.1.ne hp
  have e : ((1 : Int) + n) = ((1 + n : Nat) : Int) := by omega
  rw [e]
  exact law_4 mset_same (hA.nodup_iff.mpr ascii_nodup) hl (hA.mem_iff.mpr ascii_tilde) (by omega) ((g3.1.put hn).le (by omega) (by omega)) hn k
end K17

set_option Elab.async false
set_option linter.all false
set_option maxRecDepth 100000
set_option maxHeartbeats 4000000
/-! The end of k17: the head's facts, all promises, the statement. -/
namespace K17
open PySem PySem.Spec PyProof.Rows L2 L2H DL
section
variable {P : Program} {w : World} {K : PySem.W.Frag} {mg : Str → Option Value} {base : Heap}
theorem w_lawF {f : Addr} {fd : FuncData} (F : Fun K "law" "law" s_law f fd) (B : En K mg) (sd__law_store : SpD) (sd__law_order : SpD) (sd__law_ascii : SpD) (sd__law_take : SpD) (sd__law_pair : SpD) (sd__law_of : SpD) (sd__law_due_all : SpD) (sd__law_fault_due : SpD) (sd__law_asked : SpD) (sd__law_exchanged : SpD) (sd__law_puts : SpD) (sd__law_none_and_rows : SpD) (c__law_store : Cal P w K mg base 2 "_law_store" ["script"] sd__law_store) (c__law_order : Cal P w K mg base 3 "_law_order" ["store", "things"] sd__law_order) (c__law_ascii : Cal P w K mg base 1 "_law_ascii" [] sd__law_ascii) (c__law_take : Cal P w K mg base 2 "_law_take" ["store", "many"] sd__law_take) (c__law_pair : Cal P w K mg base 5 "_law_pair" ["store", "alphabet"] sd__law_pair) (c__law_of : Cal P w K mg base 3 "_law_of" ["store", "things"] sd__law_of) (c__law_due_all : Cal P w K mg base 1 "_law_due_all" ["old", "new", "c"] sd__law_due_all) (c__law_fault_due : Cal P w K mg base 3 "_law_fault_due" ["old", "new", "c"] sd__law_fault_due) (c__law_asked : CalG P w K mg base 5 "_law_asked" ["old", "new", "c", "dues", "fault_due"] sd__law_asked) (c__law_exchanged : Cal P w K mg base 1 "_law_exchanged" ["text", "table"] sd__law_exchanged) (c__law_puts : CalG P w K mg base 7 "_law_puts" ["store", "old", "new", "c", "run"] sd__law_puts) (c__law_none_and_rows : CalG P w K mg base 5 "_law_none_and_rows" ["store", "old", "table"] sd__law_none_and_rows) (sd : SpD) (len : ∀ ds μ Kd, sd ds μ Kd → ds.length = 1)
    (h : ∀ ds μ Kd, sd ds μ Kd → rd_law sd__law_store sd__law_order sd__law_ascii sd__law_take sd__law_pair sd__law_of sd__law_due_all sd__law_fault_due sd__law_asked sd__law_exchanged sd__law_puts sd__law_none_and_rows { nx := fun _ μ' => Kd .non μ', rt := Kd } (dstart N_law ds) μ) : FnG P w K mg base CX0 8 f fd ["script"] (spOf sd) :=
  fnG_data F sc_law len fun cdv A outer s H E hr hG => by
    have hu64 := hr.units
    have hu1 := hu_of hr
    exact ⟨rd_law sd__law_store sd__law_order sd__law_ascii sd__law_take sd__law_pair sd__law_of sd__law_due_all sd__law_fault_due sd__law_asked sd__law_exchanged sd__law_puts sd__law_none_and_rows, (dss_cons (ds_set sc_law.nd (d_cal c__law_store (hr.mono (by decide)) (da_cons (d_var 0) da_nil))) (dss_cons (ds_set sc_law.nd (d_join d_str (d_cal c__law_order (hr.mono (by decide)) (da_cons (d_var 1) (da_cons (d_calN c__law_ascii (hr.mono (by decide))) da_nil))))) (dss_cons (ds_set sc_law.nd (d_op (kop_add K rfl) d_int (d_cal c__law_take (hr.mono (by decide)) (da_cons (d_var 1) (da_cons d_int da_nil))))) (dss_cons (ds_set sc_law.nd d_dnew) (dss_cons (ds_for (di_range1 rfl B.b_range (da_cons d_int da_nil)) (dg_name 5 sc_law.nd) (dss_one (ds_dput hu1 (d_ix (kix K rfl) (d_var 2) (d_op dop_mod (d_callTy dc_int rfl B.b_int rfl (da_cons (d_op (kop_add K rfl) (d_var 5) (d_var 3)) da_nil)) d_int)) (d_var 4) (d_ix (kix K rfl) (d_var 2) (d_var 5))))) (dss_giveD 4 (dss_cons (ds_for (di_range1 rfl B.b_range (da_cons d_int da_nil)) (dg_name 6 sc_law.nd) (dss_cons (ds_asg (d_cal c__law_pair (hr.mono (by decide)) (da_cons (d_var 1) (da_cons (k_slice K rfl (d_var 2) do_none (do_some (d_op (kop_add K rfl) d_int (d_cal c__law_take (hr.mono (by decide)) (da_cons (d_var 1) (da_cons (d_cal c__law_of (hr.mono (by decide)) (da_cons (d_var 1) (da_cons (d_tup (da_cons d_int (da_cons d_int (da_cons d_int da_nil)))) da_nil))) da_nil)))))) da_nil))) (kg_tup K rfl rfl (dgs_cons (dg_name 10 sc_law.nd) (dgs_cons (dg_name 11 sc_law.nd) (dgs_cons (dg_name 12 sc_law.nd) dgs_nil))))) (dss_cons (ds_set sc_law.nd (d_cal c__law_due_all (hr.mono (by decide)) (da_cons (d_var 10) (da_cons (d_var 11) (da_cons (d_var 12) da_nil))))) (dss_cons (ds_set sc_law.nd (d_cal c__law_fault_due (hr.mono (by decide)) (da_cons (d_var 10) (da_cons (d_var 11) (da_cons (d_var 12) da_nil))))) (dss_cons (ds_if (DPw.pt (dw_or (dt_cmp (kop_ne K rfl hu64) (d_cmp (kop_eq K rfl hu64) (d_var 8) (d_tup (da_cons d_str (da_cons d_non da_nil))) rfl) (d_ix (kix K rfl) (d_var 7) d_int) rfl) (dw_or1 (dt_not (dt_val (d_calG c__law_asked (hr.mono (by decide)) hG (da_cons (d_var 10) (da_cons (d_var 11) (da_cons (d_var 12) (da_cons (d_var 7) (da_cons (d_var 8) da_nil))))))))))) (dss_one (ds_ret d_bl)) dss_nil) (dss_cons (ds_asg3 (i := 13) (j := 14) (l := 15) rfl sc_law.nd (d_tup (da_cons (d_cal c__law_exchanged (hr.mono (by decide)) (da_cons (d_var 10) (da_cons (d_var 4) da_nil))) (da_cons (d_cal c__law_exchanged (hr.mono (by decide)) (da_cons (d_var 11) (da_cons (d_var 4) da_nil))) (da_cons (d_dget hu1 (d_var 4) (d_var 12)) da_nil)))) rfl) (dss_cons (ds_if (dt_not (dt_val (d_calG c__law_asked (hr.mono (by decide)) hG (da_cons (d_var 13) (da_cons (d_var 14) (da_cons (d_var 15) (da_cons (d_var 7) (da_cons (d_var 8) da_nil)))))))) (dss_one (ds_ret d_bl)) dss_nil) (dss_cons (ds_set sc_law.nd (d_cal c__law_due_all (hr.mono (by decide)) (da_cons (d_revS (d_var 10)) (da_cons (d_revS (d_var 11)) (da_cons (d_var 12) da_nil))))) (dss_cons (ds_if (dt_cmp dop_notN (d_ix (kix K rfl) (d_var 7) d_int) d_non rfl) (dss_one (ds_set sc_law.nd (d_op (kop_add K rfl) (d_tup (da_cons (d_tup (da_cons (d_op dop_sub (d_callB (kc_len K rfl) rfl B.b_len rfl (da_cons (d_var 10) da_nil)) (d_ix (kix K rfl) (d_ix (kix K rfl) (d_var 7) d_int) d_int)) (da_cons (d_op dop_sub (d_callB (kc_len K rfl) rfl B.b_len rfl (da_cons (d_var 10) da_nil)) (d_ix (kix K rfl) (d_ix (kix K rfl) (d_var 7) d_int) d_int)) da_nil))) (da_cons d_bl da_nil))) (k_slice K rfl (d_var 9) (do_some d_int) do_none)))) dss_nil) (dss_cons (ds_if (dt_not (dt_val (d_calG c__law_asked (hr.mono (by decide)) hG (da_cons (d_revS (d_var 10)) (da_cons (d_revS (d_var 11)) (da_cons (d_var 12) (da_cons (d_var 9) (da_cons (d_cal c__law_fault_due (hr.mono (by decide)) (da_cons (d_revS (d_var 10)) (da_cons (d_revS (d_var 11)) (da_cons (d_var 12) da_nil)))) da_nil)))))))) (dss_one (ds_ret d_bl)) dss_nil) (dss_cons (ds_if (DPw.pt (dw_or (dt_not (dt_val (d_calG c__law_asked (hr.mono (by decide)) hG (da_cons (d_var 10) (da_cons (d_var 11) (da_cons (d_var 12) (da_cons (d_var 7) (da_cons (d_var 8) da_nil)))))))) (dw_or1 (dt_not (dt_val (d_calG c__law_puts (hr.mono (by decide)) hG (da_cons (d_var 1) (da_cons (d_var 10) (da_cons (d_var 11) (da_cons (d_var 12) (da_cons (d_ix (kix K rfl) (d_var 7) d_int) da_nil))))))))))) (dss_one (ds_ret d_bl)) dss_nil) (dss_one (ds_if (DPw.pt (dw_or (dt_not (dt_val (d_calG c__law_puts (hr.mono (by decide)) hG (da_cons (d_var 1) (da_cons (d_var 13) (da_cons (d_var 14) (da_cons (d_var 15) (da_cons (d_ix (kix K rfl) (d_var 7) d_int) da_nil)))))))) (dw_or1 (dt_not (dt_val (d_calG c__law_none_and_rows (hr.mono (by decide)) hG (da_cons (d_var 1) (da_cons (d_var 10) (da_cons (d_var 4) da_nil))))))))) (dss_one (ds_ret d_bl)) dss_nil))))))))))))) (dss_one (ds_ret d_bl))))))))), h⟩
end
section
variable {K : PySem.W.Frag} {h : Heap} {mg : Str → Option Value}
theorem kept_ok (c : chk K = true) {x : Str} (hx : x ∈ kept) : PySem.W.keepIn K (.ref (He.ga K x)) = true := by
  unfold chk at c
  simp only [Bool.and_eq_true] at c
  exact List.all_eq_true.mp c.2.1 x hx
theorem defF_of (c : SaysX fa fn chk K) (X : K.In h) (G : h.Ns mainGlobals mg) (i j : Nat) {x : Str} {st : Stmt} (h1 : fn[i]? = some (fnd x st)) (h2 : fa[j]? = some (.glo x)) (h3 : x ∈ kept) : DefF K mg x st := by
  obtain ⟨oc, od, osl, kV, doc, pm, an, cdv, ct, l, cd⟩ := c.2.def_ i h1
  exact ⟨_, _, fun_mk l cd (kept_ok c.1 h3), He.glo_ok X G (c.2.fact j h2)⟩
theorem en_of (c : SaysX fa fn chk K) (X : K.In h) (G : h.Ns mainGlobals mg) : En K mg where
  strikes_last := defF_of c X G 0 40 rfl rfl (by decide +kernel)
  common_front := defF_of c X G 1 41 rfl rfl (by decide +kernel)
  free_places := defF_of c X G 2 42 rfl rfl (by decide +kernel)
  strikes_some := defF_of c X G 3 43 rfl rfl (by decide +kernel)
  other_tokens := defF_of c X G 4 44 rfl rfl (by decide +kernel)
  counts_ahead := defF_of c X G 5 45 rfl rfl (by decide +kernel)
  swap_fault := defF_of c X G 6 46 rfl rfl (by decide +kernel)
  shift_fault := defF_of c X G 7 47 rfl rfl (by decide +kernel)
  fault := defF_of c X G 8 48 rfl rfl (by decide +kernel)
  put := defF_of c X G 9 49 rfl rfl (by decide +kernel)
  leaf_place := defF_of c X G 10 50 rfl rfl (by decide +kernel)
  places_in := defF_of c X G 11 51 rfl rfl (by decide +kernel)
  crossed := defF_of c X G 12 52 rfl rfl (by decide +kernel)
  _law_mix := defF_of c X G 13 53 rfl rfl (by decide +kernel)
  _law_store := defF_of c X G 14 54 rfl rfl (by decide +kernel)
  _law_take := defF_of c X G 15 55 rfl rfl (by decide +kernel)
  _law_yes := defF_of c X G 16 56 rfl rfl (by decide +kernel)
  _law_span := defF_of c X G 17 57 rfl rfl (by decide +kernel)
  _law_of := defF_of c X G 18 58 rfl rfl (by decide +kernel)
  _law_order := defF_of c X G 19 59 rfl rfl (by decide +kernel)
  _law_wide := defF_of c X G 20 60 rfl rfl (by decide +kernel)
  _law_outside := defF_of c X G 21 61 rfl rfl (by decide +kernel)
  _law_beyond := defF_of c X G 22 62 rfl rfl (by decide +kernel)
  _law_ascii := defF_of c X G 23 63 rfl rfl (by decide +kernel)
  _law_text := defF_of c X G 24 64 rfl rfl (by decide +kernel)
  _law_ahead := defF_of c X G 25 65 rfl rfl (by decide +kernel)
  _law_fault := defF_of c X G 26 66 rfl rfl (by decide +kernel)
  _law_cross := defF_of c X G 27 67 rfl rfl (by decide +kernel)
  _law_shaken := defF_of c X G 28 68 rfl rfl (by decide +kernel)
  _law_names_of := defF_of c X G 29 69 rfl rfl (by decide +kernel)
  _law_due_all := defF_of c X G 30 70 rfl rfl (by decide +kernel)
  _law_counts_alike := defF_of c X G 31 71 rfl rfl (by decide +kernel)
  _law_fault_due := defF_of c X G 32 72 rfl rfl (by decide +kernel)
  _law_told := defF_of c X G 33 73 rfl rfl (by decide +kernel)
  _law_is_due := defF_of c X G 34 74 rfl rfl (by decide +kernel)
  _law_asked := defF_of c X G 35 75 rfl rfl (by decide +kernel)
  _law_exchanged := defF_of c X G 36 76 rfl rfl (by decide +kernel)
  _law_pair := defF_of c X G 37 77 rfl rfl (by decide +kernel)
  _law_puts := defF_of c X G 38 78 rfl rfl (by decide +kernel)
  _law_none_and_rows := defF_of c X G 39 79 rfl rfl (by decide +kernel)
  law := defF_of c X G 40 80 rfl rfl (by decide +kernel)
  b_ValueError := He.free_ok X G (c.2.fact 81 (f := .free "ValueError") rfl)
  b_bool := He.free_ok X G (c.2.fact 82 (f := .free "bool") rfl)
  b_enumerate := He.free_ok X G (c.2.fact 83 (f := .free "enumerate") rfl)
  b_int := He.free_ok X G (c.2.fact 84 (f := .free "int") rfl)
  b_isinstance := He.free_ok X G (c.2.fact 85 (f := .free "isinstance") rfl)
  b_len := He.free_ok X G (c.2.fact 86 (f := .free "len") rfl)
  b_list := He.free_ok X G (c.2.fact 87 (f := .free "list") rfl)
  b_min := He.free_ok X G (c.2.fact 88 (f := .free "min") rfl)
  b_range := He.free_ok X G (c.2.fact 89 (f := .free "range") rfl)
  b_repr := He.free_ok X G (c.2.fact 90 (f := .free "repr") rfl)
  b_sorted := He.free_ok X G (c.2.fact 91 (f := .free "sorted") rfl)
  b_zip := He.free_ok X G (c.2.fact 92 (f := .free "zip") rfl)
theorem fact_ok (c : chk K = true) {x : Str} (hx : x = "BadRows" ∨ x = "BadNumber") : factE K x = true := by
  unfold chk at c
  simp only [Bool.and_eq_true] at c
  have := c.2.2.2.2.2.2
  rw [List.all_eq_true] at this
  rcases hx with rfl | rfl
  · exact this _ (by simp)
  · exact this _ (by simp)
theorem init_of (c : SaysX fa fn chk K) {P : Program} {w : World} {base : Heap} : ∃ fd, FnOk P w K mg base CX0 1 (He.ma K (He.ga K "NonePassedError") "__init__") fd ["self", "at"] (spInitK K) ∧ Binds K fd ["self", "at"] [] := by
  obtain ⟨oc, od, osl, kV, doc, pm, an, cdv, ct, l, cd⟩ := c.2.def_ 41 (d := ⟨("NonePassedError", some "__init__"), "__init__", "NonePassedError.__init__", defArgs s_init, defBody s_init, defScope s_init⟩) rfl
  have ch := c.1
  unfold chk at ch
  simp only [Bool.and_eq_true] at ch
  have F : Fun K "__init__" "NonePassedError.__init__" s_init _ _ := fun_mk l cd ch.2.2.1
  exact ⟨_, init_ok F ⟨rfl, rfl, rfl, by decide +kernel, rfl, by decide +kernel, by decide +kernel⟩ rfl rfl rfl (fun _ => rfl), F.binds fun _ _ _ _ _ _ us hl => match us, hl with | [_, _], _ => rfl⟩
theorem errF_of (c : SaysX fa fn chk K) (X : K.In h) (G : h.Ns mainGlobals mg) {P : Program} {w : World} {base : Heap} {x : Str} (hx : x = "BadRows" ∨ x = "BadNumber") : ErrF P w K mg base x (He.ga K x) := by
  have f := fact_ok c.1 hx
  have ch := c.1
  unfold chk at ch
  unfold factE at f
  simp only [Bool.and_eq_true, decide_eq_true_eq] at f ch
  obtain ⟨f1, f2, f3, f4, f5, f6, f7, f8, f9, f10, f11, f12, f13, f14, f15⟩ := f
  obtain ⟨fd, F, hb⟩ := init_of (mg := mg) c (P := P) (w := w) (base := base)
  refine ⟨⟨oexB_ok f1, He.eqO_ok f2, f3, f4, f5⟩, He.eqO_ok f6, ?_, _, fd, He.eqO_ok f7, ch.2.2.2.1, F, hb⟩
  rcases hx with rfl | rfl
  · exact He.glo_ok X G (c.2.fact 18 rfl)
  · exact He.glo_ok X G (c.2.fact 7 rfl)
theorem globs (c : SaysX fa fn chk K) (X : K.In h) (G : h.Ns mainGlobals mg) {y : Str} (hy : y ∈ errs) : mg y = some (.ref (He.ga K y)) := by
  obtain ⟨i, hi⟩ := List.getElem?_of_mem hy
  have e : (errs.map He.Fa.glo)[i]? = some (.glo y) := by rw [List.getElem?_map, hi]; rfl
  have e2 : fa.take 40 = errs.map He.Fa.glo := rfl
  rw [← e2] at e
  have e3 : fa[i]? = some (.glo y) := by
    by_cases hl : i < 40
    · rwa [List.getElem?_take_of_lt hl] at e
    · rw [List.getElem?_eq_none (by rw [List.length_take]; omega)] at e
      cases e
  exact He.glo_ok X G (c.2.fact i e3)
theorem errQ_of (c : SaysX fa fn chk K) (X : K.In h) (G : h.Ns mainGlobals mg) {x : Str} (hx : x = "BadRows" ∨ x = "BadNumber") : ErrQ K mg "NonePassedError" errs.tail (fun y => y == x) (He.ga K x) := by
  have f := fact_ok c.1 hx
  have ch := c.1
  unfold chk at ch
  unfold factE at f
  simp only [Bool.and_eq_true, decide_eq_true_eq] at f ch
  obtain ⟨f1, f2, f3, f4, f5, f6, f7, f8, f9, f10, f11, f12, f13, f14, f15⟩ := f
  have g0 : mg "NonePassedError" = some (.ref (He.ga K "NonePassedError")) := He.glo_ok X G (c.2.fact 0 rfl)
  refine ⟨⟨He.eqO_ok f8, He.eqO_ok f9, f3, f10, He.eqO_ok f11, ch.2.2.2.2.1, ch.2.2.2.2.2.1, f12⟩, ⟨He.eqO_ok f8, He.eqO_ok f9, f3, f10⟩, He.eqO_ok f6, f14, fun c0 hc => ?_, fun y hy => ⟨_, globs c X G (List.mem_of_mem_tail hy), ?_⟩⟩
  · rw [g0] at hc
    cases hc
    exact f13
  · rw [List.all_eq_true] at f15
    have := f15 y (List.mem_of_mem_tail hy)
    simp only [Bool.or_eq_true, beq_iff_eq, decide_eq_true_eq] at this
    rcases this with z | z
    · subst z
      exact absurd hy (by decide +kernel)
    · exact z
end
end K17

set_option Elab.async false
set_option linter.all false
set_option maxRecDepth 100000
set_option maxHeartbeats 4000000
namespace K17
open PySem PySem.Spec PyProof.Rows L2 L2H DL
theorem promises {P : Program} {w : World} {K : PySem.W.Frag} {h base : Heap} {mg : Str → Option Value} {f : Addr} {fd : FuncData} (X : K.In h) (G : h.Ns mainGlobals mg) (c : SaysX fa fn chk K) (F : Fun K "law" "law" s_law f fd) : FnG P w K mg base CX0 8 f fd ["script"] (spOf sp_law) := by
  have B := en_of c X G
  have qR := errQ_of c X G (.inl rfl)
  have qN := errQ_of c X G (.inr rfl)
  have zR := errF_of c X G (P := P) (w := w) (base := base) (.inl rfl)
  have zN := errF_of c X G (P := P) (w := w) (base := base) (.inr rfl)
  have ne : He.ga K "BadNumber" ≠ He.ga K "BadRows" := fun e => by
    obtain ⟨_, m1, k1⟩ := (qR.is_ "BadRows" (by decide +kernel)).ex
    obtain ⟨_, m2, k2⟩ := (qN.is_ "BadRows" (by decide +kernel)).ex
    rw [m1] at m2
    cases m2
    rw [e, k1] at k2
    exact absurd (Option.some.inj k2) (by decide +kernel)
  have g0 : mg "NonePassedError" = some (.ref (He.ga K "NonePassedError")) := He.glo_ok X G (c.2.fact 0 rfl)
  generalize He.ga K "BadRows" = CR at *
  generalize He.ga K "BadNumber" = CN at *
  have hQ : ∀ C, okT CR CN C → ErrQ K mg "NonePassedError" errs.tail (βn CR C) C := fun C hC => by
    rcases hC with rfl | rfl
    · have e : βn C C = fun (y : Str) => y == ("BadRows" : Str) := by funext y; unfold βn; rw [if_pos rfl]
      rw [e]
      exact qR
    · have e : βn CR C = fun (y : Str) => y == ("BadNumber" : Str) := by funext y; unfold βn; rw [if_neg ne]
      rw [e]
      exact qN
  have c_strikes_last := w_strikes_last (P := P) (w := w) (base := base) B sp_strikes_last (by rintro ds μ Kd ⟨_, _, _, rfl, _⟩; rfl) p_strikes_last
  have c_common_front := w_common_front (P := P) (w := w) (base := base) B sp_common_front (by rintro ds μ Kd ⟨_, _, rfl, _⟩; rfl) p_common_front
  have c_free_places := w_free_places (P := P) (w := w) (base := base) B sp_common_front c_common_front sp_free_places (by rintro ds μ Kd ⟨_, _, _, rfl, _⟩; rfl) p_free_places
  have c_strikes_some := w_strikes_some (P := P) (w := w) (base := base) B sp_free_places c_free_places sp_strikes_some (by rintro ds μ Kd ⟨_, _, _, rfl, _⟩; rfl) p_strikes_some
  have c_other_tokens := w_other_tokens (P := P) (w := w) (base := base) B sp_other_tokens (by rintro ds μ Kd ⟨_, _, rfl, _⟩; rfl) p_other_tokens
  have c_counts_ahead := w_counts_ahead (P := P) (w := w) (base := base) B sp_counts_ahead (by rintro ds μ Kd ⟨_, _, rfl, _⟩; rfl) p_counts_ahead
  have c_swap_fault := w_swap_fault (P := P) (w := w) (base := base) B sp_other_tokens c_other_tokens sp_swap_fault (by rintro ds μ Kd ⟨_, _, _, rfl, _⟩; rfl) p_swap_fault
  have c_shift_fault := w_shift_fault (P := P) (w := w) (base := base) B sp_counts_ahead c_counts_ahead sp_shift_fault (by rintro ds μ Kd ⟨_, _, _, rfl, _⟩; rfl) p_shift_fault
  have c_put := w_put (P := P) (w := w) (base := base) B CN zN (sp_put CN) (by rintro ds μ Kd Kx ⟨_, _, _, rfl, _⟩; rfl) (p_put CN)
  have c_leaf_place := w_leaf_place (P := P) (w := w) (base := base) B sp_strikes_last c_strikes_last sp_leaf_place (by rintro ds μ Kd ⟨_, _, _, rfl, _⟩; rfl) p_leaf_place
  have c_places_in := w_places_in (P := P) (w := w) (base := base) B sp_places_in (by rintro ds μ Kd ⟨_, _, rfl, _⟩; rfl) p_places_in
  have c_crossed := w_crossed (P := P) (w := w) (base := base) B sp_places_in CR c_places_in zR (sp_crossed CR) (by rintro ds μ Kd Kx ⟨_, _, rfl, _⟩; rfl) (p_crossed CR)
  have c_fault := w_fault (P := P) (w := w) (base := base) B sp_swap_fault sp_shift_fault CR c_swap_fault c_shift_fault zR (sp_fault CR) (by rintro ds μ Kd Kx ⟨_, _, _, rfl, _⟩; rfl) (p_fault CR)
  have c__law_mix := w__law_mix (P := P) (w := w) (base := base) B sp_mix (by rintro ds μ Kd ⟨_, _, rfl, _⟩; rfl) p_mix
  have c__law_store := w__law_store (P := P) (w := w) (base := base) B sp_mix c__law_mix sp_store (by rintro ds μ Kd ⟨_, rfl, _⟩; rfl) p_store
  have c__law_take := w__law_take (P := P) (w := w) (base := base) B sp_mix c__law_mix sp_take (by rintro ds μ Kd ⟨_, _, _, _, _, rfl, _⟩; rfl) p_take
  have c__law_yes := w__law_yes (P := P) (w := w) (base := base) B sp_take c__law_take sp_yes (by rintro ds μ Kd ⟨_, _, _, _, _, rfl, _⟩; rfl) p_yes
  have c__law_span := w__law_span (P := P) (w := w) (base := base) B sp_take c__law_take sp_span (by rintro ds μ Kd ⟨_, _, _, _, _, _, rfl, _⟩; rfl) p_span
  have c__law_of := w__law_of (P := P) (w := w) (base := base) B sp_take c__law_take sp_of (by rintro ds μ Kd ⟨_, _, _, _, _, _, rfl, _⟩; rfl) p_of
  have c__law_order := w__law_order (P := P) (w := w) (base := base) B sp_take c__law_take sp_order (by rintro ds μ Kd ⟨_, _, _, _, _, _, rfl, _⟩; rfl) p_order
  have c__law_wide := w__law_wide (P := P) (w := w) (base := base) B sp_span sp_take c__law_span c__law_take sp_wide (by rintro ds μ Kd ⟨_, _, _, _, _, rfl, _⟩; rfl) p_wide
  have c__law_outside := w__law_outside (P := P) (w := w) (base := base) B sp_yes sp_wide c__law_yes c__law_wide sp_outside (by rintro ds μ Kd ⟨_, _, _, _, _, _, rfl, _⟩; rfl) p_outside
  have c__law_beyond := w__law_beyond (P := P) (w := w) (base := base) B sp_yes sp_outside c__law_yes c__law_outside sp_beyond (by rintro ds μ Kd ⟨_, _, _, _, _, _, rfl, _⟩; rfl) p_beyond
  have c__law_ascii := w__law_ascii (P := P) (w := w) (base := base) B sp_ascii (by rintro ds μ Kd ⟨rfl, _⟩; rfl) p_ascii
  have c__law_text := w__law_text (P := P) (w := w) (base := base) B sp_take sp_of c__law_take c__law_of sp_text (by rintro ds μ Kd ⟨_, _, _, _, _, _, rfl, _⟩; rfl) p_text
  have c__law_ahead := w__law_ahead (P := P) (w := w) (base := base) B sp_ahead (by rintro ds μ Kd ⟨_, _, rfl, _⟩; rfl) p_ahead
  have c__law_fault := w__law_fault (P := P) (w := w) (base := base) B sp_ahead c__law_ahead sp_lfault (by rintro ds μ Kd ⟨_, _, _, rfl, _⟩; rfl) p_lfault
  have c__law_cross := w__law_cross (P := P) (w := w) (base := base) B sp_cross (by rintro ds μ Kd ⟨_, _, rfl, _⟩; rfl) p_cross
  have c__law_shaken := w__law_shaken (P := P) (w := w) (base := base) B sp_take sp_order c__law_take c__law_order sp_shaken (by rintro ds μ Kd ⟨_, _, _, _, _, rfl, _⟩; rfl) p_shaken
  have c__law_due_all := w__law_due_all (P := P) (w := w) (base := base) B sp_due_all (by rintro ds μ Kd ⟨_, _, _, rfl, _⟩; rfl) p_due_all
  have c__law_counts_alike := w__law_counts_alike (P := P) (w := w) (base := base) B sp_alike (by rintro ds μ Kd ⟨_, _, rfl, _⟩; rfl) p_alike
  have c__law_fault_due := w__law_fault_due (P := P) (w := w) (base := base) B sp_alike sp_lfault c__law_counts_alike c__law_fault sp_fdue (by rintro ds μ Kd ⟨_, _, _, rfl, _⟩; rfl) p_fdue
  have c__law_is_due := w__law_is_due (P := P) (w := w) (base := base) B sp_isdue (by rintro ds μ Kd ⟨_, rfl, _⟩; rfl) p_isdue
  have c__law_exchanged := w__law_exchanged (P := P) (w := w) (base := base) B sp_exch (by rintro ds μ Kd ⟨_, _, _, _, rfl, _⟩; rfl) p_exch
  have c__law_pair := w__law_pair (P := P) (w := w) (base := base) B sp_span sp_yes sp_take sp_text sp_of sp_shaken c__law_span c__law_yes c__law_take c__law_text c__law_of c__law_shaken sp_pair (by rintro ds μ Kd ⟨_, _, _, _, _, rfl, _⟩; rfl) p_pair
  have c__law_names_of := w__law_names_of (P := P) (w := w) (base := base) B (okT CR CN) (fun C => βn CR C) hQ rfl (sp_names CR CN) (by rintro a dd C ds μ Kd ⟨_, rfl, _⟩; rfl) (fun a dd C ds μ Kd h => match h with | ⟨_, _, .inl ⟨e, _⟩⟩ => .inl e | ⟨_, _, .inr ⟨_, e, _⟩⟩ => .inr e) fun a dd C => p_names CR CN a dd C
  have c__law_told := w__law_told (P := P) (w := w) (base := base) B (okT CR CN) (fun C => βn CR C) hQ g0 (sp_fault CR) (sp_crossed CR) (sp_put CN) (sp_names CR CN) c_fault c_crossed c_put c__law_names_of (sp_told CR CN) (by rintro ds μ Kd (⟨_, _, _, rfl, _⟩ | ⟨_, _, _, rfl, _⟩ | ⟨_, _, _, rfl, _⟩) <;> rfl) (p_told CR CN ne)
  have c__law_asked := w__law_asked (P := P) (w := w) (base := base) B sp_leaf_place sp_strikes_last sp_strikes_some sp_free_places sp_isdue (sp_told CR CN) c_leaf_place c_strikes_last c_strikes_some c_free_places c__law_is_due c__law_told sp_asked (by rintro ds μ Kd ⟨_, _, _, _, rfl, _⟩; rfl) (p_asked CR CN)
  have c__law_puts := w__law_puts (P := P) (w := w) (base := base) B sp_isdue (sp_told CR CN) sp_beyond c__law_is_due c__law_told c__law_beyond sp_puts (by rintro ds μ Kd ⟨_, _, _, _, _, _, _, rfl, _⟩; rfl) (p_puts CR CN)
  have c__law_none_and_rows := w__law_none_and_rows (P := P) (w := w) (base := base) B sp_take sp_shaken sp_order sp_of sp_alike sp_lfault sp_cross sp_exch sp_isdue (sp_told CR CN) c__law_take c__law_shaken c__law_order c__law_of c__law_counts_alike c__law_fault c__law_cross c__law_exchanged c__law_is_due c__law_told sp_rows (by rintro ds μ Kd ⟨_, _, _, _, _, _, _, _, rfl, _⟩; rfl) (p_rows CR CN)
  exact w_lawF F B sp_store sp_order sp_ascii sp_take sp_pair sp_of sp_due_all sp_fdue sp_asked sp_exch sp_puts sp_rows c__law_store c__law_order c__law_ascii c__law_take c__law_pair c__law_of c__law_due_all c__law_fault_due c__law_asked c__law_exchanged c__law_puts c__law_none_and_rows sp_law (by rintro ds μ Kd ⟨_, rfl, _⟩; rfl) p_law
theorem look_mem {β : Type} {a : Addr} {b : β} : ∀ {l : List (Addr × β)}, l.lookup a = some b → (a, b) ∈ l
  | [], h => by cases h
  | (c, d) :: l, h => by
    rw [List.lookup_cons] at h
    by_cases e : a == c
    · simp only [e] at h
      cases h
      rw [beq_iff_eq] at e
      rw [e]
      exact List.mem_cons_self
    · simp only [Bool.not_eq_true] at e
      simp only [e] at h
      exact List.mem_cons_of_mem _ (look_mem h)
theorem rep0 (H : Hp) : Rep (fun _ => False) (fun _ => none) H := ⟨fun a o h => (by cases h), fun a h => (show False from h).elim⟩
theorem facts {P : Program} {w : World} {K : PySem.W.Frag} {h : Heap} {mg : Str → Option Value} {f : Addr} (X : K.In h) (G : h.Ns mainGlobals mg) (hfa : mg ("law" : Str) = some (.ref f)) (c : SaysX fa fn chk K) :
    ∃ fd : FuncData, (∀ (s : Shared) (v : Value), BindsTo s fd ⟨[v], []⟩ [("script", v)]) ∧ (∀ base : Heap, K.In base → base.Ns mainGlobals mg → FnG P w K mg base CX0 8 f fd ["script"] (spOf sp_law)) ∧
      ∀ (H : Hp) (a : Addr) (ns : List Int), ns.length ≤ 63 → Only H → SqL K H a (ns.map V.int) → spOf sp_law [.ref a] H (fun v _ => v = .bl true) fun _ _ _ => False := by
  obtain ⟨f', fd, F, hm⟩ := (en_of c X G).law.ex
  rw [hfa] at hm
  cases hm
  refine ⟨fd, fun s v => ?_, fun base _ _ => promises X G c F, fun H a ns hl hO hS => ?_⟩
  · obtain ⟨oc, od, kV, doc, pm, an, cdv, ct, osl, rfl, lk, hcd⟩ := F.ex
    exact .of_eq rfl
  · have hz : ∃ o, H a = some (.frz o (.lst (ns.map V.int))) := by
      rcases hS with h | ⟨o, its, n, l, hc, _⟩
      · rcases h with h | ⟨o, h⟩
        · rcases hO a with z | ⟨o, xs, z⟩
          · rw [z] at h; cases h
          · rw [z] at h; cases h
        · exact ⟨o, h⟩
      · exfalso
        have ch := c.1
        unfold chk at ch
        simp only [Bool.and_eq_true] at ch
        have := List.all_eq_true.mp ch.1 _ (look_mem l)
        rw [show (a, o).snd.cls = .type "list" from hc] at this
        simp at this
    obtain ⟨o, hz⟩ := hz
    exact ⟨fun _ => False, fun _ => none, [.scr ns], fun d _ => d = .bl true, rep0 H, .cons (.scr (fun z => z) rfl hz) .nil, ⟨ns, rfl, hl, fun _ => rfl⟩, fun v H' μ' d e R r k => by subst k; exact r.blInv⟩
end K17
open PySem PySem.W PySem.Calls PyProof.Rows
theorem PySem.Challenge.cw_nonepassed_k17_signs_exchanged_and_rever_holds : PySem.Challenge.rw_nonepassed_k17_signs_exchanged_and_rever.Holds := by
  w_on; o_law
  refine HandSHeadRun.head_any (r := OpenLaw.row PySem.Challenge.rw_nonepassed_k17_signs_exchanged_and_rever) (q := view (OpenLaw.row PySem.Challenge.rw_nonepassed_k17_signs_exchanged_and_rever).prog [83]) (H := K17.hk) (ob := K17.ob) (M := 20000) (loose := K17.others) (d := HandSHeadRun.topDef (OpenLaw.row PySem.Challenge.rw_nonepassed_k17_signs_exchanged_and_rever).prog 83) (kwd := []) K17.ob_eq
    (by kernel_rfl) (fun s => by kernel_rfl) K17.run (by kernel_rfl) (by kernel_rfl) (by kernel_rfl) (by rfl) (by first | assumption | decide +kernel) (by decide +kernel) ⟨rfl, rfl, rfl, rfl, rfl, by decide +kernel⟩ ?hw ?hc
  case hw => w_witness2
  case hc =>
    refine DL.walkG (l := PySem.Challenge.rw_nonepassed_k17_signs_exchanged_and_rever) (n := 63) (k := 8) (x := "script") rfl (by decide) (by kernel_rfl) ⟨rfl, by decide, by decide⟩ ?F
    intro w mg fa h Y G hmg0
    obtain ⟨K, KX, c⟩ := Y
    have hmg : mg ("law" : PySem.Str) = some (.ref fa) := by
      have e : (HandSHeadRun.topDef (OpenLaw.row PySem.Challenge.rw_nonepassed_k17_signs_exchanged_and_rever).prog 83).name = ("law" : PySem.Str) := by kernel_rfl
      rw [← e]
      exact hmg0
    obtain ⟨fd, hb, hF, hs⟩ := K17.facts (P := (PySem.Challenge.rw_nonepassed_k17_signs_exchanged_and_rever).prog) (w := w) KX G hmg c
    exact ⟨K, DL.spOf K17.sp_law, fd, KX, hb, hF, hs⟩


