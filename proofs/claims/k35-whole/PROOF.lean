import PyProof.Rows.All
import Wide.All
import OpenK.AllK
import Wide.FinOn
import HandS.Head0
import HandS.Head1
import HandS.Head2
import HandS.HeadEnd
import HandS.HeadHook1
import KE.KStateDown
import HandS.ForMost
import HandS.ForExc
import HandS.Walk
import HandS.Conv
import HandS.TupAny
import HandS.TupMul
import HandS.IsInst
import HandS.Zip
import HandS.SetFor
import KE.DataEq
import KE.GoesEnum
import KE.GoesDict
import KE.GoesNew
import HandS.ExcInit
import HandS.WordsExc
import HandS.ExcIs
import HandS.ExcField
import HandS.HotCalls
import HandS.ExcOwn
import PySem.Challenge.RW_cutstand_k35_whole_ways_to_colours
/-! part run -/
set_option Elab.async false
set_option linter.all false
set_option maxRecDepth 100000
set_option maxHeartbeats 4000000
/-! The head: what the top leaves, by one run in the kernel. -/
namespace CK
open PySem PySem.Spec PyProof.Rows L2
def topS (i : Nat) : Stmt := PySem.Challenge.pw_cutstand_k35_whole_ways_to_colours.main.body.getD i (.Pass ⟨0, 0, 0, 0⟩)
abbrev s_is_whole_forms : Stmt := topS 17
abbrev s_is_within : Stmt := topS 19
abbrev s_is_word : Stmt := topS 20
abbrev s_is_sign : Stmt := topS 21
abbrev s_is_tuple : Stmt := topS 22
abbrev s_answer : Stmt := topS 23
abbrev s_is_letter : Stmt := topS 25
abbrev s_is_load : Stmt := topS 26
abbrev s_right_stand : Stmt := topS 27
abbrev s_waits : Stmt := topS 28
abbrev s_is_plain : Stmt := topS 30
abbrev s_machine_of : Stmt := topS 31
abbrev s_cause_of : Stmt := topS 32
abbrev s_answered : Stmt := topS 33
abbrev s_can : Stmt := topS 34
abbrev s_taken_out : Stmt := topS 35
abbrev s_sent_out : Stmt := topS 36
abbrev s_done : Stmt := topS 37
abbrev s_run : Stmt := topS 38
abbrev s_events_of : Stmt := topS 40
abbrev s_letters_of : Stmt := topS 41
abbrev s_is_whole_cuts : Stmt := topS 43
abbrev s_ends_of_run : Stmt := topS 45
abbrev s_are_seen : Stmt := topS 47
abbrev s_asked_deeds : Stmt := topS 48
abbrev s_asked_seen : Stmt := topS 49
abbrev s_is_dark : Stmt := topS 51
abbrev s_asked_dark : Stmt := topS 52
abbrev s_right_colours : Stmt := topS 53
abbrev s_colours_way : Stmt := topS 54
abbrev s__law_new_tape : Stmt := topS 56
abbrev s__law_draw : Stmt := topS 57
abbrev s__law_a_form : Stmt := topS 58
abbrev s__law_a_base : Stmt := topS 59
abbrev s__law_machine : Stmt := topS 60
abbrev s__law_after : Stmt := topS 61
abbrev s__law_may : Stmt := topS 62
abbrev s__law_a_run : Stmt := topS 63
abbrev s__law_all_events : Stmt := topS 64
abbrev s__law_all_ends : Stmt := topS 65
abbrev s__law_all_letters : Stmt := topS 66
abbrev s__law_closed : Stmt := topS 67
abbrev s__law_some_cut : Stmt := topS 68
abbrev s__law_whole : Stmt := topS 69
abbrev s__law_tried : Stmt := topS 70
abbrev s__law_put : Stmt := topS 71
abbrev s__law_walk : Stmt := topS 72
abbrev s__law_is : Stmt := topS 73
abbrev s__law_is_dark : Stmt := topS 74
abbrev s__law_colours_after : Stmt := topS 75
abbrev s__law_colours_may : Stmt := topS 76
abbrev s__law_reached : Stmt := topS 77
abbrev s__law_bent_row : Stmt := topS 78
abbrev s__law_bent_stand : Stmt := topS 79
abbrev s__law_same : Stmt := topS 80
abbrev s__law_word_of : Stmt := topS 81
abbrev s__law_colours_told : Stmt := topS 82
abbrev s__law_free_colours : Stmt := topS 83
abbrev s__law_bent_colours : Stmt := topS 84
abbrev s__law_leads : Stmt := topS 85
abbrev s_law : Stmt := topS 86
abbrev sIni : Stmt := inClass (topS 5) 0
/-- a list of addresses, each reckoned out -/
def frcL {α : Type} : List Addr → (List Addr → α) → α
  | [], k => k []
  | a :: r, k => HandSHeadRun.frNat a fun a => frcL r fun r => k (a :: r)
theorem frcL_eq {α : Type} : ∀ (l : List Addr) (k : List Addr → α), frcL l k = k l
  | [], _ => rfl
  | a :: r, k => by
    show HandSHeadRun.frNat a (fun a => frcL r fun r => k (a :: r)) = _
    rw [HandSHeadRun.frNat_eq, frcL_eq r]
/-- the part of the heap at these addresses, its row reckoned out -/
def mkK {α : Type} (g : Addr → Option Obj) : List Addr → (PySem.W.Frag → α) → α
  | [], k => k []
  | a :: r, k => match g a with
    | some ⟨c, d, dt, sl⟩ => mkK g r fun K => k ((a, ⟨c, d, dt, sl⟩) :: K)
    | none => mkK g r k
theorem mkK_eq {α : Type} {g : Addr → Option Obj} : ∀ (as : List Addr) (k : PySem.W.Frag → α), mkK g as k = k (He.frG g as)
  | [], _ => rfl
  | a :: r, k => by
    unfold mkK He.frG
    rw [List.filterMap_cons]
    cases hg : g a with
    | none =>
      rw [show Option.map (fun o => (a, o)) (none : Option Obj) = none from rfl]
      exact mkK_eq r k
    | some ob =>
      obtain ⟨c, d, dt, sl⟩ := ob
      rw [show Option.map (fun o => (a, o)) (some (⟨c, d, dt, sl⟩ : Obj)) = some (a, ⟨c, d, dt, sl⟩) from rfl]
      exact mkK_eq r _
/-- a def's code, a class's own names -/
def dnA (g : Addr → Option Obj) (a : Addr) : List Addr := match g a with
  | some ⟨_, _, .func fd, _⟩ => He.refV fd.code
  | some ⟨_, _, .cls cd, _⟩ => [cd.ns]
  | _ => []
abbrev AlH : Type := Bool × List He.FnV
def obsH (xs : List Str) (cn : Str) (fn : List He.FnD) (ex : PySem.W.Frag → Bool) (g : Addr → Option Obj) : AlH :=
  mkK g [mainGlobals] fun K0 => frcL (xs.map (He.ga K0)) fun fs => frcL (fs.flatMap (dnA g)) fun cs => mkK g (fs ++ cs) fun K1 =>
    frcL [He.ma K1 (He.ga K0 cn) "__init__"] fun is => frcL (is.flatMap (dnA g)) fun js =>
      mkK g (mainGlobals :: cStatics :: (fs ++ (cs ++ (is ++ js)))) fun K => (ex K, fn.map fun d => He.fnObs K d.at_)
def SaysH (fn : List He.FnD) (ex : PySem.W.Frag → Bool) (K : PySem.W.Frag) : Prop := ex K = true ∧ fn.map (fun d => He.fnObs K d.at_) = fn.map He.FnD.val
theorem obsH_of {xs : List Str} {cn : Str} {fn : List He.FnD} {ex : PySem.W.Frag → Bool} {h : Heap} (e : obsH xs cn fn ex h.get? = (true, fn.map He.FnD.val)) : ∃ K : PySem.W.Frag, K.In h ∧ SaysH fn ex K := by
  unfold obsH at e
  simp only [mkK_eq, frcL_eq] at e
  exact ⟨_, He.frG_in, congrArg (fun z : AlH => z.1) e, congrArg (fun z : AlH => z.2) e⟩
def hookH (xs : List Str) (cn : Str) (fn : List He.FnD) (ex : PySem.W.Frag → Bool) : PySem.W.Hook where
  α := AlH
  obs := fun s => obsH xs cn fn ex s.heap.get?
  val := fun _ => (true, fn.map He.FnD.val)
  says := fun _ h => ∃ K : PySem.W.Frag, K.In h ∧ SaysH fn ex K
  of := fun _ _ e => obsH_of e
  keeps := fun _ _ _ ⟨K, hK, c⟩ k => ⟨K, PySem.W.Frag.In.keeps hK k, c⟩
/-! ### this program's -/
def dOf (x q : Str) (st : Stmt) : He.FnD := ⟨(x, none), q, q, defArgs st, defBody st, defScope st⟩
def dIni : He.FnD := ⟨("NoTaking", some "__init__"), "__init__", "NoTaking.__init__", defArgs sIni, defBody sIni, defScope sIni⟩
def xsH0 : List Str := ["is_whole_forms", "is_within", "is_word", "is_sign", "is_tuple", "answer", "is_letter", "is_load", "right_stand", "waits", "is_plain", "machine_of", "cause_of", "answered", "can", "taken_out", "sent_out", "done", "run", "events_of", "letters_of", "is_whole_cuts", "ends_of_run", "are_seen", "asked_deeds", "asked_seen", "is_dark", "asked_dark", "right_colours", "colours_way"]
def xsH1 : List Str := ["_law_new_tape", "_law_draw", "_law_a_form", "_law_a_base", "_law_machine", "_law_after", "_law_may", "_law_a_run", "_law_all_events", "_law_all_ends", "_law_all_letters", "_law_closed", "_law_some_cut", "_law_whole", "_law_tried", "_law_put", "_law_walk", "_law_is", "_law_is_dark", "_law_colours_after", "_law_colours_may", "_law_reached", "_law_bent_row", "_law_bent_stand", "_law_same", "_law_word_of", "_law_colours_told", "_law_free_colours", "_law_bent_colours", "_law_leads"]
def xsH2 : List Str := ["law", "CutError", "NoForm", "NoDeed", "NoCut", "NoTaking", "NoNumbers", "NoLine", "NoZigzag", "NoWorld", "NoRun", "NoText", "NoRow"]
def xsH : List Str := xsH0 ++ xsH1 ++ xsH2
def frH : List Str := ["len", "tuple", "list", "isinstance", "all", "int", "bool", "str", "range", "zip", "enumerate", "max", "ValueError"]
def fnH0 : List He.FnD := [dOf "is_whole_forms" "is_whole" s_is_whole_forms, dOf "is_within" "is_within" s_is_within, dOf "is_word" "is_word" s_is_word, dOf "is_sign" "is_sign" s_is_sign, dOf "is_tuple" "is_tuple" s_is_tuple, dOf "answer" "answer" s_answer, dOf "is_letter" "is_letter" s_is_letter, dOf "is_load" "is_load" s_is_load, dOf "right_stand" "right_stand" s_right_stand, dOf "waits" "waits" s_waits, dOf "is_plain" "is_plain" s_is_plain, dOf "machine_of" "machine_of" s_machine_of, dOf "cause_of" "cause_of" s_cause_of, dOf "answered" "answered" s_answered, dOf "can" "can" s_can, dOf "taken_out" "taken_out" s_taken_out, dOf "sent_out" "sent_out" s_sent_out, dOf "done" "done" s_done, dOf "run" "run" s_run, dOf "events_of" "events_of" s_events_of]
def fnH1 : List He.FnD := [dOf "letters_of" "letters_of" s_letters_of, dOf "is_whole_cuts" "is_whole" s_is_whole_cuts, dOf "ends_of_run" "ends_of_run" s_ends_of_run, dOf "are_seen" "are_seen" s_are_seen, dOf "asked_deeds" "asked_deeds" s_asked_deeds, dOf "asked_seen" "asked_seen" s_asked_seen, dOf "is_dark" "is_dark" s_is_dark, dOf "asked_dark" "asked_dark" s_asked_dark, dOf "right_colours" "right_colours" s_right_colours, dOf "colours_way" "colours_way" s_colours_way, dOf "_law_new_tape" "_law_new_tape" s__law_new_tape, dOf "_law_draw" "_law_draw" s__law_draw, dOf "_law_a_form" "_law_a_form" s__law_a_form, dOf "_law_a_base" "_law_a_base" s__law_a_base, dOf "_law_machine" "_law_machine" s__law_machine, dOf "_law_after" "_law_after" s__law_after, dOf "_law_may" "_law_may" s__law_may, dOf "_law_a_run" "_law_a_run" s__law_a_run, dOf "_law_all_events" "_law_all_events" s__law_all_events, dOf "_law_all_ends" "_law_all_ends" s__law_all_ends]
def fnH2 : List He.FnD := [dOf "_law_all_letters" "_law_all_letters" s__law_all_letters, dOf "_law_closed" "_law_closed" s__law_closed, dOf "_law_some_cut" "_law_some_cut" s__law_some_cut, dOf "_law_whole" "_law_whole" s__law_whole, dOf "_law_tried" "_law_tried" s__law_tried, dOf "_law_put" "_law_put" s__law_put, dOf "_law_walk" "_law_walk" s__law_walk, dOf "_law_is" "_law_is" s__law_is, dOf "_law_is_dark" "_law_is_dark" s__law_is_dark, dOf "_law_colours_after" "_law_colours_after" s__law_colours_after, dOf "_law_colours_may" "_law_colours_may" s__law_colours_may, dOf "_law_reached" "_law_reached" s__law_reached, dOf "_law_bent_row" "_law_bent_row" s__law_bent_row, dOf "_law_bent_stand" "_law_bent_stand" s__law_bent_stand, dOf "_law_same" "_law_same" s__law_same, dOf "_law_word_of" "_law_word_of" s__law_word_of, dOf "_law_colours_told" "_law_colours_told" s__law_colours_told, dOf "_law_free_colours" "_law_free_colours" s__law_free_colours, dOf "_law_bent_colours" "_law_bent_colours" s__law_bent_colours, dOf "_law_leads" "_law_leads" s__law_leads]
def fnH3 : List He.FnD := [dOf "law" "law" s_law, dIni]
def fnH : List He.FnD := fnH0 ++ fnH1 ++ fnH2 ++ fnH3
/-- an exception's class with its own __init__ -/
def oexB (K : PySem.W.Frag) (C : Addr) : Bool := match K.lookup C with
  | some ⟨.type t, _, .cls cd, sl⟩ => (match cd.mro, sl.toList with
    | .ref C' :: bm, [_, _, _, _, some (.builtin n), _] => decide (t = "type") && (decide (C' = C) && (decide (n = "ValueError.__new__") && (!cd.hasDel && (cd.hasDict && PySem.HandSPX.refsVE bm))))
    | _, _ => false)
  | _ => false
theorem oexB_ok {K : PySem.W.Frag} {C : Addr} (h : oexB K C = true) : ∃ nm q N bs bm sn sub ab col dd k0 k1 k2 k3 k5, K.lookup C = some (excClassObj nm q C N bs bm true sn sub ab col dd k0 k1 k2 k3 k5 "ValueError.__new__") ∧ PySem.HandSPX.refsVE bm = true := by
  unfold oexB at h
  split at h
  · rename_i t dd cd sl ho
    split at h
    · rename_i C' bm k0 k1 k2 k3 n k5 hm hs
      obtain ⟨h0, h⟩ := He.ba h
      obtain ⟨h1, h⟩ := He.ba h
      obtain ⟨h2, h⟩ := He.ba h
      obtain ⟨h3, h⟩ := He.ba h
      obtain ⟨h4, h5⟩ := He.ba h
      have e0 := of_decide_eq_true h0
      have e1 := of_decide_eq_true h1
      have e2 := of_decide_eq_true h2
      subst e0 e1 e2
      obtain ⟨nm, bs, mro, ns, qn, hd, sn, sub, ab, col, del⟩ := cd
      have e3 : del = false := by
        cases del with
        | false => rfl
        | true => cases h3
      have e4 : hd = true := h4
      dsimp only at hm
      subst hm e3 e4
      have hsl : sl = #[k0, k1, k2, k3, some (.builtin "ValueError.__new__"), k5] := by
        obtain ⟨l⟩ := sl
        simp only at hs
        rw [hs]
      subst hsl
      exact ⟨nm, qn, ns, bs, bm, sn, sub, ab, col, dd, k0, k1, k2, k3, k5, ho, h5⟩
    · cases h
  · cases h
def oB (a b : Option Bool) : Bool := decide (a = b)
def vB (a b : Option Value) : Bool := decide (a = b)
def fcB (K : PySem.W.Frag) (C0 : Addr) : Bool := match PySem.W.findCls K (.ref C0) (.type "type") "__init__" with
  | some (.val (.builtin n)) => decide (n = "ValueError.__init__")
  | _ => false
theorem fcB_ok {K : PySem.W.Frag} {C0 : Addr} (h : fcB K C0 = true) : PySem.W.findCls K (.ref C0) (.type "type") "__init__" = some (.val (.builtin "ValueError.__init__")) := by
  unfold fcB at h
  split at h
  · rename_i n e
    rw [e, of_decide_eq_true h]
  · cases h
abbrev aC (K : PySem.W.Frag) : Addr := He.ga K "NoTaking"
def sixV (K : PySem.W.Frag) : List Value := [.ref (He.ga K "NoForm"), .ref (He.ga K "NoDeed"), .ref (He.ga K "NoCut"), .ref (He.ga K "NoNumbers"), .ref (He.ga K "NoLine"), .ref (He.ga K "NoZigzag")]
def fourV (K : PySem.W.Frag) : List Value := [.ref (He.ga K "NoWorld"), .ref (He.ga K "NoRun"), .ref (He.ga K "NoText"), .ref (He.ga K "NoRow")]
/-- the class NoTaking -/
def ntB (K : PySem.W.Frag) : Bool := oexB K (aC K) && (He.eqO (PySem.W.findIn K (.ref (aC K)) "__setattr__") (some (some (.builtin "object.__setattr__"))) && (oB (PySem.W.subIn K (.ref (aC K)) (.type "BaseException")) (some true) && (vB (PySem.W.typeIn K (.ref (aC K))) (some (.type "type")) && (PySem.W.keepIn K (.ref (aC K)) &&
  (He.eqO (PySem.W.findIn K (.ref (aC K)) "word") (some none) && (He.eqO (PySem.W.findIn K (.ref (aC K)) "number") (some none) && (He.eqO (PySem.W.findIn K (.ref (aC K)) "__init__") (some (some (.ref (He.ma K (aC K) "__init__")))) && (vB (PySem.W.typeIn K (.ref (He.ma K (aC K) "__init__"))) (some (.type "function")) &&
  (PySem.W.readsIn K (He.ga K "CutError") (.type "type") && fcB K (He.ga K "CutError"))))))))))
def nwB (K : PySem.W.Frag) : Bool := He.eqO (PySem.W.findIn K (.ref (aC K)) "__getattribute__") (some (some (.builtin "BaseException.__getattribute__"))) && (He.eqO (PySem.W.findIn K (.ref (aC K)) "__getattr__") (some none) && (PySem.W.hasDictIn K (aC K) && (He.eqO (PySem.W.findIn K (.ref (aC K)) "__class__") (some (some (.builtin "object.__class__"))) &&
  (He.eqO (PySem.W.specialIn K (.builtin "object.__class__") "__get__") (some (some (.builtin "getset_descriptor.__get__"))) && (oB (PySem.W.takesIn K (.builtin "object.__class__")) (some true) && (oB (PySem.W.mroIn K (aC K) (.type "object")) (some true) &&
  (oB (PySem.W.kitAny K (.ref (aC K)) (sixV K)) (some false) && (oB (PySem.W.kitAny K (.ref (aC K)) (fourV K)) (some false) && (oB (PySem.W.kitOne K (.ref (aC K)) (.type "ValueError")) (some true) && oB (PySem.W.exmOne K (.ref (aC K)) (.ref (aC K))) (some true))))))))))
def faH : List He.Fa := [.str "LETTERS" "abcdefghijklmnopqrstuvwxyz", .int "MOST_STATE" 99, .int "MOST_LONG" 8]
def exH (K : PySem.W.Frag) : Bool := (xsH.all fun x => (He.Fa.glo x).ok K) && ((frH.all fun x => (He.Fa.free x).ok K) && ((faH.all fun f => f.ok K) && ((fnH.all fun d => PySem.W.keepIn K (.ref (He.fAd K d.at_)) && (He.Fa.code d.at_ d.qual).ok K) && (ntB K && nwB K))))
set_option maxHeartbeats 0
abbrev rwR : PySem.W.OpenRow := PySem.W.OpenLaw.row PySem.Challenge.rw_cutstand_k35_whole_ways_to_colours
abbrev hkH : PySem.W.Hook := hookH xsH "NoTaking" fnH exH
def obH (s : PySem.W.SharedT) : AlH := obsH xsH "NoTaking" fnH exH (HandSHeadRun.getT s)
theorem obH_eq (s : PySem.W.SharedT) : obH s = hkH.obs s.abs := by
  have e : HandSHeadRun.getT s = s.abs.heap.get? := funext (HandSHeadRun.getT_eq s)
  show obsH xsH "NoTaking" fnH exH (HandSHeadRun.getT s) = obsH xsH "NoTaking" fnH exH s.abs.heap.get?
  rw [e]
def looseH0 : List Str := ["CutError", "NoForm", "NoDeed", "NoCut", "NoTaking", "NoNumbers", "NoLine", "NoZigzag", "NoWorld", "NoRun", "NoText", "NoRow", "LETTERS", "MOST_STATE", "MOST_LONG", "is_whole", "is_whole_forms", "is_within", "is_word", "is_sign", "is_tuple", "answer", "is_letter", "is_load", "right_stand", "waits", "is_plain", "machine_of", "cause_of", "answered"]
def looseH1 : List Str := ["can", "taken_out", "sent_out", "done", "run", "events_of", "letters_of", "is_whole_cuts", "ends_of_run", "are_seen", "asked_deeds", "asked_seen", "is_dark", "asked_dark", "right_colours", "colours_way", "_law_new_tape", "_law_draw", "_law_a_form", "_law_a_base", "_law_machine", "_law_after", "_law_may", "_law_a_run", "_law_all_events", "_law_all_ends", "_law_all_letters", "_law_closed", "_law_some_cut", "_law_whole"]
def looseH2 : List Str := ["_law_tried", "_law_put", "_law_walk", "_law_is", "_law_is_dark", "_law_colours_after", "_law_colours_may", "_law_reached", "_law_bent_row", "_law_bent_stand", "_law_same", "_law_word_of", "_law_colours_told", "_law_free_colours", "_law_bent_colours", "_law_leads"]
def looseH : List Str := looseH0 ++ looseH1 ++ looseH2
theorem runH (w : World) : HandSHeadRun.RunEq rwR (PySem.W.view rwR.prog [86]) hkH obH 30000 looseH w := by
  intro os
  kernel_rfl
end CK
section
open PySem PySem.W PySem.Calls PyProof.Rows
theorem CK.holds_of (call : WalkO (view (OpenLaw.row PySem.Challenge.rw_cutstand_k35_whole_ways_to_colours).prog [86]) CK.looseH (XL (view (OpenLaw.row PySem.Challenge.rw_cutstand_k35_whole_ways_to_colours).prog [86]) []) CK.hkH.says (OpenLaw.row PySem.Challenge.rw_cutstand_k35_whole_ways_to_colours).toRowW (HandSHeadRun.topDef (OpenLaw.row PySem.Challenge.rw_cutstand_k35_whole_ways_to_colours).prog 86) [] fun f vs => PySem.call f vs) : PySem.Challenge.rw_cutstand_k35_whole_ways_to_colours.Holds := by
  w_on; o_law
  refine HandSHeadRun.head_any (r := OpenLaw.row PySem.Challenge.rw_cutstand_k35_whole_ways_to_colours) (q := view (OpenLaw.row PySem.Challenge.rw_cutstand_k35_whole_ways_to_colours).prog [86]) (H := CK.hkH) (ob := CK.obH) (M := 30000) (loose := CK.looseH) (d := HandSHeadRun.topDef (OpenLaw.row PySem.Challenge.rw_cutstand_k35_whole_ways_to_colours).prog 86) (kwd := []) CK.obH_eq
    (by kernel_rfl) (fun s => by kernel_rfl) CK.runH (by kernel_rfl) (by kernel_rfl) (by kernel_rfl) (by rfl) (by first | assumption | decide +kernel) (by decide +kernel) ⟨rfl, rfl, rfl, rfl, rfl, by decide +kernel⟩ ?hw ?hc
  case hw => w_witness2
  case hc => exact call
end
/-! part CkA -/
set_option Elab.async false
set_option linter.all false
set_option maxRecDepth 100000
set_option maxHeartbeats 1000000
/-! The layer CK, part A: data, values, environments, the judgements. -/
namespace CK
open PySem PySem.Spec PyProof.Rows L2
/-- data: what a value is, lists within kept opaque -/
inductive T where
  | non | bl (b : Bool) | int (i : Int) | str (x : Str) | tup (xs : List T) | lst
abbrev lim : Nat := 100000
theorem lim_sz {n : Nat} (h : n ≤ lim) : n ≤ sizeLine := Nat.le_trans h (by decide)
theorem lim_lt {n : Nat} (h : n < lim) : n < sizeLine := Nat.lt_of_lt_of_le h (by decide)
mutual
inductive Rp (H : Hp) : V → T → Prop
  | non : Rp H .non .non
  | bl (b : Bool) : Rp H (.bl b) (.bl b)
  | int (i : Int) : Rp H (.int i) (.int i)
  | str (x : Str) : Rp H (.str x) (.str x)
  | tup {a : Addr} {xs : List V} {ds : List T} : H a = some (.tup xs) → RpL H xs ds → ds.length ≤ lim → Rp H (.ref a) (.tup ds)
  | lst {a : Addr} {xs : List V} : H a = some (.lst xs) → Rp H (.ref a) .lst
inductive RpL (H : Hp) : List V → List T → Prop
  | nil : RpL H [] []
  | cons {v : V} {vs : List V} {d : T} {ds : List T} : Rp H v d → RpL H vs ds → RpL H (v :: vs) (d :: ds)
end
/-- tuples stand, lists stay lists -/
structure Sta (H H' : Hp) : Prop where
  tu : ∀ a xs, H a = some (.tup xs) → H' a = some (.tup xs)
  li : ∀ a xs, H a = some (.lst xs) → ∃ ys, H' a = some (.lst ys)
theorem Sta.refl (H : Hp) : Sta H H := ⟨fun _ _ h => h, fun _ xs h => ⟨xs, h⟩⟩
theorem Sta.trans {H H1 H2 : Hp} (a : Sta H H1) (b : Sta H1 H2) : Sta H H2 :=
  ⟨fun c xs h => b.tu c xs (a.tu c xs h), fun c xs h => let ⟨ys, q⟩ := a.li c xs h; b.li c ys q⟩
mutual
theorem Rp.sta {H H' : Hp} (s : Sta H H') : ∀ (d : T) (v : V), Rp H v d → Rp H' v d
  | .non, _, h => by cases h; exact .non
  | .bl b, _, h => by cases h; exact .bl b
  | .int i, _, h => by cases h; exact .int i
  | .str x, _, h => by cases h; exact .str x
  | .tup ds, _, h => by
    cases h with
    | tup e r l => exact .tup (s.tu _ _ e) (RpL.sta s ds _ r) l
  | .lst, _, h => by
    cases h with
    | lst e => obtain ⟨ys, q⟩ := s.li _ _ e; exact .lst q
theorem RpL.sta {H H' : Hp} (s : Sta H H') : ∀ (ds : List T) (vs : List V), RpL H vs ds → RpL H' vs ds
  | [], _, h => by cases h; exact .nil
  | d :: ds, _, h => by
    cases h with
    | cons a b => exact .cons (Rp.sta s d _ a) (RpL.sta s ds _ b)
end
section
variable {H : Hp}
theorem RpL.length : ∀ {vs : List V} {ds : List T}, RpL H vs ds → vs.length = ds.length
  | _, _, .nil => rfl
  | _, _, .cons _ t => by simp [RpL.length t]
theorem RpL.getD : ∀ {vs : List V} {ds : List T} {i : Nat} {d : T}, RpL H vs ds → ds[i]? = some d → ∃ v, vs[i]? = some v ∧ Rp H v d
  | _, _, _, _, .nil, e => by simp at e
  | _, _, 0, _, .cons r _, e => by simp at e; subst e; exact ⟨_, rfl, r⟩
  | _, _, i + 1, _, .cons _ t, e => by
    obtain ⟨v, h1, h2⟩ := RpL.getD (i := i) t (by simpa using e)
    exact ⟨v, by simpa using h1, h2⟩
theorem RpL.getV : ∀ {vs : List V} {ds : List T} {i : Nat} {v : V}, RpL H vs ds → vs[i]? = some v → ∃ d, ds[i]? = some d ∧ Rp H v d
  | _, _, _, _, .nil, e => by simp at e
  | _, _, 0, _, .cons r _, e => by simp at e; subst e; exact ⟨_, rfl, r⟩
  | _, _, i + 1, _, .cons _ t, e => by
    obtain ⟨v, h1, h2⟩ := RpL.getV (i := i) t (by simpa using e)
    exact ⟨v, by simpa using h1, h2⟩
theorem RpL.append : ∀ {vs ws : List V} {ds es : List T}, RpL H vs ds → RpL H ws es → RpL H (vs ++ ws) (ds ++ es)
  | _, _, _, _, .nil, s => s
  | _, _, _, _, .cons r t, s => .cons r (RpL.append t s)
theorem RpL.snoc {vs : List V} {ds : List T} {v : V} {d : T} (h : RpL H vs ds) (r : Rp H v d) : RpL H (vs ++ [v]) (ds ++ [d]) := h.append (.cons r .nil)
theorem RpL.take : ∀ {vs : List V} {ds : List T} (n : Nat), RpL H vs ds → RpL H (vs.take n) (ds.take n)
  | _, _, 0, _ => .nil
  | _, _, _ + 1, .nil => .nil
  | _, _, n + 1, .cons r t => .cons r (RpL.take n t)
theorem RpL.drop : ∀ {vs : List V} {ds : List T} (n : Nat), RpL H vs ds → RpL H (vs.drop n) (ds.drop n)
  | _, _, 0, r => r
  | _, _, _ + 1, .nil => .nil
  | _, _, n + 1, .cons _ t => RpL.drop n t
theorem RpL.set {v : V} {d : T} (r : Rp H v d) : ∀ {vs : List V} {ds : List T} (i : Nat), RpL H vs ds → RpL H (vs.set i v) (ds.set i d)
  | _, _, _, .nil => .nil
  | _, _, 0, .cons _ t => .cons r t
  | _, _, i + 1, .cons q t => .cons q (RpL.set r i t)
theorem RpL.rep {vs : List V} {ds : List T} (h : RpL H vs ds) : ∀ k : Nat, RpL H (List.replicate k vs).flatten (List.replicate k ds).flatten
  | 0 => .nil
  | k + 1 => by rw [List.replicate_succ, List.flatten_cons, List.replicate_succ, List.flatten_cons]; exact h.append (RpL.rep h k)
theorem RpL.ints : ∀ {vs : List V} {ns : List Int}, RpL H vs (ns.map T.int) → vs = ns.map V.int
  | _, [], h => by cases h; rfl
  | _, n :: ns, h => by
    cases h with
    | cons a b => cases a; rw [RpL.ints b]; rfl
theorem RpL.of_ints : ∀ (ns : List Int), RpL H (ns.map V.int) (ns.map T.int)
  | [] => .nil
  | n :: ns => .cons (.int n) (RpL.of_ints ns)
theorem RpL.bls : ∀ {vs : List V} {bs : List Bool}, RpL H vs (bs.map T.bl) → vs = bs.map V.bl
  | _, [], h => by cases h; rfl
  | _, n :: ns, h => by
    cases h with
    | cons a b => cases a; rw [RpL.bls b]; rfl
end
/-! ### the tape -/
/-- bits of the numbers on the tape -/
abbrev tbits : Nat := 2 ^ 21
def tA (tp : Option (Addr × Addr)) : Option Addr := tp.map (·.1)
theorem tA_some {t c : Addr} : tA (some (t, c)) = some t := rfl
def Tape (H : Hp) (t c : Addr) (n : Nat) : Prop := ∃ (cells : List Int) (spot big : Int), H t = some (.lst [.ref c, .int spot, .int big]) ∧ H c = some (.lst (cells.map V.int)) ∧
  0 ≤ spot ∧ spot ≤ n ∧ 0 ≤ big ∧ cells.length ≤ 63
def TOk (tp : Option (Addr × Addr)) (H : Hp) (n : Nat) : Prop := ∀ t c, tp = some (t, c) → Tape H t c n
def Stp (tp : Option (Addr × Addr)) (H H' : Hp) : Prop := ∀ a o, tA tp ≠ some a → H a = some o → H' a = some o
theorem Stp.refl {tp : Option (Addr × Addr)} (H : Hp) : Stp tp H H := fun _ _ _ h => h
theorem Stp.trans {tp : Option (Addr × Addr)} {H H1 H2 : Hp} (a : Stp tp H H1) (b : Stp tp H1 H2) : Stp tp H H2 := fun c o n h => b c o n (a c o n h)
theorem Stp.new {tp : Option (Addr × Addr)} {H : Hp} {p : Addr} {o : HO} (h : H p = none) : Stp tp H (upd H p o) := fun a u _ e => by
  rw [upd_ne (ne_of_none e h)]; exact e
theorem TOk.lst {tp : Option (Addr × Addr)} {H : Hp} {n : Nat} (k : TOk tp H n) {a : Addr} (e : tA tp = some a) : ∃ xs, H a = some (.lst xs) := by
  cases tp with
  | none => cases e
  | some p =>
    obtain ⟨t, c⟩ := p
    cases e
    obtain ⟨cells, spot, big, h, _⟩ := k t c rfl
    exact ⟨_, h⟩
theorem Stp.sta {tp : Option (Addr × Addr)} {H H' : Hp} {n m : Nat} (s : Stp tp H H') (k : TOk tp H n) (k' : TOk tp H' m) : Sta H H' := by
  refine ⟨fun a xs h => ?_, fun a xs h => ?_⟩
  · refine s a _ (fun e => ?_) h
    obtain ⟨ys, q⟩ := k.lst e
    rw [h] at q; cases q
  · by_cases e : tA tp = some a
    · exact k'.lst e
    · exact ⟨xs, s a _ e h⟩
/-- the tape stands where all that was known stands -/
theorem TOk.same {tp : Option (Addr × Addr)} {H H' : Hp} {n : Nat} (k : TOk tp H n) (s : Same H H') : TOk tp H' n := fun t c e => by
  obtain ⟨cells, spot, big, h1, h2, r⟩ := k t c e
  exact ⟨cells, spot, big, s _ _ h1, s _ _ h2, r⟩
theorem stpS {tp : Option (Addr × Addr)} {H H' : Hp} (s : Same H H') : Stp tp H H' := fun a o _ h => s a o h
theorem same_new {H : Hp} {p : Addr} {o : HO} (h : H p = none) : Same H (upd H p o) := fun a u e => by
  rw [upd_ne (ne_of_none e h)]; exact e
theorem Stp.fresh {tp : Option (Addr × Addr)} {H H' : Hp} (s : Stp tp H H') {p : Addr} (n : tA tp ≠ some p) (h : H' p = none) : H p = none := by
  cases q : H p with
  | none => rfl
  | some o => rw [s p o n q] at h; cases h
theorem TOk.ne {tp : Option (Addr × Addr)} {H : Hp} {n : Nat} (k : TOk tp H n) {p : Addr} (h : H p = none) : tA tp ≠ some p := fun e => by
  obtain ⟨xs, q⟩ := k.lst e
  rw [h] at q; cases q
/-! ### values, environments -/
inductive X where
  | t (d : T)
  | l (a : Addr) (ds : List T) (own : Bool)
  | dic (a : Addr) (kvs : List (List Key × T)) (own : Bool)
  | ty (n : String)
  | tape
  /-- the slot holds the address a, no more is told -/
  | gh (a : Addr)
def X.own : X → Option Addr
  | .l a _ true => some a
  | .dic a _ true => some a
  | _ => none
/-- as it is read -/
def X.rd : X → X
  | .l a ds _ => .l a ds false
  | .dic a kvs _ => .dic a kvs false
  | x => x
/-- as it is stored under a name -/
def X.sl : X → Option X
  | .l a ds true => some (.l a ds true)
  | .dic a kvs true => some (.dic a kvs true)
  | .t d => some (.t d)
  | _ => none
/-- a thing that a loop goes over: its object, its items -/
structure Gh where
  a : Addr
  o : HO
  vs : List V
  ds : List T
structure En where
  s : List (Option X)
  g : List Gh
def En.set (ρ : En) (i : Nat) (x : Option X) : En := { ρ with s := ρ.s.set i x }
def LsAt (H : Hp) (a : Addr) (ds : List T) : Prop := ∃ vs, H a = some (.lst vs) ∧ RpL H vs ds ∧ ds.length ≤ lim
inductive RpD (H : Hp) : List (List Key × V) → List (List Key × T) → Prop
  | nil : RpD H [] []
  | cons {k : List Key} {v : V} {ws : List (List Key × V)} {d : T} {kvs : List (List Key × T)} : Rp H v d → RpD H ws kvs → RpD H ((k, v) :: ws) ((k, d) :: kvs)
def DcAt (H : Hp) (a : Addr) (kvs : List (List Key × T)) : Prop := ∃ ws, H a = some (.dT ws) ∧ RpD H ws kvs ∧ kvs.length ≤ lim
/-- a slot -/
def RS (tp : Option (Addr × Addr)) (H0 H : Hp) (v : V) : X → Prop
  | .t d => Rp H v d
  | .l a ds true => v = .ref a ∧ H0 a = none ∧ LsAt H a ds
  | .l a ds false => v = .ref a ∧ (∃ o, H0 a = some o) ∧ tA tp ≠ some a ∧ LsAt H a ds
  | .dic a kvs true => v = .ref a ∧ H0 a = none ∧ DcAt H a kvs
  | .dic a kvs false => v = .ref a ∧ (∃ o, H0 a = some o) ∧ tA tp ≠ some a ∧ DcAt H a kvs
  | .ty n => v = .ty n
  | .tape => ∃ t, tA tp = some t ∧ v = .ref t
  | .gh a => v = .ref a
/-- what an expression gave; Hs: the heap ahead of it -/
def RE (tp : Option (Addr × Addr)) (Hs H : Hp) (v : V) : X → Prop
  | .t d => Rp H v d
  | .l a ds fr => v = .ref a ∧ tA tp ≠ some a ∧ LsAt H a ds ∧ (fr = true → Hs a = none)
  | .dic a kvs fr => v = .ref a ∧ tA tp ≠ some a ∧ DcAt H a kvs ∧ (fr = true → Hs a = none ∧ DcAt H a kvs)
  | .ty n => v = .ty n
  | .tape => ∃ t, tA tp = some t ∧ v = .ref t
  | .gh _ => False
abbrev REs (tp : Option (Addr × Addr)) (Hs H : Hp) : List V → List X → Prop := Paired (RE tp Hs H)
theorem RpD.sta {H H' : Hp} (s : Sta H H') : ∀ {ws : List (List Key × V)} {kvs : List (List Key × T)}, RpD H ws kvs → RpD H' ws kvs
  | _, _, .nil => .nil
  | _, _, .cons r t => .cons (Rp.sta s _ _ r) (RpD.sta s t)
theorem RpD.length {H : Hp} : ∀ {ws : List (List Key × V)} {kvs : List (List Key × T)}, RpD H ws kvs → ws.length = kvs.length
  | _, _, .nil => rfl
  | _, _, .cons _ t => by simp [RpD.length t]
structure EOk (tp : Option (Addr × Addr)) (H0 H : Hp) (σ : L2.St) (ρ : En) (n : Nat) : Prop where
  len : σ.length = ρ.s.length
  keep : Stp tp H0 H
  tp0 : ∀ t c, tp = some (t, c) → (∃ o, H0 t = some o) ∧ ∃ o, H0 c = some o
  tape : TOk tp H n
  slot : ∀ (i : Nat) (x : X), ρ.s[i]? = some (some x) → ∃ v, σ[i]? = some (some v) ∧ RS tp H0 H v x
  gh : ∀ p ∈ ρ.g, H p.a = some p.o ∧ RpL H p.vs p.ds ∧ tA tp ≠ some p.a
  apart : ∀ (i j : Nat) (x y : X) (a : Addr), ρ.s[i]? = some (some x) → ρ.s[j]? = some (some y) → x.own = some a → y.own = some a → i = j
  gap : ∀ p ∈ ρ.g, ∀ (i : Nat) (x : X), ρ.s[i]? = some (some x) → x.own ≠ some p.a
section
variable {tp : Option (Addr × Addr)} {H0 H H' H2 Hs : Hp} {σ : L2.St} {ρ : En} {n m : Nat} {v : V} {x : X}
theorem LsAt.stp {a : Addr} {ds : List T} (h : LsAt H a ds) (na : tA tp ≠ some a) (s : Stp tp H H') (st : Sta H H') : LsAt H' a ds := by
  obtain ⟨vs, e, r, l⟩ := h
  exact ⟨vs, s a _ na e, RpL.sta st _ _ r, l⟩
theorem DcAt.stp {a : Addr} {ds : List (List Key × T)} (h : DcAt H a ds) (na : tA tp ≠ some a) (s : Stp tp H H') (st : Sta H H') : DcAt H' a ds := by
  obtain ⟨vs, e, r, l⟩ := h
  exact ⟨vs, s a _ na e, RpD.sta st r, l⟩
theorem EOk.some0 (E : EOk tp H0 H σ ρ n) {a : Addr} (h : H a = none) : H0 a = none := by
  cases q : H0 a with
  | none => rfl
  | some o => rw [E.keep a o (E.tape.ne h) q] at h; cases h
theorem EOk.tpne (E : EOk tp H0 H σ ρ n) {a : Addr} (h : H0 a = none) : tA tp ≠ some a := fun e => by
  cases tp with
  | none => cases e
  | some p =>
    obtain ⟨t, c⟩ := p
    cases e
    obtain ⟨⟨o, q⟩, _⟩ := E.tp0 t c rfl
    rw [h] at q; cases q
theorem RS.stp (E : EOk tp H0 H σ ρ n) (r : RS tp H0 H v x) (s : Stp tp H H') (st : Sta H H') : RS tp H0 H' v x := by
  cases x with
  | t d => exact Rp.sta st _ _ r
  | l a ds o =>
    cases o with
    | true => exact ⟨r.1, r.2.1, r.2.2.stp (E.tpne r.2.1) s st⟩
    | false => exact ⟨r.1, r.2.1, r.2.2.1, r.2.2.2.stp r.2.2.1 s st⟩
  | dic a ds o =>
    cases o with
    | true => exact ⟨r.1, r.2.1, r.2.2.stp (E.tpne r.2.1) s st⟩
    | false => exact ⟨r.1, r.2.1, r.2.2.1, r.2.2.2.stp r.2.2.1 s st⟩
  | ty n => exact r
  | tape => exact r
  | gh a => exact r
theorem RE.stp (r : RE tp Hs H v x) (s : Stp tp H H') (st : Sta H H') : RE tp Hs H' v x := by
  cases x with
  | t d => exact Rp.sta st _ _ r
  | l a ds o => exact ⟨r.1, r.2.1, r.2.2.1.stp r.2.1 s st, r.2.2.2⟩
  | dic a ds o => exact ⟨r.1, r.2.1, r.2.2.1.stp r.2.1 s st, fun z => ⟨(r.2.2.2 z).1, (r.2.2.2 z).2.stp r.2.1 s st⟩⟩
  | ty n => exact r
  | tape => exact r
  | gh a => exact r
/-- asked of an earlier heap -/
theorem RE.back {Hr : Hp} (r : RE tp Hs H v x) (s : Stp tp Hr Hs) : RE tp Hr H v x := by
  cases x with
  | l a ds o => exact ⟨r.1, r.2.1, r.2.2.1, fun z => s.fresh r.2.1 (r.2.2.2 z)⟩
  | dic a ds o => exact ⟨r.1, r.2.1, r.2.2.1, fun z => ⟨s.fresh r.2.1 (r.2.2.2 z).1, (r.2.2.2 z).2⟩⟩
  | t d => exact r
  | ty n => exact r
  | tape => exact r
  | gh a => exact r
theorem REs.stp {vs : List V} {xs : List X} (r : REs tp Hs H vs xs) (s : Stp tp H H') (st : Sta H H') : REs tp Hs H' vs xs := Paired.mono (fun _ _ q => RE.stp q s st) r
theorem REs.back {Hr : Hp} {vs : List V} {xs : List X} (r : REs tp Hs H vs xs) (s : Stp tp Hr Hs) : REs tp Hr H vs xs := Paired.mono (fun _ _ q => RE.back q s) r
theorem EOk.stp (E : EOk tp H0 H σ ρ n) (s : Stp tp H H') (k : TOk tp H' m) : EOk tp H0 H' σ ρ m := by
  have st := s.sta E.tape k
  refine ⟨E.len, E.keep.trans s, E.tp0, k, fun i x e => ?_, fun p hp => ?_, E.apart, E.gap⟩
  · obtain ⟨v, h1, h2⟩ := E.slot i x e
    exact ⟨v, h1, h2.stp E s st⟩
  · obtain ⟨h1, h2, h3⟩ := E.gh p hp
    exact ⟨s _ _ h3 h1, RpL.sta st _ _ h2, h3⟩
theorem RS.rd (E : EOk tp H0 H σ ρ n) (r : RS tp H0 H v x) (hx : ∀ a, x ≠ .gh a) : RE tp H H v x.rd := by
  cases x with
  | t d => exact r
  | l a ds o =>
    cases o with
    | true => exact ⟨r.1, E.tpne r.2.1, r.2.2, fun z => Bool.noConfusion z⟩
    | false => exact ⟨r.1, r.2.2.1, r.2.2.2, fun z => Bool.noConfusion z⟩
  | dic a ds o =>
    cases o with
    | true => exact ⟨r.1, E.tpne r.2.1, r.2.2, fun z => Bool.noConfusion z⟩
    | false => exact ⟨r.1, r.2.2.1, r.2.2.2, fun z => Bool.noConfusion z⟩
  | ty n => exact r
  | tape => exact r
  | gh a => exact absurd rfl (hx a)
end
/-! ### the judgements -/
/-- an expression: what it may give, and the tape behind it -/
def Ev (te : TE) (ρ : En) (n : Nat) (K : X → Nat → Prop) : Prop := ∀ tp H0 H σ, EOk tp H0 H σ ρ n → ∀ Q : VK, (∀ v H2 x m, Stp tp H H2 → TOk tp H2 m → RE tp H H2 v x → K x m → Q v H2) → te σ H Q
def EvT (tt : TT) (ρ : En) (n : Nat) (K : Bool → Nat → Prop) : Prop := ∀ tp H0 H σ, EOk tp H0 H σ ρ n → ∀ Q : Bool → Hp → Prop, (∀ b H2 m, Stp tp H H2 → TOk tp H2 m → K b m → Q b H2) → tt σ H Q
def EvA (ta : TA) (ρ : En) (n : Nat) (K : List X → Nat → Prop) : Prop := ∀ tp H0 H σ, EOk tp H0 H σ ρ n → ∀ Q : List V → Hp → Prop, (∀ vs H2 xs m, Stp tp H H2 → TOk tp H2 m → REs tp H H2 vs xs → K xs m → Q vs H2) → ta σ H Q
inductive Out where
  | nx (ρ : En) (n : Nat)
  | rt (x : X) (n : Nat)
  | ex (n : Nat)
def ExAt (H : Hp) (d : Addr) : Prop := ∃ (fs : List (Str × V)) (w : Str) (k : Int), H d = some (.xd fs) ∧ fs.lookup ("word" : Str) = some (.str w) ∧ fs.lookup ("number" : Str) = some (.int k)
def Blk (C : Addr) (E : XK) (ts : TS) (ρ : En) (n : Nat) (K : Out → Prop) : Prop := ∀ tp H0 H σ, EOk tp H0 H σ ρ n → ∀ D : Ends,
  (∀ σ' H' ρ' m, EOk tp H0 H' σ' ρ' m → K (.nx ρ' m) → D.nx σ' H') →
  (∀ v H' x m, Stp tp H0 H' → TOk tp H' m → RE tp H0 H' v x → K (.rt x m) → D.rt v H') →
  (∀ d H' m, Stp tp H0 H' → TOk tp H' m → ExAt H' d → K (.ex m) → E (.ref C) (some d) H') → ts D σ H
/-- a target, of data -/
def Tg (g : TG) (d : T) (ρ : En) (K : En → Prop) : Prop := ∀ tp H0 H σ n v, EOk tp H0 H σ ρ n → Rp H v d → ∀ Q : L2.St → Hp → Prop, (∀ σ' ρ', EOk tp H0 H σ' ρ' n → K ρ' → Q σ' H) → g v σ H Q
def TgL (g : TGs) (ds : List T) (ρ : En) (K : En → Prop) : Prop := ∀ tp H0 H σ n vs, EOk tp H0 H σ ρ n → RpL H vs ds → ∀ Q : L2.St → Hp → Prop, (∀ σ' ρ', EOk tp H0 H σ' ρ' n → K ρ' → Q σ' H) → g vs σ H Q
/-- what is walked: its items; while the things gone over stand it goes on -/
def WalkT (J : It) (ds : List T) (G : Hp → Prop) : Prop := Walk J ds.length G fun i H x H' => Same H H' ∧ ∃ d, ds[i]? = some d ∧ Rp H' x d
def EvI (wi : TI) (ρ : En) (n : Nat) (K : List T → En → Nat → Prop) : Prop := ∀ tp H0 H σ, EOk tp H0 H σ ρ n → ∀ R : It → Hp → Prop,
  (∀ J H2 ds ρ1 m (G : Hp → Prop), Stp tp H H2 → EOk tp H0 H2 σ ρ1 m → (∀ H3 σ3 ρ3 m3, EOk tp H0 H3 σ3 ρ3 m3 → ρ3.g = ρ1.g → G H3) → WalkT J ds G → ds.length ≤ lim → K ds ρ1 m → R J H2) → wi σ H R
/-! ### promises -/
/-- F: what the def does of given values and of a tape with a bound -/
abbrev PF := List X → Nat → (X → Nat → Prop) → Prop
abbrev PFX := List X → Nat → (X → Nat → Prop) → (Nat → Prop) → Prop
def X.arg : X → X
  | .l a ds _ => .l a ds false
  | .dic a kvs _ => .dic a kvs false
  | x => x
def noHp : Hp := fun _ => none
def spU (F : PF) : Sp := fun vs H Q _ => ∃ tp xs n K, TOk tp H n ∧ REs tp H H vs xs ∧ F xs n K ∧ ∀ v H2 x m, Stp tp H H2 → TOk tp H2 m → RE tp H H2 v x → K x m → Q v H2
def spX (C : Addr) (F : PFX) : Sp := fun vs H Q E => ∃ tp xs n K KE, TOk tp H n ∧ REs tp H H vs xs ∧ F xs n K KE ∧ (∀ v H2 x m, Stp tp H H2 → TOk tp H2 m → RE tp H H2 v x → K x m → Q v H2) ∧
  ∀ d H2 m, Stp tp H H2 → TOk tp H2 m → ExAt H2 d → KE m → E (.ref C) (some d) H2
end CK
/-! part CkB -/
set_option Elab.async false
set_option linter.all false
set_option maxRecDepth 100000
set_option maxHeartbeats 1000000
/-! The layer CK, part B: operators, calls of built-ins, by values. -/
namespace CK
open PySem PySem.Spec PyProof.Rows L2
/-! ### an expression's part in whole -/
def noHs : Hp := fun _ => none
theorem RE.weak {tp : Option (Addr × Addr)} {Hs H : Hp} {v : V} {x : X} (r : RE tp Hs H v x) : RE tp noHs H v x := by
  cases x with
  | l a ds o => exact ⟨r.1, r.2.1, r.2.2.1, fun _ => rfl⟩
  | dic a ds o => exact ⟨r.1, r.2.1, r.2.2.1, fun z => ⟨rfl, (r.2.2.2 z).2⟩⟩
  | t d => exact r
  | ty n => exact r
  | tape => exact r
  | gh a => exact r
abbrev WOp := X → X → (X → Prop) → Prop
def ROp (r : R2) (W : WOp) : Prop := ∀ (tp : Option (Addr × Addr)) (H : Hp) (n : Nat) (v u : V) (x y : X) (K : X → Prop), TOk tp H n → RE tp noHs H v x → RE tp noHs H u y → W x y K →
  ∀ Q : VK, (∀ w H2 z, Same H H2 → RE tp H H2 w z → K z → Q w H2) → r v u H Q
def RUn (r : V → Hp → VK → Prop) (W : X → (X → Prop) → Prop) : Prop := ∀ (tp : Option (Addr × Addr)) (H : Hp) (n : Nat) (v : V) (x : X) (K : X → Prop), TOk tp H n → RE tp noHs H v x → W x K →
  ∀ Q : VK, (∀ w H2 z, Same H H2 → RE tp H H2 w z → K z → Q w H2) → r v H Q
def RCl (r : List V → Hp → VK → Prop) (W : List X → (X → Prop) → Prop) : Prop := ∀ (tp : Option (Addr × Addr)) (H : Hp) (n : Nat) (vs : List V) (xs : List X) (K : X → Prop), TOk tp H n → REs tp noHs H vs xs → W xs K →
  ∀ Q : VK, (∀ w H2 z, Same H H2 → RE tp H H2 w z → K z → Q w H2) → r vs H Q
section
variable {tp : Option (Addr × Addr)} {H : Hp} {n : Nat} {v : V} {ds : List T} {K : PySem.W.Frag}
theorem sta_new {p : Addr} {o : HO} (h : H p = none) : Sta H (upd H p o) :=
  ⟨fun a xs e => (same_new h) a _ e, fun a xs e => ⟨xs, (same_new h) a _ e⟩⟩
/-- a new tuple -/
theorem re_newT {Hs : Hp} {p : Addr} {xs : List V} (hp : H p = none) (r : RpL H xs ds) (hl : ds.length ≤ lim) : RE tp Hs (upd H p (.tup xs)) (.ref p) (.t (.tup ds)) :=
  .tup upd_same (RpL.sta (sta_new hp) _ _ r) hl
/-- a new list -/
theorem re_newL {p : Addr} {xs : List V} (k : TOk tp H n) (hp : H p = none) (r : RpL H xs ds) (hl : ds.length ≤ lim) : RE tp H (upd H p (.lst xs)) (.ref p) (.l p ds true) :=
  ⟨rfl, k.ne hp, ⟨xs, upd_same, RpL.sta (sta_new hp) _ _ r, hl⟩, fun _ => hp⟩
theorem rInt {Hs : Hp} {i : Int} : RE tp Hs H (.int i) (.t (.int i)) := Rp.int i
theorem rBl {Hs : Hp} {i : Bool} : RE tp Hs H (.bl i) (.t (.bl i)) := Rp.bl i
theorem rStr {Hs : Hp} {i : Str} : RE tp Hs H (.str i) (.t (.str i)) := Rp.str i
theorem RE.tt {Hs Hr : Hp} {d : T} (r : RE tp Hs H v (.t d)) : RE tp Hr H v (.t d) := r
theorem RE.tup {Hs : Hp} (r : RE tp Hs H v (.t (.tup ds))) : ∃ a xs, v = .ref a ∧ H a = some (.tup xs) ∧ RpL H xs ds ∧ ds.length ≤ lim := by
  have r' : Rp H v (.tup ds) := r
  cases r' with
  | tup e q l => exact ⟨_, _, rfl, e, q, l⟩
theorem RE.int {Hs : Hp} {i : Int} (r : RE tp Hs H v (.t (.int i))) : v = .int i := by
  have r' : Rp H v (.int i) := r
  cases r'; rfl
theorem RE.bl {Hs : Hp} {i : Bool} (r : RE tp Hs H v (.t (.bl i))) : v = .bl i := by
  have r' : Rp H v (.bl i) := r
  cases r'; rfl
theorem RE.str {Hs : Hp} {i : Str} (r : RE tp Hs H v (.t (.str i))) : v = .str i := by
  have r' : Rp H v (.str i) := r
  cases r'; rfl
theorem RE.non {Hs : Hp} (r : RE tp Hs H v (.t .non)) : v = .non := by
  have r' : Rp H v .non := r
  cases r'; rfl
theorem RE.ls {Hs : Hp} {a : Addr} {o : Bool} (r : RE tp Hs H v (.l a ds o)) : ∃ xs, v = .ref a ∧ H a = some (.lst xs) ∧ RpL H xs ds ∧ ds.length ≤ lim := by
  obtain ⟨h1, _, ⟨xs, h2, h3, h4⟩, _⟩ := r
  exact ⟨xs, h1, h2, h3, h4⟩
/-- the item of a display -/
def X.dat : X → Option T
  | .t d => some d
  | .l _ _ _ => some .lst
  | _ => none
theorem RE.datum {Hs : Hp} {x : X} {d : T} (r : RE tp Hs H v x) (e : x.dat = some d) : Rp H v d := by
  cases x with
  | t d' => cases e; exact r
  | l a ds o =>
    cases e
    obtain ⟨xs, rfl, h, _⟩ := r.ls
    exact .lst h
  | _ => cases e
def dats : List X → Option (List T)
  | [] => some []
  | x :: xs => match x.dat, dats xs with
    | some d, some ds => some (d :: ds)
    | _, _ => none
theorem REs.dats {Hs : Hp} : ∀ {vs : List V} {xs : List X} {ds : List T}, REs tp Hs H vs xs → dats xs = some ds → RpL H vs ds
  | _, [], _, h, e => by cases h; cases e; exact .nil
  | _, x :: xs, ds, h, e => by
    cases h with
    | cons a b =>
      unfold CK.dats at e
      cases h1 : x.dat with
      | none => rw [h1] at e; cases e
      | some d =>
        rw [h1] at e
        cases h2 : CK.dats xs with
        | none => rw [h2] at e; cases e
        | some es =>
          rw [h2] at e
          cases e
          exact .cons (a.datum h1) (REs.dats b h2)
end
/-! ### + - * // % ** -/
def rAddU (K : PySem.W.Frag) : R2 := fun x y H Q => (rI0 fun i j => .int (i + j)) x y H Q ∨ (rCatA K x y H Q ∨ rCat x y H Q)
theorem op_addU {X : Cx} : OpR X (binaryOp .Add) (rAddU X.K) := op_add.or (op_catA.or op_cat)
def AddW : WOp
  | .t (.int i), .t (.int j), K => K (.t (.int (i + j)))
  | .t (.tup a), .t (.tup b), K => (a ++ b).length ≤ lim ∧ K (.t (.tup (a ++ b)))
  | .l _ a _, .l _ b _, K => (a ++ b).length ≤ lim ∧ ∀ p, K (.l p (a ++ b) true)
  | _, _, _ => False
theorem ro_add {K : PySem.W.Frag} : ROp (rAddU K) AddW := by
  intro tp H n v u x y Kx k rx ry w Q q
  unfold AddW at w
  split at w
  · rw [rx.int, ry.int]
    exact .inl ⟨_, _, rfl, rfl, q _ _ _ (Same.refl H) rInt w⟩
  · obtain ⟨a, xs, rfl, e1, r1, l1⟩ := rx.tup
    obtain ⟨b, ys, rfl, e2, r2, l2⟩ := ry.tup
    obtain ⟨hl, w⟩ := w
    refine .inr (.inl ⟨a, b, xs, ys, rfl, rfl, .of e1, .of e2, ?_, fun z => ?_, fun _ z => ?_, fun _ _ p hp => ?_⟩)
    · rw [r1.length, r2.length]; rw [List.length_append] at hl; exact lim_sz hl
    · subst z
      cases r1
      exact q _ _ _ (Same.refl H) ry.tt w
    · subst z
      cases r2
      refine q _ _ _ (Same.refl H) ?_ w
      rw [List.append_nil]
      exact rx.tt
    · exact q _ _ _ (same_new hp) (re_newT hp (r1.append r2) hl) w
  · obtain ⟨xs, rfl, e1, r1, l1⟩ := rx.ls
    obtain ⟨ys, rfl, e2, r2, l2⟩ := ry.ls
    obtain ⟨hl, w⟩ := w
    refine .inr (.inr ⟨_, _, xs, ys, rfl, rfl, e1, e2, ?_, fun p hp => ?_⟩)
    · rw [r1.length, r2.length]; rw [List.length_append] at hl; exact lim_sz hl
    · exact q _ _ _ (same_new hp) (re_newL k hp (r1.append r2) hl) (w p)
  · exact w.elim
def SubW : WOp
  | .t (.int i), .t (.int j), K => K (.t (.int (i - j)))
  | _, _, _ => False
theorem ro_sub : ROp (rI0 fun i j => .int (i - j)) SubW := by
  intro tp H n v u x y Kx k rx ry w Q q
  unfold SubW at w
  split at w
  · rw [rx.int, ry.int]
    exact ⟨_, _, rfl, rfl, q _ _ _ (Same.refl H) rInt w⟩
  · exact w.elim
def ModW : WOp
  | .t (.int i), .t (.int j), K => 0 < j ∧ K (.t (.int (i % j)))
  | _, _, _ => False
theorem ro_mod : ROp (rI (fun _ j => 0 < j) fun i j => .int (i % j)) ModW := by
  intro tp H n v u x y Kx k rx ry w Q q
  unfold ModW at w
  split at w
  · rw [rx.int, ry.int]
    exact ⟨_, _, rfl, rfl, w.1, q _ _ _ (Same.refl H) rInt w.2⟩
  · exact w.elim
def DivW : WOp
  | .t (.int i), .t (.int j), K => (0 < j ∧ j < 1073741824) ∧ K (.t (.int (i / j)))
  | _, _, _ => False
theorem ro_div : ROp (rI CDiv fun i j => .int (i / j)) DivW := by
  intro tp H n v u x y Kx k rx ry w Q q
  unfold DivW at w
  split at w
  · rw [rx.int, ry.int]
    exact ⟨_, _, rfl, rfl, w.1, q _ _ _ (Same.refl H) rInt w.2⟩
  · exact w.elim
def PowW : WOp
  | .t (.int i), .t (.int j), K => CPow i j ∧ K (.t (.int (i ^ j.toNat)))
  | _, _, _ => False
theorem ro_pow : ROp (rI CPow fun i j => .int (i ^ j.toNat)) PowW := by
  intro tp H n v u x y Kx k rx ry w Q q
  unfold PowW at w
  split at w
  · rw [rx.int, ry.int]
    exact ⟨_, _, rfl, rfl, w.1, q _ _ _ (Same.refl H) rInt w.2⟩
  · exact w.elim
theorem length_rep {α : Type} (xs : List α) (k : Nat) : (List.replicate k xs).flatten.length = k * xs.length := by
  rw [PyProof.Rows.lm_len_rep_flat]
/-! ### comparisons -/
mutual
def T.pd : T → Option PyData
  | .non => some .none
  | .bl b => some (.bool b)
  | .int i => some (.int i)
  | .str x => some (.str x)
  | .tup xs => match pds xs with | some ps => some (.tuple ps) | none => none
  | .lst => none
def pds : List T → Option (List PyData)
  | [] => some []
  | x :: xs => match x.pd, pds xs with | some p, some ps => some (p :: ps) | _, _ => none
end
mutual
theorem T.pd_plain : ∀ (d : T) (p : PyData), d.pd = some p → p.plain = true
  | .non, _, e => by cases e; rfl
  | .bl b, _, e => by cases e; rfl
  | .int i, _, e => by cases e; rfl
  | .str x, _, e => by cases e; rfl
  | .tup xs, p, e => by
    unfold T.pd at e
    cases h : pds xs with
    | none => rw [h] at e; cases e
    | some ps =>
      rw [h] at e
      cases e
      exact pds_plain xs ps h
  | .lst, _, e => by cases e
theorem pds_plain : ∀ (ds : List T) (ps : List PyData), pds ds = some ps → PyData.plainAll ps = true
  | [], _, e => by cases e; rfl
  | x :: xs, ps, e => by
    unfold pds at e
    cases h1 : x.pd with
    | none => rw [h1] at e; cases e
    | some p =>
      rw [h1] at e
      cases h2 : pds xs with
      | none => rw [h2] at e; cases e
      | some qs =>
        rw [h2] at e
        cases e
        show (p.plain && PyData.plainAll qs) = true
        rw [T.pd_plain x p h1, pds_plain xs qs h2]; rfl
end
mutual
theorem Rp.dp {K : PySem.W.Frag} {H : Hp} : ∀ (d : T) (v : V) (p : PyData), Rp H v d → d.pd = some p → Dp K H v p
  | .non, _, _, h, e => by cases h; cases e; exact .non
  | .bl b, _, _, h, e => by cases h; cases e; exact .bl b
  | .int b, _, _, h, e => by cases h; cases e; exact .int b
  | .str b, _, _, h, e => by cases h; cases e; exact .str b
  | .tup xs, _, p, h, e => by
    cases h with
    | tup ha hr hl =>
      unfold T.pd at e
      cases hh : pds xs with
      | none => rw [hh] at e; cases e
      | some ps =>
        rw [hh] at e
        cases e
        exact .tup (.of ha) (RpL.dp xs _ ps hr hh)
  | .lst, _, _, _, e => by cases e
theorem RpL.dp {K : PySem.W.Frag} {H : Hp} : ∀ (ds : List T) (vs : List V) (ps : List PyData), RpL H vs ds → pds ds = some ps → DpAll K H vs ps
  | [], _, _, h, e => by cases h; cases e; exact .nil
  | x :: xs, _, ps, h, e => by
    cases h with
    | cons a b =>
      unfold pds at e
      cases h1 : x.pd with
      | none => rw [h1] at e; cases e
      | some p =>
        rw [h1] at e
        cases h2 : pds xs with
        | none => rw [h2] at e; cases e
        | some qs =>
          rw [h2] at e
          cases e
          exact .cons (Rp.dp x _ p a h1) (RpL.dp xs _ qs b h2)
end
def X.pd : X → Option PyData
  | .t d => d.pd
  | .l _ ds _ => match pds ds with | some ps => some (.list ps) | none => none
  | _ => none
theorem RE.dp {K : PySem.W.Frag} {tp : Option (Addr × Addr)} {Hs H : Hp} {v : V} {x : X} {p : PyData} (r : RE tp Hs H v x) (e : x.pd = some p) : Dp K H v p := by
  cases x with
  | t d => exact Rp.dp d v p r e
  | l a ds o =>
    obtain ⟨xs, rfl, h1, h2, h3⟩ := r.ls
    change (match pds ds with | some ps => some (PyData.list ps) | none => none) = some p at e
    cases h : pds ds with
    | none => rw [h] at e; cases e
    | some ps =>
      rw [h] at e
      cases e
      exact .lst (.of h1) (RpL.dp ds _ ps h2 h)
  | _ => cases e
theorem X.pd_plain {x : X} {p : PyData} (e : x.pd = some p) : p.plain = true := by
  cases x with
  | t d => exact T.pd_plain d p e
  | l a ds o =>
    change (match pds ds with | some ps => some (PyData.list ps) | none => none) = some p at e
    cases h : pds ds with
    | none => rw [h] at e; cases e
    | some ps =>
      rw [h] at e
      cases e
      exact pds_plain ds ps h
  | _ => cases e
/-- == of any data without dicts -/
def rEqP (K : PySem.W.Frag) (neg : Bool) : R2 := fun x y H Q => ∃ d e, Dp K H x d ∧ Dp K H y e ∧ d.plain = true ∧ e.plain = true ∧ min d.depth e.depth ≤ 64 ∧ Q (.bl (if neg then !PyData.eqv d e else PyData.eqv d e)) H
theorem op_eqP {X : Cx} (hu : X.A.units + 64 < cLine) : OpR X (compareOp .Eq) (rEqP X.K false) := by
  intro pins s σ H x y v u Q I rx ry h
  obtain ⟨d, e, hd, he, sd, se, hm, q⟩ := h
  obtain ⟨as, r1⟩ := Dp.reads I d x v hd rx
  obtain ⟨bs, r2⟩ := Dp.reads I e y u he ry
  exact SeqAt.eq_plain r1 r2 sd se (by omega) ⟨.bl _, H, I, rfl, q⟩
theorem op_neP {X : Cx} (hu : X.A.units + 64 < cLine) : OpR X (compareOp .NotEq) (rEqP X.K true) := by
  intro pins s σ H x y v u Q I rx ry h
  obtain ⟨d, e, hd, he, sd, se, hm, q⟩ := h
  obtain ⟨as, r1⟩ := Dp.reads I d x v hd rx
  obtain ⟨bs, r2⟩ := Dp.reads I e y u he ry
  exact SeqAt.ne_plain r1 r2 sd se (by omega) ⟨.bl _, H, I, rfl, q⟩
def EqW (neg : Bool) : WOp := fun x y K => ∃ p q, x.pd = some p ∧ y.pd = some q ∧ min p.depth q.depth ≤ 64 ∧ K (.t (.bl (if neg then !PyData.eqv p q else PyData.eqv p q)))
theorem ro_eq {K : PySem.W.Frag} {neg : Bool} : ROp (rEqP K neg) (EqW neg) := by
  intro tp H n v u x y Kx k rx ry w Q q
  obtain ⟨p, p', e1, e2, hm, w⟩ := w
  exact ⟨p, p', rx.dp e1, ry.dp e2, X.pd_plain e1, X.pd_plain e2, hm, q _ _ _ (Same.refl H) rBl w⟩
/-- is None, is True, is False -/
def rIsP (neg : Bool) : R2 := fun x y H Q => (y = .non ∨ ∃ b, y = .bl b) ∧ (∀ s, x ≠ .ty s) ∧ Q (.bl (if neg then !decide (x = y) else decide (x = y))) H
theorem relV_beq {x y : V} {v u : Value} (rx : RelV x v) (ry : RelV y u) (hy : y = .non ∨ ∃ b, y = .bl b) : (v == u) = decide (x = y) := by
  rcases hy with rfl | ⟨b, rfl⟩
  · cases ry
    cases x <;> first
      | (cases rx; rfl)
      | (obtain ⟨t, rfl⟩ := rx; rfl)
  · cases ry
    cases x with
    | bl c =>
      cases rx
      cases b <;> cases c <;> rfl
    | non => cases rx; rfl
    | int i => obtain ⟨t, rfl⟩ := rx; rfl
    | str i => obtain ⟨t, rfl⟩ := rx; rfl
    | byt i => obtain ⟨t, rfl⟩ := rx; rfl
    | flt i => obtain ⟨t, rfl⟩ := rx; rfl
    | ref a => cases rx; rfl
    | ty a => cases rx; rfl
theorem plain_is {x y : V} {v u : Value} (rx : RelV x v) (ry : RelV y u) (hy : y = .non ∨ ∃ b, y = .bl b) : plainIs v u = true := by
  rcases hy with rfl | ⟨b, rfl⟩
  · cases ry
    cases x <;> first
      | (cases rx; rfl)
      | (obtain ⟨t, rfl⟩ := rx; rfl)
  · cases ry
    cases x <;> first
      | (cases rx; rfl)
      | (obtain ⟨t, rfl⟩ := rx; rfl)
theorem op_isP {X : Cx} : OpR X (compareOp .Is) (rIsP false) := by
  intro pins s σ H x y v u Q I rx ry h
  obtain ⟨hy, _, q⟩ := h
  refine wpAny_is_plain (plain_is rx ry hy) ?_
  rw [relV_beq rx ry hy]
  exact ⟨.bl _, H, I, rfl, q⟩
theorem op_isnotP {X : Cx} : OpR X (compareOp .IsNot) (rIsP true) := by
  intro pins s σ H x y v u Q I rx ry h
  obtain ⟨hy, _, q⟩ := h
  refine wpAny_isNot_plain (plain_is rx ry hy) ?_
  rw [relV_beq rx ry hy]
  exact ⟨.bl _, H, I, rfl, q⟩
def isW0 : X → T → Option Bool
  | .t .non, .non => some true
  | .t _, .non => some false
  | .t (.bl a), .bl b => some (a == b)
  | .t _, .bl b => some false
  | .l _ _ _, .non => some false
  | .l _ _ _, .bl _ => some false
  | _, _ => none
def IsW (neg : Bool) : WOp := fun x y K => match y with
  | .t e => ∃ b, isW0 x e = some b ∧ K (.t (.bl (if neg then !b else b)))
  | _ => False
theorem ro_is {neg : Bool} : ROp (rIsP neg) (IsW neg) := by
  intro tp H n v u x y Kx k rx ry w Q q
  unfold IsW at w
  cases y with
  | t e =>
    obtain ⟨b, hb, w⟩ := w
    have key : (u = .non ∨ ∃ b, u = .bl b) ∧ (∀ s, v ≠ .ty s) ∧ decide (v = u) = b := by
      unfold isW0 at hb
      split at hb
      · rw [rx.non, ry.non]; cases hb; exact ⟨.inl rfl, (fun s z => by cases z), by simp⟩
      · rename_i d hd
        rw [ry.non]
        cases hb
        have rx' : Rp H v d := rx
        cases rx' with
        | non => exact absurd rfl hd
        | bl b => exact ⟨.inl rfl, (fun s z => by cases z), by simp⟩
        | int b => exact ⟨.inl rfl, (fun s z => by cases z), by simp⟩
        | str b => exact ⟨.inl rfl, (fun s z => by cases z), by simp⟩
        | tup _ _ _ => exact ⟨.inl rfl, (fun s z => by cases z), by simp⟩
        | lst _ => exact ⟨.inl rfl, (fun s z => by cases z), by simp⟩
      · rw [rx.bl, ry.bl]
        rename_i a b'
        cases hb
        refine ⟨.inr ⟨_, rfl⟩, (fun s z => by cases z), ?_⟩
        cases a <;> cases b' <;> rfl
      · rename_i d b' hd
        rw [ry.bl]
        cases hb
        have rx' : Rp H v d := rx
        cases rx' with
        | bl b => exact absurd rfl (hd b)
        | non => exact ⟨.inr ⟨_, rfl⟩, (fun s z => by cases z), by simp⟩
        | int b => exact ⟨.inr ⟨_, rfl⟩, (fun s z => by cases z), by simp⟩
        | str b => exact ⟨.inr ⟨_, rfl⟩, (fun s z => by cases z), by simp⟩
        | tup _ _ _ => exact ⟨.inr ⟨_, rfl⟩, (fun s z => by cases z), by simp⟩
        | lst _ => exact ⟨.inr ⟨_, rfl⟩, (fun s z => by cases z), by simp⟩
      · obtain ⟨xs, rfl, _⟩ := rx.ls
        rw [ry.non]
        cases hb
        exact ⟨.inl rfl, (fun s z => by cases z), by simp⟩
      · obtain ⟨xs, rfl, _⟩ := rx.ls
        rw [ry.bl]
        cases hb
        exact ⟨.inr ⟨_, rfl⟩, (fun s z => by cases z), by simp⟩
      · cases hb
    obtain ⟨k1, k2, k3⟩ := key
    refine ⟨k1, k2, ?_⟩
    rw [k3]
    exact q _ _ _ (Same.refl H) rBl w
  | _ => exact w.elim
def CmpW (f : Int → Int → Bool) : WOp
  | .t (.int i), .t (.int j), K => K (.t (.bl (f i j)))
  | _, _, _ => False
theorem ro_cmp {f : Int → Int → Bool} : ROp (rI0 fun i j => .bl (f i j)) (CmpW f) := by
  intro tp H n v u x y Kx k rx ry w Q q
  unfold CmpW at w
  split at w
  · rw [rx.int, ry.int]
    exact ⟨_, _, rfl, rfl, q _ _ _ (Same.refl H) rBl w⟩
  · exact w.elim
def rInS1 : R2 := fun x y H Q => ∃ (c : Nat) (z : Str), x = .str ⟨#[c]⟩ ∧ y = .str z ∧ Q (.bl (decide (c ∈ z.cps.toList))) H
theorem op_inS1 {X : Cx} : OpR X (compareOp .In) rInS1 := op_in_sign
def InW : WOp := fun x y K => ∃ (c : Nat) (z : Str), x = .t (.str ⟨#[c]⟩) ∧ y = .t (.str z) ∧ K (.t (.bl (decide (c ∈ z.cps.toList))))
theorem ro_in : ROp rInS1 InW := by
  intro tp H n v u x y Kx k rx ry w Q q
  obtain ⟨c, z, rfl, rfl, w⟩ := w
  rw [rx.str, ry.str]
  exact ⟨c, z, rfl, rfl, q _ _ _ (Same.refl H) rBl w⟩
end CK
/-! part CkC -/
set_option Elab.async false
set_option linter.all false
set_option maxRecDepth 100000
set_option maxHeartbeats 4000000
/-! The layer CK, part C: *, subscripts, slices, calls of built-ins. -/
namespace CK
open PySem PySem.Spec PyProof.Rows L2
/-! ### tuple * 1 -/
theorem tuple_mul1 (l : Addr) (items : Array Value) (n : Nat) (sl : Array (Option Value)) (u : Tok) (dd : Option Addr) :
    Meets (Builtin.«tuple.__mul__» ⟨[.ref l, .int 1 u], []⟩) (fun _ R s => s.heap.get? l = some { cls := .type "tuple", dict := dd, data := .seq items n, slots := sl } ∧ R (.ok (.ret (.ref l))) s) :=
  .of_wp fun prog w A R s h => by
    obtain ⟨hp, g, d, tk, os⟩ := s
    obtain ⟨hl, h⟩ := h
    have f1 := AutoSeq1.idx_int
    wp_walk using wpAny_loadPart' hl
    first
      | (refine ⟨_, rfl, ?_⟩; exact h)
      | (refine wpAny_ite_true (decide_eq_true (by simp)) ?_; wp_walk using wpAny_loadPart' hl; exact ⟨_, rfl, h⟩)
def rRep1 (K : PySem.W.Frag) : R2 := fun x y H Q => ∃ l xs, x = .ref l ∧ y = .int 1 ∧ H l = some (.tup xs) ∧ Q (.ref l) H
theorem op_rep1 {X : Cx} : OpR X (binaryOp .Mult) (rRep1 X.K) := by
  intro pins s σ H x y v u Q I rx ry h
  obtain ⟨l, xs, rfl, rfl, hT, q⟩ := h
  cases rx
  obtain ⟨t, rfl⟩ := ry
  obtain ⟨its, r, ⟨⟨cls, dd, data, sl⟩, ho, hc, n, hd⟩, hs⟩ := I.tuple (.of hT)
  simp only at hc hd
  subst hc hd
  exact wpAny_binaryOp_repeat_ref (T := "tuple") (U := "int") (by decide) ⟨_, ho, rfl⟩ (fun s' => typeIs_int s' 1 t) noFill_tuple_mul F.fills_int_mul F.slot_int_rmul repeat_tuple F.slot_int_index.lookup
    (call_meets F.slot_int_rmul (typeIs_int s 1 t) F.entry_int_rmul (F.args_int_rmul_2 _ _) (int_rmul_tuple 1 t l its.toArray n dd sl)
      ⟨ho, rfl, ⟨_, ho, rfl⟩, call_meets F.slot_tuple_mul ⟨_, ho, rfl⟩ F.entry_tuple_mul (F.args_tuple_mul_2 _ _) (tuple_mul1 l its.toArray n sl t dd) ⟨ho, ⟨V.ref l, H, I, rfl, q⟩⟩⟩)
def rMulU (K : PySem.W.Frag) : R2 := fun x y H Q => (rI CMul fun i j => .int (i * j)) x y H Q ∨ (rRep x y H Q ∨ (rRep1 K x y H Q ∨ rRepT K x y H Q))
theorem op_mulU {X : Cx} : OpR X (binaryOp .Mult) (rMulU X.K) := op_mul.or (op_rep.or (op_rep1.or op_repT))
def MulW : WOp
  | .t (.int i), .t (.int j), K => CMul i j ∧ K (.t (.int (i * j)))
  | .l _ a _, .t (.int k), K => 0 ≤ k ∧ k ≤ 1000 ∧ k.toNat * a.length ≤ lim ∧ ∀ p, K (.l p (List.replicate k.toNat a).flatten true)
  | .t (.tup a), .t (.int k), K => a ≠ [] ∧ 1 ≤ k ∧ k ≤ 1000 ∧ a.length ≤ 10 ∧ K (.t (.tup (List.replicate k.toNat a).flatten))
  | _, _, _ => False
theorem ro_mul {K : PySem.W.Frag} : ROp (rMulU K) MulW := by
  intro tp H n v u x y Kx k rx ry w Q q
  unfold MulW at w
  split at w
  · rw [rx.int, ry.int]
    exact .inl ⟨_, _, rfl, rfl, w.1, q _ _ _ (Same.refl H) rInt w.2⟩
  · obtain ⟨xs, rfl, e1, r1, l1⟩ := rx.ls
    obtain ⟨h1, h2, h3, w⟩ := w
    rw [ry.int]
    refine .inr (.inl ⟨_, _, xs, rfl, rfl, e1, by omega, by omega, ?_, fun p hp => ?_⟩)
    · rw [r1.length, Nat.mul_comm]; exact lim_sz h3
    · exact q _ _ _ (same_new hp) (re_newL k hp (r1.rep _) (by rw [length_rep]; exact h3)) (w p)
  · obtain ⟨a, xs, rfl, e1, r1, l1⟩ := rx.tup
    obtain ⟨h0, h1, h2, h3, w⟩ := w
    rw [ry.int]
    rename_i ds kk
    by_cases e : kk = 1
    · subst e
      refine .inr (.inr (.inl ⟨a, xs, rfl, rfl, e1, ?_⟩))
      have hw : (List.replicate (1 : Int).toNat ds).flatten = ds := by simp
      rw [hw] at w
      exact q _ _ _ (Same.refl H) rx.tt w
    · have hne : xs ≠ [] := fun z => by
        subst z
        cases r1
        exact h0 rfl
      refine .inr (.inr (.inr ⟨a, _, xs, rfl, rfl, .of e1, hne, by omega, by omega, by rw [r1.length]; omega, fun p hp => ?_⟩))
      refine q _ _ _ (same_new hp) (re_newT hp (r1.rep _) ?_) w
      rw [length_rep]
      have : kk.toNat * ds.length ≤ 1000 * 10 := Nat.mul_le_mul (by omega) h3
      exact Nat.le_trans this (by decide)
  · exact w.elim
/-! ### subscripts -/
theorem atI_rel {H : Hp} {xs : List V} {ds : List T} {i : Int} {d : T} (r : RpL H xs ds) (h : atI ds i = some d) : ∃ v, atI xs i = some v ∧ Rp H v d := by
  unfold atI at h ⊢
  rw [r.length]
  cases e : ixN ds.length i with
  | none => rw [e] at h; cases h
  | some j =>
    rw [e] at h
    obtain ⟨v, h1, h2⟩ := r.getD h
    exact ⟨v, h1, h2⟩
def IxW : WOp
  | .t (.tup ds), .t (.int i), K => ∃ d, atI ds i = some d ∧ K (.t d)
  | .l _ ds _, .t (.int i), K => ∃ d, atI ds i = some d ∧ K (.t d)
  | .t (.str z), .t (.int i), K => z.length ≤ lim ∧ ∃ c, atI z.cps.toList i = some c ∧ K (.t (.str ⟨#[c]⟩))
  | _, _, _ => False
theorem ro_ix {K : PySem.W.Frag} : ROp (rIx K) IxW := by
  intro tp H n v u x y Kx k rx ry w Q q
  unfold IxW at w
  split at w
  · obtain ⟨a, xs, rfl, e1, r1, l1⟩ := rx.tup
    obtain ⟨d, hd, w⟩ := w
    obtain ⟨z, hz, rz⟩ := atI_rel r1 hd
    rw [ry.int]
    exact .inr (.inl ⟨a, xs, _, z, rfl, rfl, .of e1, hz, q _ _ (.t d) (Same.refl H) rz w⟩)
  · obtain ⟨xs, rfl, e1, r1, l1⟩ := rx.ls
    obtain ⟨d, hd, w⟩ := w
    obtain ⟨z, hz, rz⟩ := atI_rel r1 hd
    rw [ry.int]
    exact .inl ⟨_, xs, _, z, rfl, rfl, .of e1, hz, q _ _ (.t d) (Same.refl H) rz w⟩
  · obtain ⟨hl, c, hc, w⟩ := w
    rw [rx.str, ry.int]
    exact .inr (.inr ⟨_, _, c, rfl, rfl, lim_sz hl, hc, q _ _ _ (Same.refl H) rStr w⟩)
  · exact w.elim
/-- slices -/
def cutA {α : Type} (xs : List α) (lo hi : Option Int) : List α := (xs.drop (HT.sIx xs.length 0 lo)).take (HT.sIx xs.length xs.length hi - HT.sIx xs.length 0 lo)
theorem cutA_le {α : Type} (xs : List α) (lo hi : Option Int) : (cutA xs lo hi).length ≤ xs.length := by
  unfold cutA
  rw [List.length_take, List.length_drop]
  omega
theorem RpL.cut {H : Hp} {xs : List V} {ds : List T} (r : RpL H xs ds) (lo hi : Option Int) : RpL H (cutV xs lo hi) (cutA ds lo hi) := by
  unfold cutV cutA
  rw [r.length]
  exact (r.drop _).take _
def rSlU (K : PySem.W.Frag) : V → Option Int → Option Int → Hp → VK → Prop := fun x lo hi H Q => rSlL K x lo hi H Q ∨ rSlA K x lo hi H Q
theorem sl_U {X : Cx} : SlR X (rSlU X.K) := sl_list.or sl_tupA
def SlW (x : X) (lo hi : Option Int) (K : X → Prop) : Prop := match x with
  | .t (.tup ds) => K (.t (.tup (cutA ds lo hi)))
  | .l _ ds _ => ∀ p, K (.l p (cutA ds lo hi) true)
  | _ => False
theorem ro_sl {K : PySem.W.Frag} {tp : Option (Addr × Addr)} {H : Hp} {n : Nat} {v : V} {x : X} {lo hi : Option Int} {Kx : X → Prop} (k : TOk tp H n) (rx : RE tp noHs H v x) (w : SlW x lo hi Kx) (Q : VK)
    (q : ∀ w H2 z, Same H H2 → RE tp H H2 w z → Kx z → Q w H2) : rSlU K v lo hi H Q := by
  unfold SlW at w
  split at w
  · obtain ⟨a, xs, rfl, e1, r1, l1⟩ := rx.tup
    refine .inr ⟨a, xs, rfl, .of e1, fun z => ?_, fun z p hp => ?_⟩
    · rename_i ds
      have e : cutA ds lo hi = ds := by
        rw [r1.length] at z
        unfold cutA
        rw [z.1, z.2]
        simp
      rw [e] at w
      exact q _ _ _ (Same.refl H) rx.tt w
    · exact q _ _ _ (same_new hp) (re_newT hp (r1.cut lo hi) (Nat.le_trans (cutA_le _ _ _) l1)) w
  · obtain ⟨xs, rfl, e1, r1, l1⟩ := rx.ls
    exact .inl ⟨_, xs, rfl, .of e1, fun p hp => q _ _ _ (same_new hp) (re_newL k hp (r1.cut lo hi) (Nat.le_trans (cutA_le _ _ _) l1)) (w p)⟩
  · exact w.elim
/-! ### calls of built-ins -/
def rLenU (K : PySem.W.Frag) : List V → Hp → VK → Prop := fun xs H Q => (∃ p ys, xs = [.ref p] ∧ (SqL K H p ys ∨ SqT K H p ys) ∧ Q (.int ys.length) H) ∨ ∃ z, xs = [.str z] ∧ z.length ≤ sizeLine ∧ Q (.int z.length) H
theorem call_lenU {X : Cx} : CallR X (.builtin "len") (rLenU X.K) := call_len_seq.or call_len_str
def LenW (xs : List X) (K : X → Prop) : Prop := match xs with
  | [.t (.tup ds)] => K (.t (.int ds.length))
  | [.l _ ds _] => K (.t (.int ds.length))
  | [.t (.str z)] => z.length ≤ lim ∧ K (.t (.int z.length))
  | _ => False
theorem REs.one {tp : Option (Addr × Addr)} {Hs H : Hp} {vs : List V} {x : X} (r : REs tp Hs H vs [x]) : ∃ v, vs = [v] ∧ RE tp Hs H v x := by
  cases r with
  | cons a b => cases b; exact ⟨_, rfl, a⟩
theorem REs.two {tp : Option (Addr × Addr)} {Hs H : Hp} {vs : List V} {x y : X} (r : REs tp Hs H vs [x, y]) : ∃ v u, vs = [v, u] ∧ RE tp Hs H v x ∧ RE tp Hs H u y := by
  cases r with
  | cons a b => cases b with
    | cons c d => cases d; exact ⟨_, _, rfl, a, c⟩
theorem rc_len {K : PySem.W.Frag} : RCl (rLenU K) LenW := by
  intro tp H n vs xs Kx k r w Q q
  unfold LenW at w
  split at w
  · obtain ⟨v, rfl, rx⟩ := r.one
    obtain ⟨a, ys, rfl, e1, r1, l1⟩ := rx.tup
    refine .inl ⟨a, ys, rfl, .inr (.of e1), ?_⟩
    rw [r1.length]
    exact q _ _ _ (Same.refl H) rInt w
  · obtain ⟨v, rfl, rx⟩ := r.one
    obtain ⟨ys, rfl, e1, r1, l1⟩ := rx.ls
    refine .inl ⟨_, ys, rfl, .inl (.of e1), ?_⟩
    rw [r1.length]
    exact q _ _ _ (Same.refl H) rInt w
  · obtain ⟨v, rfl, rx⟩ := r.one
    rw [rx.str]
    exact .inr ⟨_, rfl, lim_sz w.1, q _ _ _ (Same.refl H) rInt w.2⟩
  · exact w.elim
def rListU (K : PySem.W.Frag) : List V → Hp → VK → Prop := fun xs H Q => ∃ p ys, xs = [.ref p] ∧ (SqL K H p ys ∨ SqT K H p ys) ∧ ∀ l, H l = none → Q (.ref l) (upd H l (.lst ys))
def ListW (xs : List X) (K : X → Prop) : Prop := match xs with
  | [.t (.tup ds)] => ∀ p, K (.l p ds true)
  | [.l _ ds _] => ∀ p, K (.l p ds true)
  | _ => False
theorem rc_list {K : PySem.W.Frag} : RCl (rListU K) ListW := by
  intro tp H n vs xs Kx k r w Q q
  unfold ListW at w
  split at w
  · obtain ⟨v, rfl, rx⟩ := r.one
    obtain ⟨a, ys, rfl, e1, r1, l1⟩ := rx.tup
    exact ⟨a, ys, rfl, .inr (.of e1), fun p hp => q _ _ _ (same_new hp) (re_newL k hp r1 l1) (w p)⟩
  · obtain ⟨v, rfl, rx⟩ := r.one
    obtain ⟨ys, rfl, e1, r1, l1⟩ := rx.ls
    exact ⟨_, ys, rfl, .inl (.of e1), fun p hp => q _ _ _ (same_new hp) (re_newL k hp r1 l1) (w p)⟩
  · exact w.elim
def rTupleU (K : PySem.W.Frag) : List V → Hp → VK → Prop := fun xs H Q => ∃ p ys, xs = [.ref p] ∧ ((SqL K H p ys ∧ ∀ l, H l = none → Q (.ref l) (upd H l (.tup ys))) ∨ (SqT K H p ys ∧ Q (.ref p) H))
def TupleW (xs : List X) (K : X → Prop) : Prop := match xs with
  | [.t (.tup ds)] => K (.t (.tup ds))
  | [.l _ ds _] => K (.t (.tup ds))
  | _ => False
theorem rc_tuple {K : PySem.W.Frag} : RCl (rTupleU K) TupleW := by
  intro tp H n vs xs Kx k r w Q q
  unfold TupleW at w
  split at w
  · obtain ⟨v, rfl, rx⟩ := r.one
    have rx' := rx
    obtain ⟨a, ys, rfl, e1, r1, l1⟩ := rx.tup
    exact ⟨a, ys, rfl, .inr ⟨.of e1, q _ _ _ (Same.refl H) rx'.tt w⟩⟩
  · obtain ⟨v, rfl, rx⟩ := r.one
    obtain ⟨ys, rfl, e1, r1, l1⟩ := rx.ls
    exact ⟨_, ys, rfl, .inl ⟨.of e1, fun p hp => q _ _ _ (same_new hp) (re_newT hp r1 l1) w⟩⟩
  · exact w.elim
/-- isinstance -/
def T.tyn : T → String
  | .non => "NoneType" | .bl _ => "bool" | .int _ => "int" | .str _ => "str" | .tup _ => "tuple" | .lst => "list"
def IsiW (xs : List X) (K : X → Prop) : Prop := match xs with
  | [.t d, .ty n] => ∃ b, kitB d.tyn n = some b ∧ K (.t (.bl b))
  | [.l _ _ _, .ty n] => ∃ b, kitB "list" n = some b ∧ K (.t (.bl b))
  | _ => False
theorem Rp.ty {K : PySem.W.Frag} {H : Hp} {v : V} {d : T} (r : Rp H v d) : TyX K H v (.type d.tyn) := by
  cases r with
  | non => exact .base .non
  | bl b => exact .base (.bl b)
  | int b => exact .base (.int b)
  | str b => exact .base (.str b)
  | tup h _ _ => exact .base (.tup h)
  | lst h => exact .base (.lst h)
theorem rc_isi {K : PySem.W.Frag} : RCl (rIsi K) IsiW := by
  intro tp H n vs xs Kx k r w Q q
  unfold IsiW at w
  split at w
  · obtain ⟨v, u, rfl, rx, ry⟩ := r.two
    obtain ⟨b, hb, w⟩ := w
    have ry' : u = .ty _ := ry
    subst ry'
    exact ⟨v, _, _, _, b, rfl, .ty _, Rp.ty rx, kit_ty hb, q _ _ _ (Same.refl H) rBl w⟩
  · obtain ⟨v, u, rfl, rx, ry⟩ := r.two
    obtain ⟨b, hb, w⟩ := w
    obtain ⟨ys, rfl, e1, r1, l1⟩ := rx.ls
    have ry' : u = .ty _ := ry
    subst ry'
    exact ⟨_, _, _, _, b, rfl, .ty _, .base (.lst e1), kit_ty hb, q _ _ _ (Same.refl H) rBl w⟩
  · exact w.elim
def AllW (xs : List X) (K : X → Prop) : Prop := match xs with
  | [.l _ ds _] => ∃ bs : List Bool, ds = bs.map T.bl ∧ K (.t (.bl (bs.all id)))
  | _ => False
theorem rc_all {K : PySem.W.Frag} : RCl (rAll K) AllW := by
  intro tp H n vs xs Kx k r w Q q
  unfold AllW at w
  split at w
  · obtain ⟨v, rfl, rx⟩ := r.one
    obtain ⟨ys, rfl, e1, r1, l1⟩ := rx.ls
    obtain ⟨bs, rfl, w⟩ := w
    have e := r1.bls
    subst e
    exact ⟨_, bs, rfl, .of e1, q _ _ _ (Same.refl H) rBl w⟩
  · exact w.elim
def rIntU : List V → Hp → VK → Prop := fun xs H Q => (∃ i, xs = [.int i] ∧ Q (.int i) H) ∨ ∃ k, xs = [.bl k] ∧ Q (.int (if k then 1 else 0)) H
def IntW (xs : List X) (K : X → Prop) : Prop := match xs with
  | [.t (.bl b)] => K (.t (.int (if b then 1 else 0)))
  | _ => False
theorem rc_int : RCl rIntU IntW := by
  intro tp H n vs xs Kx k r w Q q
  unfold IntW at w
  split at w
  · obtain ⟨v, rfl, rx⟩ := r.one
    rw [rx.bl]
    exact .inr ⟨_, rfl, q _ _ _ (Same.refl H) rInt w⟩
  · exact w.elim
def rMaxU : List V → Hp → VK → Prop := fun xs H Q => ∃ i j, xs = [.int i, .int j] ∧ Q (.int (if j > i then j else i)) H
def MaxW (xs : List X) (K : X → Prop) : Prop := match xs with
  | [.t (.int i), .t (.int j)] => K (.t (.int (if j > i then j else i)))
  | _ => False
theorem rc_max : RCl rMaxU MaxW := by
  intro tp H n vs xs Kx k r w Q q
  unfold MaxW at w
  split at w
  · obtain ⟨v, u, rfl, rx, ry⟩ := r.two
    rw [rx.int, ry.int]
    exact ⟨_, _, rfl, q _ _ _ (Same.refl H) rInt w⟩
  · exact w.elim
end CK
/-! part CkD -/
set_option Elab.async false
set_option linter.all false
set_option maxRecDepth 100000
set_option maxHeartbeats 1000000
/-! The layer CK, part D: the rules of expressions, tests, arguments. -/
namespace CK
open PySem PySem.Spec PyProof.Rows L2
section
variable {ρ : En} {n : Nat} {K : X → Nat → Prop} {te ta tb tc : TE} {tt tu : TT} {F : PySem.W.Frag}
theorem Ev.mono {K' : X → Nat → Prop} (h : Ev te ρ n K) (k : ∀ x m, K x m → K' x m) : Ev te ρ n K' := fun tp H0 H σ E Q q =>
  h tp H0 H σ E Q fun v H2 x m s t r z => q v H2 x m s t r (k x m z)
theorem EvT.mono {K K' : Bool → Nat → Prop} (h : EvT tt ρ n K) (k : ∀ x m, K x m → K' x m) : EvT tt ρ n K' := fun tp H0 H σ E Q q =>
  h tp H0 H σ E Q fun v H2 m s t z => q v H2 m s t (k v m z)
def X.isGh : X → Bool
  | .gh _ => true
  | _ => false
theorem ev_var {i : Nat} {x : X} (h : ρ.s[i]? = some (some x)) (hx : x.isGh = false) (k : K x.rd n) : Ev (tVar i) ρ n K := fun tp H0 H σ E Q q => by
  obtain ⟨v, e, r⟩ := E.slot i x h
  exact ⟨v, e, q v H _ n (Stp.refl H) E.tape (r.rd E fun a z => by rw [z] at hx; cases hx) k⟩
theorem ev_c {v : V} {x : X} (r : ∀ tp Hs H, RE tp Hs H v x) (k : K x n) : Ev (tC v) ρ n K := fun tp H0 H σ E Q q => q v H x n (Stp.refl H) E.tape (r tp H H) k
theorem ev_int {i : Int} (k : K (.t (.int i)) n) : Ev (tC (.int i)) ρ n K := ev_c (fun _ _ _ => rInt) k
theorem ev_str {i : Str} (k : K (.t (.str i)) n) : Ev (tC (.str i)) ρ n K := ev_c (fun _ _ _ => rStr) k
theorem ev_bl {i : Bool} (k : K (.t (.bl i)) n) : Ev (tC (.bl i)) ρ n K := ev_c (fun _ _ _ => rBl) k
theorem ev_non (k : K (.t .non) n) : Ev (tC .non) ρ n K := ev_c (x := .t .non) (fun _ _ _ => Rp.non) k
theorem ev_ty {i : String} (k : K (.ty i) n) : Ev (tC (.ty i)) ρ n K := ev_c (x := .ty i) (fun _ _ _ => rfl) k
theorem ev_op {r : R2} {W : WOp} (hr : ROp r W) (h : Ev ta ρ n fun x m => Ev tb ρ m fun y m2 => W x y fun z => K z m2) : Ev (tOp r ta tb) ρ n K := fun tp H0 H σ E Q q =>
  h tp H0 H σ E _ fun v H1 x m s1 k1 rx hb => hb tp H0 H1 σ (E.stp s1 k1) _ fun u H2 y m2 s2 k2 ry w =>
    hr tp H2 m2 v u x y (fun z => K z m2) k2 (rx.stp s2 (s2.sta k1 k2)).weak ry.weak w Q fun w' H3 z s3 rz kz => q w' H3 z m2 ((s1.trans s2).trans (stpS s3)) (k2.same s3) (rz.back (s1.trans s2)) kz
theorem ev_neg (h : Ev ta ρ n fun x m => ∃ i, x = .t (.int i) ∧ K (.t (.int (-i))) m) : Ev (tUn (rU fun i => .int (-i)) ta) ρ n K := fun tp H0 H σ E Q q =>
  h tp H0 H σ E _ fun v H1 x m s1 k1 rx ⟨i, e, kk⟩ => by
    subst e
    rw [rx.int]
    exact ⟨i, rfl, q _ H1 _ m s1 k1 rInt kk⟩
theorem ev_cb {r : List V → Hp → VK → Prop} {W : List X → (X → Prop) → Prop} {t : TA} (hr : RCl r W) (h : EvA t ρ n fun xs m => W xs fun z => K z m) : Ev (tCB r t) ρ n K := fun tp H0 H σ E Q q =>
  h tp H0 H σ E _ fun vs H1 xs m s1 k1 rs w => hr tp H1 m vs xs (fun z => K z m) k1 (Paired.mono (fun _ _ z => RE.weak z) rs) w Q fun w' H3 z s3 rz kz => q w' H3 z m (s1.trans (stpS s3)) (k1.same s3) (rz.back s1) kz
theorem ea_nil {K : List X → Nat → Prop} (k : K [] n) : EvA tNil ρ n K := fun tp H0 H σ E Q q => q [] H [] n (Stp.refl H) E.tape .nil k
theorem ea_cons {K : List X → Nat → Prop} {t : TA} (h : Ev ta ρ n fun x m => EvA t ρ m fun xs m2 => K (x :: xs) m2) : EvA (tCons ta t) ρ n K := fun tp H0 H σ E Q q =>
  h tp H0 H σ E _ fun v H1 x m s1 k1 rx hb => hb tp H0 H1 σ (E.stp s1 k1) _ fun vs H2 xs m2 s2 k2 rs kk =>
    q (v :: vs) H2 (x :: xs) m2 (s1.trans s2) k2 (.cons (rx.stp s2 (s2.sta k1 k2)) (rs.back s1)) kk
theorem ev_tup {t : TA} (h : EvA t ρ n fun xs m => ∃ ds, dats xs = some ds ∧ ds.length ≤ lim ∧ K (.t (.tup ds)) m) : Ev (tTup t) ρ n K := fun tp H0 H σ E Q q =>
  h tp H0 H σ E _ fun vs H1 xs m s1 k1 rs ⟨ds, e, hl, kk⟩ => by
    have r := rs.dats e
    refine ⟨by rw [r.length]; exact lim_sz hl, fun p hp => ?_⟩
    exact q _ _ _ m (s1.trans (stpS (same_new hp))) (k1.same (same_new hp)) (re_newT hp r hl) kk
theorem ev_lst {t : TA} (h : EvA t ρ n fun xs m => ∃ ds, dats xs = some ds ∧ ds.length ≤ lim ∧ ∀ p, K (.l p ds true) m) : Ev (tLst t) ρ n K := fun tp H0 H σ E Q q =>
  h tp H0 H σ E _ fun vs H1 xs m s1 k1 rs ⟨ds, e, hl, kk⟩ => by
    have r := rs.dats e
    refine ⟨by rw [r.length]; exact lim_sz hl, fun p hp => ?_⟩
    exact q _ _ _ m (s1.trans (stpS (same_new hp))) (k1.same (same_new hp)) ((re_newL k1 hp r hl).back s1) (kk p)
def EvO (to : TO) (ρ : En) (n : Nat) (K : Option Int → Nat → Prop) : Prop := ∀ tp H0 H σ, EOk tp H0 H σ ρ n → ∀ Q : Option Int → Hp → Prop, (∀ o H2 m, Stp tp H H2 → TOk tp H2 m → K o m → Q o H2) → to σ H Q
theorem eo_none {K : Option Int → Nat → Prop} (k : K none n) : EvO tNoPart ρ n K := fun tp H0 H σ E Q q => q none H n (Stp.refl H) E.tape k
theorem eo_some {K : Option Int → Nat → Prop} (h : Ev ta ρ n fun x m => ∃ i, x = .t (.int i) ∧ K (some i) m) : EvO (tPart ta) ρ n K := fun tp H0 H σ E Q q =>
  h tp H0 H σ E _ fun v H1 x m s1 k1 rx ⟨i, e, kk⟩ => by
    subst e
    exact ⟨i, rx.int, q _ H1 m s1 k1 kk⟩
theorem ev_sl {tl th : TO} (h : Ev ta ρ n fun x m => EvO tl ρ m fun lo m2 => EvO th ρ m2 fun hi m3 => SlW x lo hi fun z => K z m3) : Ev (tSl (rSlU F) ta tl th) ρ n K := fun tp H0 H σ E Q q =>
  h tp H0 H σ E _ fun v H1 x m s1 k1 rx h2 => h2 tp H0 H1 σ (E.stp s1 k1) _ fun lo H2 m2 s2 k2 h3 => h3 tp H0 H2 σ (E.stp (s1.trans s2) k2) _ fun hi H3 m3 s3 k3 w => by
    have s13 := s2.trans s3
    exact ro_sl k3 (rx.stp s13 (s13.sta k1 k3)).weak w Q fun w' H4 z s4 rz kz => q w' H4 z m3 ((s1.trans s13).trans (stpS s4)) (k3.same s4) (rz.back (s1.trans s13)) kz
/-- a key of ints -/
def T.key : T → Option Key
  | .int i => some (.inl i)
  | .str x => some (.inr x)
  | _ => none
def keys : List T → Option (List Key)
  | [] => some []
  | d :: ds => match d.key, keys ds with | some k, some ks => some (k :: ks) | _, _ => none
theorem RpL.keys {H : Hp} : ∀ {vs : List V} {ds : List T} {ks : List Key}, RpL H vs ds → keys ds = some ks → vs = ks.map kV
  | _, [], _, h, e => by cases h; cases e; rfl
  | _, d :: ds, ks, h, e => by
    cases h with
    | cons a b =>
      unfold CK.keys at e
      cases h1 : d.key with
      | none => rw [h1] at e; cases e
      | some k =>
        rw [h1] at e
        cases h2 : CK.keys ds with
        | none => rw [h2] at e; cases e
        | some es =>
          rw [h2] at e
          cases e
          rw [RpL.keys b h2]
          cases d <;> cases h1 <;> cases a <;> rfl
def valT (kvs : List (List Key × T)) (k : List Key) : Option T := (kvs.find? fun kv => decide (kv.1 = k)).map (·.2)
def putT (kvs : List (List Key × T)) (k : List Key) (v : T) : List (List Key × T) :=
  if (kvs.any fun kv => decide (kv.1 = k)) = true then kvs.map (fun kv => if kv.1 = k then (kv.1, v) else kv) else kvs ++ [(k, v)]
theorem RpD.val {H : Hp} {k : List Key} {d : T} : ∀ {ws : List (List Key × V)} {kvs : List (List Key × T)}, RpD H ws kvs → valT kvs k = some d → ∃ v, valV ws k = some v ∧ Rp H v d
  | _, _, .nil, e => by cases e
  | (k1, v1) :: ws, (_, d1) :: kvs, .cons r t, e => by
    by_cases h : k1 = k
    · have e' : d1 = d := by simpa [valT, List.find?_cons, h] using e
      subst e'
      exact ⟨v1, valV_pos (p := (k1, v1)) h, r⟩
    · have e' : valT kvs k = some d := by simpa [valT, List.find?_cons, h] using e
      obtain ⟨v, h1, h2⟩ := RpD.val t e'
      exact ⟨v, by rw [valV_neg (p := (k1, v1)) h]; exact h1, h2⟩
theorem ev_dget (h : Ev ta ρ n fun x m => Ev tb ρ m fun y m2 => ∃ a kvs o ds ks d, x = .dic a kvs o ∧ y = .t (.tup ds) ∧ keys ds = some ks ∧ valT kvs ks = some d ∧ K (.t d) m2) : Ev (tDGet ta tb) ρ n K := fun tp H0 H σ E Q q =>
  h tp H0 H σ E _ fun v H1 x m s1 k1 rx hb => hb tp H0 H1 σ (E.stp s1 k1) _ fun u H2 y m2 s2 k2 ry ⟨a, kvs, o, ds, ks, d, e1, e2, e3, e4, kk⟩ => by
    subst e1 e2
    have rx2 := rx.stp s2 (s2.sta k1 k2)
    obtain ⟨rfl, na, ⟨ws, hd, rd, hl⟩, _⟩ := rx2
    obtain ⟨b, xs, rfl, hb2, rl, ll⟩ := ry.tup
    have ex := rl.keys e3
    subst ex
    obtain ⟨v, hv, rv⟩ := rd.val e4
    refine ⟨a, v, rfl, .inr ⟨ws, ks, b, .inl hd, rfl, hb2, hv.symm⟩, q _ H2 (.t d) m2 (s1.trans s2) k2 rv kk⟩
theorem ev_dnew (k : ∀ p, K (.dic p [] true) n) : Ev tDNewT ρ n K := fun tp H0 H σ E Q q p hp =>
  q _ _ (.dic p [] true) n (stpS (same_new hp)) (E.tape.same (same_new hp)) ⟨rfl, E.tape.ne hp, ⟨[], upd_same, .nil, Nat.zero_le _⟩, fun _ => ⟨hp, ⟨[], upd_same, .nil, Nat.zero_le _⟩⟩⟩ (k p)
theorem ev_if (h : EvT tt ρ n fun b m => (b = true → Ev ta ρ m K) ∧ (b = false → Ev tb ρ m K)) : Ev (tIf tt ta tb) ρ n K := fun tp H0 H σ E Q q =>
  h tp H0 H σ E _ fun b H1 m s1 k1 ⟨h1, h2⟩ => by
    cases b with
    | true => exact h1 rfl tp H0 H1 σ (E.stp s1 k1) Q fun v H2 x m2 s2 k2 rx kk => q v H2 x m2 (s1.trans s2) k2 (rx.back s1) kk
    | false => exact h2 rfl tp H0 H1 σ (E.stp s1 k1) Q fun v H2 x m2 s2 k2 rx kk => q v H2 x m2 (s1.trans s2) k2 (rx.back s1) kk
theorem ev_and (h : Ev ta ρ n fun x m => ∃ b, x = .t (.bl b) ∧ (b = true → Ev tb ρ m K) ∧ (b = false → K (.t (.bl false)) m)) : Ev (tAndV ta tb) ρ n K := fun tp H0 H σ E Q q =>
  h tp H0 H σ E _ fun v H1 x m s1 k1 rx ⟨b, e, h1, h2⟩ => by
    subst e
    refine ⟨b, rx.bl, ?_⟩
    cases b with
    | true => exact h1 rfl tp H0 H1 σ (E.stp s1 k1) Q fun v H2 x m2 s2 k2 rx kk => q v H2 x m2 (s1.trans s2) k2 (rx.back s1) kk
    | false => exact q _ H1 _ m s1 k1 rBl (h2 rfl)
theorem ev_or (h : Ev ta ρ n fun x m => ∃ b, x = .t (.bl b) ∧ (b = true → K (.t (.bl true)) m) ∧ (b = false → Ev tb ρ m K)) : Ev (tOrV ta tb) ρ n K := fun tp H0 H σ E Q q =>
  h tp H0 H σ E _ fun v H1 x m s1 k1 rx ⟨b, e, h1, h2⟩ => by
    subst e
    refine ⟨b, rx.bl, ?_⟩
    cases b with
    | false => exact h2 rfl tp H0 H1 σ (E.stp s1 k1) Q fun v H2 x m2 s2 k2 rx kk => q v H2 x m2 (s1.trans s2) k2 (rx.back s1) kk
    | true => exact q _ H1 _ m s1 k1 rBl (h1 rfl)
theorem ev_not (h : Ev ta ρ n fun x m => ∃ b, x = .t (.bl b) ∧ K (.t (.bl (!b))) m) : Ev (tNotV ta) ρ n K := fun tp H0 H σ E Q q =>
  h tp H0 H σ E _ fun v H1 x m s1 k1 rx ⟨b, e, kk⟩ => by
    subst e
    exact ⟨b, rx.bl, q _ H1 _ m s1 k1 rBl kk⟩
theorem ev_chain {r r' : R2} {W W' : WOp} (hr : ROp r W) (hr' : ROp r' W') (h : Ev ta ρ n fun x m => Ev tb ρ m fun y m2 => W x y fun z => ∃ b, z = .t (.bl b) ∧ (b = true → Ev tc ρ m2 fun w m3 => W' y w fun u => K u m3) ∧ (b = false → K (.t (.bl false)) m2)) :
    Ev (tChain r r' ta tb tc) ρ n K := fun tp H0 H σ E Q q =>
  h tp H0 H σ E _ fun v H1 x m s1 k1 rx hb => hb tp H0 H1 σ (E.stp s1 k1) _ fun u H2 y m2 s2 k2 ry w =>
    hr tp H2 m2 v u x y _ k2 (rx.stp s2 (s2.sta k1 k2)).weak ry.weak w _ fun w' H3 z s3 rz ⟨b, e, h1, h2⟩ => by
      subst e
      refine ⟨b, rz.bl, ?_⟩
      have s03 := (s1.trans s2).trans (stpS (tp := tp) s3)
      have k3 := k2.same s3
      cases b with
      | true =>
        refine h1 rfl tp H0 H3 σ (E.stp s03 k3) _ fun w4 H4 xw m4 s4 k4 r4 w5 => ?_
        have s24 := (stpS (tp := tp) s3).trans s4
        exact hr' tp H4 m4 u w4 y xw _ k4 (ry.stp s24 (s24.sta k2 k4)).weak r4.weak w5 Q fun w6 H6 z6 s6 r6 k6 => q w6 H6 z6 m4 ((s03.trans s4).trans (stpS s6)) (k4.same s6) (r6.back (s03.trans s4)) k6
      | false => exact q _ H3 _ m2 s03 k3 rBl (h2 rfl)
theorem X.arg_re {tp : Option (Addr × Addr)} {Hs H : Hp} {v : V} {x : X} (r : RE tp Hs H v x) : RE tp H H v x.arg := by
  cases x with
  | l a ds o => exact ⟨r.1, r.2.1, r.2.2.1, fun z => Bool.noConfusion z⟩
  | dic a ds o => exact ⟨r.1, r.2.1, r.2.2.1, fun z => Bool.noConfusion z⟩
  | t d => exact r
  | ty n => exact r
  | tape => exact r
  | gh a => exact r
theorem X.args_re {tp : Option (Addr × Addr)} {Hs H : Hp} : ∀ {vs : List V} {xs : List X}, REs tp Hs H vs xs → REs tp H H vs (xs.map X.arg)
  | _, _, .nil => .nil
  | _, _, .cons a b => .cons (X.arg_re a) (X.args_re b)
theorem ev_call {G : PF} {E : XK} {t : TA} (h : EvA t ρ n fun xs m => G (xs.map X.arg) m K) : Ev (tCall (spU G) [] E t) ρ n K := fun tp H0 H σ EE Q q =>
  h tp H0 H σ EE _ fun vs H1 xs m s1 k1 rs hg => by
    show spU G (vs ++ []) H1 Q E
    rw [List.append_nil]
    exact ⟨tp, xs.map X.arg, m, K, k1, X.args_re rs, hg, fun v H2 x m2 s2 k2 rx kk => q v H2 x m2 (s1.trans s2) k2 (rx.back s1) kk⟩
/-! tests -/
variable {KB : Bool → Nat → Prop}
theorem et_test (h : Ev te ρ n fun x m => ∃ b, x = .t (.bl b) ∧ KB b m) : EvT (tTest te) ρ n KB := fun tp H0 H σ E Q q =>
  h tp H0 H σ E _ fun v H1 x m s1 k1 rx ⟨b, e, kk⟩ => by
    subst e
    exact ⟨b, rx.bl, q b H1 m s1 k1 kk⟩
theorem et_B (h : Ev te ρ n fun x m => ∃ b, x = .t (.bl b) ∧ KB b m) : EvT (tB te) ρ n KB := fun tp H0 H σ E Q q =>
  h tp H0 H σ E _ fun v H1 x m s1 k1 rx ⟨b, e, kk⟩ => by
    subst e
    exact ⟨b, rx.bl, q b H1 m s1 k1 kk⟩
theorem et_and (h : EvT tt ρ n fun b m => (b = true → EvT tu ρ m KB) ∧ (b = false → KB false m)) : EvT (tAnd tt tu) ρ n KB := fun tp H0 H σ E Q q =>
  h tp H0 H σ E _ fun b H1 m s1 k1 ⟨h1, h2⟩ => by
    cases b with
    | true => exact h1 rfl tp H0 H1 σ (E.stp s1 k1) Q fun b H2 m2 s2 k2 kk => q b H2 m2 (s1.trans s2) k2 kk
    | false => exact q _ H1 m s1 k1 (h2 rfl)
theorem et_or (h : EvT tt ρ n fun b m => (b = true → KB true m) ∧ (b = false → EvT tu ρ m KB)) : EvT (tOr tt tu) ρ n KB := fun tp H0 H σ E Q q =>
  h tp H0 H σ E _ fun b H1 m s1 k1 ⟨h1, h2⟩ => by
    cases b with
    | false => exact h2 rfl tp H0 H1 σ (E.stp s1 k1) Q fun b H2 m2 s2 k2 kk => q b H2 m2 (s1.trans s2) k2 kk
    | true => exact q _ H1 m s1 k1 (h1 rfl)
theorem et_not (h : EvT tt ρ n fun b m => KB (!b) m) : EvT (tNot tt) ρ n KB := fun tp H0 H σ E Q q =>
  h tp H0 H σ E _ fun b H1 m s1 k1 kk => q (!b) H1 m s1 k1 kk
theorem et_yes (k : KB true n) : EvT tYes ρ n KB := fun tp H0 H σ E Q q => q true H n (Stp.refl H) E.tape k
/-! list(range(a, b)), list.count -/
def rgT (a b : Int) : List T := (List.range (b - a).toNat).map fun i => T.int (a + (i : Nat))
theorem rel_rg {H : Hp} (a b : Int) : RpL H (rgV a b) (rgT a b) := by
  unfold rgV rgT
  generalize List.range (b - a).toNat = l
  induction l with
  | nil => exact .nil
  | cons i l ih => exact .cons (.int _) ih
theorem ev_lrg2 (h : Ev ta ρ n fun x m => Ev tb ρ m fun y m2 => ∃ i j, x = .t (.int i) ∧ y = .t (.int j) ∧ -(2 ^ 62) ≤ i ∧ i < 2 ^ 62 ∧ -(2 ^ 62) ≤ j ∧ j < 2 ^ 62 ∧ (j - i).toNat ≤ lim ∧ ∀ p, K (.l p (rgT i j) true) m2) :
    Ev (tLstRg (tRg2 ta tb)) ρ n K := fun tp H0 H σ E Q q =>
  h tp H0 H σ E _ fun v H1 x m s1 k1 rx hb => hb tp H0 H1 σ (E.stp s1 k1) _ fun u H2 y m2 s2 k2 ry ⟨i, j, e1, e2, b1, b2, b3, b4, b5, kk⟩ => by
    subst e1 e2
    refine ⟨i, j, rx.int, ry.int, ⟨b1, b2, b3, b4, Nat.le_trans b5 (by decide)⟩, fun p hp => ?_⟩
    have s12 := s1.trans s2
    exact q _ _ _ m2 (s12.trans (stpS (same_new hp))) (k2.same (same_new hp)) ((re_newL k2 hp (rel_rg i j) (by unfold rgT; rw [List.length_map, List.length_range]; exact b5)).back s12) (kk p)
theorem ev_cnt (h : Ev ta ρ n fun x m => ∃ (a : Addr) (ns : List Int) (o : Bool), x = .l a (ns.map T.int) o ∧ Ev tb ρ m fun y m2 => ∃ k : Int, y = .t (.int k) ∧ K (.t (.int (ns.count k : Nat))) m2) : Ev (tBM F "list" (rCntI F) ta (tCons tb tNil)) ρ n K := fun tp H0 H σ E Q q =>
  h tp H0 H σ E _ fun v H1 x m s1 k1 rx ⟨a, ns, o, e, hb⟩ => by
    subst e
    obtain ⟨xs, rfl, e1, r1, _⟩ := rx.ls
    refine ⟨Or.inl ⟨rfl, _, Or.inl (Or.inl e1)⟩, ?_⟩
    refine hb tp H0 H1 σ (E.stp s1 k1) _ fun u H2 y m2 s2 k2 ry ⟨k, e2, kk⟩ => ?_
    subst e2
    have rx2 := rx.stp s2 (s2.sta k1 k2)
    obtain ⟨ys, e4, h1, r2, _⟩ := rx2.ls
    have e3 := r2.ints
    subst e3
    show rCntI F (.ref a) [u] H2 Q
    rw [ry.int]
    exact ⟨a, ns, k, rfl, rfl, .of h1, q _ H2 _ m2 (s1.trans s2) k2 rInt kk⟩
end
end CK
/-! part CkI -/
set_option Elab.async false
set_option linter.all false
set_option maxRecDepth 100000
set_option maxHeartbeats 2000000
/-! The layer CK, part I: what is walked: enumerate and zip over lists and tuples in any mix, the values of a dict with tuple keys. -/
namespace CK
open PySem PySem.Spec PyProof.Rows L2
/-! ### a list or a tuple, by its kind -/
def SqK (b : Bool) (K : PySem.W.Frag) (H : Hp) (a : Addr) (xs : List V) : Prop := match b with
  | true => SqT K H a xs
  | false => SqL K H a xs
def isK (b : Bool) (h : Heap) (a : Addr) (its : Array Value) : Prop := match b with
  | true => h.IsTuple a its
  | false => h.IsList a its
def itK (b : Bool) (h : Heap) (it a : Addr) (i : Nat) : Prop := match b with
  | true => h.IsTupleIter it a i
  | false => h.IsListIter it a i
def obK (b : Bool) (a : Addr) : Obj := match b with
  | true => { cls := .type "tuple_iterator", data := .fields #[.ref a, .int 0 0] }
  | false => { cls := .type "list_iterator", data := .fields #[.ref a, .int 0 0] }
theorem beginsK (b : Bool) (a : Addr) (its : Array Value) : Begins (.ref a) (obK b a) fun h => isK b h a its := by
  cases b with
  | true => exact begins_tuple a its
  | false => exact begins_list a its
theorem itK_at {b : Bool} {h h' : Heap} {it a : Addr} {i : Nat} (x : itK b h it a i) (k : ∀ o, h.get? it = some o → h'.get? it = some o) : itK b h' it a i := by
  cases b with
  | true => exact Heap.IsTupleIter.at (show h.IsTupleIter it a i from x) k
  | false => exact Heap.IsListIter.at (show h.IsListIter it a i from x) k
theorem itK_obj {b : Bool} {h : Heap} {it a : Addr} {i : Nat} (x : itK b h it a i) : ∃ o, h.get? it = some o ∧ ∀ v, o.data ≠ .cell v := by
  cases b with
  | true =>
    obtain ⟨o, e, _, d⟩ := (show h.IsTupleIter it a i from x)
    exact ⟨o, e, fun v q => by rw [d] at q; cases q⟩
  | false =>
    obtain ⟨o, e, _, d⟩ := (show h.IsListIter it a i from x)
    exact ⟨o, e, fun v q => by rw [d] at q; cases q⟩
theorem itK_new {b : Bool} {h : Heap} {it a : Addr} (e : h.get? it = some (obK b a)) : itK b h it a 0 := by
  cases b with
  | true => exact ⟨_, e, rfl, rfl⟩
  | false => exact ⟨_, e, rfl, rfl⟩
theorem drawsK {prog : Program} {w : World} {A : Around} (hh : A.handled = none) (b : Bool) (it a : Addr) (hne : a ≠ it) (its : Array Value) :
    Draws prog w A it [it, a] its.size (fun i v => its[i]? = some v) (fun i h => itK b h it a i ∧ isK b h a its) := by
  cases b with
  | true => exact Draws.tuple hh it a hne its
  | false => exact Draws.list hh it a hne its
section
variable {X : Cx} {pins : List (Addr × Obj)} {σ : L2.St} {H : Hp} {s : Shared} {a : Addr} {xs : List V}
theorem invK {b : Bool} (I : Inv X pins σ H s) (h : SqK b X.K H a xs) : ∃ its : List Value, Vals xs its ∧ isK b s.heap a its.toArray ∧ a < s.heap.objs.size := by
  cases b with
  | true =>
    obtain ⟨its, r, p, _⟩ := I.tuple (show SqT X.K H a xs from h)
    exact ⟨its, r, p, p.lt⟩
  | false =>
    obtain ⟨its, r, p, _⟩ := I.list (show SqL X.K H a xs from h)
    exact ⟨its, r, p.isList, p.lt⟩
theorem invK_inj {b : Bool} {ys : List V} (I : Inv X pins σ H s) (h : SqK b X.K H a xs) (h' : SqK b X.K H a ys) : xs = ys := by
  cases b with
  | true => exact I.tuple_inj (show SqT X.K H a xs from h) h'
  | false => exact I.list_inj (show SqL X.K H a xs from h) h'
end
/-! ### an iterator of new pairs -/
theorem turn_pairs {P : Program} {w : World} {K : PySem.W.Frag} {elts : List Expr} {kk : Nat} {tpos : Pos} {J : It} {fp : List Addr} {it : Addr} {tn : Nat → Heap → Prop} (mem : it ∈ fp)
    (obj : ∀ i h, tn i h → ∀ b ∈ fp, ∃ o, h.get? b = some o ∧ ∀ v, o.data ≠ .cell v)
    (keep : ∀ i h h', tn i h → (∀ b ∈ fp, ∀ o, h.get? b = some o → h'.get? b = some o) → tn i h')
    (self : ∀ (A : Around) (i : Nat) (s : Shared) (Q : Value → Shared → Prop) (E : Value → Shared → Prop), tn i s.heap → Q (.ref it) s → wpAny (model P w) A (pyIter (.ref it)) Q E s)
    (W : ∀ (X : Cx), X.prog = P → X.w = w → X.K = K → X.A.handled = none → ∀ (pins : List (Addr × Obj)) (s : Shared) (σ : L2.St) (H : Hp), Inv X pins σ H s → ∀ i, tn i s.heap → (J.go i H ∨ J.stop i H) →
      ∃ (FP wr : List Addr) (n : Nat) (Y : Nat → Heap → Value → Heap → Prop) (St : Nat → Heap → Prop), GoesN P w X.A (.Tuple elts kk tpos) it FP wr n Y St ∧ (∀ b ∈ wr, b ∈ fp) ∧ St i s.heap ∧ (J.go i H → i < n) ∧ (J.stop i H → i = n) ∧ (∀ h', St (i + 1) h' → tn (i + 1) h') ∧
        (J.go i H → ∀ v h', Y i s.heap v h' → ∃ (T : Addr) (u1 u2 : Value) (x1 x2 : V), v = .ref T ∧ s.heap.objs.size ≤ T ∧ h'.IsTuple T #[u1, u2] ∧ RelV x1 u1 ∧ RelV x2 u2 ∧ (H T = none → J.yld i H (.ref T) (upd H T (.tup [x1, x2]))))) :
    Turn P w K (.Tuple elts kk tpos) J fp it tn where
  mem := mem
  obj := obj
  keep := keep
  item := by
    intro X hP hw hK hc i pins s σ H E I hf st hg
    obtain ⟨FP, wr, n, Y, St, G, hwr, hst, hgo, _, hn, hy⟩ := W X hP hw hK (I.ok.hd hc) pins s σ H I i st (.inl hg)
    refine G.goes i s _ E (hgo hg) hst fun v h' tk hY st' hk _ => ?_
    obtain ⟨T, u1, u2, x1, x2, ev, hT, ⟨oT, e1, e2, nT, e3⟩, r1, r2, yl⟩ := hy hg v h' hY
    have hfr : H T = none := I.hok.fresh hT
    have new : ObjOk X.prog X.w (upd H T (.tup [x1, x2])) h' T (.tup [x1, x2]) := ⟨(by decide : 2 ≤ sizeLine), [u1, u2], .cons r1 (.cons r2 .nil), ⟨oT, e1, e2, nT, e3⟩⟩
    have I1 : Inv X pins σ (upd H T (.tup [x1, x2])) { s with heap := h', toks := tk } :=
      I.turnedNew (ch := fp) (fun c ob hb q => hk c ob (fun z => hb (hwr c z)) q) hf hT new
    refine ⟨.ref T, _, I1, ev, yl hfr, hn _ st', fun b hb => ?_⟩
    obtain ⟨o, e, _⟩ := obj i s.heap st b hb
    rw [upd_ne (Nat.ne_of_lt (Nat.lt_of_lt_of_le (Heap.lt_size e) hT))]
    exact (hf b hb).1
  done := by
    intro X hP hw hK hc i pins s σ H E I hf st hg
    obtain ⟨FP, wr, n, Y, St, G, hwr, hst, _, hstop, _, _⟩ := W X hP hw hK (I.ok.hd hc) pins s σ H I i st (.inr hg)
    have e := hstop hg
    subst e
    exact G.stops s _ E hst fun h' tk hk _ => I.turnedL (t' := tk) (ch := fp) (fun c ob hb q => hk c ob (fun z => hb (hwr c z)) q) hf
  self := self
/-! ### enumerate -/
def IteK (b : Bool) (K : PySem.W.Frag) (a : Addr) : It :=
  ⟨fun i H => ∃ (xs : List V) (x : V), SqK b K H a xs ∧ xs[i]? = some x, fun i H v H' => ∃ T x, v = .ref T ∧ H T = none ∧ H' = upd H T (.tup [.int (i : Nat), x]) ∧ ∀ xs, SqK b K H a xs → xs[i]? = some x,
    fun i H => ∃ xs : List V, SqK b K H a xs ∧ i = xs.length⟩
theorem turn_enumK {P : Program} {w : World} {K : PySem.W.Frag} {elts : List Expr} {kk : Nat} {tpos : Pos} (b : Bool) (a e it : Addr) (hait : a ≠ it) (hae : a ≠ e) (hne : e ≠ it) :
    Turn P w K (.Tuple elts kk tpos) (IteK b K a) [e, it] e (fun i h => (∃ old, IsEnum h e it ((i : Nat) : Int) old) ∧ itK b h it a i) := by
  refine turn_pairs (by simp) (fun i h st c hc => ?_) (fun i h h' st k => ?_) (fun A i s Q E st h => ?_) (fun X hP hw hK hh pins s σ H I i st hg => ?_)
  · obtain ⟨⟨old, he⟩, hi⟩ := st
    rcases (show c = e ∨ c = it by simpa using hc) with z | z
    · subst z
      exact ⟨_, he, fun v q => nomatch q⟩
    · subst z
      exact itK_obj hi
  · obtain ⟨⟨old, he⟩, hi⟩ := st
    exact ⟨⟨old, k e (by simp) _ he⟩, itK_at hi fun o q => k it (by simp) o q⟩
  · obtain ⟨⟨old, he⟩, _⟩ := st
    exact wpAny_pyIter_enum he h
  · subst hP hw hK
    obtain ⟨⟨old, he⟩, hit⟩ := st
    obtain ⟨xs, hq, hxi⟩ : ∃ xs, SqK b X.K H a xs ∧ (∀ x, (IteK b X.K a).go i H → xs[i]? = some x → True) := by
      rcases hg with ⟨xs, x, hq, _⟩ | ⟨xs, hq, _⟩
      · exact ⟨xs, hq, fun _ _ _ => trivial⟩
      · exact ⟨xs, hq, fun _ _ _ => trivial⟩
    obtain ⟨its, rv, p, hal⟩ := invK I hq
    have hl := rv.length
    have G := GoesN.enumFrom (elts := elts) (x1 := kk) (pos := tpos) 0 (drawsK (prog := X.prog) (w := X.w) (A := X.A.in1) hh b it a hait its.toArray) e hne (by simp [hne, Ne.symm hae]) (by simp)
    refine ⟨_, _, _, _, _, G, fun c z => z, ⟨⟨old, ?_⟩, hit, p⟩, fun g => ?_, fun g => ?_, fun h' z => ?_, fun g v h' y => ?_⟩
    · rw [Int.zero_add]
      exact he
    · obtain ⟨ys, x, hq2, hx⟩ := g
      rw [invK_inj I hq2 hq] at hx
      have := (List.getElem?_eq_some_iff.mp hx).1
      simp
      omega
    · obtain ⟨ys, hq2, e⟩ := g
      rw [invK_inj I hq2 hq] at e
      simp
      omega
    · obtain ⟨⟨o, z1⟩, z2, _⟩ := z
      rw [Int.zero_add] at z1
      exact ⟨⟨o, z1⟩, z2⟩
    · obtain ⟨T, t, u, ev, hT, hu, hTu⟩ := y
      obtain ⟨ys, x, hq2, hx⟩ := g
      have ey := invK_inj I hq2 hq
      subst ey
      obtain ⟨u', hu', ru⟩ := rv.get hx
      have eu : u = u' := by
        have e2 : its.toArray[i]? = some u' := by simpa using hu'
        rw [e2] at hu
        exact (Option.some.inj hu).symm
      subst eu
      rw [Int.zero_add] at hTu
      exact ⟨T, _, u, .int (i : Nat), x, ev, hT, hTu, ⟨t, rfl⟩, ru, fun hn => ⟨T, x, rfl, hn, rfl, fun zs hz => by rw [invK_inj I hz hq]; exact hx⟩⟩
theorem meets_enumT (l : Addr) (items : Array Value) :
    Meets (Builtin.«enumerate.__new__» ⟨[.type "enumerate", .ref l], []⟩) (fun _ R s => s.heap.IsTuple l items ∧
      R (.ok (.ret (.ref (s.heap.push (obK true l)).objs.size))) { s with heap := (s.heap.push (obK true l)).push { cls := .type "enumerate", data := .fields #[.none, .bool false, .ref s.heap.objs.size, rawInt 0, .none, .none] } }) :=
  .of_wp fun prog w A R s h => by
    obtain ⟨hp, g, d, tk, os⟩ := s
    obtain ⟨h1, h⟩ := h
    have hsub := sub_enumerate
    have q1 : ∀ {A' : Around} {E : Value → Shared → Prop} {Q : Value → Shared → Prop}, Q (.ref hp.objs.size) ⟨hp.push (obK true l), g, d, tk, os⟩ → wpAny (model prog w) A' (pyIter (.ref l)) Q E ⟨hp, g, d, tk, os⟩ :=
      fun q => (beginsK true l items).iter prog w _ _ ⟨hp, g, d, tk, os⟩ _ h1 q
    wp_walk using q1
    refine wpAny_stack_any fun st => wpAny_pure ?_
    split
    · rename_i c _ _ _ _ _
      cases (c == Value.type "enumerate")
      · wp_walk using q1
        exact ⟨_, rfl, h⟩
      · wp_walk using q1
        exact ⟨_, rfl, h⟩
    · wp_walk using q1
      exact ⟨_, rfl, h⟩
theorem call_enumT {prog : Program} {w : World} {A : Around} {E : Value → Shared → Prop} {s : Shared} {l : Addr} {items : Array Value} {Q : Value → Shared → Prop} (hT : s.heap.IsTuple l items)
    (h : ∀ h', IsEnum h' (s.heap.objs.size + 1) s.heap.objs.size 0 .none → h'.get? s.heap.objs.size = some (obK true l) →
      (∀ b o, s.heap.get? b = some o → h'.get? b = some o) → Q (.ref (s.heap.objs.size + 1)) { s with heap := h' }) :
    wpAny (model prog w) A (call (.type "enumerate") [.ref l]) Q E s := by
  refine callType_new F.called_enumerate (by decide) (F.typeCall_enumerate_1 _) (F.newCall_enumerate_1 _) (fun obj => F.args_object_init_2 obj _) F.entry_enumerate_new (meets_enumT l items) ⟨hT, ?_⟩
  have hz : (s.heap.push (obK true l)).objs.size = s.heap.objs.size + 1 := Heap.size_push ..
  show _ ∧ _
  rw [hz]
  have he : IsEnum ((s.heap.push (obK true l)).push { cls := .type "enumerate", data := .fields #[.none, .bool false, .ref s.heap.objs.size, rawInt 0, .none, .none] }) (s.heap.objs.size + 1) s.heap.objs.size 0 .none := by
    have q := Heap.get?_push_size (s.heap.push (obK true l)) (o := { cls := .type "enumerate", data := .fields #[.none, .bool false, .ref s.heap.objs.size, rawInt 0, .none, .none] }) rfl
    rw [hz] at q
    exact q
  exact ⟨⟨_, he, rfl⟩, h _ he (Heap.get?_push_of_some _ (Heap.get?_push_size _ rfl)) fun b o x => Heap.get?_push_of_some _ (Heap.get?_push_of_some _ x)⟩
def iEnumT (K : PySem.W.Frag) (ta : TA) : TI := fun σ H R => ta σ H fun vs H1 => ∃ a xs, vs = [.ref a] ∧ SqT K H1 a xs ∧ R (IteK true K a) H1
theorem pi_enumT {X : Cx} {e : Expr} {ta : TA} {p pos tpos : Pos} {elts : List Expr} {kk : Nat} (hg : Gl X "enumerate") (hm : X.mg "enumerate" = none) (ha : PA X [e] ta) (hs : starEach [e] X.env = [(false, eval e X.env)] := by rfl) :
    PI X (.Tuple elts kk tpos) (.Call (.Name "enumerate" p) [e] [] pos) (iEnumT X.K ta) := by
  refine ⟨fun pins s σ H R I h => ?_⟩
  refine Call_ (ld_blt I hg hm boot_enumerate (PyProof.Rows.callWith_type1 (thn (ha.run pos pins s σ H _ I h) fun us s1 hh => ?_) hs rfl))
  obtain ⟨vs, H1, I1, r1, a, xs, ex, hq, q⟩ := hh
  subst ex
  cases r1 with
  | cons r rr =>
    cases rr
    cases r
    obtain ⟨its, rv, p', hal⟩ := invK (b := true) I1 hq
    refine call_enumT p' fun h' he hit hk => wpAny_pyIter_enum he ?_
    have I2 : Inv X pins σ H1 { s1 with heap := h' } := I1.kept (t' := s1.toks) hk
    refine ⟨s1.heap.objs.size + 1, [s1.heap.objs.size + 1, s1.heap.objs.size], _, _, H1, rfl, I2, turn_enumK true a (s1.heap.objs.size + 1) s1.heap.objs.size (Nat.ne_of_lt hal) (Nat.ne_of_lt (Nat.lt_succ_of_lt hal)) (Nat.succ_ne_self _), ⟨⟨.none, he⟩, itK_new hit⟩, fun c hc => ?_, q⟩
    have hle : s1.heap.objs.size ≤ c := by
      rcases (show c = s1.heap.objs.size + 1 ∨ c = s1.heap.objs.size by simpa using hc) with z | z
      · rw [z]; exact Nat.le_add_right _ _
      · rw [z]; exact Nat.le_refl _
    exact I1.fpOk hle (I1.hok.fresh hle)
/-! ### zip -/
def ItzK (b1 b2 : Bool) (K : PySem.W.Frag) (a c : Addr) : It :=
  ⟨fun i H => ∃ (xs ys : List V) (x y : V), SqK b1 K H a xs ∧ SqK b2 K H c ys ∧ xs[i]? = some x ∧ ys[i]? = some y,
    fun i H v H' => ∃ T x y, v = .ref T ∧ H T = none ∧ H' = upd H T (.tup [x, y]) ∧ (∀ xs, SqK b1 K H a xs → xs[i]? = some x) ∧ ∀ ys, SqK b2 K H c ys → ys[i]? = some y,
    fun i H => ∃ xs ys : List V, SqK b1 K H a xs ∧ SqK b2 K H c ys ∧ i = min xs.length ys.length⟩
theorem turn_zipK {P : Program} {w : World} {K : PySem.W.Frag} {elts : List Expr} {kk : Nat} {tpos : Pos} {b1 b2 : Bool} {a c z TI TO i1 i2 : Addr} (S : ZipSep2 z TI TO i1 i2 [i1, a] [i2, c]) (h1 : a ≠ i1) (h2 : c ≠ i2) :
    Turn P w K (.Tuple elts kk tpos) (ItzK b1 b2 K a c) [z, TI, TO, i1, i2] z (fun i h => IsZip h z TI TO .none ∧ IsTupOf2 h TI (.ref i1) (.ref i2) ∧ (∃ x y, IsTupOf2 h TO x y) ∧ itK b1 h i1 a i ∧ itK b2 h i2 c i) := by
  refine turn_pairs (by simp) (fun i h st d hd => ?_) (fun i h h' st k => ?_) (fun A i s Q E st h => wpAny_pyIter_zip st.1 h) (fun X hP hw hK hh pins s σ H I i st hg => ?_)
  · obtain ⟨hz, hTI, ⟨x, y, hTO⟩, q1, q2⟩ := st
    rcases (show d = z ∨ d = TI ∨ d = TO ∨ d = i1 ∨ d = i2 by simpa using hd) with e | e | e | e | e
    · subst e
      exact ⟨_, hz, fun v q => nomatch q⟩
    · subst e
      exact ⟨_, hTI, fun v q => nomatch q⟩
    · subst e
      exact ⟨_, hTO, fun v q => nomatch q⟩
    · subst e
      exact itK_obj q1
    · subst e
      exact itK_obj q2
  · obtain ⟨hz, hTI, ⟨x, y, hTO⟩, q1, q2⟩ := st
    exact ⟨k z (by simp) _ hz, k TI (by simp) _ hTI, ⟨x, y, k TO (by simp) _ hTO⟩, itK_at q1 fun o q => k i1 (by simp) o q, itK_at q2 fun o q => k i2 (by simp) o q⟩
  · subst hP hw hK
    obtain ⟨hz, hTI, hTO, q1, q2⟩ := st
    obtain ⟨xs, ys, hqx, hqy⟩ : ∃ xs ys, SqK b1 X.K H a xs ∧ SqK b2 X.K H c ys := by
      rcases hg with ⟨xs, ys, x, y, hq, hq2, _⟩ | ⟨xs, ys, hq, hq2, _⟩
      · exact ⟨xs, ys, hq, hq2⟩
      · exact ⟨xs, ys, hq, hq2⟩
    obtain ⟨its, rv, p, hal⟩ := invK I hqx
    obtain ⟨jts, rw', p2, hal2⟩ := invK I hqy
    have hl := rv.length
    have hl2 := rw'.length
    have G := GoesN.zip2 (elts := elts) (x1 := kk) (pos := tpos) S (drawsK (prog := X.prog) (w := X.w) (A := X.A.in1) hh b1 i1 a h1 its.toArray) (drawsK (prog := X.prog) (w := X.w) (A := X.A.in1) hh b2 i2 c h2 jts.toArray)
    refine ⟨_, _, _, _, _, G, fun d hd => ?_, ⟨hz, hTI, hTO, ⟨q1, p⟩, ⟨q2, p2⟩⟩, fun g => ?_, fun g => ?_, fun h' st => ?_, fun g v h' y => ?_⟩
    · rcases (show d = z ∨ d = TO ∨ d = i1 ∨ d = i2 by simpa using hd) with e | e | e | e <;> simp [e]
    · obtain ⟨us, ws, x, y, e1, e2, e3, e4⟩ := g
      rw [invK_inj I e1 hqx] at e3
      rw [invK_inj I e2 hqy] at e4
      have l1 := (List.getElem?_eq_some_iff.mp e3).1
      have l2 := (List.getElem?_eq_some_iff.mp e4).1
      simp
      omega
    · obtain ⟨us, ws, e1, e2, e3⟩ := g
      rw [invK_inj I e1 hqx, invK_inj I e2 hqy] at e3
      simp
      omega
    · obtain ⟨s1, s2, s3, ⟨s4, _⟩, s5, _⟩ := st
      exact ⟨s1, s2, s3, s4, s5⟩
    · obtain ⟨T, u1, u2, ev, hT, hu1, hu2, hTu⟩ := y
      obtain ⟨us, ws, x, y, e1, e2, e3, e4⟩ := g
      have ex := invK_inj I e1 hqx
      subst ex
      have ey := invK_inj I e2 hqy
      subst ey
      obtain ⟨w1, hw1, r1⟩ := rv.get e3
      obtain ⟨w2, hw2, r2⟩ := rw'.get e4
      have f1 : u1 = w1 := by
        have e2 : its.toArray[i]? = some w1 := by simpa using hw1
        rw [e2] at hu1
        exact (Option.some.inj hu1).symm
      have f2 : u2 = w2 := by
        have e2 : jts.toArray[i]? = some w2 := by simpa using hw2
        rw [e2] at hu2
        exact (Option.some.inj hu2).symm
      subst f1 f2
      exact ⟨T, u1, u2, x, y, ev, hT, hTu, r1, r2, fun hn => ⟨T, x, y, rfl, hn, rfl, fun zs hz => by rw [invK_inj I hz hqx]; exact e3, fun zs hz => by rw [invK_inj I hz hqy]; exact e4⟩⟩
def iZipK (K : PySem.W.Frag) (ta : TA) : TI := fun σ H R => ta σ H fun vs H1 => ∃ b1 b2 a c xs ys, vs = [.ref a, .ref c] ∧ SqK b1 K H1 a xs ∧ SqK b2 K H1 c ys ∧ R (ItzK b1 b2 K a c) H1
theorem pi_zipK {X : Cx} {e e2 : Expr} {ta : TA} {p pos tpos : Pos} {elts : List Expr} {kk : Nat} (hg : Gl X "zip") (hm : X.mg "zip" = none) (ha : PA X [e, e2] ta)
    (hs : starEach [e, e2] X.env = (false, eval e X.env) :: starEach [e2] X.env := by rfl) (hpl : (backTo pos (starEach [e2] X.env)).any (·.1) = false := by rfl) :
    PI X (.Tuple elts kk tpos) (.Call (.Name "zip" p) [e, e2] [] pos) (iZipK X.K ta) := by
  refine ⟨fun pins s σ H R I h => ?_⟩
  refine Call_ (ld_blt I hg hm PyProof.Rows.boot_zip (PyProof.Rows.callWith_type1 (thn (ha.run pos pins s σ H _ I h) fun us s1 hh => ?_) hs hpl))
  obtain ⟨vs, H1, I1, r1, b1, b2, a, c, xs, ys, ex, hqx, hqy, q⟩ := hh
  subst ex
  cases r1 with
  | cons r rr =>
    cases rr with
    | cons r' rr =>
      cases rr
      cases r
      cases r'
      obtain ⟨its, rv, p1, hal⟩ := invK I1 hqx
      obtain ⟨jts, rw', p2, hal2⟩ := invK I1 hqy
      refine zip_begins2 (beginsK b1 a its.toArray) (beginsK b2 c jts.toArray) p1 p2 fun h' hz hTI hTO g1 g2 hsz hk => wpAny_pyIter_zip hz ?_
      have I2 : Inv X pins σ H1 { s1 with heap := h' } := I1.kept (t' := s1.toks) hk
      have S := zip_sep2 (N := s1.heap.objs.size) (fp1 := [a]) (fp2 := [c]) (fun d hd => by rw [List.mem_singleton.mp hd]; exact hal) (fun d hd => by rw [List.mem_singleton.mp hd]; exact hal2)
      refine ⟨s1.heap.objs.size + 4, [s1.heap.objs.size + 4, s1.heap.objs.size + 2, s1.heap.objs.size + 3, s1.heap.objs.size, s1.heap.objs.size + 1], _, _, H1, rfl, I2, turn_zipK S (Nat.ne_of_lt hal) (Nat.ne_of_lt (Nat.lt_succ_of_lt hal2)), ⟨hz, hTI, ⟨_, _, hTO⟩, itK_new g1, itK_new g2⟩, fun d hd => ?_, q⟩
      have hle : s1.heap.objs.size ≤ d := by
        rcases (show d = s1.heap.objs.size + 4 ∨ d = s1.heap.objs.size + 2 ∨ d = s1.heap.objs.size + 3 ∨ d = s1.heap.objs.size ∨ d = s1.heap.objs.size + 1 by simpa using hd) with z | z | z | z | z
        · rw [z]; exact Nat.le_add_right _ _
        · rw [z]; exact Nat.le_add_right _ _
        · rw [z]; exact Nat.le_add_right _ _
        · rw [z]; exact Nat.le_refl _
        · rw [z]; exact Nat.le_add_right _ _
      exact I1.fpOk hle (I1.hok.fresh hle)
/-! ### the values of a dict with tuple keys, locked -/
def ItdT (d : Addr) (o : Obj) (kvs : List (List Key × V)) : It :=
  ⟨fun i H => H d = some (.frz o (.dT kvs)) ∧ i < kvs.length, fun i H x H' => H' = H ∧ ∃ k, kvs[i]? = some (k, x), fun i H => H d = some (.frz o (.dT kvs)) ∧ kvs.length ≤ i⟩
theorem frzTv {X : Cx} {pins : List (Addr × Obj)} {σ : L2.St} {H : Hp} {s : Shared} {d : Addr} {o : Obj} {kvs : List (List Key × V)} (I : Inv X pins σ H s) (h : H d = some (.frz o (.dT kvs))) :
    (d == sysModules) = false ∧ ∃ (es : Array DictEntry) (ep : Nat), o.data = .dict es ep ∧ s.heap.DictRaw d es ep ∧ es.size = kvs.length ∧
      ∀ (i : Nat) (k : List Key) (v : V), kvs[i]? = some (k, v) → ∃ (en : DictEntry), es[i]? = some en ∧ RelV v en.val := by
  obtain ⟨hd, z, hs, xs, pr, o', es, ep, ho, hx, hdt, he, _⟩ := I.hok d _ h
  rw [hd] at ho
  cases ho
  refine ⟨hs, es, ep, hdt, ⟨o, hd, hx, hdt⟩, ?_, fun i k v e => ?_⟩
  · have l1 : es.size = xs.length := size_of_entries he
    have l2 : kvs.length = xs.length := Paired.length pr
    omega
  · obtain ⟨b, hb, e1, e2, e3⟩ := paired_get pr e
    have q := entry_at he i
    rw [hb] at q
    exact ⟨_, q, e3⟩
theorem turn_valsT {P : Program} {w : World} {K : PySem.W.Frag} {tg : Expr} {d : Addr} {o : Obj} {es : Array DictEntry} {ep : Nat} {kvs : List (List Key × V)} (it : Addr) (hod : o.data = .dict es ep) :
    Turn P w K tg (ItdT d o kvs) [it] it (fun i h => h.IsValIter it d i kvs.length ep) where
  mem := by simp
  obj := fun i h st b hb => by
    obtain rfl : b = it := by simpa using hb
    obtain ⟨oi, e, c, dd⟩ := st
    exact ⟨oi, e, fun v z => by rw [dd] at z; cases z⟩
  keep := fun i h h' st k => Heap.IsValIter.at st fun oi e => k it (by simp) oi e
  item := by
    intro X hP hw hK hc i pins s σ H E I hf st hg
    subst hP hw hK
    obtain ⟨hd, hi⟩ := hg
    obtain ⟨f0, f1, f2, f3, f4, f5⟩ := hf it (by simp)
    obtain ⟨hs, es', ep', hdt, raw, hsz, ent⟩ := frzTv I hd
    obtain ⟨rfl, rfl⟩ := dict_ep hod hdt
    obtain ⟨⟨k, v⟩, hkv⟩ : ∃ p, kvs[i]? = some p := ⟨kvs[i], List.getElem?_eq_getElem hi⟩
    obtain ⟨en, hen, ru⟩ := ent i k v hkv
    rw [← hsz] at st
    have hlt : i < es'.size := by omega
    refine wpAny_pyNext_values_item_raw st raw hlt fun h' st' sb => ?_
    have ee : es'[i] = en := by
      rw [Array.getElem?_eq_getElem hlt] at hen
      exact Option.some.inj hen
    have I1 : Inv X pins σ H { s with heap := h' } := I.turned (t' := s.toks) (fun b ob hb e => (sb.2 b hb).trans e) f0 f1 f3 f4 f5
    obtain ⟨oi, e, c, dd⟩ := id st'
    refine ⟨_, rfl, go_of (s := { s with heap := h' }) e c dd (by decide) ⟨v, H, I1, by rw [ee]; exact ru, ⟨rfl, k, hkv⟩, ?_, fun b hb => (hf b hb).1⟩⟩
    rw [← hsz]
    exact st'
  done := by
    intro X hP hw hK hc i pins s σ H E I hf st hg
    subst hP hw hK
    obtain ⟨hd, hi⟩ := hg
    obtain ⟨f0, f1, f2, f3, f4, f5⟩ := hf it (by simp)
    obtain ⟨hs, es', ep', hdt, raw, hsz, ent⟩ := frzTv I hd
    obtain ⟨rfl, rfl⟩ := dict_ep hod hdt
    rw [← hsz] at st
    exact wpAny_pyNext_values_end_raw (I.ok.hd hc) st raw (by omega) fun h' eb => ⟨rfl, I.turned (t' := s.toks) (fun b ob hb e => eb b ob hb e) f0 f1 f3 f4 f5⟩
  self := fun A i s Q E st h => wpAny_pyIter_valiter st h
def iValsT (td : TE) : TI := fun σ H R => td σ H fun x H1 => ∃ d o kvs, x = .ref d ∧ H1 d = some (.frz o (.dT kvs)) ∧ R (ItdT d o kvs) H1
theorem pi_valuesT {X : Cx} {tg e : Expr} {td : TE} {apos cpos : Pos} (he : PE X e td) (hbase : attributeBase e "values" X.env (eval e X.env) = eval e X.env := by rfl) (hline : (apos.endLine == cpos.line) = true := by rfl) : PI X tg (.Call (.Attribute e "values" apos) [] [] cpos) (iValsT td) := by
  refine ⟨fun pins s σ H R I h => ?_⟩
  refine wpAny_Call_method (T := "dict") (id := "dict.values") hbase rfl hline F.plainAttrs_dict F.slot_dict_values F.type_dict_values (thn (he.run pins s σ H _ I h) fun u s1 hh => ?_)
  obtain ⟨x, H1, I1, rx, d, o, kvs, ex, hd, q⟩ := hh
  subst ex
  obtain rfl : u = Value.ref d := rx
  obtain ⟨hs, es, ep, hdt, raw, hsz, ent⟩ := frzTv I1 hd
  refine ⟨raw.typeIs, ?_, ?_⟩
  · obtain ⟨o', e', hx, _⟩ := raw
    intro a ea
    cases ea
    exact ⟨o', e', hx.2.1⟩
  have I2 : Inv X pins σ H1 { s1 with heap := s1.heap.push { cls := .type "dict_values", data := .fields #[.ref d] } } := I1.kept (t' := s1.toks) fun b ob q => Heap.get?_push_of_some _ q
  have fin : wpAny (model X.prog X.w) X.A (pyIter (.ref s1.heap.objs.size)) (PIE X pins σ tg R) X.xe { s1 with heap := s1.heap.push { cls := .type "dict_values", data := .fields #[.ref d] } } := by
    refine wpAny_pyIter_values_raw (d := d) ⟨_, Heap.get?_push_size _ rfl, rfl, rfl⟩ (Heap.DictRaw.at raw fun ob z => Heap.get?_push_of_some _ z) (pi_one (tk := s1.toks) I2 _ (turn_valsT _ hdt) ⟨_, Heap.get?_push_size _ rfl, rfl, ?_⟩ q)
    rw [hsz] <;> rfl
  show wpAny _ _ (callWith cpos (.builtin "dict.values") [.ref d] [] []) _ X.xe s1
  exact method_meetsIn F.slot_dict_values F.entry_dict_values rfl (PySem.evalArgs_none ⟨rfl, raw.typeIs, F.args_dict_values_1 _, _, meets_dict_values_raw d hs, ⟨⟨es, ep, raw⟩, fin⟩⟩)
end CK
/-! part CkE -/
set_option Elab.async false
set_option linter.all false
set_option maxRecDepth 100000
set_option maxHeartbeats 2000000
/-! The layer CK, part E: environments changed, targets, what is walked, comprehensions. -/
namespace CK
open PySem PySem.Spec PyProof.Rows L2
section
variable {tp : Option (Addr × Addr)} {H0 H : Hp} {σ : L2.St} {ρ : En} {n : Nat}
theorem LsAt.ne {a b : Addr} {ds : List T} {o : HO} (h : LsAt H b ds) (hne : b ≠ a) (st : Sta H (upd H a o)) : LsAt (upd H a o) b ds := by
  obtain ⟨vs, e, r, l⟩ := h
  exact ⟨vs, by rw [upd_ne hne]; exact e, RpL.sta st _ _ r, l⟩
theorem DcAt.ne {a b : Addr} {ds : List (List Key × T)} {o : HO} (h : DcAt H b ds) (hne : b ≠ a) (st : Sta H (upd H a o)) : DcAt (upd H a o) b ds := by
  obtain ⟨vs, e, r, l⟩ := h
  exact ⟨vs, by rw [upd_ne hne]; exact e, RpD.sta st r, l⟩
/-- a thing that is of no one else is written -/
theorem EOk.put (E : EOk tp H0 H σ ρ n) {a : Addr} {o : HO} (h0 : H0 a = none) (st : Sta H (upd H a o)) (no : ∀ (i : Nat) (x : X), ρ.s[i]? = some (some x) → x.own ≠ some a) (ng : ∀ p ∈ ρ.g, p.a ≠ a) : EOk tp H0 (upd H a o) σ ρ n := by
  have k0 : ∀ {b : Addr} {u : HO}, H0 b = some u → b ≠ a := fun {b u} e z => by rw [z, h0] at e; cases e
  refine ⟨E.len, fun b u hb e => ?_, E.tp0, fun t c e => ?_, fun i x e => ?_, fun p hp => ?_, E.apart, E.gap⟩
  · rw [upd_ne (k0 e)]
    exact E.keep b u hb e
  · obtain ⟨cells, spot, big, h1, h2, r⟩ := E.tape t c e
    obtain ⟨⟨o1, e1⟩, o2, e2⟩ := E.tp0 t c e
    exact ⟨cells, spot, big, by rw [upd_ne (k0 e1)]; exact h1, by rw [upd_ne (k0 e2)]; exact h2, r⟩
  · obtain ⟨v, h1, r⟩ := E.slot i x e
    refine ⟨v, h1, ?_⟩
    have no' := no i x e
    cases x with
    | t d => exact Rp.sta st _ _ r
    | l b ds w =>
      cases w with
      | true => exact ⟨r.1, r.2.1, r.2.2.ne (fun z => no' (by rw [z]; rfl)) st⟩
      | false => exact ⟨r.1, r.2.1, r.2.2.1, r.2.2.2.ne (by obtain ⟨u, e⟩ := r.2.1; exact k0 e) st⟩
    | dic b ds w =>
      cases w with
      | true => exact ⟨r.1, r.2.1, r.2.2.ne (fun z => no' (by rw [z]; rfl)) st⟩
      | false => exact ⟨r.1, r.2.1, r.2.2.1, r.2.2.2.ne (by obtain ⟨u, e⟩ := r.2.1; exact k0 e) st⟩
    | ty s => exact r
    | tape => exact r
    | gh b => exact r
  · obtain ⟨h1, h2, h3⟩ := E.gh p hp
    exact ⟨by rw [upd_ne (ng p hp)]; exact h1, RpL.sta st _ _ h2, h3⟩
theorem sta_lst {a : Addr} {ys : List V} (hl : H a = none ∨ ∃ xs, H a = some (.lst xs)) : Sta H (upd H a (.lst ys)) := by
  refine ⟨fun b xs e => ?_, fun b xs e => ?_⟩
  · rw [upd_ne (fun z => by
      rcases hl with q | ⟨zs, q⟩ <;> (rw [z, q] at e; cases e))]
    exact e
  · by_cases z : b = a
    · rw [z, upd_same]
      exact ⟨ys, rfl⟩
    · rw [upd_ne z]
      exact ⟨xs, e⟩
theorem sta_dT {a : Addr} {ys ws : List (List Key × V)} (hl : H a = some (.dT ws)) : Sta H (upd H a (.dT ys)) := by
  refine ⟨fun b xs e => ?_, fun b xs e => ⟨xs, ?_⟩⟩
  · rw [upd_ne (fun z => by rw [z, hl] at e; cases e)]
    exact e
  · rw [upd_ne (fun z => by rw [z, hl] at e; cases e)]
    exact e
/-- a slot is set -/
theorem getset {α : Type} {l : List α} {i j : Nat} {x y : α} (e : (l.set i x)[j]? = some y) : (j = i ∧ y = x) ∨ (j ≠ i ∧ l[j]? = some y) := by
  by_cases h : j = i
  · subst h
    by_cases hl : j < l.length
    · rw [List.getElem?_set_self hl] at e
      exact .inl ⟨rfl, (Option.some.inj e).symm⟩
    · rw [List.getElem?_eq_none (by simpa using hl)] at e
      cases e
  · rw [List.getElem?_set_ne (Ne.symm h)] at e
    exact .inr ⟨h, e⟩
theorem EOk.set (E : EOk tp H0 H σ ρ n) {i : Nat} {x : X} {v : V} (r : RS tp H0 H v x) (no : ∀ a, x.own = some a → ∀ (j : Nat) (y : X), j ≠ i → ρ.s[j]? = some (some y) → y.own ≠ some a) (ng : ∀ a, x.own = some a → ∀ p ∈ ρ.g, p.a ≠ a) :
    EOk tp H0 H (σ.set i (some v)) (ρ.set i (some x)) n := by
  refine ⟨by simp [En.set, E.len], E.keep, E.tp0, E.tape, fun j y e => ?_, E.gh, fun j k y z a e1 e2 o1 o2 => ?_, fun p hp j y e => ?_⟩
  · have hj : j < (ρ.set i (some x)).s.length := (List.getElem?_eq_some_iff.mp e).1
    rcases getset e with ⟨rfl, e'⟩ | ⟨hne, e'⟩
    · cases e'
      exact ⟨v, List.getElem?_set_self (by rw [E.len]; simpa [En.set] using hj), r⟩
    · obtain ⟨w, h1, h2⟩ := E.slot j y e'
      exact ⟨w, by rw [List.getElem?_set_ne (Ne.symm hne)]; exact h1, h2⟩
  · rcases getset e1 with ⟨rfl, e1'⟩ | ⟨n1, e1'⟩
    · cases e1'
      rcases getset e2 with ⟨rfl, e2'⟩ | ⟨n2, e2'⟩
      · rfl
      · exact absurd o2 (no a o1 k z n2 e2')
    · rcases getset e2 with ⟨rfl, e2'⟩ | ⟨n2, e2'⟩
      · cases e2'
        exact absurd o1 (no a o2 j y n1 e1')
      · exact E.apart j k y z a e1' e2' o1 o2
  · rcases getset e with ⟨rfl, e'⟩ | ⟨n1, e'⟩
    · cases e'
      intro z
      exact ng p.a z p hp rfl
    · exact E.gap p hp j y e'
theorem EOk.clr (E : EOk tp H0 H σ ρ n) {i : Nat} {o : Option V} : EOk tp H0 H (σ.set i o) (ρ.set i none) n := by
  refine ⟨by simp [En.set, E.len], E.keep, E.tp0, E.tape, fun j y e => ?_, E.gh, fun j k y z a e1 e2 o1 o2 => ?_, fun p hp j y e => ?_⟩
  · rcases getset e with ⟨rfl, e'⟩ | ⟨hne, e'⟩
    · cases e'
    · obtain ⟨w, h1, h2⟩ := E.slot j y e'
      exact ⟨w, by rw [List.getElem?_set_ne (Ne.symm hne)]; exact h1, h2⟩
  · rcases getset e1 with ⟨rfl, e1'⟩ | ⟨n1, e1'⟩
    · cases e1'
    · rcases getset e2 with ⟨rfl, e2'⟩ | ⟨n2, e2'⟩
      · cases e2'
      · exact E.apart j k y z a e1' e2' o1 o2
  · rcases getset e with ⟨rfl, e'⟩ | ⟨n1, e'⟩
    · cases e'
    · exact E.gap p hp j y e'
/-- the slots as they are, one forgotten -/
theorem EOk.forget (E : EOk tp H0 H σ ρ n) {i : Nat} : EOk tp H0 H σ (ρ.set i none) n := by
  refine ⟨by simp [En.set, E.len], E.keep, E.tp0, E.tape, fun j y e => ?_, E.gh, fun j k y z a e1 e2 o1 o2 => ?_, fun p hp j y e => ?_⟩
  · rcases getset e with ⟨rfl, e'⟩ | ⟨hne, e'⟩
    · cases e'
    · exact E.slot j y e'
  · rcases getset e1 with ⟨rfl, e1'⟩ | ⟨n1, e1'⟩
    · cases e1'
    · rcases getset e2 with ⟨rfl, e2'⟩ | ⟨n2, e2'⟩
      · cases e2'
      · exact E.apart j k y z a e1' e2' o1 o2
  · rcases getset e with ⟨rfl, e'⟩ | ⟨n1, e'⟩
    · cases e'
    · exact E.gap p hp j y e'
/-- what stands at an own thing -/
theorem EOk.ownAt (E : EOk tp H0 H σ ρ n) {i : Nat} {x : X} {a : Addr} (e : ρ.s[i]? = some (some x)) (o : x.own = some a) : H0 a = none ∧ ((∃ xs, H a = some (.lst xs)) ∨ ∃ ws, H a = some (.dT ws)) := by
  obtain ⟨v, _, r⟩ := E.slot i x e
  cases x with
  | l b ds w =>
    cases w with
    | true =>
      cases o
      obtain ⟨xs, h, _⟩ := r.2.2
      exact ⟨r.2.1, .inl ⟨xs, h⟩⟩
    | false => cases o
  | dic b ds w =>
    cases w with
    | true =>
      cases o
      obtain ⟨xs, h, _⟩ := r.2.2
      exact ⟨r.2.1, .inr ⟨xs, h⟩⟩
    | false => cases o
  | _ => cases o
/-- a new thing is no one's -/
theorem EOk.newNo (E : EOk tp H0 H σ ρ n) {a : Addr} (h : H a = none) : (∀ (i : Nat) (x : X), ρ.s[i]? = some (some x) → x.own ≠ some a) ∧ ∀ p ∈ ρ.g, p.a ≠ a := by
  refine ⟨fun i x e o => ?_, fun p hp z => ?_⟩
  · obtain ⟨_, ⟨xs, q⟩ | ⟨xs, q⟩⟩ := E.ownAt e o <;> (rw [h] at q; cases q)
  · obtain ⟨q, _⟩ := E.gh p hp
    rw [z, h] at q
    cases q
theorem EOk.push (E : EOk tp H0 H σ ρ n) {g : Gh} (h1 : H g.a = some g.o) (h2 : RpL H g.vs g.ds) (h3 : tA tp ≠ some g.a) (h4 : ∀ (i : Nat) (x : X), ρ.s[i]? = some (some x) → x.own ≠ some g.a) : EOk tp H0 H σ { ρ with g := g :: ρ.g } n := by
  refine ⟨E.len, E.keep, E.tp0, E.tape, E.slot, fun p hp => ?_, E.apart, fun p hp i x e => ?_⟩
  · rcases List.mem_cons.mp hp with z | z
    · rw [z]; exact ⟨h1, h2, h3⟩
    · exact E.gh p z
  · rcases List.mem_cons.mp hp with z | z
    · rw [z]; exact h4 i x e
    · exact E.gap p z i x e
theorem EOk.pop {g : List Gh} (E : EOk tp H0 H σ ρ n) (h : ∀ p ∈ g, p ∈ ρ.g) : EOk tp H0 H σ { ρ with g := g } n :=
  ⟨E.len, E.keep, E.tp0, E.tape, E.slot, fun p hp => E.gh p (h p hp), E.apart, fun p hp => E.gap p (h p hp)⟩
end
/-! ### targets of data; vs: the slots that they may set -/
def Tgt (vs : List Nat) (g : TG) (d : T) (ρ : En) (K : En → Prop) : Prop := ∀ tp H0 H σ n v, EOk tp H0 H σ ρ n → Rp H v d → ∀ Q : L2.St → Hp → Prop, (∀ σ' ρ', EOk tp H0 H σ' ρ' n → wipe σ' vs = wipe σ vs → K ρ' → Q σ' H) → g v σ H Q
def Tgts (vs : List Nat) (g : TGs) (ds : List T) (ρ : En) (K : En → Prop) : Prop := ∀ tp H0 H σ n us, EOk tp H0 H σ ρ n → RpL H us ds → ∀ Q : L2.St → Hp → Prop, (∀ σ' ρ', EOk tp H0 H σ' ρ' n → wipe σ' vs = wipe σ vs → K ρ' → Q σ' H) → g us σ H Q
theorem wipe_set (σ : L2.St) (i : Nat) (o : Option V) : ∀ vs : List Nat, i ∈ vs → wipe (σ.set i o) vs = wipe σ vs
  | v :: vs, h => by
    show (wipe (σ.set i o) vs).set v none = (wipe σ vs).set v none
    by_cases hm : i ∈ vs
    · rw [wipe_set σ i o vs hm]
    · have e : v = i := by
        rcases List.mem_cons.mp h with z | z
        · exact z.symm
        · exact absurd z hm
      subst e
      have q : ∀ ws : List Nat, v ∉ ws → wipe (σ.set v o) ws = (wipe σ ws).set v o := by
        intro ws
        induction ws with
        | nil => intro _; rfl
        | cons w ws ih =>
          intro hw
          show (wipe (σ.set v o) ws).set w none = ((wipe σ ws).set w none).set v o
          rw [ih (fun z => hw (List.mem_cons_of_mem _ z)), List.set_comm _ _ (fun z => hw (by rw [z]; exact List.mem_cons_self))]
      rw [q vs hm, List.set_set]
theorem tg_name {vs : List Nat} {i : Nat} {d : T} {ρ : En} {K : En → Prop} (hi : i ∈ vs) (k : K (ρ.set i (some (.t d)))) : Tgt vs (gName i) d ρ K := fun tp H0 H σ n v E r Q q =>
  q _ _ (E.set (x := .t d) r (fun a z => by cases z) (fun a z => by cases z)) (wipe_set σ i _ vs hi) k
theorem tgs_nil {vs : List Nat} {ρ : En} {K : En → Prop} (k : K ρ) : Tgts vs gNil [] ρ K := fun tp H0 H σ n us E r Q q => by
  cases r
  exact ⟨rfl, q σ ρ E rfl k⟩
theorem tgs_cons {vs : List Nat} {g : TG} {gs : TGs} {d : T} {ds : List T} {ρ : En} {K : En → Prop} (h : Tgt vs g d ρ fun ρ' => Tgts vs gs ds ρ' K) : Tgts vs (gCons g gs) (d :: ds) ρ K := fun tp H0 H σ n us E r Q q => by
  cases r with
  | cons a b =>
    refine ⟨_, _, rfl, h tp H0 H σ n _ E a _ fun σ' ρ' E' w k => ?_⟩
    exact k tp H0 H σ' n _ E' b Q fun σ2 ρ2 E2 w2 k2 => q σ2 ρ2 E2 (w2.trans w) k2
theorem tg_tup {vs : List Nat} {F : PySem.W.Frag} {m : Nat} {gs : TGs} {ds : List T} {ρ : En} {K : En → Prop} (hl : ds.length = m) (h : Tgts vs gs ds ρ K) : Tgt vs (gTup F m gs) (.tup ds) ρ K := fun tp H0 H σ n v E r Q q => by
  cases r with
  | tup e rl l => exact ⟨_, _, rfl, .of e, by rw [rl.length]; exact hl, h tp H0 H σ n _ E rl Q q⟩
/-! ### what is walked -/
def iSeqU (F : PySem.W.Frag) (te : TE) : TI := fun σ H R => iList F te σ H R ∨ (iTup F te σ H R ∨ iStr te σ H R)
theorem PI.or {X : Cx} {tg e : Expr} {w w' : TI} (h : PI X tg e w) (h' : PI X tg e w') : PI X tg e (fun σ H R => w σ H R ∨ w' σ H R) :=
  ⟨fun pins s σ H R I q => q.elim (h.run pins s σ H R I) (h'.run pins s σ H R I)⟩
theorem pi_seqU {X : Cx} {tg e : Expr} {te : TE} (he : PE X e te) : PI X tg e (iSeqU X.K te) := PI.or (pi_list he) (PI.or (pi_tup he) (pi_str he))
section
variable {ρ : En} {n : Nat} {K : List T → En → Nat → Prop} {te ta tb : TE} {F : PySem.W.Frag}
theorem ei_tup (h : Ev te ρ n fun x m => ∃ ds, x = .t (.tup ds) ∧ ∀ g : Gh, K ds { ρ with g := g :: ρ.g } m) : EvI (iSeqU F te) ρ n K := fun tp H0 H σ E R q => .inr (.inl (by
  refine h tp H0 H σ E _ fun v H1 x m s1 k1 rx ⟨ds, e, kk⟩ => ?_
  subst e
  obtain ⟨a, xs, rfl, e1, r1, l1⟩ := rx.tup
  have E1 := E.stp s1 k1
  have na : tA tp ≠ some a := fun z => by
    obtain ⟨ys, q⟩ := k1.lst z
    rw [e1] at q; cases q
  refine ⟨a, rfl, ⟨xs, .of e1⟩, q (Itt F a) H1 ds _ m (fun H => H a = some (.tup xs) ∧ RpL H xs ds) s1 (E1.push (g := ⟨a, .tup xs, xs, ds⟩) e1 r1 na fun i x e o => ?_) (fun H3 σ3 ρ3 m3 E3 eg => ?_) ?_ l1 (kk _)⟩
  · obtain ⟨_, ⟨ys, z⟩ | ⟨ys, z⟩⟩ := E1.ownAt e o <;> (rw [e1] at z; cases z)
  · obtain ⟨z1, z2, _⟩ := E3.gh ⟨a, .tup xs, xs, ds⟩ (by rw [eg]; exact List.mem_cons_self)
    exact ⟨z1, z2⟩
  · have hl := r1.length
    refine ⟨fun i H hi g => ⟨xs, xs[i]'(by omega), .of g.1, by simp [show i < xs.length by omega]⟩, fun H g => ⟨xs, .of g.1, by omega⟩, fun i H x H' hi g y => ?_⟩
    obtain ⟨rfl, y⟩ := y
    obtain ⟨d, hd, rd⟩ := g.2.getV (y xs (.of g.1))
    exact ⟨Same.refl _, d, hd, rd⟩))
theorem walk_lst {a : Addr} {xs : List V} {ds : List T} (hl : xs.length = ds.length) : WalkT (Itl F a) ds (fun H => H a = some (.lst xs) ∧ RpL H xs ds) := by
  refine ⟨fun i H hi g => ⟨xs, xs[i]'(by omega), .of g.1, by simp [show i < xs.length by omega]⟩, fun H g => ⟨xs, .of g.1, by omega⟩, fun i H x H' hi g y => ?_⟩
  obtain ⟨rfl, y⟩ := y
  obtain ⟨d, hd, rd⟩ := g.2.getV (y xs (.of g.1))
  exact ⟨Same.refl _, d, hd, rd⟩
theorem ei_new (h : Ev te ρ n fun x m => ∃ a ds, x = .l a ds true ∧ ∀ g : Gh, K ds { ρ with g := g :: ρ.g } m) : EvI (iSeqU F te) ρ n K := fun tp H0 H σ E R q => .inl (by
  refine h tp H0 H σ E _ fun v H1 x m s1 k1 rx ⟨a, ds, e, kk⟩ => ?_
  subst e
  obtain ⟨xs, rfl, e1, r1, l1⟩ := rx.ls
  have E1 := E.stp s1 k1
  have hn := E.newNo (rx.2.2.2 rfl)
  refine ⟨a, rfl, ⟨xs, .of e1⟩, q (Itl F a) H1 ds _ m _ s1 (E1.push (g := ⟨a, .lst xs, xs, ds⟩) e1 r1 rx.2.1 hn.1) (fun H3 σ3 ρ3 m3 E3 eg => ?_) (walk_lst r1.length) l1 (kk _)⟩
  obtain ⟨z1, z2, _⟩ := E3.gh ⟨a, .lst xs, xs, ds⟩ (by rw [eg]; exact List.mem_cons_self)
  exact ⟨z1, z2⟩)
theorem ei_ro {j : Nat} {a : Addr} {ds : List T} (hj : ρ.s[j]? = some (some (.l a ds false))) (k : ∀ g : Gh, K ds { ρ with g := g :: ρ.g } n) : EvI (iSeqU F (tVar j)) ρ n K := fun tp H0 H σ E R q => .inl (by
  obtain ⟨v, e, r⟩ := E.slot j _ hj
  obtain ⟨rfl, ⟨o, h0⟩, na, xs, e1, r1, l1⟩ := r
  refine ⟨_, e, a, rfl, ⟨xs, .of e1⟩, q (Itl F a) H ds _ n _ (Stp.refl H) (E.push (g := ⟨a, .lst xs, xs, ds⟩) e1 r1 na fun i x e o => ?_) (fun H3 σ3 ρ3 m3 E3 eg => ?_) (walk_lst r1.length) l1 (k _)⟩
  · have z := (E.ownAt e o).1
    rw [h0] at z; cases z
  · obtain ⟨z1, z2, _⟩ := E3.gh ⟨a, .lst xs, xs, ds⟩ (by rw [eg]; exact List.mem_cons_self)
    exact ⟨z1, z2⟩)
theorem ei_own {j : Nat} {a : Addr} {ds : List T} (hj : ρ.s[j]? = some (some (.l a ds true))) (k : ∀ g : Gh, K ds ⟨ρ.s.set j (some (.gh a)), g :: ρ.g⟩ n) : EvI (iSeqU F (tVar j)) ρ n K := fun tp H0 H σ E R q => .inl (by
  obtain ⟨v, e, r⟩ := E.slot j _ hj
  obtain ⟨rfl, h0, xs, e1, r1, l1⟩ := r
  have Ej : EOk tp H0 H σ (ρ.set j (some (.gh a))) n := by
    have z := E.set (i := j) (x := .gh a) (v := .ref a) rfl (fun b z => by cases z) (fun b z => by cases z)
    have es : σ.set j (some (.ref a)) = σ := by
      apply List.ext_getElem?
      intro i
      by_cases hi : j = i
      · subst hi
        rw [List.getElem?_set_self ((List.getElem?_eq_some_iff.mp e).1)]
        exact e.symm
      · rw [List.getElem?_set_ne hi]
    rw [es] at z
    exact z
  refine ⟨_, e, a, rfl, ⟨xs, .of e1⟩, q (Itl F a) H ds _ n _ (Stp.refl H) (Ej.push (g := ⟨a, .lst xs, xs, ds⟩) e1 r1 (E.tpne h0) fun i x e o => ?_) (fun H3 σ3 ρ3 m3 E3 eg => ?_) (walk_lst r1.length) l1 (k ⟨a, .lst xs, xs, ds⟩)⟩
  · rcases getset e with ⟨_, e'⟩ | ⟨hne, e'⟩
    · cases e'
      cases o
    · exact hne (E.apart i j _ _ a e' hj o rfl)
  · obtain ⟨z1, z2, _⟩ := E3.gh ⟨a, .lst xs, xs, ds⟩ (by rw [eg]; exact List.mem_cons_self)
    exact ⟨z1, z2⟩)
def strT (z : Str) : List T := z.cps.toList.map fun c => T.str ⟨#[c]⟩
theorem ei_str (h : Ev te ρ n fun x m => ∃ z, x = .t (.str z) ∧ z.cps.size ≤ lim ∧ K (strT z) ρ m) : EvI (iSeqU F te) ρ n K := fun tp H0 H σ E R q => .inr (.inr (by
  refine h tp H0 H σ E _ fun v H1 x m s1 k1 rx ⟨z, e, hl, kk⟩ => ?_
  subst e
  have hlen : (strT z).length = z.cps.size := by unfold strT; simp
  refine ⟨z, rx.str, q (Its z) H1 (strT z) ρ m (fun _ => True) s1 (E.stp s1 k1) (fun _ _ _ _ _ _ => trivial) ?_ (by rw [hlen]; exact hl) kk⟩
  refine ⟨fun i H hi g => by rw [hlen] at hi; exact hi, fun H g => by rw [hlen]; exact Nat.le_refl _, fun i H x H' hi g y => ?_⟩
  obtain ⟨rfl, c, hc, rfl⟩ := y
  refine ⟨Same.refl _, .str ⟨#[c]⟩, ?_, .str _⟩
  unfold strT
  rw [List.getElem?_map, Array.getElem?_toList, hc]
  rfl))
theorem rgT_get {a b : Int} {i : Nat} (hi : i < (b - a).toNat) : (rgT a b)[i]? = some (.int (a + (i : Nat))) := by
  unfold rgT
  rw [List.getElem?_map, List.getElem?_range hi]
  rfl
theorem rgT_len (a b : Int) : (rgT a b).length = (b - a).toNat := by
  unfold rgT
  rw [List.length_map, List.length_range]
theorem walk_rg (a b : Int) (m : Nat) (hm : m = (b - a).toNat) : WalkT (Itr a m) (rgT a b) (fun _ => True) := by
  subst hm
  refine ⟨fun i H hi g => by rw [rgT_len] at hi; exact hi, fun H g => by rw [rgT_len]; exact Nat.le_refl _, fun i H x H' hi g y => ?_⟩
  obtain ⟨rfl, rfl⟩ := y
  rw [rgT_len] at hi
  exact ⟨Same.refl _, _, rgT_get hi, .int _⟩
theorem ei_rng1 (h : Ev ta ρ n fun x m => ∃ j : Int, x = .t (.int j) ∧ j ≤ lim ∧ -1000 ≤ j ∧ K (rgT 0 j) ρ m) : EvI (iRng1 (tCons ta tNil)) ρ n K := fun tp H0 H σ E R q => by
  refine h tp H0 H σ E _ fun v H1 x m s1 k1 rx ⟨j, e, hj, h0, kk⟩ => ?_
  subst e
  have hj' : j ≤ 100000 := hj
  refine ⟨j, by rw [rx.int] <;> rfl, by omega, by omega, q _ H1 _ ρ m (fun _ => True) s1 (E.stp s1 k1) (fun _ _ _ _ _ _ => trivial) (walk_rg 0 j _ (by simp)) ?_ kk⟩
  rw [rgT_len]
  show (j - 0).toNat ≤ 100000
  omega
theorem ei_rng2 (h : Ev ta ρ n fun x m => Ev tb ρ m fun y m2 => ∃ i j : Int, x = .t (.int i) ∧ y = .t (.int j) ∧ -(2 ^ 62) ≤ i ∧ i < 2 ^ 62 ∧ -(2 ^ 62) ≤ j ∧ j < 2 ^ 62 ∧ (j - i).toNat ≤ lim ∧ K (rgT i j) ρ m2) : EvI (iRng2 (tCons ta (tCons tb tNil))) ρ n K := fun tp H0 H σ E R q => by
  refine h tp H0 H σ E _ fun v H1 x m s1 k1 rx hb => hb tp H0 H1 σ (E.stp s1 k1) _ fun u H2 y m2 s2 k2 ry ⟨i, j, e1, e2, b1, b2, b3, b4, b5, kk⟩ => ?_
  subst e1 e2
  refine ⟨i, j, by rw [rx.int, ry.int] <;> rfl, ⟨b1, b2, b3, b4⟩, q _ H2 _ ρ m2 (fun _ => True) (s1.trans s2) (E.stp (s1.trans s2) k2) (fun _ _ _ _ _ _ => trivial) (walk_rg i j _ rfl) ?_ kk⟩
  rw [rgT_len]
  exact b5
def enumT (ds : List T) : List T := (List.range ds.length).zipWith (fun i d => T.tup [.int (i : Nat), d]) ds
theorem enumT_get {ds : List T} {i : Nat} {d : T} (h : ds[i]? = some d) : (enumT ds)[i]? = some (.tup [.int (i : Nat), d]) := by
  unfold enumT
  have hi := (List.getElem?_eq_some_iff.mp h).1
  rw [List.getElem?_zipWith, List.getElem?_range hi, h]
theorem enumT_len (ds : List T) : (enumT ds).length = ds.length := by
  unfold enumT
  simp
theorem rp_pair {H : Hp} {p : Addr} {x y : V} {d e : T} (hp : H p = none) (r1 : Rp H x d) (r2 : Rp H y e) : Rp (upd H p (.tup [x, y])) (.ref p) (.tup [d, e]) :=
  .tup upd_same (.cons (Rp.sta (sta_new hp) _ _ r1) (.cons (Rp.sta (sta_new hp) _ _ r2) .nil)) (by show 2 ≤ 100000; omega)
theorem ei_enum (h : Ev ta ρ n fun x m => ∃ ds, x = .t (.tup ds) ∧ ∀ g : Gh, K (enumT ds) { ρ with g := g :: ρ.g } m) : EvI (iEnumT F (tCons ta tNil)) ρ n K := fun tp H0 H σ E R q => by
  refine h tp H0 H σ E _ fun v H1 x m s1 k1 rx ⟨ds, e, kk⟩ => ?_
  subst e
  obtain ⟨a, xs, rfl, e1, r1, l1⟩ := rx.tup
  have E1 := E.stp s1 k1
  have na : tA tp ≠ some a := fun z => by
    obtain ⟨ys, q⟩ := k1.lst z
    rw [e1] at q; cases q
  have hlen := r1.length
  refine ⟨a, xs, rfl, .of e1, q _ H1 (enumT ds) _ m (fun H => H a = some (.tup xs) ∧ RpL H xs ds) s1 (E1.push (g := ⟨a, .tup xs, xs, ds⟩) e1 r1 na fun i x e o => ?_) (fun H3 σ3 ρ3 m3 E3 eg => ?_) ?_ (by rw [enumT_len]; exact l1) (kk _)⟩
  · obtain ⟨_, ⟨ys, z⟩ | ⟨ys, z⟩⟩ := E1.ownAt e o <;> (rw [e1] at z; cases z)
  · obtain ⟨z1, z2, _⟩ := E3.gh ⟨a, .tup xs, xs, ds⟩ (by rw [eg]; exact List.mem_cons_self)
    exact ⟨z1, z2⟩
  · refine ⟨fun i H hi g => ?_, fun H g => ⟨xs, SqT.of g.1, by rw [enumT_len, hlen]⟩, fun i H x H' hi g y => ?_⟩
    · rw [enumT_len] at hi
      exact ⟨xs, xs[i]'(by omega), SqT.of g.1, by simp [show i < xs.length by omega]⟩
    · obtain ⟨p, z, rfl, hp, rfl, hz⟩ := y
      obtain ⟨d, hd, rd⟩ := g.2.getV (hz xs (SqT.of g.1))
      exact ⟨same_new hp, _, enumT_get hd, rp_pair hp (.int _) rd⟩
def zipT (ds es : List T) : List T := ds.zipWith (fun d e => T.tup [d, e]) es
/-- a list or a tuple, of a known source -/
def Src (ρ : En) (x : X) (ds : List T) : Prop := x = .t (.tup ds) ∨ (∃ a, x = .l a ds true) ∨ ∃ a, x = .l a ds false ∧ ∃ j : Nat, ρ.s[j]? = some (some (.l a ds false))
theorem srcGh {tp : Option (Addr × Addr)} {H0 H H1 : Hp} {σ : L2.St} {ρ : En} {n m : Nat} {v : V} {x : X} {ds : List T} (E : EOk tp H0 H σ ρ n) (s : Stp tp H H1) (k1 : TOk tp H1 m) (r : RE tp H H1 v x) (h : Src ρ x ds) :
    ∃ (b : Bool) (a : Addr) (xs : List V), v = .ref a ∧ H1 a = some (if b then .tup xs else .lst xs) ∧ (∀ H2, H2 a = some (if b then .tup xs else .lst xs) → SqK b F H2 a xs) ∧ RpL H1 xs ds ∧ ds.length ≤ lim ∧ tA tp ≠ some a ∧ ∀ (i : Nat) (x : X), ρ.s[i]? = some (some x) → x.own ≠ some a := by
  have E1 := E.stp s k1
  rcases h with rfl | ⟨a, rfl⟩ | ⟨a, rfl, j, hj⟩
  · obtain ⟨a, xs, rfl, e1, r1, l1⟩ := r.tup
    refine ⟨true, a, xs, rfl, e1, fun H2 e => SqT.of e, r1, l1, fun z => ?_, fun i x e o => ?_⟩
    · obtain ⟨ys, q⟩ := k1.lst z
      rw [e1] at q; cases q
    · obtain ⟨_, ⟨ys, z⟩ | ⟨ys, z⟩⟩ := E1.ownAt e o <;> (rw [e1] at z; cases z)
  · obtain ⟨xs, rfl, e1, r1, l1⟩ := r.ls
    exact ⟨false, a, xs, rfl, e1, fun H2 e => SqL.of e, r1, l1, r.2.1, (E.newNo (r.2.2.2 rfl)).1⟩
  · obtain ⟨xs, rfl, e1, r1, l1⟩ := r.ls
    refine ⟨false, a, xs, rfl, e1, fun H2 e => SqL.of e, r1, l1, r.2.1, fun i x e o => ?_⟩
    obtain ⟨_, _, rj⟩ := E.slot j _ hj
    obtain ⟨_, ⟨o', h0⟩, _⟩ := rj
    have z := (E.ownAt e o).1
    rw [h0] at z; cases z
theorem zipT_get {ds es : List T} {i : Nat} {d e : T} (h : ds[i]? = some d) (h2 : es[i]? = some e) : (zipT ds es)[i]? = some (.tup [d, e]) := by
  unfold zipT
  rw [List.getElem?_zipWith, h, h2]
theorem zipT_len (ds es : List T) : (zipT ds es).length = min ds.length es.length := by
  unfold zipT
  simp
theorem ei_zip (h : Ev ta ρ n fun x m => Ev tb ρ m fun y m2 => ∃ ds es, Src ρ x ds ∧ Src ρ y es ∧ ∀ g g' : Gh, K (zipT ds es) { ρ with g := g :: g' :: ρ.g } m2) : EvI (iZipK F (tCons ta (tCons tb tNil))) ρ n K := fun tp H0 H σ E R q => by
  refine h tp H0 H σ E _ fun v H1 x m s1 k1 rx hb => hb tp H0 H1 σ (E.stp s1 k1) _ fun u H2 y m2 s2 k2 ry ⟨ds, es, sx, sy, kk⟩ => ?_
  have s12 := s1.trans s2
  have rx2 := rx.stp s2 (s2.sta k1 k2)
  obtain ⟨b1, a, xs, rfl, e1, f1, r1, l1, n1, o1⟩ := srcGh (F := F) E s12 k2 rx2 sx
  obtain ⟨b2, c, ys, rfl, e2, f2, r2, l2, n2, o2⟩ := srcGh (F := F) E s12 k2 (ry.back s1) sy
  have E2 := E.stp s12 k2
  have E3 := (E2.push (g := ⟨c, _, ys, es⟩) e2 r2 n2 o2).push (g := ⟨a, _, xs, ds⟩) e1 r1 n1 o1
  have h1 := r1.length
  have h2 := r2.length
  refine ⟨b1, b2, a, c, xs, ys, rfl, f1 H2 e1, f2 H2 e2, q _ H2 (zipT ds es) _ m2 (fun H => H a = some (if b1 then .tup xs else .lst xs) ∧ RpL H xs ds ∧ H c = some (if b2 then .tup ys else .lst ys) ∧ RpL H ys es) s12 E3 (fun H3 σ3 ρ3 m3 E4 eg => ?_) ?_ ?_ (kk _ _)⟩
  · obtain ⟨z1, z2, _⟩ := E4.gh ⟨a, _, xs, ds⟩ (by rw [eg]; exact List.mem_cons_self)
    obtain ⟨z3, z4, _⟩ := E4.gh ⟨c, _, ys, es⟩ (by rw [eg]; exact List.mem_cons_of_mem _ List.mem_cons_self)
    exact ⟨z1, z2, z3, z4⟩
  · refine ⟨fun i H hi g => ?_, fun H g => ⟨xs, ys, f1 H g.1, f2 H g.2.2.1, by rw [zipT_len, h1, h2]⟩, fun i H x H' hi g y => ?_⟩
    · rw [zipT_len] at hi
      exact ⟨xs, ys, xs[i]'(by omega), ys[i]'(by omega), f1 H g.1, f2 H g.2.2.1, by simp [show i < xs.length by omega], by simp [show i < ys.length by omega]⟩
    · obtain ⟨p, x, y, rfl, hp, rfl, hx, hy⟩ := y
      obtain ⟨d, hd, rd⟩ := g.2.1.getV (hx xs (f1 H g.1))
      obtain ⟨e, he, re⟩ := g.2.2.2.getV (hy ys (f2 H g.2.2.1))
      exact ⟨same_new hp, _, zipT_get hd he, rp_pair hp rd re⟩
  · rw [zipT_len]
    exact Nat.le_trans (Nat.min_le_left _ _) l1
end
/-! ### comprehensions -/
def wipeL (s : List (Option X)) : List Nat → List (Option X)
  | [] => s
  | v :: vs => (wipeL s vs).set v none
def En.wipe (ρ : En) (vs : List Nat) : En := { ρ with s := wipeL ρ.s vs }
theorem EOk.wipe {tp : Option (Addr × Addr)} {H0 H : Hp} {σ : L2.St} {ρ : En} {n : Nat} (E : EOk tp H0 H σ ρ n) : ∀ vs : List Nat, EOk tp H0 H (L2.wipe σ vs) (ρ.wipe vs) n
  | [] => E
  | v :: vs => (EOk.wipe E vs).clr (i := v) (o := none)
theorem wipe_wipe (σ : L2.St) (vs : List Nat) : L2.wipe (L2.wipe σ vs) vs = L2.wipe σ vs := by
  have key : ∀ (ws us : List Nat) (τ : L2.St), (∀ w ∈ ws, w ∈ us) → L2.wipe (L2.wipe τ ws) us = L2.wipe τ us := by
    intro ws
    induction ws with
    | nil => intro us τ _; rfl
    | cons w ws ih =>
      intro us τ hm
      show L2.wipe ((L2.wipe τ ws).set w none) us = L2.wipe τ us
      rw [CK.wipe_set _ _ _ us (hm w List.mem_cons_self)]
      exact ih us τ fun z hz => hm z (List.mem_cons_of_mem _ hz)
  exact key vs vs σ fun w hw => hw
theorem ev_lc {wi : TI} {g : TG} {tt : TT} {te : TE} {vs : List Nat} {ρ : En} {n : Nat} {K : X → Nat → Prop}
    (h : EvI wi ρ n fun ds ρ1 m => ∃ Inv : Nat → List T → Nat → Prop, Inv 0 [] m ∧
      (∀ i d acc m', ds[i]? = some d → acc.length ≤ i → Inv i acc m' → Tgt vs g d (ρ1.wipe vs) fun ρ2 => EvT tt ρ2 m' fun b m2 => (b = true → Ev te ρ2 m2 fun y m3 => ∃ e, y.dat = some e ∧ Inv (i + 1) (acc ++ [e]) m3) ∧ (b = false → Inv (i + 1) acc m2)) ∧
      ∀ acc m', acc.length ≤ ds.length → Inv ds.length acc m' → ∀ p, K (.l p acc true) m') : Ev (tLc wi g tt te vs) ρ n K := fun tp H0 H σ E Q q => by
  refine h tp H0 H σ E _ fun J H1 ds ρ1 m G s1 E1 hG W hlim ⟨Iv, h0, hs, hd⟩ => ?_
  intro D hD
  have hDs : H D = none := s1.fresh (E1.tape.ne hD) hD
  have nD := E1.newNo hD
  have hD0 : H0 D = none := E1.some0 hD
  have tD := E1.tape.ne hD
  refine lc_it W (fun i H' => ∃ accV accT m', H' D = some (.lst accV) ∧ RpL H' accV accT ∧ accT.length ≤ i ∧ EOk tp H0 H' σ ρ1 m' ∧ Stp tp H H' ∧ Iv i accT m') ?_ ?_ ?_ ?_
  · refine ⟨[], [], m, upd_same, .nil, Nat.le_refl _, E1.put hD0 (sta_lst (.inl hD)) nD.1 nD.2, ?_, h0⟩
    exact s1.trans (stpS (same_new hD))
  · rintro i H' hi ⟨accV, accT, m', e1, r1, l1, E', s', iv⟩
    exact hG H' σ ρ1 m' E' rfl
  · rintro i x H' H2 hi ⟨accV, accT, m', e1, r1, l1, E', s', iv⟩ ⟨sm, d, hd', rd⟩
    have E2 : EOk tp H0 H2 σ ρ1 m' := E'.stp (stpS sm) (E'.tape.same sm)
    refine hs i d accT m' hd' l1 iv tp H0 H2 (wipe σ vs) m' x (E2.wipe vs) rd _ fun σ3 ρ3 E3 hw hk => ?_
    refine ⟨hw.trans (wipe_wipe σ vs), hk tp H0 H2 σ3 E3 _ fun b H3 m2 s3 k3 ⟨h1, h2⟩ => ?_⟩
    have s23 : Stp tp H H3 := (s'.trans (stpS sm)).trans s3
    have E4 : EOk tp H0 H3 σ ρ1 m2 := E2.stp s3 k3
    have D3 : H3 D = some (.lst accV) := s3 _ _ tD (sm _ _ e1)
    have st3 : Sta H' H3 := Stp.sta ((stpS sm).trans s3) E'.tape k3
    cases b with
    | true =>
      rw [if_pos rfl]
      refine h1 rfl tp H0 H3 σ3 (E3.stp s3 k3) _ fun y H4 xy m3 s4 k4 ry ⟨e, he, iv'⟩ => ?_
      have D4 : H4 D = some (.lst accV) := s4 _ _ tD D3
      have st4 : Sta H3 H4 := s4.sta k3 k4
      have hl2 : accT.length + 1 ≤ lim := Nat.le_trans (Nat.succ_le_of_lt (Nat.lt_of_le_of_lt l1 hi)) hlim
      have stD : Sta H4 (upd H4 D (.lst (accV ++ [y]))) := sta_lst (.inr ⟨_, D4⟩)
      refine ⟨accV, D4, ?_, accV ++ [y], accT ++ [e], m3, upd_same, ?_, ?_, (E4.stp s4 k4).put hD0 stD nD.1 nD.2, ?_, iv'⟩
      · rw [r1.length]
        exact lim_lt hl2
      · exact RpL.sta stD _ _ ((RpL.sta st4 _ _ (RpL.sta st3 _ _ r1)).snoc (ry.datum he))
      · simp
        omega
      · intro a o na e'
        by_cases z : a = D
        · rw [z, hDs] at e'; cases e'
        · rw [upd_ne z]
          exact s4 a o na (s23 a o na e')
    | false =>
      rw [if_neg Bool.false_ne_true]
      exact ⟨accV, accT, m2, D3, RpL.sta st3 _ _ r1, Nat.le_succ_of_le l1, E4, s23, h2 rfl⟩
  · rintro H' ⟨accV, accT, m', e1, r1, l1, E', s', iv⟩
    refine q _ H' (.l D accT true) m' s' E'.tape ⟨rfl, tD, ⟨accV, e1, r1, Nat.le_trans l1 hlim⟩, fun _ => hDs⟩ (hd accT m' l1 iv D)
end CK
/-! part CkF -/
set_option Elab.async false
set_option linter.all false
set_option maxRecDepth 100000
set_option maxHeartbeats 2000000
/-! The layer CK, part F: statements, defs. -/
namespace CK
open PySem PySem.Spec PyProof.Rows L2
def seqK (k : En → Nat → Prop) (K : Out → Prop) : Out → Prop
  | .nx ρ m => k ρ m
  | .rt x m => K (.rt x m)
  | .ex m => K (.ex m)
abbrev loopK (k : En → Nat → Prop) (K : Out → Prop) : Out → Prop
  | .nx ρ m => k ρ m
  | .rt x m => K (.rt x m)
  | .ex m => K (.ex m)
abbrev retK (Kx : X → Nat → Prop) : Out → Prop
  | .nx _ m => Kx (.t .non) m
  | .rt x m => Kx x m
  | .ex _ => False
abbrev retKX (Kx : X → Nat → Prop) (KE : Nat → Prop) : Out → Prop
  | .nx _ m => Kx (.t .non) m
  | .rt x m => Kx x m
  | .ex m => KE m
theorem seqK_nx {k : En → Nat → Prop} {K : Out → Prop} {ρ : En} {m : Nat} (h : k ρ m) : seqK k K (.nx ρ m) := h
theorem seqK_rt {k : En → Nat → Prop} {K : Out → Prop} {x : X} {m : Nat} (h : K (.rt x m)) : seqK k K (.rt x m) := h
theorem seqK_ex {k : En → Nat → Prop} {K : Out → Prop} {m : Nat} (h : K (.ex m)) : seqK k K (.ex m) := h
section
variable {C : Addr} {E : XK} {t1 t2 tb : TS} {te ti : TE} {tt : TT} {ρ : En} {n : Nat} {K : Out → Prop} {F : PySem.W.Frag}
theorem Blk.mono {K' : Out → Prop} (h : Blk C E t1 ρ n K) (k : ∀ o, K o → K' o) : Blk C E t1 ρ n K' := fun tp H0 H σ e D d1 d2 d3 =>
  h tp H0 H σ e D (fun a b c d e f => d1 a b c d e (k _ f)) (fun a b c d e f g z => d2 a b c d e f g (k _ z)) fun a b c d e f z => d3 a b c d e f (k _ z)
theorem bl_seq (h : Blk C E t1 ρ n (seqK (fun ρ' m => Blk C E t2 ρ' m K) K)) : Blk C E (tSeq t1 t2) ρ n K := fun tp H0 H σ e D d1 d2 d3 =>
  h tp H0 H σ e { D with nx := t2 D } (fun σ' H' ρ' m e' k => k tp H0 H' σ' e' D d1 d2 d3) d2 d3
theorem bl_next (k : K (.nx ρ n)) : Blk C E tNext ρ n K := fun tp H0 H σ e D d1 d2 d3 => d1 σ H ρ n e k
theorem RE.base {tp : Option (Addr × Addr)} {H0 Hs H : Hp} {v : V} {x : X} (r : RE tp Hs H v x) (s : Stp tp H0 Hs) : RE tp H0 H v x := r.back s
theorem bl_ret (h : Ev te ρ n fun x m => K (.rt x m)) : Blk C E (tRet te) ρ n K := fun tp H0 H σ e D d1 d2 d3 =>
  h tp H0 H σ e _ fun v H1 x m s1 k1 rx kk => d2 v H1 x m (e.keep.trans s1) k1 (rx.back e.keep) kk
theorem bl_if (h : EvT tt ρ n fun b m => (b = true → Blk C E t1 ρ m K) ∧ (b = false → Blk C E t2 ρ m K)) : Blk C E (tIfS tt t1 t2) ρ n K := fun tp H0 H σ e D d1 d2 d3 =>
  h tp H0 H σ e _ fun b H1 m s1 k1 ⟨h1, h2⟩ => by
    cases b with
    | true => exact h1 rfl tp H0 H1 σ (e.stp s1 k1) D d1 d2 d3
    | false => exact h2 rfl tp H0 H1 σ (e.stp s1 k1) D d1 d2 d3
theorem bl_asg {i : Nat} (h : Ev te ρ n fun x m => K (.nx (ρ.set i x.sl) m)) : Blk C E (tAsg te (gName i)) ρ n K := fun tp H0 H σ e D d1 d2 d3 =>
  h tp H0 H σ e _ fun v H1 x m s1 k1 rx kk => by
    have e1 := e.stp s1 k1
    refine d1 _ H1 _ m ?_ kk
    cases x with
    | t d => exact e1.set (x := .t d) rx (fun a z => by cases z) (fun a z => by cases z)
    | l a ds o =>
      cases o with
      | true =>
        have hn := e.newNo (rx.2.2.2 rfl)
        obtain ⟨xs, rfl, e2, r2, l2⟩ := rx.ls
        refine e1.set (x := .l a ds true) ⟨rfl, e.some0 (rx.2.2.2 rfl), xs, e2, r2, l2⟩ (fun b z j y _ hy => ?_) (fun b z p hp => ?_)
        · cases z
          exact hn.1 j y hy
        · cases z
          exact hn.2 p hp
      | false => exact e1.clr
    | dic a ds o =>
      cases o with
      | true =>
        have hn := e.newNo (rx.2.2.2 rfl).1
        obtain ⟨rfl, na, q, w⟩ := rx
        refine e1.set (x := .dic a ds true) ⟨rfl, e.some0 (w rfl).1, q⟩ (fun b z j y _ hy => ?_) (fun b z p hp => ?_)
        · cases z
          exact hn.1 j y hy
        · cases z
          exact hn.2 p hp
      | false => exact e1.clr
    | ty s => exact e1.clr
    | tape => exact e1.clr
    | gh a => exact e1.clr
theorem bl_asgT {g : TG} (h : Ev te ρ n fun x m => ∃ d, x = .t d ∧ Tgt (List.range 40) g d ρ fun ρ' => K (.nx ρ' m)) : Blk C E (tAsg te g) ρ n K := fun tp H0 H σ e D d1 d2 d3 =>
  h tp H0 H σ e _ fun v H1 x m s1 k1 rx ⟨d, ex, kk⟩ => by
    subst ex
    exact kk tp H0 H1 σ m v (e.stp s1 k1) rx _ fun σ' ρ' e' _ k => d1 σ' H1 ρ' m e' k
theorem bl_drop (h : Ev te ρ n fun _ m => K (.nx ρ m)) : Blk C E (tDrop te) ρ n K := fun tp H0 H σ e D d1 d2 d3 =>
  h tp H0 H σ e _ fun v H1 x m s1 k1 rx kk => d1 σ H1 ρ m (e.stp s1 k1) kk
/-- an own list is written -/
theorem EOk.upL {tp : Option (Addr × Addr)} {H0 H : Hp} {σ : L2.St} {ρ : En} {n : Nat} (e : EOk tp H0 H σ ρ n) {j : Nat} {a : Addr} {ds es : List T} {xs ys : List V} (hj : ρ.s[j]? = some (some (.l a ds true))) (hl : H a = some (.lst xs)) (r : RpL (upd H a (.lst ys)) ys es) (l : es.length ≤ lim) :
    EOk tp H0 (upd H a (.lst ys)) σ (ρ.set j (some (.l a es true))) n := by
  obtain ⟨v, hv, rv⟩ := e.slot j _ hj
  have hno : ∀ (i : Nat) (x : X), (ρ.set j none).s[i]? = some (some x) → x.own ≠ some a := fun i x h o => by
    rcases getset h with ⟨_, h'⟩ | ⟨hne, h'⟩
    · cases h'
    · exact hne (e.apart i j x _ a h' hj o rfl)
  have hng : ∀ p ∈ ρ.g, p.a ≠ a := fun p hp z => e.gap p hp j _ hj (by rw [z]; rfl)
  have e1 := (e.forget (i := j)).put (a := a) (o := .lst ys) rv.2.1 (sta_lst (.inr ⟨xs, hl⟩)) hno hng
  have e2 := e1.set (i := j) (x := .l a es true) (v := v) ⟨rv.1, rv.2.1, ys, upd_same, r, l⟩ (fun b z i y _ hy => by cases z; exact hno i y hy) (fun b z p hp => by cases z; exact hng p hp)
  have es1 : σ.set j (some v) = σ := by
    apply List.ext_getElem?
    intro i
    by_cases hi : j = i
    · subst hi
      rw [List.getElem?_set_self ((List.getElem?_eq_some_iff.mp hv).1)]
      exact hv.symm
    · rw [List.getElem?_set_ne hi]
  rw [es1] at e2
  have e3 : (ρ.set j none).set j (some (.l a es true)) = ρ.set j (some (.l a es true)) := by
    unfold En.set
    simp
  rw [e3] at e2
  exact e2
theorem bl_append {j : Nat} {a : Addr} {ds : List T} (hj : ρ.s[j]? = some (some (.l a ds true))) (hlen : ds.length < lim) (h : Ev te ρ n fun x m => ∃ d, x.dat = some d ∧ K (.nx (ρ.set j (some (.l a (ds ++ [d]) true))) m)) :
    Blk C E (tDrop (tBM F "list" rAppend (tVar j) (tCons te tNil))) ρ n K := fun tp H0 H σ e D d1 d2 d3 => by
  obtain ⟨v, hv, rfl, h0, xs, e1, r1, l1⟩ := e.slot j _ hj
  refine ⟨_, hv, Or.inl ⟨rfl, _, Or.inl (Or.inl e1)⟩, ?_⟩
  refine h tp H0 H σ e _ fun v H1 x m s1 k1 rx ⟨d, hd, kk⟩ => ?_
  have e1' : H1 a = some (.lst xs) := s1 _ _ (e.tpne h0) e1
  have st1 := s1.sta e.tape k1
  refine ⟨a, xs, v, rfl, rfl, e1', by rw [r1.length]; exact lim_lt hlen, ?_⟩
  refine d1 σ _ _ m ((e.stp s1 k1).upL hj e1' ?_ ?_) kk
  · exact (RpL.sta (sta_lst (.inr ⟨_, e1'⟩)) _ _ ((RpL.sta st1 _ _ r1).snoc (rx.datum hd)))
  · simp
    exact hlen
theorem ixN_len {n : Nat} {i : Int} {j : Nat} (h : ixN n i = some j) : j < n := (ixN_seq h).2.1
theorem bl_setL {j : Nat} {a : Addr} {ds : List T} (hj : ρ.s[j]? = some (some (.l a ds true))) (h : Ev te ρ n fun x m => ∃ d, x.dat = some d ∧ Ev ti ρ m fun y m2 => ∃ (k : Int) (i : Nat), y = .t (.int k) ∧ ixN ds.length k = some i ∧ K (.nx (ρ.set j (some (.l a (ds.set i d) true))) m2)) :
    Blk C E (tAsg te (gSub (tVar j) ti rSetL)) ρ n K := fun tp H0 H σ e D d1 d2 d3 => by
  refine h tp H0 H σ e _ fun v H1 x m s1 k1 rx ⟨d, hd, h2⟩ => ?_
  have e1 := e.stp s1 k1
  obtain ⟨w, hw, rfl, h0, xs, e0, r0, l0⟩ := e1.slot j _ hj
  refine ⟨_, hw, h2 tp H0 H1 σ e1 _ fun u H2 y m2 s2 k2 ry ⟨k, i, ey, hi, kk⟩ => ?_⟩
  subst ey
  have e2 : H2 a = some (.lst xs) := s2 _ _ (e1.tpne h0) e0
  have st2 := s2.sta k1 k2
  refine ⟨a, xs, k, i, rfl, ry.int, e2, by rw [r0.length]; exact hi, ?_⟩
  refine d1 σ _ _ m2 ((e1.stp s2 k2).upL hj e2 ?_ (by simpa using l0)) kk
  exact RpL.sta (sta_lst (.inr ⟨_, e2⟩)) _ _ (RpL.set (Rp.sta st2 _ _ (rx.datum hd)) i (RpL.sta st2 _ _ r0))
theorem RpD.put {H : Hp} {k : List Key} {v : V} {d : T} (r : Rp H v d) {ws : List (List Key × V)} {kvs : List (List Key × T)} (h : RpD H ws kvs) : RpD H (putK ws k v) (putT kvs k d) := by
  have hany : ∀ {ws : List (List Key × V)} {kvs : List (List Key × T)}, RpD H ws kvs → (ws.any fun kv => decide (kv.1 = k)) = kvs.any fun kv => decide (kv.1 = k) := by
    intro ws kvs h
    induction h with
    | nil => rfl
    | cons a b ih => simp only [List.any_cons, ih]
  have hmap : ∀ {ws : List (List Key × V)} {kvs : List (List Key × T)}, RpD H ws kvs → RpD H (ws.map fun kv => if kv.1 = k then (kv.1, v) else kv) (kvs.map fun kv => if kv.1 = k then (kv.1, d) else kv) := by
    intro ws kvs h
    induction h with
    | nil => exact .nil
    | @cons k1 v1 ws d1 kvs a b ih =>
      simp only [List.map_cons]
      by_cases hk : k1 = k
      · rw [if_pos hk, if_pos hk]
        exact .cons r ih
      · rw [if_neg hk, if_neg hk]
        exact .cons a ih
  have happ : ∀ {ws : List (List Key × V)} {kvs : List (List Key × T)}, RpD H ws kvs → RpD H (ws ++ [(k, v)]) (kvs ++ [(k, d)]) := by
    intro ws kvs h
    induction h with
    | nil => exact .cons r .nil
    | cons a b ih => exact .cons a ih
  unfold putK putT
  rw [hany h]
  cases kvs.any fun kv => decide (kv.1 = k) with
  | true => exact hmap h
  | false => exact happ h
theorem putT_len (kvs : List (List Key × T)) (k : List Key) (d : T) : (putT kvs k d).length ≤ kvs.length + 1 := by
  unfold putT
  split
  · simp
  · simp
theorem EOk.upD {tp : Option (Addr × Addr)} {H0 H : Hp} {σ : L2.St} {ρ : En} {n : Nat} (e : EOk tp H0 H σ ρ n) {j : Nat} {a : Addr} {ds es : List (List Key × T)} {ws ys : List (List Key × V)} (hj : ρ.s[j]? = some (some (.dic a ds true))) (hl : H a = some (.dT ws)) (r : RpD (upd H a (.dT ys)) ys es) (l : es.length ≤ lim) :
    EOk tp H0 (upd H a (.dT ys)) σ (ρ.set j (some (.dic a es true))) n := by
  obtain ⟨v, hv, rv⟩ := e.slot j _ hj
  have hno : ∀ (i : Nat) (x : X), (ρ.set j none).s[i]? = some (some x) → x.own ≠ some a := fun i x h o => by
    rcases getset h with ⟨_, h'⟩ | ⟨hne, h'⟩
    · cases h'
    · exact hne (e.apart i j x _ a h' hj o rfl)
  have hng : ∀ p ∈ ρ.g, p.a ≠ a := fun p hp z => e.gap p hp j _ hj (by rw [z]; rfl)
  have e1 := (e.forget (i := j)).put (a := a) (o := .dT ys) rv.2.1 (sta_dT hl) hno hng
  have e2 := e1.set (i := j) (x := .dic a es true) (v := v) ⟨rv.1, rv.2.1, ys, upd_same, r, l⟩ (fun b z i y _ hy => by cases z; exact hno i y hy) (fun b z p hp => by cases z; exact hng p hp)
  have es1 : σ.set j (some v) = σ := by
    apply List.ext_getElem?
    intro i
    by_cases hi : j = i
    · subst hi
      rw [List.getElem?_set_self ((List.getElem?_eq_some_iff.mp hv).1)]
      exact hv.symm
    · rw [List.getElem?_set_ne hi]
  rw [es1] at e2
  have e3 : (ρ.set j none).set j (some (.dic a es true)) = ρ.set j (some (.dic a es true)) := by
    unfold En.set
    simp
  rw [e3] at e2
  exact e2
theorem bl_dput {j : Nat} {a : Addr} {kvs : List (List Key × T)} (hj : ρ.s[j]? = some (some (.dic a kvs true))) (hlen : kvs.length < lim) (h : Ev te ρ n fun x m => ∃ d, x.dat = some d ∧ Ev ti ρ m fun y m2 => ∃ ds ks, y = .t (.tup ds) ∧ keys ds = some ks ∧ K (.nx (ρ.set j (some (.dic a (putT kvs ks d) true))) m2)) :
    Blk C E (sDPut (tVar j) ti te) ρ n K := fun tp H0 H σ e D d1 d2 d3 => by
  refine h tp H0 H σ e _ fun v H1 x m s1 k1 rx ⟨d, hd, h2⟩ => ?_
  have e1 := e.stp s1 k1
  obtain ⟨w, hw, rfl, h0, ws, e0, r0, l0⟩ := e1.slot j _ hj
  refine ⟨_, hw, h2 tp H0 H1 σ e1 _ fun u H2 y m2 s2 k2 ry ⟨ds, ks, ey, hk, kk⟩ => ?_⟩
  subst ey
  obtain ⟨b, xs, rfl, hb, rl, ll⟩ := ry.tup
  have ex := rl.keys hk
  subst ex
  have e2 : H2 a = some (.dT ws) := s2 _ _ (e1.tpne h0) e0
  have st2 := s2.sta k1 k2
  refine ⟨a, _, rfl, DPut.t e2 hb (by rw [r0.length]; exact lim_lt hlen), ?_⟩
  refine d1 σ _ _ m2 ((e1.stp s2 k2).upD hj e2 ?_ (Nat.le_trans (putT_len _ _ _) hlen)) kk
  exact RpD.sta (sta_dT e2) (RpD.put (Rp.sta st2 _ _ (rx.datum hd)) (RpD.sta st2 r0))
/-- for -/
theorem bl_for {wi : TI} {g : TG} (h : EvI wi ρ n fun ds ρ1 m => ∃ Inv : Nat → En → Nat → Prop, Inv 0 ρ1 m ∧ (∀ i ρ' m', Inv i ρ' m' → ρ'.g = ρ1.g) ∧
      (∀ i d ρ' m', ds[i]? = some d → Inv i ρ' m' → Tgt (List.range 40) g d ρ' fun ρ2 => Blk C E tb ρ2 m' (loopK (fun ρ3 m3 => Inv (i + 1) ρ3 m3) K)) ∧
      (∀ p ∈ ρ.g, p ∈ ρ1.g) ∧ ∀ ρ' m', Inv ds.length ρ' m' → K (.nx { ρ' with g := ρ.g } m')) : Blk C E (tFor wi g tb) ρ n K := fun tp H0 H σ e D d1 d2 d3 => by
  refine h tp H0 H σ e _ fun J H1 ds ρ1 m G s1 e1 hG W hlim ⟨Iv, h0, hg, hs, hpop, hd⟩ => ?_
  refine for_it W (fun i σ' H' => ∃ ρ' m', EOk tp H0 H' σ' ρ' m' ∧ Iv i ρ' m') ⟨ρ1, m, e1, h0⟩ ?_ ?_ ?_
  · rintro i σ' H' hi ⟨ρ', m', e', iv⟩
    exact hG H' σ' ρ' m' e' (hg i ρ' m' iv)
  · rintro i x σ' H' H2 hi ⟨ρ', m', e', iv⟩ ⟨sm, d, hd', rd⟩
    refine hs i d ρ' m' hd' iv tp H0 H2 σ' m' x (e'.stp (stpS sm) (e'.tape.same sm)) rd _ fun σ3 ρ3 e3 _ hk => ?_
    exact hk tp H0 H2 σ3 e3 _ (fun σ4 H4 ρ4 m4 e4 iv4 => ⟨ρ4, m4, e4, iv4⟩) d2 d3
  · rintro σ' H' ⟨ρ', m', e', iv⟩
    have hpop' : ∀ p ∈ ρ.g, p ∈ ρ'.g := fun p hp => by rw [hg _ ρ' m' iv]; exact hpop p hp
    exact d1 σ' H' _ m' (e'.pop hpop') (hd ρ' m' iv)
theorem bl_while (Inv : Nat → En → Nat → Prop) (k0 : Nat) (h0 : Inv k0 ρ n)
    (hs : ∀ k ρ' m, Inv k ρ' m → EvT tt ρ' m fun b m2 => (b = true → Blk C E tb ρ' m2 (loopK (fun ρ3 m3 => ∃ k', k' < k ∧ Inv k' ρ3 m3) K)) ∧ (b = false → K (.nx ρ' m2))) : Blk C E (tWhile tt tb) ρ n K := fun tp H0 H σ e D d1 d2 d3 => by
  refine ⟨fun k σ' H' => ∃ ρ' m', EOk tp H0 H' σ' ρ' m' ∧ Inv k ρ' m', ⟨k0, ρ, n, e, h0⟩, ?_⟩
  rintro k σ' H' ⟨ρ', m', e', iv⟩
  refine hs k ρ' m' iv tp H0 H' σ' e' _ fun b H2 m2 s2 k2 ⟨h1, h2⟩ => ?_
  have e2 := e'.stp s2 k2
  cases b with
  | true =>
    rw [if_pos rfl]
    refine ⟨fun σ3 H3 => ∃ k', k' < k ∧ ∃ ρ3 m3, EOk tp H0 H3 σ3 ρ3 m3 ∧ Inv k' ρ3 m3, fun σ3 H3 ⟨k', hk, q⟩ => ⟨k', hk, q⟩, ?_⟩
    exact h1 rfl tp H0 H2 σ' e2 _ (fun σ4 H4 ρ4 m4 e4 ⟨k', hk, iv4⟩ => ⟨k', hk, ρ4, m4, e4, iv4⟩) d2 d3
  | false =>
    rw [if_neg Bool.false_ne_true]
    exact d1 σ' H2 ρ' m2 e2 (h2 rfl)
theorem RpD.again {H H' : Hp} : ∀ {ws : List (List Key × V)} {kvs : List (List Key × T)}, RpD H ws kvs → RpL H' (ws.map (·.2)) (kvs.map (·.2)) → RpD H' ws kvs
  | _, _, .nil, _ => .nil
  | _, _, .cons _ t, h => by
    cases h with
    | cons a b => exact .cons a (RpD.again t b)
/-- for over the values of a dict that is read alone -/
theorem bl_forV {g : TG} {j : Nat} {a : Addr} {kvs : List (List Key × T)} (hj : ρ.s[j]? = some (some (.dic a kvs false))) (hg0 : ρ.g = []) (hoth : ∀ (i : Nat) (kvs' : List (List Key × T)) (o : Bool), i ≠ j → ρ.s[i]? ≠ some (some (.dic a kvs' o)))
    (h : ∀ g0 : Gh, ∃ Inv : Nat → En → Nat → Prop, Inv 0 ⟨ρ.s.set j (some (.gh a)), [g0]⟩ n ∧ (∀ i ρ' m', Inv i ρ' m' → ρ'.g = [g0]) ∧
      (∀ i d ρ' m', (kvs.map (·.2))[i]? = some d → Inv i ρ' m' → Tgt (List.range 40) g d ρ' fun ρ2 => Blk C E tb ρ2 m' (loopK (fun ρ3 m3 => Inv (i + 1) ρ3 m3) (fun _ => False))) ∧
      ∀ ρ' m', Inv kvs.length ρ' m' → ρ'.s[j]? = some (some (.gh a)) ∧ K (.nx ⟨ρ'.s.set j (some (.dic a kvs false)), []⟩ m')) : Blk C E (tLock (tFor (iValsT (tVar j)) g tb)) ρ n K := fun tp H0 H σ e D d1 d2 d3 => by
  obtain ⟨v, hv, rfl, ⟨o0, h0⟩, na, ws, e1, r1, l1⟩ := e.slot j _ hj
  have h0' : H0 a = some (.dT ws) := by
    have z := e.keep a o0 na h0
    rw [e1] at z
    rw [h0, z]
  refine ⟨a, .dT ws, e1, trivial, fun od => ?_⟩
  have hlen := r1.length
  obtain ⟨Iv, i0, hg, hs, hd⟩ := h ⟨a, .frz od (.dT ws), ws.map (·.2), kvs.map (·.2)⟩
  -- the locked heap
  have stF : Sta H (upd H a (.frz od (.dT ws))) := by
    refine ⟨fun b xs q => ?_, fun b xs q => ⟨xs, ?_⟩⟩
    · rw [upd_ne (fun z => by rw [z, e1] at q; cases q)]; exact q
    · rw [upd_ne (fun z => by rw [z, e1] at q; cases q)]; exact q
  have vals : ∀ {H' : Hp} {ws : List (List Key × V)} {kvs : List (List Key × T)}, RpD H' ws kvs → RpL H' (ws.map (·.2)) (kvs.map (·.2)) := by
    intro H' ws kvs h
    induction h with
    | nil => exact .nil
    | cons r t ih => exact .cons r ih
  have es1 : σ.set j (some (.ref a)) = σ := by
    apply List.ext_getElem?
    intro i
    by_cases hi : j = i
    · subst hi
      rw [List.getElem?_set_self ((List.getElem?_eq_some_iff.mp hv).1)]
      exact hv.symm
    · rw [List.getElem?_set_ne hi]
  have eJ : EOk tp H0 H σ (ρ.set j (some (.gh a))) n := by
    have z := e.set (i := j) (x := .gh a) (v := .ref a) rfl (fun b z => by cases z) (fun b z => by cases z)
    rw [es1] at z
    exact z
  have eF : EOk tp (upd H0 a (.frz od (.dT ws))) (upd H a (.frz od (.dT ws))) σ ⟨ρ.s.set j (some (.gh a)), [⟨a, .frz od (.dT ws), ws.map (·.2), kvs.map (·.2)⟩]⟩ n := by
    refine ⟨eJ.len, fun b u hb q => ?_, fun t c q => ?_, fun t c q => ?_, fun i x q => ?_, fun p hp => ?_, eJ.apart, fun p hp i x q => ?_⟩
    · by_cases z : b = a
      · rw [z, upd_same] at q
        rw [z, upd_same]; exact q
      · rw [upd_ne z] at q
        rw [upd_ne z]
        exact e.keep b u hb q
    · obtain ⟨⟨u1, q1⟩, u2, q2⟩ := e.tp0 t c q
      refine ⟨?_, ?_⟩
      · by_cases z : t = a
        · exact ⟨_, by rw [z, upd_same]⟩
        · exact ⟨u1, by rw [upd_ne z]; exact q1⟩
      · by_cases z : c = a
        · exact ⟨_, by rw [z, upd_same]⟩
        · exact ⟨u2, by rw [upd_ne z]; exact q2⟩
    · obtain ⟨cells, spot, big, q1, q2, r⟩ := e.tape t c q
      exact ⟨cells, spot, big, by rw [upd_ne (fun z => by rw [z, e1] at q1; cases q1)]; exact q1, by rw [upd_ne (fun z => by rw [z, e1] at q2; cases q2)]; exact q2, r⟩
    · obtain ⟨w, hw, rw'⟩ := eJ.slot i x q
      refine ⟨w, hw, ?_⟩
      cases x with
      | t d => exact Rp.sta stF _ _ rw'
      | l b ds o =>
        have lsne : ∀ {b : Addr} {ds : List T}, LsAt H b ds → b ≠ a := fun {b ds} q z => by
          obtain ⟨xs, q1, _⟩ := q
          rw [z, e1] at q1; cases q1
        cases o with
        | true => exact ⟨rw'.1, by rw [upd_ne (lsne rw'.2.2)]; exact rw'.2.1, rw'.2.2.ne (lsne rw'.2.2) stF⟩
        | false => exact ⟨rw'.1, by rw [upd_ne (lsne rw'.2.2.2)]; exact rw'.2.1, rw'.2.2.1, rw'.2.2.2.ne (lsne rw'.2.2.2) stF⟩
      | dic b ds o =>
        have hb : b ≠ a := fun z => by
          rcases getset q with ⟨_, q'⟩ | ⟨hne, q'⟩
          · cases q'
          · rw [z] at q'
            exact hoth i ds o hne q'
        cases o with
        | true => exact ⟨rw'.1, by rw [upd_ne hb]; exact rw'.2.1, rw'.2.2.ne hb stF⟩
        | false => exact ⟨rw'.1, by rw [upd_ne hb]; exact rw'.2.1, rw'.2.2.1, rw'.2.2.2.ne hb stF⟩
      | ty s => exact rw'
      | tape => exact rw'
      | gh b => exact rw'
    · have ep : p = _ := List.mem_singleton.mp hp
      subst ep
      exact ⟨upd_same, RpL.sta stF _ _ (vals r1), na⟩
    · have ep : p = _ := List.mem_singleton.mp hp
      subst ep
      intro o
      obtain ⟨z, _⟩ := eJ.ownAt q o
      rw [h0'] at z; cases z
  refine ⟨.ref a, hv, a, od, ws, rfl, upd_same, ?_⟩
  refine for_it (n := (kvs.map (·.2)).length) (G := fun H' => H' a = some (.frz od (.dT ws)) ∧ RpL H' (ws.map (·.2)) (kvs.map (·.2))) (Y := fun i H x H' => Same H H' ∧ ∃ d, (kvs.map (·.2))[i]? = some d ∧ Rp H' x d) ?_ (fun i σ' H' => ∃ ρ' m', EOk tp (upd H0 a (.frz od (.dT ws))) H' σ' ρ' m' ∧ Iv i ρ' m') ⟨_, n, eF, i0⟩ ?_ ?_ ?_
  · refine ⟨fun i H hi g => ⟨g.1, by simp at hi; omega⟩, fun H g => ⟨g.1, by simp; omega⟩, fun i H x H' hi g y => ?_⟩
    obtain ⟨rfl, k, hk⟩ := y
    have q : (ws.map (·.2))[i]? = some x := by rw [List.getElem?_map, hk]; rfl
    obtain ⟨d, hd, rd⟩ := g.2.getV q
    exact ⟨Same.refl _, d, hd, rd⟩
  · rintro i σ' H' hi ⟨ρ', m', e', iv⟩
    obtain ⟨z1, z2, _⟩ := e'.gh _ (by rw [hg i ρ' m' iv]; exact List.mem_singleton.mpr rfl)
    exact ⟨z1, z2⟩
  · rintro i x σ' H' H2 hi ⟨ρ', m', e', iv⟩ ⟨sm, d, hd', rd⟩
    refine hs i d ρ' m' hd' iv tp _ H2 σ' m' x (e'.stp (stpS sm) (e'.tape.same sm)) rd _ fun σ3 ρ3 e3 _ hk => ?_
    exact hk tp _ H2 σ3 e3 _ (fun σ4 H4 ρ4 m4 e4 iv4 => ⟨ρ4, m4, e4, iv4⟩) (fun _ _ _ _ _ _ _ z => z.elim) (fun _ _ _ _ _ _ z => z.elim)
  · rintro σ' H' ⟨ρ', m', e', iv⟩
    rw [List.length_map] at iv
    obtain ⟨ej, kk⟩ := hd ρ' m' iv
    obtain ⟨z1, z2, _⟩ := e'.gh _ (by rw [hg _ ρ' m' iv]; exact List.mem_singleton.mpr rfl)
    refine ⟨z1, d1 σ' _ _ m' ?_ kk⟩
    have stU : Sta H' (upd H' a (.dT ws)) := by
      refine ⟨fun b xs q => ?_, fun b xs q => ⟨xs, ?_⟩⟩
      · rw [upd_ne (fun z => by rw [z, z1] at q; cases q)]; exact q
      · rw [upd_ne (fun z => by rw [z, z1] at q; cases q)]; exact q
    obtain ⟨w, hw, ew⟩ := e'.slot j _ ej
    have ew' : w = .ref a := ew
    subst ew'
    have keep' : Stp tp H0 (upd H' a (.dT ws)) := fun b u hb q => by
      by_cases z : b = a
      · rw [z, upd_same]
        rw [z, h0'] at q
        exact q
      · rw [upd_ne z]
        exact e'.keep b u hb (by rw [upd_ne z]; exact q)
    have rd' : RpD (upd H' a (.dT ws)) ws kvs := RpD.sta stU (r1.again z2)
    refine ⟨by rw [List.length_set]; exact e'.len, keep', e.tp0, fun t c q => ?_, fun i x q => ?_, fun p hp => absurd hp (by simp), fun i k x y b q1 q2 o1 o2 => ?_, fun p hp => absurd hp (by simp)⟩
    · obtain ⟨cells, spot, big, q1, q2, r⟩ := e'.tape t c q
      exact ⟨cells, spot, big, by rw [upd_ne (fun z => by rw [z, z1] at q1; cases q1)]; exact q1, by rw [upd_ne (fun z => by rw [z, z1] at q2; cases q2)]; exact q2, r⟩
    · rcases getset q with ⟨rfl, q'⟩ | ⟨hne, q'⟩
      · cases q'
        exact ⟨_, hw, rfl, ⟨_, h0'⟩, na, ws, upd_same, rd', l1⟩
      · obtain ⟨u, hu, ru⟩ := e'.slot i x q'
        refine ⟨u, hu, ?_⟩
        cases x with
        | t d => exact Rp.sta stU _ _ ru
        | l b ds o =>
          have lsne : ∀ {b : Addr} {ds : List T}, LsAt H' b ds → b ≠ a := fun {b ds} q z => by
            obtain ⟨xs, q1, _⟩ := q
            rw [z, z1] at q1; cases q1
          cases o with
          | true => exact ⟨ru.1, by have q := ru.2.1; rw [upd_ne (lsne ru.2.2)] at q; exact q, ru.2.2.ne (lsne ru.2.2) stU⟩
          | false => exact ⟨ru.1, by have q := ru.2.1; rw [upd_ne (lsne ru.2.2.2)] at q; exact q, ru.2.2.1, ru.2.2.2.ne (lsne ru.2.2.2) stU⟩
        | dic b ds o =>
          have dcne : ∀ {b : Addr} {ds : List (List Key × T)}, DcAt H' b ds → b ≠ a := fun {b ds} q z => by
            obtain ⟨xs, q1, _⟩ := q
            rw [z, z1] at q1; cases q1
          cases o with
          | true => exact ⟨ru.1, by have q := ru.2.1; rw [upd_ne (dcne ru.2.2)] at q; exact q, ru.2.2.ne (dcne ru.2.2) stU⟩
          | false => exact ⟨ru.1, by have q := ru.2.1; rw [upd_ne (dcne ru.2.2.2)] at q; exact q, ru.2.2.1, ru.2.2.2.ne (dcne ru.2.2.2) stU⟩
        | ty s => exact ru
        | tape => exact ru
        | gh b => exact ru
    · rcases getset q1 with ⟨rfl, q1'⟩ | ⟨n1, q1'⟩
      · cases q1'
        cases o1
      · rcases getset q2 with ⟨rfl, q2'⟩ | ⟨n2, q2'⟩
        · cases q2'
          cases o2
        · exact e'.apart i k x y b q1' q2' o1 o2
end
end CK
/-! part CkG -/
set_option Elab.async false
set_option linter.all false
set_option maxRecDepth 100000
set_option maxHeartbeats 2000000
/-! The layer CK, part G: defs by their promises, raise. -/
namespace CK
open PySem PySem.Spec PyProof.Rows L2
def env0 (N : List Str) (xs : List X) : En := ⟨xs.map some ++ List.replicate (N.length - xs.length) none, []⟩
theorem eok0 {tp : Option (Addr × Addr)} {H : Hp} {n : Nat} {N : List Str} {vs : List V} {xs : List X} (k : TOk tp H n) (r : REs tp H H vs xs) : EOk tp H H (L2.start N vs) (env0 N xs) n := by
  have hl := Paired.length r
  have key : ∀ (i : Nat) (x : X), (env0 N xs).s[i]? = some (some x) → ∃ v, (L2.start N vs)[i]? = some (some v) ∧ RE tp H H v x := fun i x e => by
    have e' : (xs.map some ++ List.replicate (N.length - xs.length) none)[i]? = some (some x) := e
    by_cases hi : i < xs.length
    · rw [List.getElem?_append_left (by simpa using hi), List.getElem?_map] at e'
      have hx : xs[i]? = some x := by
        cases q : xs[i]? with
        | none => rw [q] at e'; cases e'
        | some y => rw [q] at e'; cases e'; rfl
      have get : ∀ {vs : List V} {xs : List X} {i : Nat} {x : X}, REs tp H H vs xs → xs[i]? = some x → ∃ v, vs[i]? = some v ∧ RE tp H H v x := by
        intro vs xs
        induction xs generalizing vs with
        | nil => intro i x r e; simp at e
        | cons y ys ih =>
          intro i x r e
          cases r with
          | cons a b =>
            cases i with
            | zero => simp at e; subst e; exact ⟨_, rfl, a⟩
            | succ i =>
              obtain ⟨v, h1, h2⟩ := ih b (by simpa using e)
              exact ⟨v, by simpa using h1, h2⟩
      obtain ⟨v, hv, rv⟩ := get r hx
      refine ⟨v, ?_, rv⟩
      unfold L2.start
      rw [List.getElem?_append_left (by rw [List.length_map, hl]; exact hi), List.getElem?_map, hv]
      rfl
    · rw [List.getElem?_append_right (by simpa using hi), List.getElem?_replicate] at e'
      split at e' <;> cases e'
  have noown : ∀ {v : V} {x : X} {a : Addr}, RE tp H H v x → x.own ≠ some a := fun {v x a} r o => by
    cases x with
    | l b ds w =>
      cases w with
      | true =>
        obtain ⟨xs, _, q, _⟩ := r.ls
        have z := r.2.2.2 rfl
        rw [q] at z; cases z
      | false => cases o
    | dic b ds w =>
      cases w with
      | true =>
        obtain ⟨_, _, ⟨ws, q, _⟩, z⟩ := r
        have z := (z rfl).1
        rw [q] at z; cases z
      | false => cases o
    | _ => cases o
  refine ⟨?_, Stp.refl H, fun t c e => ?_, k, fun i x e => ?_, fun p hp => absurd hp (by simp [env0]), fun i j x y a e1 e2 o1 o2 => ?_, fun p hp => absurd hp (by simp [env0])⟩
  · unfold L2.start env0
    simp [hl]
  · obtain ⟨cells, spot, big, h1, h2, _⟩ := k t c e
    exact ⟨⟨_, h1⟩, ⟨_, h2⟩⟩
  · obtain ⟨v, hv, rv⟩ := key i x e
    refine ⟨v, hv, ?_⟩
    cases x with
    | t d => exact rv
    | l a ds o =>
      cases o with
      | true => exact absurd rfl (noown (a := a) rv)
      | false =>
        obtain ⟨h1, h2, ⟨xs, h3, h4, h5⟩, _⟩ := rv
        exact ⟨h1, ⟨_, h3⟩, h2, xs, h3, h4, h5⟩
    | dic a ds o =>
      cases o with
      | true => exact absurd rfl (noown (a := a) rv)
      | false =>
        obtain ⟨h1, h2, ⟨xs, h3, h4, h5⟩, _⟩ := rv
        exact ⟨h1, ⟨_, h3⟩, h2, xs, h3, h4, h5⟩
    | ty s => exact rv
    | tape => exact rv
    | gh a => exact rv.elim
  · obtain ⟨v, _, rv⟩ := key i x e1
    exact absurd o1 (noown rv)
theorem go_fn {C : Addr} {E E' : XK} {t : TS} {F : PF} {N : List Str} {vs : List V} {H : Hp} {Q : VK} (h : spU F vs H Q E') (hb : ∀ xs n Kx, F xs n Kx → Blk C E t (env0 N xs) n (retK Kx)) : t { nx := fun _ H' => Q .non H', rt := Q } (L2.start N vs) H := by
  obtain ⟨tp, xs, n, K, k, r, hF, q⟩ := h
  refine hb xs n K hF tp H H (L2.start N vs) (eok0 k r) _ (fun σ' H' ρ' m e kk => ?_) (fun v H' x m s1 k1 rx kk => q v H' x m s1 k1 rx kk) (fun d H' m s1 k1 ex kk => kk.elim)
  exact q .non H' (.t .non) m e.keep e.tape Rp.non kk
theorem go_fnX {C : Addr} {E : XK} {t : TS} {F : PFX} {N : List Str} {vs : List V} {H : Hp} {Q : VK} (h : spX C F vs H Q E) (hb : ∀ xs n Kx KE, F xs n Kx KE → Blk C E t (env0 N xs) n (retKX Kx KE)) : t { nx := fun _ H' => Q .non H', rt := Q } (L2.start N vs) H := by
  obtain ⟨tp, xs, n, K, KE, k, r, hF, q, qe⟩ := h
  refine hb xs n K KE hF tp H H (L2.start N vs) (eok0 k r) _ (fun σ' H' ρ' m e kk => ?_) (fun v H' x m s1 k1 rx kk => q v H' x m s1 k1 rx kk) (fun d H' m s1 k1 ex kk => qe d H' m s1 k1 ex kk)
  exact q .non H' (.t .non) m e.keep e.tape Rp.non kk
theorem len_U {F : PF} {k : Nat} (hF : ∀ xs n K, F xs n K → xs.length = k) : ∀ vs H Q E, spU F vs H Q E → vs.length = k := fun vs H Q E h => by
  obtain ⟨tp, xs, n, K, _, r, hf, _⟩ := h
  rw [Paired.length r]
  exact hF xs n K hf
theorem len_X {C : Addr} {F : PFX} {k : Nat} (hF : ∀ xs n K KE, F xs n K KE → xs.length = k) : ∀ vs H Q E, spX C F vs H Q E → vs.length = k := fun vs H Q E h => by
  obtain ⟨tp, xs, n, K, KE, _, r, hf, _⟩ := h
  rw [Paired.length r]
  exact hF xs n K KE hf
theorem bl_dropX {C : Addr} {E : XK} {G : PFX} {t : TA} {ρ : En} {n : Nat} {K : Out → Prop} (h : EvA t ρ n fun xs m => G (xs.map X.arg) m (fun _ m2 => K (.nx ρ m2)) (fun m2 => K (.ex m2))) : Blk C E (tDrop (tCall (spX C G) [] E t)) ρ n K := fun tp H0 H σ e D d1 d2 d3 =>
  h tp H0 H σ e _ fun vs H1 xs m s1 k1 rs hg => by
    show spX C G (vs ++ []) H1 _ E
    rw [List.append_nil]
    exact ⟨tp, xs.map X.arg, m, _, _, k1, X.args_re rs, hg, fun v H2 x m2 s2 k2 rx kk => d1 σ H2 ρ m2 (e.stp (s1.trans s2) k2) kk, fun d H2 m2 s2 k2 ex kk => d3 d H2 m2 (e.keep.trans (s1.trans s2)) k2 ex kk⟩
/-- what C.__init__(self, word, number) does: the two fields -/
def spIni (C : Addr) : Sp := fun vs H Q _ => ∃ a w k, vs = [.ref a, w, k] ∧ H a = some (exo a C none) ∧ ∀ dx, H dx = none → dx ≠ a →
  Q .non (upd (upd (upd H dx (exd dx [(("word" : Str), w)])) a (exo a C (some dx))) dx (exd dx [(("number" : Str), k), (("word" : Str), w)]))
theorem bl_raise {C : Addr} {E : XK} {t : TA} {ρ : En} {n : Nat} {K : Out → Prop} (h : EvA t ρ n fun xs m => ∃ w k, xs = [.t (.str w), .t (.int k)] ∧ K (.ex m)) :
    Blk C E (fun _ σ H => tMkO C (spIni C) [] t σ H fun cls d H' => E cls d H') ρ n K := fun tp H0 H σ e D d1 d2 d3 => by
  refine h tp H0 H σ e _ fun vs H1 xs m s1 k1 rs ⟨w, k, ex, kk⟩ => ?_
  subst ex
  obtain ⟨v, u, rfl, rx, ry⟩ := rs.two
  rw [rx.str, ry.int]
  refine ⟨by show 2 ≤ 1000; omega, fun a ha => ?_⟩
  refine ⟨a, .str w, .int k, rfl, upd_same, fun dx hdx hne => ?_⟩
  have hd1 : H1 dx = none := by rw [upd_ne hne] at hdx; exact hdx
  refine ⟨rfl, dx, [(("number" : Str), V.int k), (("word" : Str), V.str w)], ?_, upd_same, hd1, ?_⟩
  · rw [upd_ne (Ne.symm hne), upd_same]
  · have sm : Same H1 (upd (del (upd (upd (upd (upd H1 a (exo a C none)) dx (exd dx [(("word" : Str), V.str w)])) a (exo a C (some dx))) dx (exd dx [(("number" : Str), V.int k), (("word" : Str), V.str w)])) a) dx (.xd [(("number" : Str), V.int k), (("word" : Str), V.str w)])) := fun b o q => by
      have n1 : b ≠ a := ne_of_none q ha
      have n2 : b ≠ dx := ne_of_none q hd1
      rw [upd_ne n2, del_ne n1, upd_ne n2, upd_ne n1, upd_ne n2, upd_ne n1]
      exact q
    refine d3 dx _ m (e.keep.trans (s1.trans (stpS sm))) (k1.same sm) ⟨_, w, k, upd_same, ?_, ?_⟩ kk
    · rfl
    · rfl
end CK
/-! part CkH -/
set_option Elab.async false
set_option linter.all false
set_option maxRecDepth 100000
set_option maxHeartbeats 2000000
/-! The layer CK, part H: the program's text, its defs as they are called. -/
namespace CK
open PySem PySem.Spec PyProof.Rows L2
/-- the names that the module leaves to the built-ins; its constants -/
structure Bi (mg : Str → Option Value) : Prop where
  len : mg "len" = none
  tuple : mg "tuple" = none
  list : mg "list" = none
  isinstance : mg "isinstance" = none
  all : mg "all" = none
  int : mg "int" = none
  bool : mg "bool" = none
  str : mg "str" = none
  range : mg "range" = none
  zip : mg "zip" = none
  enumerate : mg "enumerate" = none
  max : mg "max" = none
  letters : ∃ t, mg "LETTERS" = some (.str "abcdefghijklmnopqrstuvwxyz" t)
  mstate : ∃ t, mg "MOST_STATE" = some (.int 99 t)
  mlong : ∃ t, mg "MOST_LONG" = some (.int 8 t)
theorem bt_len : bootBuiltins ("len" : Str) = some (.builtin "len") := by decide +kernel
theorem bt_tuple : bootBuiltins ("tuple" : Str) = some (.type "tuple") := by decide +kernel
theorem bt_list : bootBuiltins ("list" : Str) = some (.type "list") := by decide +kernel
theorem bt_isinstance : bootBuiltins ("isinstance" : Str) = some (.builtin "isinstance") := by decide +kernel
theorem bt_all : bootBuiltins ("all" : Str) = some (.builtin "all") := by decide +kernel
theorem bt_int : bootBuiltins ("int" : Str) = some (.type "int") := by decide +kernel
theorem bt_bool : bootBuiltins ("bool" : Str) = some (.type "bool") := by decide +kernel
theorem bt_str : bootBuiltins ("str" : Str) = some (.type "str") := by decide +kernel
theorem bt_max : bootBuiltins ("max" : Str) = some (.builtin "max") := by decide +kernel
/-- a def of the program: where it stands, what it promises -/
def Cal (P : Program) (w : World) (K : PySem.W.Frag) (mg : Str → Option Value) (base : Heap) (x : Str) (k : Nat) (ps : List Str) (sp : Sp) : Prop :=
  ∃ f fd, FnOk P w K mg base CX0 k f fd ps sp ∧ mg x = some (.ref f) ∧ PySem.W.keepIn K (.ref f) = true ∧ Binds K fd ps []
def CalX (P : Program) (w : World) (K : PySem.W.Frag) (mg : Str → Option Value) (base : Heap) (x : Str) (k : Nat) (ps : List Str) (sp : Sp) : Prop :=
  ∃ f fd, FnOk P w K mg base (L2.CX P w) k f fd ps sp ∧ mg x = some (.ref f) ∧ PySem.W.keepIn K (.ref f) = true ∧ Binds K fd ps []
theorem pe_cal {X : Cx} {x : Str} {j k : Nat} {ps : List Str} {sp : Sp} {e : Expr} {es : List Expr} {t : TA} {p pos : Pos} (c : Cal X.prog X.w X.K X.mg X.base x j ps sp) (hr : Room k X.A) (hg : Gl X x) (ha : PA X (e :: es) t) (hk : j ≤ k := by decide)
    (hdb : (x == ("__debug__" : Str)) = false := by decide) (he : starEach (e :: es) X.env = (false, eval e X.env) :: starEach es X.env := by rfl) (hpl : (backTo pos (starEach es X.env)).any (·.1) = false := by rfl) :
    PE X (.Call (.Name x p) (e :: es) [] pos) (tCall sp [] E0 t) := by
  obtain ⟨f, fd, F, gm, kp, b⟩ := c
  exact pe_call F (hr.mono hk) hg gm kp b .nil pass0 ha hdb he hpl
/-- .. that may raise, where what it raises leaves this one -/
theorem pe_calX {X : Cx} {x : Str} {j k : Nat} {ps : List Str} {sp : Sp} {e : Expr} {es : List Expr} {t : TA} {p pos : Pos} {E : XK} (c : CalX X.prog X.w X.K X.mg X.base x j ps sp) (hr : Room k X.A) (tk : Takes X (fun cls d _ H => E cls d H)) (hg : Gl X x) (ha : PA X (e :: es) t) (hk : j ≤ k := by decide)
    (hdb : (x == ("__debug__" : Str)) = false := by decide) (he : starEach (e :: es) X.env = (false, eval e X.env) :: starEach es X.env := by rfl) (hpl : (backTo pos (starEach es X.env)).any (·.1) = false := by rfl) :
    PE X (.Call (.Name x p) (e :: es) [] pos) (tCall sp [] E t) := by
  obtain ⟨f, fd, F, gm, kp, b⟩ := c
  exact pe_call F (hr.mono hk) hg gm kp b .nil (passes_call tk fun _ _ _ _ z => z) ha hdb he hpl
section
variable {P : Program} {w : World} {K : PySem.W.Frag} {mg : Str → Option Value} {base : Heap} {C : Addr}
/-- THE RULE for a def that raises nothing -/
theorem mk_cal {x q : Str} {st : Stmt} {f : Addr} {fd : FuncData} {N ps : List Str} {k m : Nat} {G : PF} (F : Fun K q q st f fd) (gm : mg x = some (.ref f)) (bn : Binds K fd ps []) (S : FnScope N ps (defScope st)) (hm : ps.length = m) (len : ∀ xs n K, G xs n K → xs.length = m)
    (hb : ∀ (cdv : Value) (A : Around) (outer : List Env) (s : Shared) (H : Hp) (E : XK), Room k (A.deeper (envOfC q (defScope st) s.heap.objs.size f cdv)) →
      ∃ t, PSs (cxOf CX0 P w K mg base N q (defScope st) f cdv A outer s H E).nox (defBody st) t ∧ ∀ xs n Kx, G xs n Kx → Blk 0 E0 t (env0 N xs) n (retK Kx)) : Cal P w K mg base x (k + 1) ps (spU G) :=
  ⟨f, fd, F.ok S (by rw [hm]; exact len_U len) fun cdv A outer s H vs Q E hr h => by
    obtain ⟨t, h1, h2⟩ := hb cdv A outer s H E hr
    exact ⟨t, h1, go_fn h h2⟩, gm, F.kp, bn⟩
theorem mk_calX {x q : Str} {st : Stmt} {f : Addr} {fd : FuncData} {N ps : List Str} {k m : Nat} {G : PFX} (F : Fun K q q st f fd) (gm : mg x = some (.ref f)) (bn : Binds K fd ps []) (S : FnScope N ps (defScope st)) (hm : ps.length = m) (len : ∀ xs n K KE, G xs n K KE → xs.length = m)
    (hb : ∀ (cdv : Value) (A : Around) (outer : List Env) (s : Shared) (H : Hp) (E : XK), Room k (A.deeper (envOfC q (defScope st) s.heap.objs.size f cdv)) →
      ∃ t, PSs (cxOf (L2.CX P w) P w K mg base N q (defScope st) f cdv A outer s H E) (defBody st) t ∧ ∀ xs n Kx KE, G xs n Kx KE → Blk C E t (env0 N xs) n (retKX Kx KE)) : CalX P w K mg base x (k + 1) ps (spX C G) :=
  ⟨f, fd, F.okX S (by rw [hm]; exact len_X len) fun cdv A outer s H vs Q E hr h => by
    obtain ⟨t, h1, h2⟩ := hb cdv A outer s H E hr
    exact ⟨t, h1, go_fnX h h2⟩, gm, F.kp, bn⟩
end
end CK
/-! part CkJ -/
set_option Elab.async false
set_option linter.all false
set_option maxRecDepth 100000
set_option maxHeartbeats 1000000
/-! The layer CK, part J: the rules with the kept part K named (for the bodies of comprehensions). -/
namespace CK
open PySem PySem.Spec PyProof.Rows L2
variable {K : PySem.W.Frag} {X : Cx}
theorem op_addK (h : X.K = K := by rfl) : OpR X (binaryOp .Add) (rAddU K) := h ▸ op_addU
theorem op_mulK (h : X.K = K := by rfl) : OpR X (binaryOp .Mult) (rMulU K) := h ▸ op_mulU
theorem op_eqK (hu : X.A.units + 64 < cLine) (h : X.K = K := by rfl) : OpR X (compareOp .Eq) (rEqP K false) := h ▸ op_eqP hu
theorem op_neK (hu : X.A.units + 64 < cLine) (h : X.K = K := by rfl) : OpR X (compareOp .NotEq) (rEqP K true) := h ▸ op_neP hu
theorem ix_K (h : X.K = K := by rfl) : IxR X (rIx K) := h ▸ ix_seq
theorem sl_K (h : X.K = K := by rfl) : SlR X (rSlU K) := h ▸ sl_U
theorem call_lenK (h : X.K = K := by rfl) : CallR X (.builtin "len") (rLenU K) := h ▸ call_lenU
theorem call_isiK (h : X.K = K := by rfl) : CallR X (.builtin "isinstance") (rIsi K) := h ▸ call_isi
theorem call_listK (h : X.K = K := by rfl) : CallR X (.type "list") (rListU K) := h ▸ call_list_of
theorem call_tupleK (h : X.K = K := by rfl) : CallR X (.type "tuple") (rTupleU K) := h ▸ call_tuple_of
theorem call_intK : CallR X (.type "int") rIntU := call_int1
theorem call_maxK (hc : X.calm = true) : CallR X (.builtin "max") rMaxU := call_max2 hc
theorem call_allK (hc : X.calm = true) (h : X.K = K := by rfl) : CallR X (.builtin "all") (rAll K) := h ▸ cr_all hc
theorem pe_cntK {o e : Expr} {to te : TE} {apos cpos : Pos} (ho : PE X o to) (ha : PE X e te) (h : X.K = K := by rfl)
    (hbase : attributeBase o "count" X.env (eval o X.env) = eval o X.env := by rfl)
    (hline : (apos.endLine == cpos.line) = true := by rfl) (hs : starEach [e] X.env = (false, eval e X.env) :: starEach [] X.env := by rfl) :
    PE X (.Call (.Attribute o "count" apos) [e] [] cpos) (tBM K "list" (rCntI K) to (tCons te tNil)) := by
  subst h
  exact pe_bm PySem.F.plainAttrs_list PySem.F.slot_list_count PySem.F.type_list_count mt_lcount ho (pa_cons ha pa_nil hs) hbase (by rw [hs]; rfl) hline hs (by rfl)
end CK
/-! part CkK -/
set_option Elab.async false
set_option linter.all false
set_option maxRecDepth 100000
set_option maxHeartbeats 1000000
/-! The layer CK, part K: the transformers at known values; loops over typed lists. -/
namespace CK
open PySem PySem.Spec PyProof.Rows L2
section
variable {K : X → Prop} {i j : Int} {a b : List T} {x y : Str} {d e : T} {p q : Addr} {o o2 : Bool}
theorem wAddI (k : K (.t (.int (i + j)))) : AddW (.t (.int i)) (.t (.int j)) K := k
theorem wAddT (h : (a ++ b).length ≤ lim) (k : K (.t (.tup (a ++ b)))) : AddW (.t (.tup a)) (.t (.tup b)) K := ⟨h, k⟩
theorem wAddL (h : (a ++ b).length ≤ lim) (k : ∀ r, K (.l r (a ++ b) true)) : AddW (.l p a o) (.l q b o2) K := ⟨h, k⟩
theorem wSub (k : K (.t (.int (i - j)))) : SubW (.t (.int i)) (.t (.int j)) K := k
theorem wMod (h : 0 < j) (k : K (.t (.int (i % j)))) : ModW (.t (.int i)) (.t (.int j)) K := ⟨h, k⟩
theorem wDiv (h : 0 < j) (h2 : j < 1073741824) (k : K (.t (.int (i / j)))) : DivW (.t (.int i)) (.t (.int j)) K := ⟨⟨h, h2⟩, k⟩
theorem wPow (h : CPow i j) (k : K (.t (.int (i ^ j.toNat)))) : PowW (.t (.int i)) (.t (.int j)) K := ⟨h, k⟩
theorem wMulI (h : CMul i j) (k : K (.t (.int (i * j)))) : MulW (.t (.int i)) (.t (.int j)) K := ⟨h, k⟩
theorem wMulL (h0 : 0 ≤ j) (h1 : j ≤ 1000) (h2 : j.toNat * a.length ≤ lim) (k : ∀ p, K (.l p (List.replicate j.toNat a).flatten true)) : MulW (.l p a o) (.t (.int j)) K := ⟨h0, h1, h2, k⟩
theorem wMulT (h0 : a ≠ []) (h1 : 1 ≤ j) (h2 : j ≤ 1000) (h3 : a.length ≤ 10) (k : K (.t (.tup (List.replicate j.toNat a).flatten))) : MulW (.t (.tup a)) (.t (.int j)) K := ⟨h0, h1, h2, h3, k⟩
theorem wIxT (h : atI a i = some d) (k : K (.t d)) : IxW (.t (.tup a)) (.t (.int i)) K := ⟨d, h, k⟩
theorem wIxL (h : atI a i = some d) (k : K (.t d)) : IxW (.l p a o) (.t (.int i)) K := ⟨d, h, k⟩
theorem wIxS {c : Nat} (l : x.length ≤ lim) (h : atI x.cps.toList i = some c) (k : K (.t (.str ⟨#[c]⟩))) : IxW (.t (.str x)) (.t (.int i)) K := ⟨l, c, h, k⟩
theorem wEqI (k : K (.t (.bl (decide (i = j))))) : EqW false (.t (.int i)) (.t (.int j)) K := ⟨_, _, rfl, rfl, by simp [PyData.depth], k⟩
theorem wNeI (k : K (.t (.bl (!decide (i = j))))) : EqW true (.t (.int i)) (.t (.int j)) K := ⟨_, _, rfl, rfl, by simp [PyData.depth], k⟩
theorem wEqS (k : K (.t (.bl (decide (x = y))))) : EqW false (.t (.str x)) (.t (.str y)) K := ⟨_, _, rfl, rfl, by simp [PyData.depth], k⟩
theorem wNeS (k : K (.t (.bl (!decide (x = y))))) : EqW true (.t (.str x)) (.t (.str y)) K := ⟨_, _, rfl, rfl, by simp [PyData.depth], k⟩
theorem wCmp {f : Int → Int → Bool} (k : K (.t (.bl (f i j)))) : CmpW f (.t (.int i)) (.t (.int j)) K := k
theorem wLenT (k : K (.t (.int a.length))) : LenW [.t (.tup a)] K := k
theorem wLenL (k : K (.t (.int a.length))) : LenW [.l p a o] K := k
theorem wLenS (l : x.length ≤ lim) (k : K (.t (.int x.length))) : LenW [.t (.str x)] K := ⟨l, k⟩
theorem wListT (k : ∀ p, K (.l p a true)) : ListW [.t (.tup a)] K := k
theorem wListL (k : ∀ p, K (.l p a true)) : ListW [.l p a o] K := k
theorem wTupT (k : K (.t (.tup a))) : TupleW [.t (.tup a)] K := k
theorem wTupL (k : K (.t (.tup a))) : TupleW [.l p a o] K := k
theorem wIsi {n : String} {b : Bool} (h : kitB d.tyn n = some b) (k : K (.t (.bl b))) : IsiW [.t d, .ty n] K := ⟨b, h, k⟩
theorem wIsiL {n : String} {b : Bool} (h : kitB "list" n = some b) (k : K (.t (.bl b))) : IsiW [.l p a o, .ty n] K := ⟨b, h, k⟩
theorem wAll {bs : List Bool} (h : a = bs.map T.bl) (k : K (.t (.bl (bs.all id)))) : AllW [.l p a o] K := ⟨bs, h, k⟩
theorem wInt {c : Bool} (k : K (.t (.int (if c then 1 else 0)))) : IntW [.t (.bl c)] K := k
theorem wMax (k : K (.t (.int (if j > i then j else i)))) : MaxW [.t (.int i), .t (.int j)] K := k
def T.isNon : T → Bool
  | .non => true
  | _ => false
theorem wIsN (k : K (.t (.bl d.isNon))) : IsW false (.t d) (.t .non) K := by
  cases d <;> exact ⟨_, rfl, k⟩
theorem wNotN (k : K (.t (.bl (!d.isNon)))) : IsW true (.t d) (.t .non) K := by
  cases d <;> exact ⟨_, rfl, k⟩
theorem wIsB {b c : Bool} (k : K (.t (.bl (b == c)))) : IsW false (.t (.bl b)) (.t (.bl c)) K := ⟨_, rfl, k⟩
theorem wSlT {lo hi : Option Int} (k : K (.t (.tup (cutA a lo hi)))) : SlW (.t (.tup a)) lo hi K := k
theorem wSlL {lo hi : Option Int} (k : ∀ p, K (.l p (cutA a lo hi) true)) : SlW (.l p a o) lo hi K := k
end
/-! == of data without bools -/
mutual
def T.noB : T → Bool
  | .non => true
  | .int _ => true
  | .str _ => true
  | .tup xs => noBs xs
  | _ => false
def noBs : List T → Bool
  | [] => true
  | x :: xs => x.noB && noBs xs
end
mutual
theorem pdN : ∀ (d : T), d.noB = true → ∃ p, d.pd = some p
  | .non, _ => ⟨_, rfl⟩
  | .int _, _ => ⟨_, rfl⟩
  | .str _, _ => ⟨_, rfl⟩
  | .tup xs, h => by
    obtain ⟨ps, e⟩ := pdsN xs h
    exact ⟨.tuple ps, by unfold T.pd; rw [e]⟩
theorem pdsN : ∀ (ds : List T), noBs ds = true → ∃ ps, pds ds = some ps
  | [], _ => ⟨[], rfl⟩
  | x :: xs, h => by
    unfold noBs at h
    rw [Bool.and_eq_true] at h
    obtain ⟨p, h1⟩ := pdN x h.1
    obtain ⟨ps, h2⟩ := pdsN xs h.2
    exact ⟨p :: ps, by unfold pds; rw [h1, h2]⟩
end
mutual
theorem eqvN : ∀ (d e : T), d.noB = true → e.noB = true → ∃ p q, d.pd = some p ∧ e.pd = some q ∧ (PyData.eqv p q = true ↔ d = e)
  | .non, .non, _, _ => ⟨_, _, rfl, rfl, by simp [PyData.eqv]⟩
  | .non, .int _, _, _ => ⟨_, _, rfl, rfl, by simp [PyData.eqv]⟩
  | .non, .str _, _, _ => ⟨_, _, rfl, rfl, by simp [PyData.eqv]⟩
  | .non, .tup ys, _, h => by
    obtain ⟨q, hq⟩ := pdsN ys h
    exact ⟨.none, .tuple q, rfl, by unfold T.pd; rw [hq], by simp [PyData.eqv]⟩
  | .int _, .non, _, _ => ⟨_, _, rfl, rfl, by simp [PyData.eqv]⟩
  | .int a, .int b, _, _ => ⟨_, _, rfl, rfl, by simp [PyData.eqv]⟩
  | .int _, .str _, _, _ => ⟨_, _, rfl, rfl, by simp [PyData.eqv]⟩
  | .int _, .tup ys, _, h => by
    obtain ⟨q, hq⟩ := pdsN ys h
    exact ⟨.int _, .tuple q, rfl, by unfold T.pd; rw [hq], by simp [PyData.eqv]⟩
  | .str _, .non, _, _ => ⟨_, _, rfl, rfl, by simp [PyData.eqv]⟩
  | .str _, .int _, _, _ => ⟨_, _, rfl, rfl, by simp [PyData.eqv]⟩
  | .str _, .str _, _, _ => ⟨_, _, rfl, rfl, by simp [PyData.eqv]⟩
  | .str _, .tup ys, _, h => by
    obtain ⟨q, hq⟩ := pdsN ys h
    exact ⟨.str _, .tuple q, rfl, by unfold T.pd; rw [hq], by simp [PyData.eqv]⟩
  | .tup xs, .non, h, _ => by
    obtain ⟨q, hq⟩ := pdsN xs h
    exact ⟨.tuple q, .none, by unfold T.pd; rw [hq], rfl, by simp [PyData.eqv]⟩
  | .tup xs, .int _, h, _ => by
    obtain ⟨q, hq⟩ := pdsN xs h
    exact ⟨.tuple q, .int _, by unfold T.pd; rw [hq], rfl, by simp [PyData.eqv]⟩
  | .tup xs, .str _, h, _ => by
    obtain ⟨q, hq⟩ := pdsN xs h
    exact ⟨.tuple q, .str _, by unfold T.pd; rw [hq], rfl, by simp [PyData.eqv]⟩
  | .tup xs, .tup ys, h, g => by
    obtain ⟨p, q, h1, h2, h3⟩ := eqvsN xs ys h g
    exact ⟨.tuple p, .tuple q, by unfold T.pd; rw [h1], by unfold T.pd; rw [h2], by rw [PyData.eqv, h3]; simp⟩
theorem eqvsN : ∀ (ds es : List T), noBs ds = true → noBs es = true → ∃ ps qs, pds ds = some ps ∧ pds es = some qs ∧ (PyData.eqvAll ps qs = true ↔ ds = es)
  | [], [], _, _ => ⟨_, _, rfl, rfl, by simp [PyData.eqvAll]⟩
  | [], y :: ys, _, h => by
    obtain ⟨q, hq⟩ := pdsN _ h
    unfold pds at hq
    split at hq
    · cases hq
      rename_i a b
      exact ⟨[], _, rfl, by unfold pds; rw [a, b], by simp [PyData.eqvAll]⟩
    · cases hq
  | y :: ys, [], h, _ => by
    obtain ⟨q, hq⟩ := pdsN _ h
    unfold pds at hq
    split at hq
    · cases hq
      rename_i a b
      exact ⟨_, [], by unfold pds; rw [a, b], rfl, by simp [PyData.eqvAll]⟩
    · cases hq
  | x :: xs, y :: ys, h, g => by
    unfold noBs at h g
    rw [Bool.and_eq_true] at h g
    obtain ⟨p, q, h1, h2, h3⟩ := eqvN x y h.1 g.1
    obtain ⟨ps, qs, h4, h5, h6⟩ := eqvsN xs ys h.2 g.2
    exact ⟨p :: ps, q :: qs, by unfold pds; rw [h1, h4], by unfold pds; rw [h2, h5], by rw [PyData.eqvAll, Bool.and_eq_true, h3, h6]; simp⟩
end
theorem pd_flat : ∀ (ds : List T) (ps : List PyData), (∀ d ∈ ds, ∃ i, d = T.int i) → pds ds = some ps → PyData.depthAll ps ≤ 0 := by
  intro ds
  induction ds with
  | nil => intro ps _ e; cases e; decide
  | cons d ds ih =>
    intro ps h e
    obtain ⟨i, rfl⟩ := h d List.mem_cons_self
    unfold pds at e
    split at e
    · cases e
      rename_i a b
      cases a
      have := ih _ (fun d hd => h d (List.mem_cons_of_mem _ hd)) b
      simp only [PyData.depthAll, PyData.depth] at *
      omega
    · cases e
end CK
/-! part CkL -/
set_option Elab.async false
set_option linter.all false
set_option maxRecDepth 100000
set_option maxHeartbeats 1000000
/-! The layer CK, part L: slots forgotten; comprehensions and loops over typed lists. -/
namespace CK
open PySem PySem.Spec PyProof.Rows L2
theorem EOk.fgets {tp : Option (Addr × Addr)} {H0 H : Hp} {σ : L2.St} {ρ : En} {n : Nat} (E : EOk tp H0 H σ ρ n) : ∀ ws : List Nat, EOk tp H0 H σ (ρ.wipe ws) n
  | [] => E
  | v :: vs => (EOk.fgets E vs).forget (i := v)
section
variable {C : Addr} {E : XK} {t : TS} {ρ : En} {n : Nat} {K : Out → Prop} {wi : TI} {g : TG} {tb : TS} {tt : TT} {te : TE} {vs : List Nat}
theorem Blk.fget (ws : List Nat) (h : Blk C E t (ρ.wipe ws) n K) : Blk C E t ρ n K := fun tp H0 H σ e => h tp H0 H σ (e.fgets ws)
theorem Tgt.fget (ws : List Nat) {vs : List Nat} {d : T} {K : En → Prop} (h : Tgt vs g d (ρ.wipe ws) K) : Tgt vs g d ρ K := fun tp H0 H σ n v e => h tp H0 H σ n v (e.fgets ws)
theorem Blk.fgetK (ws : List Nat) {J : En → Nat → Prop} (h : Blk C E t ρ n (loopK (fun ρ m => J (ρ.wipe ws) m) K)) : Blk C E t ρ n (loopK J K) := fun tp H0 H σ e D d1 d2 d3 =>
  h tp H0 H σ e D (fun a b c d e f => d1 a b (c.wipe ws) d (e.fgets ws) f) (fun a b c d e f g z => d2 a b c d e f g z) fun a b c d e f z => d3 a b c d e f z
theorem EvI.fget (ws : List Nat) {K : List T → En → Nat → Prop} (h : EvI wi ρ n fun ds ρ1 m => K ds (ρ1.wipe ws) m) : EvI wi ρ n K := fun tp H0 H σ e R q =>
  h tp H0 H σ e R fun J H2 ds ρ1 m G s e1 hG W l k => q J H2 ds (ρ1.wipe ws) m G s (e1.fgets ws) (fun H3 σ3 ρ3 m3 e3 eg => hG H3 σ3 ρ3 m3 e3 eg) W l k
/-- THE RULE for a loop: the slots ws are forgotten at each turn's end; the others are told by b -/
theorem bl_forS {α β : Type} (ws : List Nat) (enc : α → T) (mk : β → List (Option X)) (I : Nat → β → Nat → Prop)
    (h : EvI wi ρ n fun ds ρ1 m => ∃ (xs : List α) (b0 : β), ds = xs.map enc ∧ wipeL ρ1.s ws = mk b0 ∧ I 0 b0 m ∧ (∀ p ∈ ρ.g, p ∈ ρ1.g) ∧
      (∀ i x b m', xs[i]? = some x → I i b m' → Tgt (List.range 40) g (enc x) ⟨mk b, ρ1.g⟩ fun ρ2 => Blk C E tb ρ2 m' (loopK (fun ρ3 m3 => ρ3.g = ρ1.g ∧ ∃ b', wipeL ρ3.s ws = mk b' ∧ I (i + 1) b' m3) K)) ∧
      ∀ b m', I xs.length b m' → K (.nx ⟨mk b, ρ.g⟩ m')) : Blk C E (tFor wi g tb) ρ n K := by
  refine bl_for (EvI.fget ws ?_)
  intro tp H0 H σ e R q
  refine h tp H0 H σ e R fun J H2 ds ρ1 m G s e1 hG W l ⟨xs, b0, ed, ew, i0, hp, hs, hd⟩ => q J H2 ds ρ1 m G s e1 hG W l ?_
  refine ⟨fun i ρ' m' => ρ'.g = ρ1.g ∧ ∃ b, ρ'.s = mk b ∧ I i b m', ⟨rfl, b0, ew, i0⟩, fun i ρ' m' z => z.1, ?_, hp, ?_⟩
  · rintro i d ρ' m' hd' ⟨eg, b, es, iv⟩
    subst ed
    rw [List.getElem?_map] at hd'
    cases hx : xs[i]? with
    | none => rw [hx] at hd'; cases hd'
    | some x =>
      rw [hx] at hd'
      cases hd'
      have e' : ρ' = ⟨mk b, ρ1.g⟩ := by cases ρ'; simp at eg es; subst eg es; rfl
      subst e'
      have z := hs i x b m' hx iv
      intro tp H0 H σ n v e r Q q
      refine z tp H0 H σ n v e r Q fun σ' ρ2 e2 w2 k2 => q σ' ρ2 e2 w2 (Blk.fgetK ws (k2.mono fun o => ?_))
      cases o with
      | nx ρ3 m3 => exact fun ⟨a, b', c, d⟩ => ⟨a, b', c, d⟩
      | rt x m => exact id
      | ex m => exact id
  · rintro ρ' m' ⟨eg, b, es, iv⟩
    subst ed
    rw [List.length_map] at iv
    have := hd b m' iv
    rw [← es] at this
    exact this
/-- a comprehension, each item by a function -/
theorem ev_lcM {α : Type} (enc : α → T) (fe : α → T) {K : X → Nat → Prop} (h : EvI wi ρ n fun ds ρ1 m => ∃ xs : List α, ds = xs.map enc ∧
    (∀ x ∈ xs, Tgt vs g (enc x) (ρ1.wipe vs) fun ρ2 => Ev te ρ2 m fun y m3 => y.dat = some (fe x) ∧ m3 = m) ∧ ∀ a, K (.l a (xs.map fe) true) m) : Ev (tLc wi g tYes te vs) ρ n K := by
  refine ev_lc fun tp H0 H σ e R q => h tp H0 H σ e R fun J H2 ds ρ1 m G s e1 hG W l ⟨xs, ed, hs, hd⟩ => q J H2 ds ρ1 m G s e1 hG W l ?_
  subst ed
  refine ⟨fun i acc m' => m' = m ∧ acc = (xs.take i).map fe, ⟨rfl, rfl⟩, ?_, ?_⟩
  · rintro i d acc m' hd' _ ⟨rfl, rfl⟩
    rw [List.getElem?_map] at hd'
    cases hx : xs[i]? with
    | none => rw [hx] at hd'; cases hd'
    | some x =>
      rw [hx] at hd'
      cases hd'
      have hm : x ∈ xs := List.mem_of_getElem? hx
      intro tp H0 H σ n v e r Q q
      refine hs x hm tp H0 H σ n v e r Q fun σ' ρ2 e2 w2 k2 => q σ' ρ2 e2 w2 (et_yes ⟨fun _ => k2.mono ?_, fun z => by cases z⟩)
      rintro y m3 ⟨hy, rfl⟩
      refine ⟨_, hy, rfl, ?_⟩
      have hi : i < xs.length := (List.getElem?_eq_some_iff.mp hx).1
      rw [List.take_add_one, hx, List.map_append]
      rfl
  · rintro acc m' _ ⟨rfl, rfl⟩ a
    rw [List.length_map, List.take_length]
    exact hd a
/-- .. with a test -/
theorem ev_lcF {α : Type} (enc : α → T) (pr : α → Bool) (fe : α → T) {K : X → Nat → Prop} (h : EvI wi ρ n fun ds ρ1 m => ∃ xs : List α, ds = xs.map enc ∧
    (∀ x ∈ xs, Tgt vs g (enc x) (ρ1.wipe vs) fun ρ2 => EvT tt ρ2 m (fun b m2 => b = pr x ∧ m2 = m) ∧ (pr x = true → Ev te ρ2 m fun y m3 => y.dat = some (fe x) ∧ m3 = m)) ∧ ∀ a, K (.l a ((xs.filter pr).map fe) true) m) : Ev (tLc wi g tt te vs) ρ n K := by
  refine ev_lc fun tp H0 H σ e R q => h tp H0 H σ e R fun J H2 ds ρ1 m G s e1 hG W l ⟨xs, ed, hs, hd⟩ => q J H2 ds ρ1 m G s e1 hG W l ?_
  subst ed
  refine ⟨fun i acc m' => m' = m ∧ acc = ((xs.take i).filter pr).map fe, ⟨rfl, rfl⟩, ?_, ?_⟩
  · rintro i d acc m' hd' _ ⟨rfl, rfl⟩
    rw [List.getElem?_map] at hd'
    cases hx : xs[i]? with
    | none => rw [hx] at hd'; cases hd'
    | some x =>
      rw [hx] at hd'
      cases hd'
      have hm : x ∈ xs := List.mem_of_getElem? hx
      intro tp H0 H σ n v e r Q q
      refine hs x hm tp H0 H σ n v e r Q fun σ' ρ2 e2 w2 k2 => q σ' ρ2 e2 w2 (k2.1.mono ?_)
      have hi : i < xs.length := (List.getElem?_eq_some_iff.mp hx).1
      rintro b m2 ⟨rfl, rfl⟩
      refine ⟨fun hb => (k2.2 hb).mono ?_, fun hb => ⟨rfl, ?_⟩⟩
      · rintro y m3 ⟨hy, rfl⟩
        refine ⟨_, hy, rfl, ?_⟩
        rw [List.take_add_one, hx, List.filter_append, List.map_append]
        simp [hb]
      · rw [List.take_add_one, hx, List.filter_append, List.map_append]
        simp [hb]
  · rintro acc m' _ ⟨rfl, rfl⟩ a
    rw [List.length_map, List.take_length]
    exact hd a
/-- .. each item drawn -/
theorem ev_lcD {α : Type} (enc : α → T) (P : α → T → Prop) {K : X → Nat → Prop} (h : EvI wi ρ n fun ds ρ1 m => ∃ xs : List α, ds = xs.map enc ∧
    (∀ x m', x ∈ xs → Tgt vs g (enc x) (ρ1.wipe vs) fun ρ2 => Ev te ρ2 m' fun y m3 => ∃ e, y.dat = some e ∧ P x e ∧ m3 = m' + 1) ∧ ∀ a es, es.length = xs.length → (∀ (i : Nat) x e, xs[i]? = some x → es[i]? = some e → P x e) → K (.l a es true) (m + xs.length)) : Ev (tLc wi g tYes te vs) ρ n K := by
  refine ev_lc fun tp H0 H σ e R q => h tp H0 H σ e R fun J H2 ds ρ1 m G s e1 hG W l ⟨xs, ed, hs, hd⟩ => q J H2 ds ρ1 m G s e1 hG W l ?_
  subst ed
  refine ⟨fun i acc m' => m' = m + i ∧ acc.length = i ∧ ∀ (j : Nat) x e, xs[j]? = some x → acc[j]? = some e → P x e, ⟨rfl, rfl, fun j x e _ z => by simp at z⟩, ?_, ?_⟩
  · rintro i d acc m' hd' _ ⟨rfl, hl, hP⟩
    rw [List.getElem?_map] at hd'
    cases hx : xs[i]? with
    | none => rw [hx] at hd'; cases hd'
    | some x =>
      rw [hx] at hd'
      cases hd'
      have hm : x ∈ xs := List.mem_of_getElem? hx
      intro tp H0 H σ n v e r Q q
      refine hs x (m + i) hm tp H0 H σ n v e r Q fun σ' ρ2 e2 w2 k2 => q σ' ρ2 e2 w2 (et_yes ⟨fun _ => k2.mono ?_, fun z => by cases z⟩)
      rintro y m3 ⟨e, hy, hp, rfl⟩
      refine ⟨_, hy, by omega, by simp [hl], fun j x' e' h1 h2 => ?_⟩
      by_cases hj : j < acc.length
      · rw [List.getElem?_append_left hj] at h2
        exact hP j x' e' h1 h2
      · rw [List.getElem?_append_right (by omega)] at h2
        have hj' : j = i := by
          have := (List.getElem?_eq_some_iff.mp h2).1
          simp at this
          omega
        subst hj'
        rw [hx] at h1
        cases h1
        rw [hl] at h2
        simp at h2
        subst h2
        exact hp
  · rintro acc m' _ ⟨rfl, hl, hP⟩ a
    rw [List.length_map] at hl ⊢
    exact hd a acc hl hP
end
/-! indices -/
theorem ixN_nat {n m : Nat} (h : m < n) : ixN n (m : Int) = some m := by
  unfold ixN
  rw [if_pos (by omega), if_pos (by omega), Int.toNat_natCast]
theorem atI_nat {α : Type} {xs : List α} {m : Nat} {x : α} (h : xs[m]? = some x) : atI xs (m : Int) = some x := by
  unfold atI
  rw [ixN_nat (List.getElem?_eq_some_iff.mp h).1]
  exact h
theorem atI_c0 {α : Type} {a : α} {l : List α} : atI (a :: l) 0 = some a := atI_nat (m := 0) rfl
theorem atI_c1 {α : Type} {a b : α} {l : List α} : atI (a :: b :: l) 1 = some b := atI_nat (m := 1) rfl
theorem atI_c2 {α : Type} {a b c : α} {l : List α} : atI (a :: b :: c :: l) 2 = some c := atI_nat (m := 2) rfl
theorem atI_z {α : Type} {xs : List α} {m : Nat} {x : α} (h : xs[m]? = some x) : atI xs (0 + (m : Int)) = some x := by rw [Int.zero_add]; exact atI_nat h
theorem atI_zs {α : Type} {xs : List α} {m : Nat} {x : α} (h : xs[m + 1]? = some x) : atI xs (0 + (m : Int) + 1) = some x := by rw [Int.zero_add]; exact atI_nat (m := m + 1) h
theorem atI_map {α : Type} {xs : List α} {f : α → T} {m : Nat} {x : α} (h : xs[m]? = some x) : atI (xs.map f) (m : Int) = some (f x) := atI_nat (by rw [List.getElem?_map, h]; rfl)
theorem cutA_take {α : Type} (xs : List α) (k : Nat) : cutA xs none (some (k : Int)) = xs.take k := by
  unfold cutA
  simp only [HT.sIx_none, HT.sIx_nat, List.drop_zero, Nat.sub_zero]
  rw [List.take_eq_take_iff]
  omega
theorem cutA_drop {α : Type} (xs : List α) (k : Nat) : cutA xs (some (k : Int)) none = xs.drop k := by
  unfold cutA
  rw [HT.sIx_none, HT.sIx_nat]
  by_cases h : k ≤ xs.length
  · rw [Nat.min_eq_left h]
    apply List.take_of_length_le
    simp
  · rw [Nat.min_eq_right (by omega)]
    rw [List.drop_of_length_le (Nat.le_refl _), List.drop_of_length_le (by omega)]
    simp
theorem cutA_mid {α : Type} (xs : List α) (j k : Nat) : cutA xs (some (j : Int)) (some (k : Int)) = (xs.take k).drop j := by
  unfold cutA
  simp only [HT.sIx_nat]
  rw [List.drop_take]
  by_cases h : j ≤ xs.length
  · rw [Nat.min_eq_left h, List.take_eq_take_iff, List.length_drop]
    omega
  · have e : min j xs.length = xs.length := by omega
    rw [e, List.drop_of_length_le (Nat.le_refl _), List.drop_of_length_le (show xs.length ≤ j by omega)]
    simp
section
variable {C : Addr} {E : XK} {ρ : En} {n : Nat} {K : Out → Prop} {te : TE} {F : PySem.W.Frag} {i m : Nat} {gs : TGs} {a : Addr}
theorem bl_asgP (h : Ev te ρ n fun x m' => ∃ d, x = .t d ∧ Tgt (List.range 40) (gTup F m gs) d ρ fun ρ' => K (.nx ρ' m')) : Blk C E (tAsg te (gTup F m gs)) ρ n K := bl_asgT h
/-- a local list is handed out -/
theorem bl_retL {ds : List T} (h : ρ.s[i]? = some (some (.l a ds true))) (k : K (.rt (.l a ds true) n)) : Blk C E (tRet (tVar i)) ρ n K := fun tp H0 H σ e D d1 d2 d3 => by
  obtain ⟨v, hv, rfl, h0, hl⟩ := e.slot i _ h
  exact ⟨_, hv, d2 _ H (.l a ds true) n e.keep e.tape ⟨rfl, e.tpne h0, hl, fun _ => h0⟩ k⟩
theorem bl_retD {ds : List (List Key × T)} (h : ρ.s[i]? = some (some (.dic a ds true))) (k : K (.rt (.dic a ds true) n)) : Blk C E (tRet (tVar i)) ρ n K := fun tp H0 H σ e D d1 d2 d3 => by
  obtain ⟨v, hv, rfl, h0, hl⟩ := e.slot i _ h
  exact ⟨_, hv, d2 _ H (.dic a ds true) n e.keep e.tape ⟨rfl, e.tpne h0, hl, fun _ => ⟨h0, hl⟩⟩ k⟩
end
end CK
/-! part D1 -/
set_option Elab.async false
set_option linter.all false
set_option maxRecDepth 100000
set_option maxHeartbeats 1000000
/-! Defs of forms and stands: what a thing of any shape is. -/
namespace CK
open PySem PySem.Spec PyProof.Rows L2
section
variable {ρ : En} {n i : Nat} {K : X → Nat → Prop} {a : Addr} {d : T} {ds : List T} {o : Bool} {kvs : List (List Key × T)}
theorem ev_varT (h : ρ.s[i]? = some (some (.t d))) (k : K (.t d) n) : Ev (tVar i) ρ n K := ev_var h rfl k
theorem ev_varL (h : ρ.s[i]? = some (some (.l a ds o))) (k : K (.l a ds false) n) : Ev (tVar i) ρ n K := ev_var h rfl k
theorem ev_varD (h : ρ.s[i]? = some (some (.dic a kvs o))) (k : K (.dic a kvs false) n) : Ev (tVar i) ρ n K := ev_var h rfl k
theorem ev_varP (h : ρ.s[i]? = some (some .tape)) (k : K .tape n) : Ev (tVar i) ρ n K := ev_var h rfl k
end
local macro_rules | `(tactic| walk_at "wp0") => `(tactic| first
  | ((with_reducible refine bl_retL (a := ?va) (ds := ?vd) ?vh ?_); (case vh => exact rfl))
  | ((with_reducible refine bl_retD (a := ?va) (ds := ?vd) ?vh ?_); (case vh => exact rfl))
  | (with_reducible refine bl_ret ?_)
  | (with_reducible refine bl_if ?_)
  | (with_reducible refine bl_asg ?_)
  | (with_reducible refine bl_asgP ?_)
  | (with_reducible refine bl_next ?_)
  | (with_reducible refine et_test ?_)
  | (with_reducible refine et_B ?_)
  | (with_reducible refine et_and ?_)
  | (with_reducible refine et_or ?_)
  | (with_reducible refine et_not ?_)
  | (with_reducible refine et_yes ?_)
  | ((with_reducible refine ev_varT (d := ?vd) ?vh ?_); (case vh => exact rfl))
  | ((with_reducible refine ev_varL (a := ?va) (ds := ?vd) (o := ?vo) ?vh ?_); (case vh => exact rfl))
  | ((with_reducible refine ev_varD (a := ?va) (kvs := ?vd) (o := ?vo) ?vh ?_); (case vh => exact rfl))
  | ((with_reducible refine ev_varP ?vh ?_); (case vh => exact rfl))
  | (with_reducible refine ev_int ?_)
  | (with_reducible refine ev_str ?_)
  | (with_reducible refine ev_bl ?_)
  | (with_reducible refine ev_non ?_)
  | (with_reducible refine ev_ty ?_)
  | (with_reducible refine ev_op ro_ix ?_)
  | (with_reducible refine ev_op ro_eq ?_)
  | (with_reducible refine ev_op ro_is ?_)
  | (with_reducible refine ev_op ro_cmp ?_)
  | (with_reducible refine ev_op ro_add ?_)
  | (with_reducible refine ev_op ro_sub ?_)
  | (with_reducible refine ev_op ro_mul ?_)
  | (with_reducible refine ev_op ro_mod ?_)
  | (with_reducible refine ev_op ro_div ?_)
  | (with_reducible refine ev_op ro_pow ?_)
  | (with_reducible refine ev_op ro_in ?_)
  | (with_reducible refine ev_neg ?_)
  | (with_reducible refine ev_cb rc_len ?_)
  | (with_reducible refine ev_cb rc_isi ?_)
  | (with_reducible refine ev_cb rc_all ?_)
  | (with_reducible refine ev_cb rc_list ?_)
  | (with_reducible refine ev_cb rc_tuple ?_)
  | (with_reducible refine ev_cb rc_int ?_)
  | (with_reducible refine ev_cb rc_max ?_)
  | (with_reducible refine ea_cons ?_)
  | (with_reducible refine ea_nil ?_)
  | (with_reducible refine ev_tup ?_)
  | (with_reducible refine ev_lst ?_)
  | (with_reducible refine ev_sl ?_)
  | (with_reducible refine eo_none ?_)
  | (with_reducible refine eo_some ?_)
  | (with_reducible refine ev_dget ?_)
  | (with_reducible refine ev_dnew ?_)
  | (with_reducible refine ev_if ?_)
  | (with_reducible refine ev_and ?_)
  | (with_reducible refine ev_or ?_)
  | (with_reducible refine ev_not ?_)
  | (with_reducible refine ev_chain ro_cmp ro_cmp ?_)
  | (with_reducible refine ev_call ?_)
  | (with_reducible refine ev_lrg2 ?_)
  | (with_reducible refine wAddI ?_)
  | (with_reducible refine wSub ?_)
  | (with_reducible refine wEqI ?_)
  | (with_reducible refine wEqS ?_)
  | (with_reducible refine wNeI ?_)
  | (with_reducible refine wNeS ?_)
  | (with_reducible refine wCmp ?_)
  | (with_reducible refine wLenT ?_)
  | (with_reducible refine wLenL ?_)
  | (with_reducible refine wTupT ?_)
  | (with_reducible refine wTupL ?_)
  | (with_reducible refine wIsN ?_)
  | (with_reducible refine wNotN ?_)
  | (with_reducible refine wIsB ?_)
  | (with_reducible refine wInt ?_)
  | (with_reducible refine wMax ?_)
  | (with_reducible refine wListT ?_; intro _)
  | (with_reducible refine wListL ?_; intro _)
  | (with_reducible refine wSlT ?_)
  | ((with_reducible refine wIxT (d := ?vd) ?vh ?_); (case vh => exact rfl))
  | (refine wIxT atI_c0 ?_)
  | (refine wIxT atI_c1 ?_)
  | (refine wIxT atI_c2 ?_)
  | ((with_reducible refine wIxL (d := ?vd) ?vh ?_); (case vh => exact rfl))
  | ((with_reducible refine wIsi (b := ?vd) ?vh ?_); (case vh => exact rfl))
  | ((with_reducible refine wIsiL (b := ?vd) ?vh ?_); (case vh => exact rfl))
  | (with_reducible refine tg_tup rfl ?_)
  | (with_reducible refine tgs_cons ?_)
  | (with_reducible refine tgs_nil ?_)
  | ((with_reducible refine tg_name ?vh ?_); (case vh => decide))
  | (with_reducible refine ⟨_, rfl, ?_⟩)
  | (with_reducible refine ⟨_, _, rfl, ?_⟩)
  | (with_reducible refine ⟨_, _, rfl, rfl, ?_⟩)
  | (with_reducible refine ⟨_, _, _, rfl, ?_⟩)
  | (refine And.intro (show List.length _ ≤ lim from Nat.le_of_ble_eq_true rfl) ?_)
  | (with_reducible refine seqK_nx ?_)
  | (with_reducible refine seqK_rt ?_)
  | (with_reducible refine seqK_ex ?_)
  | fail "wp0: no step")
local macro_rules | `(tactic| walk_at "wp1") => `(tactic| first | (with_reducible refine bl_seq ?_) | walk_at "wp0")
local macro_rules | `(tactic| walk_at "wps") => `(tactic| repeat (walk_at "wp0"))
local macro_rules | `(tactic| walk_at "wp") => `(tactic| repeat (walk_at "wp1"))
def isWhole : T → Bool
  | .int _ => true
  | _ => false
def isWithin : T → Int → Int → Bool
  | .int i, a, b => decide (a ≤ i) && decide (i ≤ b)
  | _, _, _ => false
abbrev F_is_whole_forms : PF := fun xs n K => ∃ d, xs = [.t d] ∧ K (.t (.bl (isWhole d))) n
theorem len_is_whole_forms : ∀ xs n K, F_is_whole_forms xs n K → xs.length = 1 := fun _ _ _ ⟨_, e, _⟩ => by rw [e]; rfl
abbrev N_is_whole_forms : List Str := ["thing"]
theorem sc_is_whole_forms : FnScope N_is_whole_forms ["thing"] (defScope s_is_whole_forms) := ⟨rfl, rfl, rfl, by decide +kernel, rfl, by decide +kernel, by decide +kernel⟩
theorem cal_is_whole_forms {P : Program} {w : World} {K : PySem.W.Frag} {mg : Str → Option Value} {base : Heap} {f : Addr} {fd : FuncData} (B : Bi mg) (F : Fun K "is_whole" "is_whole" s_is_whole_forms f fd) (gm : mg "is_whole_forms" = some (.ref f)) : Cal P w K mg base "is_whole_forms" 1 ["thing"] (spU F_is_whole_forms) := by
  have bn : Binds K fd ["thing"] [] := F.binds fun _ _ _ _ _ _ us hl => match us, hl with | [_], _ => rfl
  refine mk_cal (k := 0) F gm bn sc_is_whole_forms rfl len_is_whole_forms fun cdv A outer s H E hr => ?_
  have nd := (sc_is_whole_forms).nd
  apply Exists.intro
  apply And.intro
  · exact (pss_one (ps_ret (pe_and (pe_callB (call_isiK (K := K)) (by rfl) B.isinstance bt_isinstance (pa_cons (pv 0) (pa_cons (pe_bltn (v := .ty "int") (by rfl) B.int bt_int rfl) pa_nil))) (pe_one (pe_not (pe_callB (call_isiK (K := K)) (by rfl) B.isinstance bt_isinstance (pa_cons (pv 0) (pa_cons (pe_bltn (v := .ty "bool") (by rfl) B.bool bt_bool rfl) pa_nil))))))))
  · rintro xs n Kx ⟨d, rfl, k⟩
    walk_at "wp"
    cases d
    all_goals (walk_at "wp"; refine ⟨fun z => ?_, fun z => ?_⟩ <;> first | cases z | skip)
    all_goals (walk_at "wp")
    all_goals exact k
abbrev F_is_within : PF := fun xs n K => ∃ d i j, xs = [.t d, .t (.int i), .t (.int j)] ∧ K (.t (.bl (isWithin d i j))) n
theorem len_is_within : ∀ xs n K, F_is_within xs n K → xs.length = 3 := fun _ _ _ ⟨_, _, _, e, _⟩ => by rw [e]; rfl
abbrev N_is_within : List Str := ["thing", "low", "high"]
theorem sc_is_within : FnScope N_is_within ["thing", "low", "high"] (defScope s_is_within) := ⟨rfl, rfl, rfl, by decide +kernel, rfl, by decide +kernel, by decide +kernel⟩
theorem cal_is_within {P : Program} {w : World} {K : PySem.W.Frag} {mg : Str → Option Value} {base : Heap} {f : Addr} {fd : FuncData} (B : Bi mg) (c_is_whole_forms : Cal P w K mg base "is_whole_forms" 1 ["thing"] (spU F_is_whole_forms)) (F : Fun K "is_within" "is_within" s_is_within f fd) (gm : mg "is_within" = some (.ref f)) : Cal P w K mg base "is_within" 2 ["thing", "low", "high"] (spU F_is_within) := by
  have bn : Binds K fd ["thing", "low", "high"] [] := F.binds fun _ _ _ _ _ _ us hl => match us, hl with | [_, _, _], _ => rfl
  refine mk_cal (k := 1) F gm bn sc_is_within rfl len_is_within fun cdv A outer s H E hr => ?_
  have nd := (sc_is_within).nd
  apply Exists.intro
  apply And.intro
  · exact (pss_one (ps_ret (pe_and (pe_cal c_is_whole_forms hr (by rfl) (pa_cons (pv 0) pa_nil)) (pe_one (pe_chain op_le op_le (pv 1) (pv 0) (pv 2))))))
  · rintro xs n Kx ⟨d, i, j, rfl, k⟩
    walk_at "wp"
    refine ⟨fun z => ?_, fun z => ?_⟩
    · cases d with
      | int x =>
        walk_at "wp"
        refine ⟨fun h1 => ?_, fun h1 => ?_⟩
        · walk_at "wp"
          have e : isWithin (.int x) i j = decide (x ≤ j) := by simp [isWithin, of_decide_eq_true h1]
          rw [e] at k
          exact k
        · have e : isWithin (.int x) i j = false := by simp [isWithin, of_decide_eq_false h1]
          rw [e] at k
          exact k
      | _ => cases z
    · cases d with
      | int x => cases z
      | _ => exact k
abbrev letters : List Nat := ("abcdefghijklmnopqrstuvwxyz" : Str).cps.toList
def isWord : T → Bool
  | .str x => decide (1 ≤ x.length) && (decide (x.length ≤ 8) && x.cps.toList.all fun c => decide (c ∈ letters))
  | _ => false
def T.short : T → Prop
  | .str x => x.length ≤ 1000
  | _ => True
abbrev F_is_word : PF := fun xs n K => ∃ d, xs = [.t d] ∧ d.short ∧ K (.t (.bl (isWord d))) n
theorem len_is_word : ∀ xs n K, F_is_word xs n K → xs.length = 1 := fun _ _ _ ⟨_, e, _⟩ => by rw [e]; rfl
theorem str_len (x : Str) : x.length = x.cps.size := rfl
theorem short_lim {x : Str} (h : T.short (.str x)) : x.length ≤ lim := Nat.le_trans h (by decide)
abbrev N_is_word : List Str := ["thing", "sign"]
theorem sc_is_word : FnScope N_is_word ["thing"] (defScope s_is_word) := ⟨rfl, rfl, rfl, by decide +kernel, rfl, by decide +kernel, by decide +kernel⟩
theorem cal_is_word {P : Program} {w : World} {K : PySem.W.Frag} {mg : Str → Option Value} {base : Heap} {f : Addr} {fd : FuncData} (B : Bi mg) (F : Fun K "is_word" "is_word" s_is_word f fd) (gm : mg "is_word" = some (.ref f)) : Cal P w K mg base "is_word" 1 ["thing"] (spU F_is_word) := by
  have bn : Binds K fd ["thing"] [] := F.binds fun _ _ _ _ _ _ us hl => match us, hl with | [_], _ => rfl
  refine mk_cal (k := 0) F gm bn sc_is_word rfl len_is_word fun cdv A outer s H E hr => ?_
  have nd := (sc_is_word).nd
  apply Exists.intro
  apply And.intro
  · exact (pss_cons (ps_if (PW.pt (pw_or (pt_not (pt_val (pe_callB (call_isiK (K := K)) (by rfl) B.isinstance bt_isinstance (pa_cons (pv 0) (pa_cons (pe_bltn (v := .ty "str") (by rfl) B.str bt_str rfl) pa_nil))))) (pw_or (pt_cmpR op_lt (pe_callB (call_lenK (K := K)) (by rfl) B.len bt_len (pa_cons (pv 0) pa_nil)) pe_int (nomark _)) (pw_or1 (pt_cmpR op_gt (pe_callB (call_lenK (K := K)) (by rfl) B.len bt_len (pa_cons (pv 0) pa_nil)) (pe_glob (v := .int 8) (by rfl) (Classical.choose_spec B.mlong) ⟨_, rfl⟩) (nomark _)))))) (pss_one (ps_ret pe_bl)) pss_nil)
    (pss_one (ps_ret (pe_callB (call_allK (K := K) rfl) (by rfl) B.all bt_all (pa_cons (pe_lc (own := [("sign", 1)]) (g := (gName 1)) (tt := tYes) rfl nd (pi_seqU (pv 0)) (blkOk_by (own := [("sign", 1)]) (N := N_is_word) (sc := (defScope s_is_word)) (by decide +kernel)) (fun _ _ _ _ _ => (pg_name (i := 1) nd rfl (Or.inl rfl))) (fun _ _ _ _ _ => pts_nil) (fun _ _ _ _ _ => (pe_cmpR op_inS1 (pv 1) (pe_glob (v := .str "abcdefghijklmnopqrstuvwxyz") (by rfl) (Classical.choose_spec B.letters) ⟨_, rfl⟩) rfl))) pa_nil)))))
  · rintro xs n Kx ⟨d, rfl, sh, k⟩
    walk_at "wp"
    cases d with
    | str x =>
      have hl := short_lim sh
      walk_at "wp"
      refine ⟨fun z => (by cases z), fun _ => ?_⟩
      walk_at "wp"
      refine wLenS hl ?_
      walk_at "wp"
      refine ⟨fun h1 => ?_, fun h1 => ?_⟩
      · refine ⟨fun _ => ?_, fun z => (by cases z)⟩
        walk_at "wp"
        have h1' := of_decide_eq_true h1
        have e : isWord (.str x) = false := by simp [isWord]; omega
        rw [e] at k; exact k
      · have h1' := of_decide_eq_false h1
        walk_at "wp"
        refine wLenS hl ?_
        walk_at "wp"
        refine ⟨fun h2 => ?_, fun h2 => ?_⟩
        · walk_at "wp"
          have h2' := of_decide_eq_true h2
          have e : isWord (.str x) = false := by simp [isWord]; omega
          rw [e] at k; exact k
        · have h2' := of_decide_eq_false h2
          walk_at "wp"
          refine ev_lcM (fun c : Nat => T.str ⟨#[c]⟩) (fun c => .bl (decide (c ∈ letters))) (ei_str ?_)
          walk_at "wp"
          refine ⟨by rw [← str_len]; exact hl, x.cps.toList, rfl, fun c hc => ?_, fun a => ?_⟩
          · walk_at "wp"
            exact ⟨c, _, rfl, rfl, rfl, rfl⟩
          · walk_at "wp"
            refine wAll (bs := x.cps.toList.map fun c => decide (c ∈ letters)) (by rw [List.map_map]; rfl) ?_
            have e : isWord (.str x) = ((x.cps.toList.map fun c => decide (c ∈ letters)).all id) := by
              rw [List.all_map]
              have g1 : 1 ≤ x.length := by omega
              have g2 : x.length ≤ 8 := by omega
              simp [isWord, g1, g2]
            rw [e] at k; exact k
    | _ =>
      walk_at "wp"
      refine ⟨fun _ => ?_, fun z => (by cases z)⟩
      refine ⟨fun _ => ?_, fun z => (by cases z)⟩
      walk_at "wp"
      exact k
def isSign : T → Bool
  | .str x => isWord (.str x) && decide (x.length = 1)
  | _ => false
abbrev F_is_sign : PF := fun xs n K => ∃ d, xs = [.t d] ∧ d.short ∧ K (.t (.bl (isSign d))) n
theorem len_is_sign : ∀ xs n K, F_is_sign xs n K → xs.length = 1 := fun _ _ _ ⟨_, e, _⟩ => by rw [e]; rfl
abbrev N_is_sign : List Str := ["thing"]
theorem sc_is_sign : FnScope N_is_sign ["thing"] (defScope s_is_sign) := ⟨rfl, rfl, rfl, by decide +kernel, rfl, by decide +kernel, by decide +kernel⟩
theorem cal_is_sign {P : Program} {w : World} {K : PySem.W.Frag} {mg : Str → Option Value} {base : Heap} {f : Addr} {fd : FuncData} (B : Bi mg) (c_is_word : Cal P w K mg base "is_word" 1 ["thing"] (spU F_is_word)) (F : Fun K "is_sign" "is_sign" s_is_sign f fd) (gm : mg "is_sign" = some (.ref f)) : Cal P w K mg base "is_sign" 2 ["thing"] (spU F_is_sign) := by
  have bn : Binds K fd ["thing"] [] := F.binds fun _ _ _ _ _ _ us hl => match us, hl with | [_], _ => rfl
  refine mk_cal (k := 1) F gm bn sc_is_sign rfl len_is_sign fun cdv A outer s H E hr => ?_
  have nd := (sc_is_sign).nd
  apply Exists.intro
  apply And.intro
  · exact (pss_one (ps_ret (pe_and (pe_cal c_is_word hr (by rfl) (pa_cons (pv 0) pa_nil)) (pe_one (pe_cmpR (op_eqK (K := K) hr.units) (pe_callB (call_lenK (K := K)) (by rfl) B.len bt_len (pa_cons (pv 0) pa_nil)) pe_int (nomark _))))))
  · rintro xs n Kx ⟨d, rfl, sh, k⟩
    walk_at "wp"
    refine ⟨sh, ?_⟩
    walk_at "wp"
    refine ⟨fun z => ?_, fun z => ?_⟩
    · cases d with
      | str x =>
        walk_at "wp"
        refine wLenS (short_lim sh) ?_
        walk_at "wp"
        have e : isSign (.str x) = decide ((x.length : Int) = 1) := by simp [isSign, z]; omega
        rw [e] at k; exact k
      | _ => cases z
    · have e : isSign d = false := by
        cases d with
        | str x => simp [isSign, z]
        | _ => rfl
      rw [e] at k; exact k
def isTuple : T → Int → Bool
  | .tup ds, k => decide ((ds.length : Int) = k)
  | _, _ => false
abbrev F_is_tuple : PF := fun xs n K => ∃ d i, xs = [.t d, .t (.int i)] ∧ K (.t (.bl (isTuple d i))) n
theorem len_is_tuple : ∀ xs n K, F_is_tuple xs n K → xs.length = 2 := fun _ _ _ ⟨_, _, e, _⟩ => by rw [e]; rfl
abbrev N_is_tuple : List Str := ["thing", "many"]
theorem sc_is_tuple : FnScope N_is_tuple ["thing", "many"] (defScope s_is_tuple) := ⟨rfl, rfl, rfl, by decide +kernel, rfl, by decide +kernel, by decide +kernel⟩
theorem cal_is_tuple {P : Program} {w : World} {K : PySem.W.Frag} {mg : Str → Option Value} {base : Heap} {f : Addr} {fd : FuncData} (B : Bi mg) (F : Fun K "is_tuple" "is_tuple" s_is_tuple f fd) (gm : mg "is_tuple" = some (.ref f)) : Cal P w K mg base "is_tuple" 1 ["thing", "many"] (spU F_is_tuple) := by
  have bn : Binds K fd ["thing", "many"] [] := F.binds fun _ _ _ _ _ _ us hl => match us, hl with | [_, _], _ => rfl
  refine mk_cal (k := 0) F gm bn sc_is_tuple rfl len_is_tuple fun cdv A outer s H E hr => ?_
  have nd := (sc_is_tuple).nd
  apply Exists.intro
  apply And.intro
  · exact (pss_one (ps_ret (pe_and (pe_callB (call_isiK (K := K)) (by rfl) B.isinstance bt_isinstance (pa_cons (pv 0) (pa_cons (pe_bltn (v := .ty "tuple") (by rfl) B.tuple bt_tuple rfl) pa_nil))) (pe_one (pe_cmpR (op_eqK (K := K) hr.units) (pe_callB (call_lenK (K := K)) (by rfl) B.len bt_len (pa_cons (pv 0) pa_nil)) (pv 1) (nomark _))))))
  · rintro xs n Kx ⟨d, i, rfl, k⟩
    walk_at "wp"
    cases d with
    | tup ds =>
      walk_at "wp"
      refine ⟨fun _ => ?_, fun z => (by cases z)⟩
      walk_at "wp"
      exact k
    | _ =>
      walk_at "wp"
      exact ⟨fun z => (by cases z), fun _ => k⟩
end CK
/-! part M1 -/
set_option Elab.async false
set_option linter.all false
set_option maxRecDepth 100000
set_option maxHeartbeats 1000000
/-! The plain model: forms, stands, deeds; as data; what the code computes of them. -/
namespace CK
open PySem PySem.Spec PyProof.Rows L2
structure Mv where
  st : Int
  cause : Str
  nx : Int
  sends : List (Nat × Str)
  word : Option Str
structure Rl where
  start : Int
  mv : List Mv
structure Rd where
  src : Nat
  dst : Nat
  kind : Str
structure Fm where
  rules : List Rl
  roads : List Rd
structure Ld where
  sent : Int
  w : List (Int × Str)
structure Sd where
  st : List Int
  ld : List Ld
inductive Dd where
  | own (m : Nat)
  | hear (m : Nat) (c : Str)
  | come (r : Nat) (n : Int)
def eO : Option Str → T
  | none => .non
  | some x => .str x
abbrev eSend (s : Nat × Str) : T := .tup [.int (s.1 : Nat), .str s.2]
abbrev eMv (m : Mv) : T := .tup [.int m.st, .str m.cause, .int m.nx, .tup (m.sends.map eSend), eO m.word]
abbrev eRl (r : Rl) : T := .tup [.int r.start, .tup (r.mv.map eMv)]
abbrev eRd (r : Rd) : T := .tup [.int (r.src : Nat), .int (r.dst : Nat), .str r.kind]
abbrev eF (f : Fm) : T := .tup [.tup (f.rules.map eRl), .tup (f.roads.map eRd)]
abbrev eLt (l : Int × Str) : T := .tup [.int l.1, .str l.2]
abbrev eLd (l : Ld) : T := .tup [.int l.sent, .tup (l.w.map eLt)]
abbrev eS (s : Sd) : T := .tup [.tup (s.st.map T.int), .tup (s.ld.map eLd)]
def eD : Dd → T
  | .own m => .tup [.str "own", .int (m : Nat)]
  | .hear m c => .tup [.str "hear", .int (m : Nat), .str c]
  | .come r n => .tup [.str "come", .int (r : Nat), .int n]
/-! ### answers -/
def mvIs (s : Int) (c : Str) (v : Mv) : Bool := decide (v.st = s) && decide (v.cause = c)
def ansOf (s : Int) (c : Str) : Option Mv → Option (Int × List (Nat × Str) × Option Str)
  | some v => some (v.nx, v.sends, v.word)
  | none => if c = "own" then none else some (s, [], none)
def Fm.answer (f : Fm) (m : Nat) (s : Int) (c : Str) : Option (Int × List (Nat × Str) × Option Str) :=
  match f.rules[m]? with
  | none => none
  | some r => ansOf s c (r.mv.find? (mvIs s c))
def eA : Option (Int × List (Nat × Str) × Option Str) → T
  | none => .non
  | some (a, b, c) => .tup [.int a, .tup (b.map eSend), eO c]
/-! ### stands -/
def isLetter : T → Int → Bool
  | .tup [a, b], s => isWithin a 0 (s - 1) && isSign b
  | _, _ => false
def numOf : T → Int
  | .tup (.int i :: _) => i
  | _ => 0
def rgI (a b : Int) : List Int := (List.range (b - a).toNat).map fun i => a + (i : Nat)
def upI : List Int → Bool
  | a :: b :: l => decide (a < b) && upI (b :: l)
  | _ => true
def isLoad : T → Str → Bool
  | .tup [.int s, .tup w], o => decide (0 ≤ s) && ((w.all fun d => isLetter d s) && if o = "row" then decide (w.map numOf = rgI (s - w.length) s) else upI (w.map numOf))
  | _, _ => false
def rightStand (f : Fm) : T → Bool
  | .tup [.tup ss, .tup ls] => decide (ss.length = f.rules.length) && (decide (ls.length = f.roads.length) && ((ss.all fun d => isWithin d 0 99) && (ls.zip f.roads).all fun p => isLoad p.1 p.2.kind))
  | _ => false
mutual
/-- short texts, short tuples -/
def T.mild : T → Prop
  | .str x => x.length ≤ 1000
  | .tup xs => milds xs ∧ xs.length ≤ 16
  | _ => True
def milds : List T → Prop
  | [] => True
  | x :: xs => x.mild ∧ milds xs
end
theorem milds_mem : ∀ {ds : List T} {d : T}, milds ds → d ∈ ds → d.mild
  | x :: xs, d, h, hm => by
    unfold milds at h
    rcases List.mem_cons.mp hm with rfl | hm
    · exact h.1
    · exact milds_mem h.2 hm
theorem milds_of : ∀ {ds : List T}, (∀ d ∈ ds, d.mild) → milds ds
  | [], _ => by unfold milds; trivial
  | x :: xs, h => by
    unfold milds
    exact ⟨h x List.mem_cons_self, milds_of fun d hd => h d (List.mem_cons_of_mem _ hd)⟩
theorem T.mild.short {d : T} (h : d.mild) : d.short := by
  cases d with
  | str x => unfold T.mild at h; exact h
  | _ => trivial
theorem T.mild.all {ds : List T} (h : (T.tup ds).mild) : ∀ d ∈ ds, d.mild := fun d hd => by
  unfold T.mild at h
  exact milds_mem h.1 hd
theorem T.mild.len16 {ds : List T} (h : (T.tup ds).mild) : ds.length ≤ 16 := by
  unfold T.mild at h
  exact h.2
theorem T.mild.len {ds : List T} (h : (T.tup ds).mild) : ds.length ≤ 1000 := Nat.le_trans h.len16 (by decide)
/-- no great number ahead of a tuple -/
def T.nb (d : T) : Prop := ∀ s w, d = .tup [.int s, .tup w] → s < 2 ^ 61
/-- .. of the loads of a stand -/
def T.sb (d : T) : Prop := ∀ a ls, d = .tup [a, .tup ls] → ∀ l ∈ ls, l.nb
/-- .. of the stand of a taking -/
def T.kb (d : T) : Prop := ∀ a b c, d = .tup [a, b, c] → a.sb
end CK
/-! part D2 -/
set_option Elab.async false
set_option linter.all false
set_option maxRecDepth 100000
set_option maxHeartbeats 1000000
/-! Defs of forms and stands. -/
namespace CK
open PySem PySem.Spec PyProof.Rows L2
local macro_rules | `(tactic| walk_at "wp0") => `(tactic| first
  | ((with_reducible refine bl_retL (a := ?va) (ds := ?vd) ?vh ?_); (case vh => exact rfl))
  | ((with_reducible refine bl_retD (a := ?va) (ds := ?vd) ?vh ?_); (case vh => exact rfl))
  | (with_reducible refine bl_ret ?_)
  | (with_reducible refine bl_if ?_)
  | (with_reducible refine bl_asg ?_)
  | (with_reducible refine bl_asgP ?_)
  | (with_reducible refine bl_next ?_)
  | (with_reducible refine et_test ?_)
  | (with_reducible refine et_B ?_)
  | (with_reducible refine et_and ?_)
  | (with_reducible refine et_or ?_)
  | (with_reducible refine et_not ?_)
  | (with_reducible refine et_yes ?_)
  | ((with_reducible refine ev_varT (d := ?vd) ?vh ?_); (case vh => exact rfl))
  | ((with_reducible refine ev_varL (a := ?va) (ds := ?vd) (o := ?vo) ?vh ?_); (case vh => exact rfl))
  | ((with_reducible refine ev_varD (a := ?va) (kvs := ?vd) (o := ?vo) ?vh ?_); (case vh => exact rfl))
  | ((with_reducible refine ev_varP ?vh ?_); (case vh => exact rfl))
  | (with_reducible refine ev_int ?_)
  | (with_reducible refine ev_str ?_)
  | (with_reducible refine ev_bl ?_)
  | (with_reducible refine ev_non ?_)
  | (with_reducible refine ev_ty ?_)
  | (with_reducible refine ev_op ro_ix ?_)
  | (with_reducible refine ev_op ro_eq ?_)
  | (with_reducible refine ev_op ro_is ?_)
  | (with_reducible refine ev_op ro_cmp ?_)
  | (with_reducible refine ev_op ro_add ?_)
  | (with_reducible refine ev_op ro_sub ?_)
  | (with_reducible refine ev_op ro_mul ?_)
  | (with_reducible refine ev_op ro_mod ?_)
  | (with_reducible refine ev_op ro_div ?_)
  | (with_reducible refine ev_op ro_pow ?_)
  | (with_reducible refine ev_op ro_in ?_)
  | (with_reducible refine ev_neg ?_)
  | (with_reducible refine ev_cb rc_len ?_)
  | (with_reducible refine ev_cb rc_isi ?_)
  | (with_reducible refine ev_cb rc_all ?_)
  | (with_reducible refine ev_cb rc_list ?_)
  | (with_reducible refine ev_cb rc_tuple ?_)
  | (with_reducible refine ev_cb rc_int ?_)
  | (with_reducible refine ev_cb rc_max ?_)
  | (with_reducible refine ea_cons ?_)
  | (with_reducible refine ea_nil ?_)
  | (with_reducible refine ev_tup ?_)
  | (with_reducible refine ev_lst ?_)
  | (with_reducible refine ev_sl ?_)
  | (with_reducible refine eo_none ?_)
  | (with_reducible refine eo_some ?_)
  | (with_reducible refine ev_dget ?_)
  | (with_reducible refine ev_dnew ?_)
  | (with_reducible refine ev_if ?_)
  | (with_reducible refine ev_and ?_)
  | (with_reducible refine ev_or ?_)
  | (with_reducible refine ev_not ?_)
  | (with_reducible refine ev_chain ro_cmp ro_cmp ?_)
  | (with_reducible refine ev_call ?_)
  | (with_reducible refine ev_lrg2 ?_)
  | (with_reducible refine wAddI ?_)
  | (with_reducible refine wSub ?_)
  | (with_reducible refine wEqI ?_)
  | (with_reducible refine wEqS ?_)
  | (with_reducible refine wNeI ?_)
  | (with_reducible refine wNeS ?_)
  | (with_reducible refine wCmp ?_)
  | (with_reducible refine wLenT ?_)
  | (with_reducible refine wLenL ?_)
  | (with_reducible refine wTupT ?_)
  | (with_reducible refine wTupL ?_)
  | (with_reducible refine wIsN ?_)
  | (with_reducible refine wNotN ?_)
  | (with_reducible refine wIsB ?_)
  | (with_reducible refine wInt ?_)
  | (with_reducible refine wMax ?_)
  | (with_reducible refine wListT ?_; intro _)
  | (with_reducible refine wListL ?_; intro _)
  | (with_reducible refine wSlT ?_)
  | ((with_reducible refine wIxT (d := ?vd) ?vh ?_); (case vh => exact rfl))
  | (refine wIxT atI_c0 ?_)
  | (refine wIxT atI_c1 ?_)
  | (refine wIxT atI_c2 ?_)
  | ((with_reducible refine wIxL (d := ?vd) ?vh ?_); (case vh => exact rfl))
  | ((with_reducible refine wIsi (b := ?vd) ?vh ?_); (case vh => exact rfl))
  | ((with_reducible refine wIsiL (b := ?vd) ?vh ?_); (case vh => exact rfl))
  | (with_reducible refine tg_tup rfl ?_)
  | (with_reducible refine tgs_cons ?_)
  | (with_reducible refine tgs_nil ?_)
  | ((with_reducible refine tg_name ?vh ?_); (case vh => decide))
  | (with_reducible refine ⟨_, rfl, ?_⟩)
  | (with_reducible refine ⟨_, _, rfl, ?_⟩)
  | (with_reducible refine ⟨_, _, rfl, rfl, ?_⟩)
  | (with_reducible refine ⟨_, _, _, rfl, ?_⟩)
  | (refine And.intro (show List.length _ ≤ lim from Nat.le_of_ble_eq_true rfl) ?_)
  | (with_reducible refine seqK_nx ?_)
  | (with_reducible refine seqK_rt ?_)
  | (with_reducible refine seqK_ex ?_)
  | fail "wp0: no step")
local macro_rules | `(tactic| walk_at "wp1") => `(tactic| first | (with_reducible refine bl_seq ?_) | walk_at "wp0")
local macro_rules | `(tactic| walk_at "wps") => `(tactic| repeat (walk_at "wp0"))
local macro_rules | `(tactic| walk_at "wp") => `(tactic| repeat (walk_at "wp1"))
abbrev F_answer : PF := fun xs n K => ∃ (f : Fm) (m : Nat) (s : Int) (c : Str), xs = [.t (eF f), .t (.int (m : Nat)), .t (.int s), .t (.str c)] ∧ m < f.rules.length ∧ K (.t (eA (f.answer m s c))) n
theorem len_answer : ∀ xs n K, F_answer xs n K → xs.length = 4 := fun _ _ _ ⟨_, _, _, _, e, _⟩ => by rw [e]; rfl
abbrev N_answer : List Str := ["form", "m", "state", "cause", "move"]
theorem sc_answer : FnScope N_answer ["form", "m", "state", "cause"] (defScope s_answer) := ⟨rfl, rfl, rfl, by decide +kernel, rfl, by decide +kernel, by decide +kernel⟩
theorem cal_answer {P : Program} {w : World} {K : PySem.W.Frag} {mg : Str → Option Value} {base : Heap} {f : Addr} {fd : FuncData} (B : Bi mg) (F : Fun K "answer" "answer" s_answer f fd) (gm : mg "answer" = some (.ref f)) : Cal P w K mg base "answer" 1 ["form", "m", "state", "cause"] (spU F_answer) := by
  have bn : Binds K fd ["form", "m", "state", "cause"] [] := F.binds fun _ _ _ _ _ _ us hl => match us, hl with | [_, _, _, _], _ => rfl
  refine mk_cal (k := 0) F gm bn sc_answer rfl len_answer fun cdv A outer s H E hr => ?_
  have nd := (sc_answer).nd
  apply Exists.intro
  apply And.intro
  · exact (pss_cons (ps_for PassesOwn.never rfl (pi_seqU (pe_ix (ix_K (K := K)) (pe_ix (ix_K (K := K)) (pe_ix (ix_K (K := K)) (pv 0) pe_int (fun _ _ => rfl)) (pv 1) (fun _ _ => rfl)) pe_int (fun _ _ => rfl))) (pg_name (i := 4) nd rfl (Or.inl rfl))
      (pss_one (ps_if (PW.pt (pw_and (pt_cmpR (op_eqK (K := K) hr.units) (pe_ix (ix_K (K := K)) (pv 4) pe_int (fun _ _ => rfl)) (pv 2) (nomark _)) (pw_and1 (pt_cmpR (op_eqK (K := K) hr.units) (pe_ix (ix_K (K := K)) (pv 4) pe_int (fun _ _ => rfl)) (pv 3) (nomark _))))) (pss_one (ps_ret (pe_tup (pa_cons (pe_ix (ix_K (K := K)) (pv 4) pe_int (fun _ _ => rfl)) (pa_cons (pe_ix (ix_K (K := K)) (pv 4) pe_int (fun _ _ => rfl)) (pa_cons (pe_ix (ix_K (K := K)) (pv 4) pe_int (fun _ _ => rfl)) pa_nil)))))) pss_nil)))
    (pss_cons (ps_if (pt_cmpR (op_eqK (K := K) hr.units) (pv 3) pe_str (nomark _)) (pss_one (ps_ret pe_non)) pss_nil)
    (pss_one (ps_ret (pe_tup (pa_cons (pv 2) (pa_cons (pe_tup pa_nil) (pa_cons pe_non pa_nil))))))))
  · rintro xs n Kx ⟨f, m, s, c, rfl, hm, k⟩
    have hr := List.getElem?_eq_getElem hm
    generalize f.rules[m] = r at hr
    have ea : f.answer m s c = ansOf s c (r.mv.find? (mvIs s c)) := by unfold Fm.answer; rw [hr]
    rw [ea] at k
    refine bl_seq (bl_forS (α := Mv) [4] eMv (fun _ : Unit => [some (.t (eF f)), some (.t (.int (m : Nat))), some (.t (.int s)), some (.t (.str c)), none]) (fun i _ m' => m' = n ∧ (r.mv.take i).find? (mvIs s c) = none) (ei_tup ?_))
    walk_at "wp"
    refine wIxT (atI_map hr) ?_
    walk_at "wp"
    intro g
    refine ⟨r.mv, (), rfl, rfl, ⟨rfl, rfl⟩, fun p hp => List.mem_cons_of_mem _ hp, fun i v _ m' hv ⟨em, hf⟩ => ?_, fun _ m' ⟨em, hf⟩ => ?_⟩
    · subst em
      walk_at "wp"
      have hi := (List.getElem?_eq_some_iff.mp hv).1
      have hn : (mvIs s c v = false) → (r.mv.take (i + 1)).find? (mvIs s c) = none := fun z => by
        rw [List.take_add_one, hv, List.find?_append, hf]; simp [z]
      refine ⟨fun h1 => ?_, fun h1 => ?_⟩
      · walk_at "wp"
        refine ⟨fun h2 => ?_, fun h2 => ?_⟩
        · have e : r.mv.find? (mvIs s c) = some v := by
            have h : r.mv = r.mv.take i ++ v :: r.mv.drop (i + 1) := by
              conv => lhs; rw [← List.take_append_drop i r.mv, List.drop_eq_getElem_cons hi, (List.getElem?_eq_some_iff.mp hv).2]
            rw [h, List.find?_append, hf]
            have : mvIs s c v = true := by unfold mvIs; rw [h1, h2]; rfl
            simp [this]
          rw [e] at k
          walk_at "wp"
          exact k
        · refine bl_next ?_
          exact ⟨rfl, (), rfl, rfl, hn (by unfold mvIs; rw [h2]; simp)⟩
      · refine ⟨fun z => (by cases z), fun _ => bl_next ?_⟩
        exact ⟨rfl, (), rfl, rfl, hn (by unfold mvIs; rw [h1]; simp)⟩
    · subst em
      rw [List.take_length] at hf
      rw [hf] at k
      walk_at "wp"
      refine ⟨fun h => ?_, fun h => ?_⟩
      · have h' := of_decide_eq_true h
        simp only [ansOf, h', if_true] at k
        walk_at "wp"
        exact k
      · have h' := of_decide_eq_false h
        simp only [ansOf, h', if_false] at k
        walk_at "wp"
        exact k
abbrev F_is_letter : PF := fun xs n K => ∃ d s, xs = [.t d, .t (.int s)] ∧ d.mild ∧ K (.t (.bl (isLetter d s))) n
theorem len_is_letter : ∀ xs n K, F_is_letter xs n K → xs.length = 2 := fun _ _ _ ⟨_, _, e, _⟩ => by rw [e]; rfl
theorem isTuple2 {d : T} {k : Nat} (h : isTuple d k = true) : ∃ ds, d = .tup ds ∧ ds.length = k := by
  cases d with
  | tup ds => exact ⟨ds, rfl, by have := of_decide_eq_true h; omega⟩
  | _ => cases h
theorem len2 {α : Type} {ds : List α} (h : ds.length = 2) : ∃ a b, ds = [a, b] := by
  match ds, h with
  | [a, b], _ => exact ⟨a, b, rfl⟩
theorem len3 {α : Type} {ds : List α} (h : ds.length = 3) : ∃ a b c, ds = [a, b, c] := by
  match ds, h with
  | [a, b, c], _ => exact ⟨a, b, c, rfl⟩
theorem isLetter_no {d : T} {s : Int} (h : isTuple d 2 = false) : isLetter d s = false := by
  unfold isLetter
  split
  · cases h
  · rfl
abbrev N_is_letter : List Str := ["thing", "sent"]
theorem sc_is_letter : FnScope N_is_letter ["thing", "sent"] (defScope s_is_letter) := ⟨rfl, rfl, rfl, by decide +kernel, rfl, by decide +kernel, by decide +kernel⟩
theorem cal_is_letter {P : Program} {w : World} {K : PySem.W.Frag} {mg : Str → Option Value} {base : Heap} {f : Addr} {fd : FuncData} (B : Bi mg) (c_is_tuple : Cal P w K mg base "is_tuple" 1 ["thing", "many"] (spU F_is_tuple)) (c_is_within : Cal P w K mg base "is_within" 2 ["thing", "low", "high"] (spU F_is_within)) (c_is_sign : Cal P w K mg base "is_sign" 2 ["thing"] (spU F_is_sign)) (F : Fun K "is_letter" "is_letter" s_is_letter f fd) (gm : mg "is_letter" = some (.ref f)) : Cal P w K mg base "is_letter" 3 ["thing", "sent"] (spU F_is_letter) := by
  have bn : Binds K fd ["thing", "sent"] [] := F.binds fun _ _ _ _ _ _ us hl => match us, hl with | [_, _], _ => rfl
  refine mk_cal (k := 2) F gm bn sc_is_letter rfl len_is_letter fun cdv A outer s H E hr => ?_
  have nd := (sc_is_letter).nd
  apply Exists.intro
  apply And.intro
  · exact (pss_one (ps_ret (pe_and (pe_cal c_is_tuple hr (by rfl) (pa_cons (pv 0) (pa_cons pe_int pa_nil))) (pe_and (pe_cal c_is_within hr (by rfl) (pa_cons (pe_ix (ix_K (K := K)) (pv 0) pe_int (fun _ _ => rfl)) (pa_cons pe_int (pa_cons (pe_op op_sub (pv 1) pe_int) pa_nil)))) (pe_one (pe_cal c_is_sign hr (by rfl) (pa_cons (pe_ix (ix_K (K := K)) (pv 0) pe_int (fun _ _ => rfl)) pa_nil)))))))
  · rintro xs n Kx ⟨d, s, rfl, md, k⟩
    walk_at "wp"
    refine ⟨fun z => ?_, fun z => ?_⟩
    · obtain ⟨ds, rfl, hl⟩ := isTuple2 (k := 2) z
      obtain ⟨a, b, rfl⟩ := len2 hl
      walk_at "wp"
      refine ⟨fun z2 => ?_, fun z2 => ?_⟩
      · walk_at "wp"
        refine ⟨(md.all b (by simp)).short, ?_⟩
        have e : isLetter (.tup [a, b]) s = isSign b := by simp [isLetter, z2]
        rw [e] at k; exact k
      · have e : isLetter (.tup [a, b]) s = false := by simp [isLetter, z2]
        rw [e] at k; exact k
    · rw [isLetter_no z] at k
      exact k
theorem isLetter_num {d : T} {s : Int} (h : isLetter d s = true) : ∃ (i : Int) (x : Str), d = .tup [.int i, .str x] ∧ 0 ≤ i ∧ i < s ∧ isSign (.str x) = true := by
  match d, h with
  | .tup [.int i, .str x], h =>
    simp only [isLetter, isWithin, Bool.and_eq_true, decide_eq_true_eq] at h
    exact ⟨i, x, rfl, h.1.1, by omega, h.2⟩
  | .tup [.non, _], h | .tup [.bl _, _], h | .tup [.str _, _], h | .tup [.tup _, _], h | .tup [.lst, _], h => simp [isLetter, isWithin] at h
  | .tup [.int _, .non], h | .tup [.int _, .bl _], h | .tup [.int _, .int _], h | .tup [.int _, .tup _], h | .tup [.int _, .lst], h => simp [isLetter, isSign] at h
  | .tup [], h | .tup [_], h | .tup (_ :: _ :: _ :: _), h | .non, h | .bl _, h | .int _, h | .str _, h | .lst, h => cases h
abbrev F_is_load : PF := fun xs n K => ∃ (d : T) (o : Str), xs = [.t d, .t (.str o)] ∧ d.mild ∧ d.nb ∧ K (.t (.bl (isLoad d o))) n
theorem len_is_load : ∀ xs n K, F_is_load xs n K → xs.length = 2 := fun _ _ _ ⟨_, _, e, _⟩ => by rw [e]; rfl
theorem upI_get : ∀ l : List Int, upI l = (List.range (l.length - 1)).all fun k => decide (l.getD k 0 < l.getD (k + 1) 0)
  | [] => rfl
  | [a] => rfl
  | a :: b :: l => by
    have ih := upI_get (b :: l)
    unfold upI
    rw [ih]
    simp only [List.length_cons, Nat.add_sub_cancel]
    rw [List.range_succ_eq_map, List.all_cons, List.all_map]
    rfl
theorem rgT_I (a b : Int) : rgT a b = (rgI a b).map T.int := by
  unfold rgT rgI
  rw [List.map_map]
  rfl
theorem pd_ints : ∀ (l : List Int), pds (l.map T.int) = some (l.map PyData.int)
  | [] => rfl
  | a :: l => by
    show pds (T.int a :: l.map T.int) = _
    unfold pds
    rw [pd_ints l]
    rfl
theorem wEqLI {p q : Addr} {o o2 : Bool} {as bs : List Int} {K : X → Prop} (k : K (.t (.bl (decide (as = bs))))) : EqW false (.l p (as.map T.int) o) (.l q (bs.map T.int) o2) K := by
  refine ⟨.list (as.map PyData.int), .list (bs.map PyData.int), by simp only [X.pd, pd_ints], by simp only [X.pd, pd_ints], ?_, ?_⟩
  · have key : ∀ l : List Int, PyData.depthAll (l.map PyData.int) = 0 := fun l => by
      induction l with
      | nil => rfl
      | cons a l ih => simp [PyData.depthAll, PyData.depth, ih]
    simp [PyData.depth, key]
  · have e : PyData.eqv (.list (as.map PyData.int)) (.list (bs.map PyData.int)) = decide (as = bs) := by
      rw [PyData.eqv]
      exact PySem.W.ked_eqvAll as bs
    rw [e]
    exact k
theorem isLoad_no {d : T} {o : Str} (h : ∀ s w, d = .tup [.int s, .tup w] → ¬ 0 ≤ s) : isLoad d o = false := by
  match d with
  | .tup [.int s, .tup w] => simp [isLoad, h s w rfl]
  | .tup [.non, _] | .tup [.bl _, _] | .tup [.str _, _] | .tup [.tup _, _] | .tup [.lst, _] => rfl
  | .tup [.int _, .non] | .tup [.int _, .bl _] | .tup [.int _, .int _] | .tup [.int _, .str _] | .tup [.int _, .lst] => rfl
  | .tup (a :: b :: c :: l) => cases a <;> first | rfl | (cases b <;> rfl)
  | .tup [a] => cases a <;> rfl
  | .tup [] | .non | .bl _ | .int _ | .str _ | .lst => rfl
theorem isLoad_w {s : Int} {w : List T} {o : Str} (h0 : 0 ≤ s) : isLoad (.tup [.int s, .tup w]) o = ((w.all fun d => isLetter d s) && if o = "row" then decide (w.map numOf = rgI (s - w.length) s) else upI (w.map numOf)) := by
  simp [isLoad, h0]
abbrev N_is_load : List Str := ["thing", "order", "sent", "waiting", "numbers", "letter", "k"]
theorem sc_is_load : FnScope N_is_load ["thing", "order"] (defScope s_is_load) := ⟨rfl, rfl, rfl, by decide +kernel, rfl, by decide +kernel, by decide +kernel⟩
theorem cal_is_load {P : Program} {w : World} {K : PySem.W.Frag} {mg : Str → Option Value} {base : Heap} {f : Addr} {fd : FuncData} (B : Bi mg) (c_is_tuple : Cal P w K mg base "is_tuple" 1 ["thing", "many"] (spU F_is_tuple)) (c_is_whole_forms : Cal P w K mg base "is_whole_forms" 1 ["thing"] (spU F_is_whole_forms)) (c_is_letter : Cal P w K mg base "is_letter" 3 ["thing", "sent"] (spU F_is_letter)) (F : Fun K "is_load" "is_load" s_is_load f fd) (gm : mg "is_load" = some (.ref f)) : Cal P w K mg base "is_load" 4 ["thing", "order"] (spU F_is_load) := by
  have bn : Binds K fd ["thing", "order"] [] := F.binds fun _ _ _ _ _ _ us hl => match us, hl with | [_, _], _ => rfl
  refine mk_cal (k := 3) F gm bn sc_is_load rfl len_is_load fun cdv A outer s H E hr => ?_
  have nd := (sc_is_load).nd
  apply Exists.intro
  apply And.intro
  · exact (pss_cons (ps_if (PW.pt (pw_or (pt_not (pt_val (pe_cal c_is_tuple hr (by rfl) (pa_cons (pv 0) (pa_cons pe_int pa_nil))))) (pw_or (pt_not (pt_val (pe_cal c_is_whole_forms hr (by rfl) (pa_cons (pe_ix (ix_K (K := K)) (pv 0) pe_int (fun _ _ => rfl)) pa_nil)))) (pw_or (pt_cmpR op_lt (pe_ix (ix_K (K := K)) (pv 0) pe_int (fun _ _ => rfl)) pe_int (nomark _)) (pw_or1 (pt_not (pt_val (pe_callB (call_isiK (K := K)) (by rfl) B.isinstance bt_isinstance (pa_cons (pe_ix (ix_K (K := K)) (pv 0) pe_int (fun _ _ => rfl)) (pa_cons (pe_bltn (v := .ty "tuple") (by rfl) B.tuple bt_tuple rfl) pa_nil)))))))))) (pss_one (ps_ret pe_bl)) pss_nil)
    (pss_cons (ps_asg (pv 0) (pg_tup rfl (pgs_cons (pg_name (i := 2) nd rfl (Or.inr rfl)) (pgs_cons (pg_name (i := 3) nd rfl (Or.inl rfl)) pgs_nil))))
    (pss_cons (ps_if (pt_not (pt_val (pe_callB (call_allK (K := K) rfl) (by rfl) B.all bt_all (pa_cons (pe_lc (own := [("letter", 5)]) (g := (gName 5)) (tt := tYes) rfl nd (pi_seqU (pv 3)) (blkOk_by (own := [("letter", 5)]) (N := N_is_load) (sc := (defScope s_is_load)) (by decide +kernel)) (fun _ _ _ _ _ => (pg_name (i := 5) nd rfl (Or.inl rfl))) (fun _ _ _ _ _ => pts_nil) (fun _ _ _ _ _ => (pe_cal c_is_letter hr (by rfl) (pa_cons (pv 5) (pa_cons (pv 2) pa_nil))))) pa_nil)))) (pss_one (ps_ret pe_bl)) pss_nil)
    (pss_cons (ps_set (i := 4) nd rfl (Or.inr rfl) (pe_lc (own := [("letter", 5)]) (g := (gName 5)) (tt := tYes) rfl nd (pi_seqU (pv 3)) (blkOk_by (own := [("letter", 5)]) (N := N_is_load) (sc := (defScope s_is_load)) (by decide +kernel)) (fun _ _ _ _ _ => (pg_name (i := 5) nd rfl (Or.inl rfl))) (fun _ _ _ _ _ => pts_nil) (fun _ _ _ _ _ => (pe_ix (ix_K (K := K)) (pv 5) pe_int (fun _ _ => rfl)))))
    (pss_cons (ps_if (pt_cmpR (op_eqK (K := K) hr.units) (pv 1) pe_str (nomark _)) (pss_one (ps_ret (pe_cmpR (op_eqK (K := K) hr.units) (pv 4) (pe_listRg rfl (by rfl) B.list (prg_2 (by rfl) B.range (pe_op op_sub (pv 2) (pe_callB (call_lenK (K := K)) (by rfl) B.len bt_len (pa_cons (pv 4) pa_nil))) (pv 2))) (nomark _)))) pss_nil)
    (pss_one (ps_ret (pe_callB (call_allK (K := K) rfl) (by rfl) B.all bt_all (pa_cons (pe_lc (own := [("k", 6)]) (g := (gName 6)) (tt := tYes) rfl nd (pi_range1 (by rfl) B.range (pa_cons (pe_op op_sub (pe_callB (call_lenK (K := K)) (by rfl) B.len bt_len (pa_cons (pv 4) pa_nil)) pe_int) pa_nil)) (blkOk_by (own := [("k", 6)]) (N := N_is_load) (sc := (defScope s_is_load)) (by decide +kernel)) (fun _ _ _ _ _ => (pg_name (i := 6) nd rfl (Or.inl rfl))) (fun _ _ _ _ _ => pts_nil) (fun _ _ _ _ _ => (pe_cmpR op_lt (pe_ix (ix_K (K := K)) (pv 4) (pv 6) (fun _ _ => rfl)) (pe_ix (ix_K (K := K)) (pv 4) (pe_op (op_addK (K := K)) (pv 6) pe_int) (fun _ _ => rfl)) (nomark _)))) pa_nil)))))))))
  · rintro xs n Kx ⟨d, o, rfl, md, nb, k⟩
    have kno : (∀ s w, d = .tup [.int s, .tup w] → ¬ 0 ≤ s) → Kx (.t (.bl false)) n := fun h => by
      rw [isLoad_no h] at k; exact k
    walk_at "wp"
    refine ⟨fun z1 => ?_, fun z1 => ?_⟩
    · refine ⟨fun _ => ?_, fun z => (by cases z)⟩
      walk_at "wp"
      refine kno fun s w e _ => ?_
      subst e
      simp [isTuple] at z1
    obtain ⟨ds, rfl, hl⟩ := isTuple2 (k := 2) (by simpa using z1)
    obtain ⟨a, b, rfl⟩ := len2 hl
    walk_at "wp"
    refine ⟨fun z2 => ?_, fun z2 => ?_⟩
    · refine ⟨fun _ => ?_, fun z => (by cases z)⟩
      walk_at "wp"
      refine kno fun s w e _ => ?_
      cases e
      simp [isWhole] at z2
    cases a with
    | int s =>
      walk_at "wp"
      refine ⟨fun z3 => ?_, fun z3 => ?_⟩
      · refine ⟨fun _ => ?_, fun z => (by cases z)⟩
        walk_at "wp"
        refine kno fun s w e h0 => ?_
        cases e
        have := of_decide_eq_true z3
        omega
      have h0 : 0 ≤ s := by have := of_decide_eq_false z3; omega
      walk_at "wp"
      cases b with
      | tup w =>
        have hs := nb s w rfl
        have hw : w.length ≤ 1000 := (md.all (.tup w) (by simp)).len
        have hwm := (md.all (.tup w) (by simp)).all
        rw [isLoad_w h0] at k
        walk_at "wp"
        refine ⟨fun z => (by cases z), fun _ => ?_⟩
        walk_at "wp"
        refine ev_lcM (fun d : T => d) (fun d => .bl (isLetter d s)) (ei_tup ?_)
        walk_at "wp"
        intro g
        refine ⟨w, (by simp), fun d hd => ?_, fun p => ?_⟩
        · walk_at "wp"
          refine ⟨hwm d hd, ?_⟩
          exact ⟨rfl, rfl⟩
        · walk_at "wp"
          refine wAll (bs := w.map fun d => isLetter d s) (by rw [List.map_map]; rfl) ?_
          walk_at "wp"
          have ew : ((w.map fun d => isLetter d s).all id) = w.all fun d => isLetter d s := by rw [List.all_map]; rfl
          rw [ew]
          refine ⟨fun z => ?_, fun z => ?_⟩
          · have z' : (w.all fun d => isLetter d s) = false := by simpa using z
            walk_at "wp"
            rw [z'] at k; exact k
          have z' : (w.all fun d => isLetter d s) = true := by simpa using z
          rw [z', Bool.true_and] at k
          walk_at "wp"
          refine ev_lcM (fun d : T => d) (fun d => .int (numOf d)) (ei_tup ?_)
          walk_at "wp"
          intro g
          refine ⟨w, (by simp), fun d hd => ?_, fun p => ?_⟩
          · obtain ⟨i, x, rfl, _⟩ := isLetter_num (List.all_eq_true.mp z' d hd)
            walk_at "wp"
            exact ⟨rfl, rfl⟩
          have en : w.map (fun d => T.int (numOf d)) = (w.map numOf).map T.int := by rw [List.map_map]; rfl
          rw [en]
          have hln : (w.map numOf).length = w.length := List.length_map _
          generalize w.map numOf = l at k hln
          walk_at "wp"
          refine ⟨fun z => ?_, fun z => ?_⟩
          · rw [if_pos (of_decide_eq_true z)] at k
            walk_at "wp"
            rw [List.length_map, hln]
            refine ⟨by omega, by omega, by omega, by omega, by show _ ≤ 100000; omega, fun q => ?_⟩
            rw [rgT_I]
            refine wEqLI ?_
            exact k
          · rw [if_neg (of_decide_eq_false z)] at k
            walk_at "wp"
            refine ev_lcM (fun i : Nat => T.int (0 + (i : Nat))) (fun i => .bl (decide (l.getD i 0 < l.getD (i + 1) 0))) (ei_rng1 ?_)
            walk_at "wp"
            rw [List.length_map, hln]
            refine ⟨by show _ ≤ ((100000 : Nat) : Int); omega, by omega, List.range ((w.length : Int) - 1 - 0).toNat, rfl, fun i hi => ?_, fun p => ?_⟩
            · have hi' : i + 1 < l.length := by
                have := List.mem_range.mp hi
                omega
              have e1 : l[i]? = some (l.getD i 0) := by rw [List.getD_eq_getElem?_getD, List.getElem?_eq_getElem (by omega)]; rfl
              have e2 : l[i + 1]? = some (l.getD (i + 1) 0) := by rw [List.getD_eq_getElem?_getD, List.getElem?_eq_getElem hi']; rfl
              walk_at "wp"
              refine wIxL (atI_z (x := T.int (l.getD i 0)) (by rw [List.getElem?_map, e1]; rfl)) ?_
              walk_at "wp"
              refine wIxL (atI_zs (x := T.int (l.getD (i + 1) 0)) (by rw [List.getElem?_map, e2]; rfl)) ?_
              walk_at "wp"
              exact ⟨rfl, rfl⟩
            · walk_at "wp"
              refine wAll (bs := (List.range ((w.length : Int) - 1 - 0).toNat).map fun i => decide (l.getD i 0 < l.getD (i + 1) 0)) (by rw [List.map_map]; rfl) ?_
              rw [upI_get, hln] at k
              have e : ((w.length : Int) - 1 - 0).toNat = w.length - 1 := by omega
              rw [e, List.all_map]
              exact k
      | _ =>
        walk_at "wp"
        refine ⟨fun _ => ?_, fun z => (by cases z)⟩
        walk_at "wp"
        refine kno fun s w e _ => (by cases e)
    | _ => cases z2
abbrev F_right_stand : PF := fun xs n K => ∃ (f : Fm) (d : T), xs = [.t (eF f), .t d] ∧ d.mild ∧ d.sb ∧ K (.t (.bl (rightStand f d))) n
theorem len_right_stand : ∀ xs n K, F_right_stand xs n K → xs.length = 2 := fun _ _ _ ⟨_, _, e, _⟩ => by rw [e]; rfl
theorem rightStand_no {f : Fm} {d : T} (h : ∀ ss ls, d = .tup [.tup ss, .tup ls] → ss.length = f.rules.length → ls.length ≠ f.roads.length) : rightStand f d = false := by
  match d with
  | .tup [.tup ss, .tup ls] =>
    by_cases e : ss.length = f.rules.length
    · simp [rightStand, e, h ss ls rfl e]
    · simp [rightStand, e]
  | .tup [.tup _, .non] | .tup [.tup _, .bl _] | .tup [.tup _, .str _] | .tup [.tup _, .int _] | .tup [.tup _, .lst] => rfl
  | .tup [.non, _] | .tup [.bl _, _] | .tup [.str _, _] | .tup [.int _, _] | .tup [.lst, _] => rfl
  | .tup (a :: b :: c :: l) => cases a <;> first | rfl | (cases b <;> rfl)
  | .tup [a] => cases a <;> rfl
  | .tup [] | .non | .bl _ | .int _ | .str _ | .lst => rfl
theorem zipT_map {α β : Type} (f : α → T) (g : β → T) : ∀ (xs : List α) (ys : List β), zipT (xs.map f) (ys.map g) = (xs.zip ys).map fun p => T.tup [f p.1, g p.2]
  | [], _ => by simp [zipT]
  | _ :: _, [] => by simp [zipT]
  | x :: xs, y :: ys => by
    have ih := zipT_map f g xs ys
    unfold zipT at ih ⊢
    simp only [List.map_cons, List.zipWith_cons_cons, List.zip_cons_cons, ih]
abbrev N_right_stand : List Str := ["form", "thing", "load", "road", "state"]
theorem sc_right_stand : FnScope N_right_stand ["form", "thing"] (defScope s_right_stand) := ⟨rfl, rfl, rfl, by decide +kernel, rfl, by decide +kernel, by decide +kernel⟩
theorem cal_right_stand {P : Program} {w : World} {K : PySem.W.Frag} {mg : Str → Option Value} {base : Heap} {f : Addr} {fd : FuncData} (B : Bi mg) (c_is_tuple : Cal P w K mg base "is_tuple" 1 ["thing", "many"] (spU F_is_tuple)) (c_is_load : Cal P w K mg base "is_load" 4 ["thing", "order"] (spU F_is_load)) (c_is_within : Cal P w K mg base "is_within" 2 ["thing", "low", "high"] (spU F_is_within)) (F : Fun K "right_stand" "right_stand" s_right_stand f fd) (gm : mg "right_stand" = some (.ref f)) : Cal P w K mg base "right_stand" 5 ["form", "thing"] (spU F_right_stand) := by
  have bn : Binds K fd ["form", "thing"] [] := F.binds fun _ _ _ _ _ _ us hl => match us, hl with | [_, _], _ => rfl
  refine mk_cal (k := 4) F gm bn sc_right_stand rfl len_right_stand fun cdv A outer s H E hr => ?_
  have nd := (sc_right_stand).nd
  apply Exists.intro
  apply And.intro
  · exact (pss_cons (ps_if (PW.pt (pw_or (pt_not (pt_val (pe_cal c_is_tuple hr (by rfl) (pa_cons (pv 1) (pa_cons pe_int pa_nil))))) (pw_or (pt_not (pt_val (pe_cal c_is_tuple hr (by rfl) (pa_cons (pe_ix (ix_K (K := K)) (pv 1) pe_int (fun _ _ => rfl)) (pa_cons (pe_callB (call_lenK (K := K)) (by rfl) B.len bt_len (pa_cons (pe_ix (ix_K (K := K)) (pv 0) pe_int (fun _ _ => rfl)) pa_nil)) pa_nil))))) (pw_or1 (pt_not (pt_val (pe_cal c_is_tuple hr (by rfl) (pa_cons (pe_ix (ix_K (K := K)) (pv 1) pe_int (fun _ _ => rfl)) (pa_cons (pe_callB (call_lenK (K := K)) (by rfl) B.len bt_len (pa_cons (pe_ix (ix_K (K := K)) (pv 0) pe_int (fun _ _ => rfl)) pa_nil)) pa_nil))))))))) (pss_one (ps_ret pe_bl)) pss_nil)
    (pss_cons (ps_if (pt_not (pt_val (pe_callB (call_allK (K := K) rfl) (by rfl) B.all bt_all (pa_cons (pe_lc (own := [("state", 4)]) (g := (gName 4)) (tt := tYes) rfl nd (pi_seqU (pe_ix (ix_K (K := K)) (pv 1) pe_int (fun _ _ => rfl))) (blkOk_by (own := [("state", 4)]) (N := N_right_stand) (sc := (defScope s_right_stand)) (by decide +kernel)) (fun _ _ _ _ _ => (pg_name (i := 4) nd rfl (Or.inl rfl))) (fun _ _ _ _ _ => pts_nil) (fun _ _ _ _ _ => (pe_cal c_is_within hr (by rfl) (pa_cons (pv 4) (pa_cons pe_int (pa_cons (pe_glob (v := .int 99) (by rfl) (Classical.choose_spec B.mstate) ⟨_, rfl⟩) pa_nil)))))) pa_nil)))) (pss_one (ps_ret pe_bl)) pss_nil)
    (pss_one (ps_ret (pe_callB (call_allK (K := K) rfl) (by rfl) B.all bt_all (pa_cons (pe_lc (own := [("load", 2), ("road", 3)]) (g := (gTup K 2 (gCons (gName 2) (gCons (gName 3) gNil)))) (tt := tYes) rfl nd (pi_zipK (by rfl) B.zip (pa_cons (pe_ix (ix_K (K := K)) (pv 1) pe_int (fun _ _ => rfl)) (pa_cons (pe_ix (ix_K (K := K)) (pv 0) pe_int (fun _ _ => rfl)) pa_nil))) (blkOk_by (own := [("load", 2), ("road", 3)]) (N := N_right_stand) (sc := (defScope s_right_stand)) (by decide +kernel)) (fun _ _ _ _ _ => (pg_tup rfl (pgs_cons (pg_name (i := 2) nd rfl (Or.inl rfl)) (pgs_cons (pg_name (i := 3) nd rfl (Or.inl rfl)) pgs_nil)))) (fun _ _ _ _ _ => pts_nil) (fun _ _ _ _ _ => (pe_cal c_is_load hr (by rfl) (pa_cons (pv 2) (pa_cons (pe_ix (ix_K (K := K)) (pv 3) pe_int (fun _ _ => rfl)) pa_nil))))) pa_nil))))))
  · rintro xs n Kx ⟨f, d, rfl, md, sb, k⟩
    have kno : (∀ ss ls, d = .tup [.tup ss, .tup ls] → ss.length = f.rules.length → ls.length ≠ f.roads.length) → Kx (.t (.bl false)) n := fun h => by
      rw [rightStand_no h] at k; exact k
    walk_at "wp"
    refine ⟨fun z1 => ?_, fun z1 => ?_⟩
    · refine ⟨fun _ => ?_, fun z => (by cases z)⟩
      walk_at "wp"
      refine kno fun ss ls e _ => ?_
      subst e
      simp [isTuple] at z1
    obtain ⟨ds, rfl, hl⟩ := isTuple2 (k := 2) (by simpa using z1)
    obtain ⟨a, b, rfl⟩ := len2 hl
    walk_at "wp"
    refine ⟨fun z2 => ?_, fun z2 => ?_⟩
    · refine ⟨fun _ => ?_, fun z => (by cases z)⟩
      walk_at "wp"
      refine kno fun ss ls e h => ?_
      cases e
      simp [isTuple, h] at z2
    obtain ⟨ss, rfl, hls⟩ := isTuple2 (k := (f.rules.map eRl).length) (by simpa using z2)
    rw [List.length_map] at hls
    walk_at "wp"
    refine ⟨fun z3 => ?_, fun z3 => ?_⟩
    · walk_at "wp"
      refine kno fun ss ls e h => ?_
      cases e
      simp [isTuple] at z3
      omega
    obtain ⟨ls, rfl, hll⟩ := isTuple2 (k := (f.roads.map eRd).length) (by simpa using z3)
    rw [List.length_map] at hll
    have em : rightStand f (.tup [.tup ss, .tup ls]) = ((ss.all fun d => isWithin d 0 99) && (ls.zip f.roads).all fun p => isLoad p.1 p.2.kind) := by simp [rightStand, hls, hll]
    rw [em] at k
    have mss := (md.all (.tup ss) (by simp)).all
    have mls := (md.all (.tup ls) (by simp)).all
    walk_at "wp"
    refine ev_lcM (fun d : T => d) (fun d => .bl (isWithin d 0 99)) (ei_tup ?_)
    walk_at "wp"
    intro g
    refine ⟨ss, (by simp), fun d hd => ?_, fun p => ?_⟩
    · walk_at "wp"
      exact ⟨rfl, rfl⟩
    walk_at "wp"
    refine wAll (bs := ss.map fun d => isWithin d 0 99) (by rw [List.map_map]; rfl) ?_
    have ew : ((ss.map fun d => isWithin d 0 99).all id) = ss.all fun d => isWithin d 0 99 := by rw [List.all_map]; rfl
    rw [ew]
    walk_at "wp"
    refine ⟨fun z4 => ?_, fun z4 => ?_⟩
    · have z' : (ss.all fun d => isWithin d 0 99) = false := by simpa using z4
      walk_at "wp"
      rw [z'] at k; exact k
    have z' : (ss.all fun d => isWithin d 0 99) = true := by simpa using z4
    rw [z', Bool.true_and] at k
    walk_at "wp"
    refine ev_lcM (fun p : T × Rd => T.tup [p.1, eRd p.2]) (fun p => .bl (isLoad p.1 p.2.kind)) (ei_zip ?_)
    walk_at "wp"
    refine ⟨ls, f.roads.map eRd, .inl rfl, .inl rfl, fun g g' => ⟨ls.zip f.roads, ?_, fun p hp => ?_, fun q => ?_⟩⟩
    · have z := zipT_map (fun d : T => d) eRd ls f.roads
      rw [List.map_id'] at z
      exact z
    · walk_at "wp"
      refine ⟨mls _ (List.of_mem_zip hp).1, sb _ _ rfl _ (List.of_mem_zip hp).1, ?_⟩
      exact ⟨rfl, rfl⟩
    · walk_at "wp"
      refine wAll (bs := (ls.zip f.roads).map fun p => isLoad p.1 p.2.kind) (by rw [List.map_map]; rfl) ?_
      have ew : (((ls.zip f.roads).map fun p => isLoad p.1 p.2.kind).all id) = (ls.zip f.roads).all fun p => isLoad p.1 p.2.kind := by rw [List.all_map]; rfl
      rw [ew]
      exact k
abbrev F_waits : PF := fun xs n K => ∃ (s : Sd) (r : Nat) (l : Ld), xs = [.t (eS s), .t (.int (r : Nat))] ∧ s.ld[r]? = some l ∧ ∀ p, K (.l p (l.w.map eLt) true) n
theorem len_waits : ∀ xs n K, F_waits xs n K → xs.length = 2 := fun _ _ _ ⟨_, _, _, e, _⟩ => by rw [e]; rfl
abbrev N_waits : List Str := ["stand", "road"]
theorem sc_waits : FnScope N_waits ["stand", "road"] (defScope s_waits) := ⟨rfl, rfl, rfl, by decide +kernel, rfl, by decide +kernel, by decide +kernel⟩
theorem cal_waits {P : Program} {w : World} {K : PySem.W.Frag} {mg : Str → Option Value} {base : Heap} {f : Addr} {fd : FuncData} (B : Bi mg) (F : Fun K "waits" "waits" s_waits f fd) (gm : mg "waits" = some (.ref f)) : Cal P w K mg base "waits" 1 ["stand", "road"] (spU F_waits) := by
  have bn : Binds K fd ["stand", "road"] [] := F.binds fun _ _ _ _ _ _ us hl => match us, hl with | [_, _], _ => rfl
  refine mk_cal (k := 0) F gm bn sc_waits rfl len_waits fun cdv A outer s H E hr => ?_
  have nd := (sc_waits).nd
  apply Exists.intro
  apply And.intro
  · exact (pss_one (ps_ret (pe_callTy (call_listK (K := K)) (by rfl) B.list bt_list (pa_cons (pe_ix (ix_K (K := K)) (pe_ix (ix_K (K := K)) (pe_ix (ix_K (K := K)) (pv 0) pe_int (fun _ _ => rfl)) (pv 1) (fun _ _ => rfl)) pe_int (fun _ _ => rfl)) pa_nil))))
  · rintro xs n Kx ⟨s, r, l, rfl, hl, k⟩
    walk_at "wp"
    refine wIxT (atI_map hl) ?_
    walk_at "wp"
    exact k _
end CK
/-! part M2 -/
set_option Elab.async false
set_option linter.all false
set_option maxRecDepth 100000
set_option maxHeartbeats 1000000
/-! The plain model, part 2: deeds. -/
namespace CK
open PySem PySem.Spec PyProof.Rows L2
def plOwn (f : Fm) : List T → Bool
  | [m] => isWithin m 0 ((f.rules.length : Int) - 1)
  | _ => false
def plHear (f : Fm) : List T → Bool
  | [m, c] => isWithin m 0 ((f.rules.length : Int) - 1) && isSign c
  | _ => false
def plCome (f : Fm) : List T → Bool
  | [r, n] => isWithin r 0 ((f.roads.length : Int) - 1) && isWhole n
  | _ => false
def plAt (f : Fm) (k : Str) (l : List T) : Bool := if k = "own" then plOwn f l else if k = "hear" then plHear f l else if k = "come" then plCome f l else false
def isPlain (f : Fm) : T → Bool
  | .tup (.str k :: l) => plAt f k l
  | _ => false
def DOk (f : Fm) : Dd → Prop
  | .own m => m < f.rules.length
  | .hear m c => m < f.rules.length ∧ isSign (.str c) = true
  | .come r _ => r < f.roads.length
theorem isWithin_nat {d : T} {k : Nat} (h : isWithin d 0 ((k : Int) - 1) = true) : ∃ m : Nat, d = .int (m : Nat) ∧ m < k := by
  cases d with
  | int i =>
    simp only [isWithin, Bool.and_eq_true, decide_eq_true_eq] at h
    exact ⟨i.toNat, by rw [Int.toNat_of_nonneg h.1], by omega⟩
  | _ => cases h
theorem within_nat {m k : Nat} (h : m < k) : isWithin (.int (m : Nat)) 0 ((k : Int) - 1) = true := by
  simp only [isWithin, Bool.and_eq_true, decide_eq_true_eq]
  omega
theorem isSign_str {d : T} (h : isSign d = true) : ∃ c, d = .str c := by
  cases d with
  | str c => exact ⟨c, rfl⟩
  | _ => cases h
theorem isPlain_iff (f : Fm) (d : T) : isPlain f d = true ↔ ∃ e, d = eD e ∧ DOk f e := by
  constructor
  · intro h
    cases d with
    | tup ds =>
      cases ds with
      | nil => cases h
      | cons a l =>
        cases a with
        | str k =>
          change plAt f k l = true at h
          unfold plAt at h
          split at h
          · rename_i hk
            subst hk
            match l, h with
            | [m], h =>
              change isWithin m 0 _ = true at h
              obtain ⟨m, rfl, hm⟩ := isWithin_nat h
              exact ⟨.own m, rfl, hm⟩
          · split at h
            · rename_i hk
              subst hk
              match l, h with
              | [m, c], h =>
                change (_ && _) = true at h
                rw [Bool.and_eq_true] at h
                obtain ⟨m, rfl, hm⟩ := isWithin_nat h.1
                obtain ⟨c, rfl⟩ := isSign_str h.2
                exact ⟨.hear m c, rfl, hm, h.2⟩
            · split at h
              · rename_i hk
                subst hk
                match l, h with
                | [r, n], h =>
                  change (_ && _) = true at h
                  rw [Bool.and_eq_true] at h
                  obtain ⟨m, rfl, hm⟩ := isWithin_nat h.1
                  cases n with
                  | int n => exact ⟨.come m n, rfl, hm⟩
                  | _ => cases h.2
              · cases h
        | _ => cases h
    | _ => cases h
  · rintro ⟨e, rfl, he⟩
    cases e with
    | own m =>
      show isPlain f (.tup [.str "own", .int (m : Nat)]) = true
      simp only [isPlain, if_true]
      exact within_nat he
    | hear m c =>
      have e : isPlain f (.tup [.str "hear", .int (m : Nat), .str c]) = (isWithin (.int (m : Nat)) 0 ((f.rules.length : Int) - 1) && isSign (.str c)) := rfl
      show isPlain f (.tup [.str "hear", .int (m : Nat), .str c]) = true
      rw [e, within_nat he.1, he.2]; rfl
    | come r n =>
      have e : isPlain f (.tup [.str "come", .int (r : Nat), .int n]) = (isWithin (.int (r : Nat)) 0 ((f.roads.length : Int) - 1) && isWhole (.int n)) := rfl
      show isPlain f (.tup [.str "come", .int (r : Nat), .int n]) = true
      rw [e, within_nat he]; rfl
theorem eD_inj {d e : Dd} (h : eD d = eD e) : d = e := by
  cases d <;> cases e <;> (simp only [eD, T.tup.injEq, List.cons.injEq, T.str.injEq, T.int.injEq] at h) <;> first
    | (exfalso; exact absurd h.1 (by decide))
    | (obtain ⟨_, h1, h2, _⟩ := h; have h1' := Int.ofNat.inj h1; subst h1' h2; rfl)
    | (obtain ⟨_, h1, _⟩ := h; have h1' := Int.ofNat.inj h1; subst h1'; rfl)
/-- a right form -/
structure FOk (f : Fm) : Prop where
  ne : f.rules ≠ []
  rl : f.rules.length ≤ 10
  rd : f.roads.length ≤ 10
  road : ∀ (i : Nat) r, f.roads[i]? = some r → r.src < f.rules.length ∧ r.dst < f.rules.length
  mvl : ∀ (m : Nat) r, f.rules[m]? = some r → r.mv.length ≤ 100
  mv1 : ∀ (m : Nat) r, f.rules[m]? = some r → ∀ (i j : Nat) v u, r.mv[i]? = some v → r.mv[j]? = some u → v.st = u.st → v.cause = u.cause → i = j
  sends : ∀ (m : Nat) r, f.rules[m]? = some r → ∀ v ∈ r.mv, v.sends.length ≤ 3 ∧ ∀ s ∈ v.sends, ∃ q, f.roads[s.1]? = some q ∧ q.src = m
/-- a stand that may be walked from; b: a bound of the letters on a road -/
structure SOk (f : Fm) (s : Sd) (b : Nat) : Prop where
  st : s.st.length = f.rules.length
  ld : s.ld.length = f.roads.length
  w : ∀ (i : Nat) l, s.ld[i]? = some l → 0 ≤ l.sent ∧ (∀ x ∈ l.w, x.1 < l.sent) ∧ (l.w.map (·.1)).Nodup ∧ l.w.length ≤ b ∧ l.sent < 2 ^ 61 + b
def mach (f : Fm) : Dd → Nat
  | .own m => m
  | .hear m _ => m
  | .come r _ => match f.roads[r]? with | some q => q.dst | none => 0
def Ld.head (l : Ld) (kind : Str) : List (Int × Str) := if kind = "row" then l.w.take 1 else l.w
def cause (f : Fm) (s : Sd) : Dd → Option Str
  | .own _ => some "own"
  | .hear _ c => some c
  | .come r n => match f.roads[r]?, s.ld[r]? with
    | some q, some l => ((l.head q.kind).find? fun x => decide (x.1 = n)).map (·.2)
    | _, _ => none
def answered (f : Fm) (s : Sd) (d : Dd) : Option (Int × List (Nat × Str) × Option Str) :=
  match cause f s d, s.st[mach f d]? with
  | some c, some x => f.answer (mach f d) x c
  | _, _ => none
def can (f : Fm) (s : Sd) (d : Dd) : Bool := (answered f s d).isSome
def Ld.out (l : Ld) (n : Int) : Ld := ⟨l.sent, l.w.filter fun x => !decide (x.1 = n)⟩
def Ld.put (l : Ld) (c : Str) : Ld := ⟨l.sent + 1, l.w ++ [(l.sent, c)]⟩
def sendOne (ls : List Ld) (s : Nat × Str) : List Ld := match ls[s.1]? with | some l => ls.set s.1 (l.put s.2) | none => ls
def sendAll (ls : List Ld) (ss : List (Nat × Str)) : List Ld := ss.foldl sendOne ls
def takenLd (ls : List Ld) : Dd → List Ld
  | .come r n => match ls[r]? with | some l => ls.set r (l.out n) | none => ls
  | _ => ls
/-- the stand behind a deed that can be done -/
def step (f : Fm) (s : Sd) (d : Dd) : Sd := match answered f s d with
  | some (a, ss, _) => ⟨s.st.set (mach f d) a, sendAll (takenLd s.ld d) ss⟩
  | none => s
def told (f : Fm) (s : Sd) (d : Dd) : Option (Nat × Str) := match answered f s d with
  | some (_, _, some w) => some (mach f d, w)
  | _ => none
def eTold : Option (Nat × Str) → T
  | none => .non
  | some (m, w) => .tup [.int (m : Nat), .str w]
/-- from s the deeds can be done one by one -/
def Runs (f : Fm) : Sd → List Dd → Prop
  | _, [] => True
  | s, d :: ds => DOk f d ∧ can f s d = true ∧ Runs f (step f s d) ds
def walk (f : Fm) (s : Sd) (ds : List Dd) : Sd := ds.foldl (step f) s
theorem mach_lt {f : Fm} (F : FOk f) {d : Dd} (h : DOk f d) : mach f d < f.rules.length := by
  cases d with
  | own m => exact h
  | hear m c => exact h.1
  | come r n =>
    have hq := List.getElem?_eq_getElem h
    have e : mach f (.come r n) = (f.roads[r]'h).dst := by simp only [mach, hq]
    rw [e]
    exact (F.road r _ hq).2
theorem answer_sends {f : Fm} (F : FOk f) {m : Nat} {x : Int} {c : Str} {a : Int} {ss : List (Nat × Str)} {w : Option Str} (h : f.answer m x c = some (a, ss, w)) : ss.length ≤ 3 ∧ ∀ s ∈ ss, ∃ q, f.roads[s.1]? = some q ∧ q.src = m := by
  unfold Fm.answer at h
  cases hr : f.rules[m]? with
  | none => rw [hr] at h; cases h
  | some r =>
    rw [hr] at h
    change ansOf x c (r.mv.find? (mvIs x c)) = _ at h
    cases hv : r.mv.find? (mvIs x c) with
    | some v =>
      rw [hv] at h
      cases h
      exact F.sends m r hr v (List.mem_of_find?_eq_some hv)
    | none =>
      rw [hv] at h
      simp only [ansOf] at h
      split at h
      · cases h
      · cases h
        exact ⟨Nat.zero_le _, fun s hs => absurd hs (by simp)⟩
theorem answered_sends {f : Fm} (F : FOk f) {s : Sd} {d : Dd} {a : Int} {ss : List (Nat × Str)} {w : Option Str} (h : answered f s d = some (a, ss, w)) : ss.length ≤ 3 ∧ ∀ s ∈ ss, ∃ q, f.roads[s.1]? = some q ∧ q.src = mach f d := by
  unfold answered at h
  split at h
  · exact answer_sends F h
  · cases h
end CK
/-! part D3 -/
set_option Elab.async false
set_option linter.all false
set_option maxRecDepth 100000
set_option maxHeartbeats 1000000
/-! Defs of plain. -/
namespace CK
open PySem PySem.Spec PyProof.Rows L2
local macro_rules | `(tactic| walk_at "wp0") => `(tactic| first
  | ((with_reducible refine bl_retL (a := ?va) (ds := ?vd) ?vh ?_); (case vh => exact rfl))
  | ((with_reducible refine bl_retD (a := ?va) (ds := ?vd) ?vh ?_); (case vh => exact rfl))
  | (with_reducible refine bl_ret ?_)
  | (with_reducible refine bl_if ?_)
  | (with_reducible refine bl_asg ?_)
  | (with_reducible refine bl_asgP ?_)
  | (with_reducible refine bl_next ?_)
  | (with_reducible refine et_test ?_)
  | (with_reducible refine et_B ?_)
  | (with_reducible refine et_and ?_)
  | (with_reducible refine et_or ?_)
  | (with_reducible refine et_not ?_)
  | (with_reducible refine et_yes ?_)
  | ((with_reducible refine ev_varT (d := ?vd) ?vh ?_); (case vh => exact rfl))
  | ((with_reducible refine ev_varL (a := ?va) (ds := ?vd) (o := ?vo) ?vh ?_); (case vh => exact rfl))
  | ((with_reducible refine ev_varD (a := ?va) (kvs := ?vd) (o := ?vo) ?vh ?_); (case vh => exact rfl))
  | ((with_reducible refine ev_varP ?vh ?_); (case vh => exact rfl))
  | (with_reducible refine ev_int ?_)
  | (with_reducible refine ev_str ?_)
  | (with_reducible refine ev_bl ?_)
  | (with_reducible refine ev_non ?_)
  | (with_reducible refine ev_ty ?_)
  | (with_reducible refine ev_op ro_ix ?_)
  | (with_reducible refine ev_op ro_eq ?_)
  | (with_reducible refine ev_op ro_is ?_)
  | (with_reducible refine ev_op ro_cmp ?_)
  | (with_reducible refine ev_op ro_add ?_)
  | (with_reducible refine ev_op ro_sub ?_)
  | (with_reducible refine ev_op ro_mul ?_)
  | (with_reducible refine ev_op ro_mod ?_)
  | (with_reducible refine ev_op ro_div ?_)
  | (with_reducible refine ev_op ro_pow ?_)
  | (with_reducible refine ev_op ro_in ?_)
  | (with_reducible refine ev_neg ?_)
  | (with_reducible refine ev_cb rc_len ?_)
  | (with_reducible refine ev_cb rc_isi ?_)
  | (with_reducible refine ev_cb rc_all ?_)
  | (with_reducible refine ev_cb rc_list ?_)
  | (with_reducible refine ev_cb rc_tuple ?_)
  | (with_reducible refine ev_cb rc_int ?_)
  | (with_reducible refine ev_cb rc_max ?_)
  | (with_reducible refine ea_cons ?_)
  | (with_reducible refine ea_nil ?_)
  | (with_reducible refine ev_tup ?_)
  | (with_reducible refine ev_lst ?_)
  | (with_reducible refine ev_sl ?_)
  | (with_reducible refine eo_none ?_)
  | (with_reducible refine eo_some ?_)
  | (with_reducible refine ev_dget ?_)
  | (with_reducible refine ev_dnew ?_)
  | (with_reducible refine ev_if ?_)
  | (with_reducible refine ev_and ?_)
  | (with_reducible refine ev_or ?_)
  | (with_reducible refine ev_not ?_)
  | (with_reducible refine ev_chain ro_cmp ro_cmp ?_)
  | (with_reducible refine ev_call ?_)
  | (with_reducible refine ev_lrg2 ?_)
  | (with_reducible refine wAddI ?_)
  | (with_reducible refine wSub ?_)
  | (with_reducible refine wEqI ?_)
  | (with_reducible refine wEqS ?_)
  | (with_reducible refine wNeI ?_)
  | (with_reducible refine wNeS ?_)
  | (with_reducible refine wCmp ?_)
  | (with_reducible refine wLenT ?_)
  | (with_reducible refine wLenL ?_)
  | (with_reducible refine wTupT ?_)
  | (with_reducible refine wTupL ?_)
  | (with_reducible refine wIsN ?_)
  | (with_reducible refine wNotN ?_)
  | (with_reducible refine wIsB ?_)
  | (with_reducible refine wInt ?_)
  | (with_reducible refine wMax ?_)
  | (with_reducible refine wListT ?_; intro _)
  | (with_reducible refine wListL ?_; intro _)
  | (with_reducible refine wSlT ?_)
  | ((with_reducible refine wIxT (d := ?vd) ?vh ?_); (case vh => exact rfl))
  | (refine wIxT atI_c0 ?_)
  | (refine wIxT atI_c1 ?_)
  | (refine wIxT atI_c2 ?_)
  | ((with_reducible refine wIxL (d := ?vd) ?vh ?_); (case vh => exact rfl))
  | ((with_reducible refine wIsi (b := ?vd) ?vh ?_); (case vh => exact rfl))
  | ((with_reducible refine wIsiL (b := ?vd) ?vh ?_); (case vh => exact rfl))
  | (with_reducible refine tg_tup rfl ?_)
  | (with_reducible refine tgs_cons ?_)
  | (with_reducible refine tgs_nil ?_)
  | ((with_reducible refine tg_name ?vh ?_); (case vh => decide))
  | (with_reducible refine ⟨_, rfl, ?_⟩)
  | (with_reducible refine ⟨_, _, rfl, ?_⟩)
  | (with_reducible refine ⟨_, _, rfl, rfl, ?_⟩)
  | (with_reducible refine ⟨_, _, _, rfl, ?_⟩)
  | (refine And.intro (show List.length _ ≤ lim from Nat.le_of_ble_eq_true rfl) ?_)
  | (with_reducible refine seqK_nx ?_)
  | (with_reducible refine seqK_rt ?_)
  | (with_reducible refine seqK_ex ?_)
  | fail "wp0: no step")
local macro_rules | `(tactic| walk_at "wp1") => `(tactic| first | (with_reducible refine bl_seq ?_) | walk_at "wp0")
local macro_rules | `(tactic| walk_at "wps") => `(tactic| repeat (walk_at "wp0"))
local macro_rules | `(tactic| walk_at "wp") => `(tactic| repeat (walk_at "wp1"))
abbrev F_is_plain : PF := fun xs n K => ∃ (f : Fm) (d : T), xs = [.t (eF f), .t d] ∧ d.mild ∧ K (.t (.bl (isPlain f d))) n
theorem len_is_plain : ∀ xs n K, F_is_plain xs n K → xs.length = 2 := fun _ _ _ ⟨_, _, e, _⟩ => by rw [e]; rfl
theorem isPlain_no {f : Fm} {d : T} (h : ∀ k a l, d ≠ .tup (.str k :: a :: l)) : isPlain f d = false := by
  match d with
  | .tup (.str k :: a :: l) => exact absurd rfl (h k a l)
  | .tup [.str k] =>
    show plAt f k [] = false
    unfold plAt
    split
    · rfl
    · split
      · rfl
      · split <;> rfl
  | .tup (.non :: _) | .tup (.int _ :: _) | .tup (.bl _ :: _) | .tup (.tup _ :: _) | .tup (.lst :: _) => rfl
  | .tup [] | .non | .bl _ | .int _ | .str _ | .lst => rfl
abbrev N_is_plain : List Str := ["form", "thing"]
theorem sc_is_plain : FnScope N_is_plain ["form", "thing"] (defScope s_is_plain) := ⟨rfl, rfl, rfl, by decide +kernel, rfl, by decide +kernel, by decide +kernel⟩
theorem cal_is_plain {P : Program} {w : World} {K : PySem.W.Frag} {mg : Str → Option Value} {base : Heap} {f : Addr} {fd : FuncData} (B : Bi mg) (c_is_tuple : Cal P w K mg base "is_tuple" 1 ["thing", "many"] (spU F_is_tuple)) (c_is_within : Cal P w K mg base "is_within" 2 ["thing", "low", "high"] (spU F_is_within)) (c_is_whole_forms : Cal P w K mg base "is_whole_forms" 1 ["thing"] (spU F_is_whole_forms)) (c_is_sign : Cal P w K mg base "is_sign" 2 ["thing"] (spU F_is_sign)) (F : Fun K "is_plain" "is_plain" s_is_plain f fd) (gm : mg "is_plain" = some (.ref f)) : Cal P w K mg base "is_plain" 3 ["form", "thing"] (spU F_is_plain) := by
  have bn : Binds K fd ["form", "thing"] [] := F.binds fun _ _ _ _ _ _ us hl => match us, hl with | [_, _], _ => rfl
  refine mk_cal (k := 2) F gm bn sc_is_plain rfl len_is_plain fun cdv A outer s H E hr => ?_
  have nd := (sc_is_plain).nd
  apply Exists.intro
  apply And.intro
  · exact (pss_cons (ps_if (PW.pt (pw_or (pt_not (pt_val (pe_callB (call_isiK (K := K)) (by rfl) B.isinstance bt_isinstance (pa_cons (pv 1) (pa_cons (pe_bltn (v := .ty "tuple") (by rfl) B.tuple bt_tuple rfl) pa_nil))))) (pw_or (pt_cmpR op_lt (pe_callB (call_lenK (K := K)) (by rfl) B.len bt_len (pa_cons (pv 1) pa_nil)) pe_int (nomark _)) (pw_or1 (pt_not (pt_val (pe_callB (call_isiK (K := K)) (by rfl) B.isinstance bt_isinstance (pa_cons (pe_ix (ix_K (K := K)) (pv 1) pe_int (fun _ _ => rfl)) (pa_cons (pe_bltn (v := .ty "str") (by rfl) B.str bt_str rfl) pa_nil))))))))) (pss_one (ps_ret pe_bl)) pss_nil)
    (pss_cons (ps_if (pt_cmpR (op_eqK (K := K) hr.units) (pe_ix (ix_K (K := K)) (pv 1) pe_int (fun _ _ => rfl)) pe_str (nomark _)) (pss_one (ps_ret (pe_and (pe_cmpR (op_eqK (K := K) hr.units) (pe_callB (call_lenK (K := K)) (by rfl) B.len bt_len (pa_cons (pv 1) pa_nil)) pe_int (nomark _)) (pe_one (pe_cal c_is_within hr (by rfl) (pa_cons (pe_ix (ix_K (K := K)) (pv 1) pe_int (fun _ _ => rfl)) (pa_cons pe_int (pa_cons (pe_op op_sub (pe_callB (call_lenK (K := K)) (by rfl) B.len bt_len (pa_cons (pe_ix (ix_K (K := K)) (pv 0) pe_int (fun _ _ => rfl)) pa_nil)) pe_int) pa_nil)))))))) pss_nil)
    (pss_cons (ps_if (pt_cmpR (op_eqK (K := K) hr.units) (pe_ix (ix_K (K := K)) (pv 1) pe_int (fun _ _ => rfl)) pe_str (nomark _)) (pss_one (ps_ret (pe_and (pe_cmpR (op_eqK (K := K) hr.units) (pe_callB (call_lenK (K := K)) (by rfl) B.len bt_len (pa_cons (pv 1) pa_nil)) pe_int (nomark _)) (pe_and (pe_cal c_is_within hr (by rfl) (pa_cons (pe_ix (ix_K (K := K)) (pv 1) pe_int (fun _ _ => rfl)) (pa_cons pe_int (pa_cons (pe_op op_sub (pe_callB (call_lenK (K := K)) (by rfl) B.len bt_len (pa_cons (pe_ix (ix_K (K := K)) (pv 0) pe_int (fun _ _ => rfl)) pa_nil)) pe_int) pa_nil)))) (pe_one (pe_cal c_is_sign hr (by rfl) (pa_cons (pe_ix (ix_K (K := K)) (pv 1) pe_int (fun _ _ => rfl)) pa_nil))))))) pss_nil)
    (pss_one (ps_ret (pe_and (pe_cmpR (op_eqK (K := K) hr.units) (pe_ix (ix_K (K := K)) (pv 1) pe_int (fun _ _ => rfl)) pe_str (nomark _)) (pe_and (pe_cal c_is_tuple hr (by rfl) (pa_cons (pv 1) (pa_cons pe_int pa_nil))) (pe_and (pe_cal c_is_within hr (by rfl) (pa_cons (pe_ix (ix_K (K := K)) (pv 1) pe_int (fun _ _ => rfl)) (pa_cons pe_int (pa_cons (pe_op op_sub (pe_callB (call_lenK (K := K)) (by rfl) B.len bt_len (pa_cons (pe_ix (ix_K (K := K)) (pv 0) pe_int (fun _ _ => rfl)) pa_nil)) pe_int) pa_nil)))) (pe_one (pe_cal c_is_whole_forms hr (by rfl) (pa_cons (pe_ix (ix_K (K := K)) (pv 1) pe_int (fun _ _ => rfl)) pa_nil)))))))))))
  · rintro xs n Kx ⟨f, d, rfl, md, k⟩
    have kno : (∀ k a l, d ≠ .tup (.str k :: a :: l)) → Kx (.t (.bl false)) n := fun h => by
      rw [isPlain_no h] at k; exact k
    walk_at "wp"
    cases d with
    | tup ds =>
      walk_at "wp"
      refine ⟨fun z => (by cases z), fun _ => ?_⟩
      walk_at "wp"
      refine ⟨fun z => ?_, fun z => ?_⟩
      · refine ⟨fun _ => ?_, fun z => (by cases z)⟩
        walk_at "wp"
        refine kno fun k a l e => ?_
        cases e
        have := of_decide_eq_true z
        simp at this
        omega
      match ds, md, k, kno, z with
      | [], _, _, _, z => cases z
      | [_], _, _, _, z => cases z
      | a :: b :: l, md, k, kno, _ =>
      walk_at "wp"
      cases a with
      | str q =>
        walk_at "wp"
        refine ⟨fun z => (by cases z), fun _ => ?_⟩
        walk_at "wp"
        change Kx (.t (.bl (plAt f q (b :: l)))) n at k
        unfold plAt at k
        refine ⟨fun z => ?_, fun z => ?_⟩
        · rw [if_pos (of_decide_eq_true z)] at k
          walk_at "wp"
          refine ⟨fun z2 => ?_, fun z2 => ?_⟩
          · match l, md, k, kno, z2 with
            | [], md, k, kno, z2 =>
              walk_at "wp"
              rw [List.length_map]
              exact k
            | c :: l, _, _, _, z2 =>
              have := of_decide_eq_true z2
              simp at this
              omega
          · match l, md, k, kno, z2 with
            | [], md, k, kno, z2 => cases z2
            | c :: l, _, k, _, z2 => exact k
        · rw [if_neg (of_decide_eq_false z)] at k
          walk_at "wp"
          refine ⟨fun z => ?_, fun z => ?_⟩
          · rw [if_pos (of_decide_eq_true z)] at k
            walk_at "wp"
            refine ⟨fun z2 => ?_, fun z2 => ?_⟩
            · match l, md, k, kno, z2 with
              | [c], md, k, kno, z2 =>
                walk_at "wp"
                rw [List.length_map]
                change Kx (.t (.bl (isWithin b 0 ((f.rules.length : Int) - 1) && isSign c))) n at k
                refine ⟨fun z3 => ?_, fun z3 => ?_⟩
                · rw [z3] at k
                  walk_at "wp"
                  refine ⟨(md.all c (by simp)).short, ?_⟩
                  exact k
                · rw [z3] at k
                  exact k
              | [], _, _, _, z2 => cases z2
              | c :: e :: l, _, _, _, z2 =>
                have := of_decide_eq_true z2
                simp at this
                omega
            · match l, md, k, kno, z2 with
              | [c], md, k, kno, z2 => cases z2
              | [], _, k, _, z2 => exact k
              | c :: e :: l, _, k, _, z2 => exact k
          · rw [if_neg (of_decide_eq_false z)] at k
            walk_at "wp"
            refine ⟨fun z => ?_, fun z => ?_⟩
            · rw [if_pos (of_decide_eq_true z)] at k
              walk_at "wp"
              refine ⟨fun z2 => ?_, fun z2 => ?_⟩
              · match l, md, k, kno, z2 with
                | [c], md, k, kno, z2 =>
                  walk_at "wp"
                  rw [List.length_map]
                  change Kx (.t (.bl (isWithin b 0 ((f.roads.length : Int) - 1) && isWhole c))) n at k
                  refine ⟨fun z3 => ?_, fun z3 => ?_⟩
                  · rw [z3] at k
                    walk_at "wp"
                    exact k
                  · rw [z3] at k
                    exact k
                | [], _, _, _, z2 => cases z2
                | c :: e :: l, _, _, _, z2 =>
                  simp [isTuple] at z2
                  omega
              · match l, md, k, kno, z2 with
                | [c], md, k, kno, z2 => cases z2
                | [], _, k, _, z2 => exact k
                | c :: e :: l, _, k, _, z2 => exact k
            · rw [if_neg (of_decide_eq_false z)] at k
              exact k
      | _ =>
        walk_at "wp"
        refine ⟨fun _ => ?_, fun z => (by cases z)⟩
        walk_at "wp"
        refine kno fun k a l e => (by cases e)
    | _ =>
      walk_at "wp"
      refine ⟨fun _ => ?_, fun z => (by cases z)⟩
      refine ⟨fun _ => ?_, fun z => (by cases z)⟩
      walk_at "wp"
      refine kno fun k a l e => (by cases e)
abbrev F_machine_of : PF := fun xs n K => ∃ (f : Fm) (e : Dd), xs = [.t (eF f), .t (eD e)] ∧ DOk f e ∧ K (.t (.int (mach f e : Nat))) n
theorem len_machine_of : ∀ xs n K, F_machine_of xs n K → xs.length = 2 := fun _ _ _ ⟨_, _, e, _⟩ => by rw [e]; rfl
theorem mach_come {f : Fm} {r : Nat} {n : Int} {q : Rd} (h : f.roads[r]? = some q) : mach f (.come r n) = q.dst := by simp only [mach, h]
abbrev N_machine_of : List Str := ["form", "deed"]
theorem sc_machine_of : FnScope N_machine_of ["form", "deed"] (defScope s_machine_of) := ⟨rfl, rfl, rfl, by decide +kernel, rfl, by decide +kernel, by decide +kernel⟩
theorem cal_machine_of {P : Program} {w : World} {K : PySem.W.Frag} {mg : Str → Option Value} {base : Heap} {f : Addr} {fd : FuncData} (B : Bi mg) (F : Fun K "machine_of" "machine_of" s_machine_of f fd) (gm : mg "machine_of" = some (.ref f)) : Cal P w K mg base "machine_of" 1 ["form", "deed"] (spU F_machine_of) := by
  have bn : Binds K fd ["form", "deed"] [] := F.binds fun _ _ _ _ _ _ us hl => match us, hl with | [_, _], _ => rfl
  refine mk_cal (k := 0) F gm bn sc_machine_of rfl len_machine_of fun cdv A outer s H E hr => ?_
  have nd := (sc_machine_of).nd
  apply Exists.intro
  apply And.intro
  · exact (pss_cons (ps_if (pt_cmpR (op_eqK (K := K) hr.units) (pe_ix (ix_K (K := K)) (pv 1) pe_int (fun _ _ => rfl)) pe_str (nomark _)) (pss_one (ps_ret (pe_ix (ix_K (K := K)) (pe_ix (ix_K (K := K)) (pe_ix (ix_K (K := K)) (pv 0) pe_int (fun _ _ => rfl)) (pe_ix (ix_K (K := K)) (pv 1) pe_int (fun _ _ => rfl)) (fun _ _ => rfl)) pe_int (fun _ _ => rfl)))) pss_nil)
    (pss_one (ps_ret (pe_ix (ix_K (K := K)) (pv 1) pe_int (fun _ _ => rfl)))))
  · rintro xs n Kx ⟨f, e, rfl, he, k⟩
    cases e with
    | own m =>
      unfold eD
      walk_at "wp"
      refine ⟨fun z => (by cases z), fun _ => ?_⟩
      walk_at "wp"
      exact k
    | hear m c =>
      unfold eD
      walk_at "wp"
      refine ⟨fun z => (by cases z), fun _ => ?_⟩
      walk_at "wp"
      exact k
    | come r m =>
      unfold eD
      have hq := List.getElem?_eq_getElem (show r < f.roads.length from he)
      generalize f.roads[r]'he = q at hq
      rw [mach_come hq] at k
      walk_at "wp"
      refine ⟨fun _ => ?_, fun z => (by cases z)⟩
      walk_at "wp"
      refine wIxT (atI_map hq) ?_
      walk_at "wp"
      exact k
end CK
/-! part M3 -/
set_option Elab.async false
set_option linter.all false
set_option maxRecDepth 100000
set_option maxHeartbeats 1000000
/-! The plain model, part 3: steps. -/
namespace CK
open PySem PySem.Spec PyProof.Rows L2
theorem bl_seqC {C : Addr} {E : XK} {t1 t2 : TS} {ρ : En} {n : Nat} {K : Out → Prop} (J : En → Nat → Prop) (h : Blk C E t1 ρ n (loopK J K)) (k : ∀ ρ m, J ρ m → Blk C E t2 ρ m K) : Blk C E (tSeq t1 t2) ρ n K :=
  bl_seq (h.mono fun o => match o with
    | .nx ρ m => k ρ m
    | .rt _ _ => id
    | .ex _ => id)
theorem find_none {α : Type} {p : α → Bool} {xs : List α} {i : Nat} {v : α} (hf : (xs.take i).find? p = none) (hv : xs[i]? = some v) (h : p v = false) : (xs.take (i + 1)).find? p = none := by
  rw [List.take_add_one, hv, List.find?_append, hf]; simp [h]
theorem find_some {α : Type} {p : α → Bool} {xs : List α} {i : Nat} {v : α} (hf : (xs.take i).find? p = none) (hv : xs[i]? = some v) (h : p v = true) : xs.find? p = some v := by
  have hi := (List.getElem?_eq_some_iff.mp hv).1
  have e : xs = xs.take i ++ v :: xs.drop (i + 1) := by
    conv => lhs; rw [← List.take_append_drop i xs, List.drop_eq_getElem_cons hi, (List.getElem?_eq_some_iff.mp hv).2]
  rw [e, List.find?_append, hf]
  simp [h]
theorem eA_non (x : Option (Int × List (Nat × Str) × Option Str)) : (eA x).isNon = x.isNone := by
  cases x with
  | none => rfl
  | some p => obtain ⟨a, b, c⟩ := p; rfl
theorem eO_non (x : Option Str) : (eO x).isNon = x.isNone := by cases x <;> rfl
theorem set_cut {α : Type} {xs : List α} {i : Nat} (h : i < xs.length) (y : α) : xs.take i ++ [y] ++ xs.drop (i + 1) = xs.set i y := by
  rw [List.set_eq_take_append_cons_drop, if_pos h]
  simp
theorem set_cutT {α : Type} {xs : List α} {i : Nat} (f : α → T) (h : i < xs.length) (y : α) : cutA (xs.map f) none (some (i : Int)) ++ [f y] ++ cutA (xs.map f) (some ((i : Int) + 1)) none = (xs.set i y).map f := by
  have e : ((i : Int) + 1) = ((i + 1 : Nat) : Int) := rfl
  rw [cutA_take, e, cutA_drop, ← set_cut h, ← List.map_take, ← List.map_drop]
  simp
theorem cut_len {xs : List T} {i : Nat} : (cutA xs none (some (i : Int))).length ≤ xs.length := cutA_le _ _ _
theorem sendOne_len (ls : List Ld) (s : Nat × Str) : (sendOne ls s).length = ls.length := by
  unfold sendOne
  split
  · simp
  · rfl
theorem sendAll_len (ss : List (Nat × Str)) : ∀ ls : List Ld, (sendAll ls ss).length = ls.length := by
  induction ss with
  | nil => intro ls; rfl
  | cons s ss ih => intro ls; show (sendAll (sendOne ls s) ss).length = _; rw [ih, sendOne_len]
theorem takenLd_len (ls : List Ld) (d : Dd) : (takenLd ls d).length = ls.length := by
  cases d with
  | come r n =>
    unfold takenLd
    cases h : ls[r]? <;> simp [h]
  | _ => rfl
/-- what holds of each road's load -/
def LOk (b : Nat) (l : Ld) : Prop := 0 ≤ l.sent ∧ (∀ x ∈ l.w, x.1 < l.sent) ∧ (l.w.map (·.1)).Nodup ∧ l.w.length ≤ b ∧ l.sent < 2 ^ 61 + b
theorem LOk.mono {b c : Nat} {l : Ld} (h : LOk b l) (hb : b ≤ c) : LOk c l := ⟨h.1, h.2.1, h.2.2.1, Nat.le_trans h.2.2.2.1 hb, by have := h.2.2.2.2; omega⟩
theorem LOk.put {b : Nat} {l : Ld} (h : LOk b l) (c : Str) : LOk (b + 1) (l.put c) := by
  obtain ⟨h1, h2, h3, h4, h5⟩ := h
  refine ⟨by show 0 ≤ l.sent + 1; omega, fun x hx => ?_, ?_, by show (l.w ++ [_]).length ≤ _; simp; exact h4, by show l.sent + 1 < _; omega⟩
  · rcases List.mem_append.mp hx with hx | hx
    · have := h2 x hx
      show x.1 < l.sent + 1
      omega
    · rw [List.mem_singleton.mp hx]
      show l.sent < l.sent + 1
      omega
  · show ((l.w ++ [(l.sent, c)]).map (·.1)).Nodup
    rw [List.map_append, List.nodup_append]
    refine ⟨h3, by simp, fun a ha b hb => ?_⟩
    simp at hb
    obtain ⟨x, hx, rfl⟩ := List.mem_map.mp ha
    have := h2 x hx
    omega
theorem LOk.out {b : Nat} {l : Ld} (h : LOk b l) (n : Int) : LOk b (l.out n) := by
  obtain ⟨h1, h2, h3, h4, h5⟩ := h
  refine ⟨h1, fun x hx => h2 x (List.mem_filter.mp hx).1, ?_, Nat.le_trans (List.length_filter_le _ _) h4, h5⟩
  exact List.Nodup.sublist (List.Sublist.map _ List.filter_sublist) h3
theorem set_all {α : Type} {P : α → Prop} {xs : List α} {i : Nat} {y : α} (h : ∀ (j : Nat) x, xs[j]? = some x → P x) (hy : P y) : ∀ (j : Nat) x, (xs.set i y)[j]? = some x → P x := fun j x e => by
  by_cases hij : i = j
  · subst hij
    have hl := (List.getElem?_eq_some_iff.mp e).1
    rw [List.getElem?_set_self (by simpa using hl)] at e
    cases e
    exact hy
  · rw [List.getElem?_set_ne hij] at e
    exact h j x e
theorem sendAll_ok {b : Nat} (ss : List (Nat × Str)) : ∀ {b : Nat} {ls : List Ld}, (∀ (j : Nat) x, ls[j]? = some x → LOk b x) → ∀ (j : Nat) x, (sendAll ls ss)[j]? = some x → LOk (b + ss.length) x := by
  induction ss with
  | nil => intro b ls h; exact h
  | cons s ss ih =>
    intro b ls h j x e
    have e' : (sendAll (sendOne ls s) ss)[j]? = some x := e
    have h' : ∀ (j : Nat) x, (sendOne ls s)[j]? = some x → LOk (b + 1) x := by
      unfold sendOne
      cases hl : ls[s.1]? with
      | none => exact fun j x e => (h j x e).mono (by omega)
      | some l => exact set_all (fun j x e => (h j x e).mono (by omega)) ((h _ _ hl).put _)
    exact (ih h' j x e').mono (by simp; omega)
theorem takenLd_ok {b : Nat} {ls : List Ld} (h : ∀ (j : Nat) x, ls[j]? = some x → LOk b x) (d : Dd) : ∀ (j : Nat) x, (takenLd ls d)[j]? = some x → LOk b x := by
  cases d with
  | come r n =>
    cases hl : ls[r]? with
    | none =>
      have e : takenLd ls (.come r n) = ls := by simp only [takenLd, hl]
      rw [e]; exact h
    | some l =>
      have e : takenLd ls (.come r n) = ls.set r (l.out n) := by simp only [takenLd, hl]
      rw [e]; exact set_all h ((h _ _ hl).out _)
  | _ => exact h
theorem SOk.mono {f : Fm} {s : Sd} {b c : Nat} (h : SOk f s b) (hb : b ≤ c) : SOk f s c := ⟨h.st, h.ld, fun i l e => LOk.mono (h.w i l e) hb⟩
theorem SOk.step {f : Fm} (F : FOk f) {s : Sd} {b : Nat} (h : SOk f s b) (d : Dd) : SOk f (step f s d) (b + 3) := by
  unfold CK.step
  cases ha : answered f s d with
  | none => exact h.mono (by omega)
  | some p =>
    obtain ⟨a, ss, w⟩ := p
    refine ⟨by show (s.st.set _ _).length = _; rw [List.length_set]; exact h.st, by show (sendAll _ _).length = _; rw [sendAll_len, takenLd_len]; exact h.ld, fun i l e => ?_⟩
    have := sendAll_ok (b := b) ss (takenLd_ok h.w d) i l e
    exact this.mono (by have := (answered_sends F ha).1; omega)
end CK
/-! part D4 -/
set_option Elab.async false
set_option linter.all false
set_option maxRecDepth 100000
set_option maxHeartbeats 1000000
/-! Defs of plain, part 2. -/
namespace CK
open PySem PySem.Spec PyProof.Rows L2
local macro_rules | `(tactic| walk_at "wp0") => `(tactic| first
  | ((with_reducible refine bl_retL (a := ?va) (ds := ?vd) ?vh ?_); (case vh => exact rfl))
  | ((with_reducible refine bl_retD (a := ?va) (ds := ?vd) ?vh ?_); (case vh => exact rfl))
  | (with_reducible refine bl_ret ?_)
  | (with_reducible refine bl_if ?_)
  | (with_reducible refine bl_asg ?_)
  | (with_reducible refine bl_asgP ?_)
  | (with_reducible refine bl_next ?_)
  | (with_reducible refine et_test ?_)
  | (with_reducible refine et_B ?_)
  | (with_reducible refine et_and ?_)
  | (with_reducible refine et_or ?_)
  | (with_reducible refine et_not ?_)
  | (with_reducible refine et_yes ?_)
  | ((with_reducible refine ev_varT (d := ?vd) ?vh ?_); (case vh => exact rfl))
  | ((with_reducible refine ev_varL (a := ?va) (ds := ?vd) (o := ?vo) ?vh ?_); (case vh => exact rfl))
  | ((with_reducible refine ev_varD (a := ?va) (kvs := ?vd) (o := ?vo) ?vh ?_); (case vh => exact rfl))
  | ((with_reducible refine ev_varP ?vh ?_); (case vh => exact rfl))
  | (with_reducible refine ev_int ?_)
  | (with_reducible refine ev_str ?_)
  | (with_reducible refine ev_bl ?_)
  | (with_reducible refine ev_non ?_)
  | (with_reducible refine ev_ty ?_)
  | (with_reducible refine ev_op ro_ix ?_)
  | (with_reducible refine ev_op ro_eq ?_)
  | (with_reducible refine ev_op ro_is ?_)
  | (with_reducible refine ev_op ro_cmp ?_)
  | (with_reducible refine ev_op ro_add ?_)
  | (with_reducible refine ev_op ro_sub ?_)
  | (with_reducible refine ev_op ro_mul ?_)
  | (with_reducible refine ev_op ro_mod ?_)
  | (with_reducible refine ev_op ro_div ?_)
  | (with_reducible refine ev_op ro_pow ?_)
  | (with_reducible refine ev_op ro_in ?_)
  | (with_reducible refine ev_neg ?_)
  | (with_reducible refine ev_cb rc_len ?_)
  | (with_reducible refine ev_cb rc_isi ?_)
  | (with_reducible refine ev_cb rc_all ?_)
  | (with_reducible refine ev_cb rc_list ?_)
  | (with_reducible refine ev_cb rc_tuple ?_)
  | (with_reducible refine ev_cb rc_int ?_)
  | (with_reducible refine ev_cb rc_max ?_)
  | (with_reducible refine ea_cons ?_)
  | (with_reducible refine ea_nil ?_)
  | (with_reducible refine ev_tup ?_)
  | (with_reducible refine ev_lst ?_)
  | (with_reducible refine ev_sl ?_)
  | (with_reducible refine eo_none ?_)
  | (with_reducible refine eo_some ?_)
  | (with_reducible refine ev_dget ?_)
  | (with_reducible refine ev_dnew ?_)
  | (with_reducible refine ev_if ?_)
  | (with_reducible refine ev_and ?_)
  | (with_reducible refine ev_or ?_)
  | (with_reducible refine ev_not ?_)
  | (with_reducible refine ev_chain ro_cmp ro_cmp ?_)
  | (with_reducible refine ev_call ?_)
  | (with_reducible refine ev_lrg2 ?_)
  | (with_reducible refine wAddI ?_)
  | (with_reducible refine wSub ?_)
  | (with_reducible refine wEqI ?_)
  | (with_reducible refine wEqS ?_)
  | (with_reducible refine wNeI ?_)
  | (with_reducible refine wNeS ?_)
  | (with_reducible refine wCmp ?_)
  | (with_reducible refine wLenT ?_)
  | (with_reducible refine wLenL ?_)
  | (with_reducible refine wTupT ?_)
  | (with_reducible refine wTupL ?_)
  | (with_reducible refine wIsN ?_)
  | (with_reducible refine wNotN ?_)
  | (with_reducible refine wIsB ?_)
  | (with_reducible refine wInt ?_)
  | (with_reducible refine wMax ?_)
  | (with_reducible refine wListT ?_; intro _)
  | (with_reducible refine wListL ?_; intro _)
  | (with_reducible refine wSlT ?_)
  | ((with_reducible refine wIxT (d := ?vd) ?vh ?_); (case vh => exact rfl))
  | (refine wIxT atI_c0 ?_)
  | (refine wIxT atI_c1 ?_)
  | (refine wIxT atI_c2 ?_)
  | ((with_reducible refine wIxL (d := ?vd) ?vh ?_); (case vh => exact rfl))
  | ((with_reducible refine wIsi (b := ?vd) ?vh ?_); (case vh => exact rfl))
  | ((with_reducible refine wIsiL (b := ?vd) ?vh ?_); (case vh => exact rfl))
  | (with_reducible refine tg_tup rfl ?_)
  | (with_reducible refine tgs_cons ?_)
  | (with_reducible refine tgs_nil ?_)
  | ((with_reducible refine tg_name ?vh ?_); (case vh => decide))
  | (with_reducible refine ⟨_, rfl, ?_⟩)
  | (with_reducible refine ⟨_, _, rfl, ?_⟩)
  | (with_reducible refine ⟨_, _, rfl, rfl, ?_⟩)
  | (with_reducible refine ⟨_, _, _, rfl, ?_⟩)
  | (refine And.intro (show List.length _ ≤ lim from Nat.le_of_ble_eq_true rfl) ?_)
  | (with_reducible refine seqK_nx ?_)
  | (with_reducible refine seqK_rt ?_)
  | (with_reducible refine seqK_ex ?_)
  | fail "wp0: no step")
local macro_rules | `(tactic| walk_at "wp1") => `(tactic| first | (with_reducible refine bl_seq ?_) | walk_at "wp0")
local macro_rules | `(tactic| walk_at "wps") => `(tactic| repeat (walk_at "wp0"))
local macro_rules | `(tactic| walk_at "wp") => `(tactic| repeat (walk_at "wp1"))
abbrev F_cause_of : PF := fun xs n K => ∃ (f : Fm) (s : Sd) (e : Dd) (b : Nat), xs = [.t (eF f), .t (eS s), .t (eD e)] ∧ SOk f s b ∧ DOk f e ∧ K (.t (eO (cause f s e))) n
theorem len_cause_of : ∀ xs n K, F_cause_of xs n K → xs.length = 3 := fun _ _ _ ⟨_, _, _, _, e, _⟩ => by rw [e]; rfl
theorem cause_come {f : Fm} {s : Sd} {r : Nat} {n : Int} {q : Rd} {l : Ld} (hq : f.roads[r]? = some q) (hl : s.ld[r]? = some l) : cause f s (.come r n) = ((l.head q.kind).find? fun x => decide (x.1 = n)).map (·.2) := by
  simp only [cause, hq, hl]
abbrev N_cause_of : List Str := ["form", "stand", "deed", "waiting", "number", "sign"]
theorem sc_cause_of : FnScope N_cause_of ["form", "stand", "deed"] (defScope s_cause_of) := ⟨rfl, rfl, rfl, by decide +kernel, rfl, by decide +kernel, by decide +kernel⟩
theorem cal_cause_of {P : Program} {w : World} {K : PySem.W.Frag} {mg : Str → Option Value} {base : Heap} {f : Addr} {fd : FuncData} (B : Bi mg) (c_waits : Cal P w K mg base "waits" 1 ["stand", "road"] (spU F_waits)) (F : Fun K "cause_of" "cause_of" s_cause_of f fd) (gm : mg "cause_of" = some (.ref f)) : Cal P w K mg base "cause_of" 2 ["form", "stand", "deed"] (spU F_cause_of) := by
  have bn : Binds K fd ["form", "stand", "deed"] [] := F.binds fun _ _ _ _ _ _ us hl => match us, hl with | [_, _, _], _ => rfl
  refine mk_cal (k := 1) F gm bn sc_cause_of rfl len_cause_of fun cdv A outer s H E hr => ?_
  have nd := (sc_cause_of).nd
  apply Exists.intro
  apply And.intro
  · exact (pss_cons (ps_if (pt_cmpR (op_eqK (K := K) hr.units) (pe_ix (ix_K (K := K)) (pv 2) pe_int (fun _ _ => rfl)) pe_str (nomark _)) (pss_one (ps_ret pe_str)) pss_nil)
    (pss_cons (ps_if (pt_cmpR (op_eqK (K := K) hr.units) (pe_ix (ix_K (K := K)) (pv 2) pe_int (fun _ _ => rfl)) pe_str (nomark _)) (pss_one (ps_ret (pe_ix (ix_K (K := K)) (pv 2) pe_int (fun _ _ => rfl)))) pss_nil)
    (pss_cons (ps_set (i := 3) nd rfl (Or.inl rfl) (pe_cal c_waits hr (by rfl) (pa_cons (pv 1) (pa_cons (pe_ix (ix_K (K := K)) (pv 2) pe_int (fun _ _ => rfl)) pa_nil))))
    (pss_cons (ps_if (pt_cmpR (op_eqK (K := K) hr.units) (pe_ix (ix_K (K := K)) (pe_ix (ix_K (K := K)) (pe_ix (ix_K (K := K)) (pv 0) pe_int (fun _ _ => rfl)) (pe_ix (ix_K (K := K)) (pv 2) pe_int (fun _ _ => rfl)) (fun _ _ => rfl)) pe_int (fun _ _ => rfl)) pe_str (nomark _)) (pss_one (ps_set (i := 3) nd rfl (Or.inl rfl) (pe_slice (sl_K (K := K)) (pv 3) po_none (po_some pe_int)))) pss_nil)
    (pss_cons (ps_for PassesOwn.never rfl (pi_seqU (pv 3)) (pg_tup rfl (pgs_cons (pg_name (i := 4) nd rfl (Or.inl rfl)) (pgs_cons (pg_name (i := 5) nd rfl (Or.inl rfl)) pgs_nil)))
      (pss_one (ps_if (pt_cmpR (op_eqK (K := K) hr.units) (pv 4) (pe_ix (ix_K (K := K)) (pv 2) pe_int (fun _ _ => rfl)) (nomark _)) (pss_one (ps_ret (pv 5))) pss_nil)))
    (pss_one (ps_ret pe_non)))))))
  · rintro xs n Kx ⟨f, s, e, bb, rfl, hs, he, k⟩
    cases e with
    | own m =>
      dsimp only [eD]
      walk_at "wp"
      refine ⟨fun _ => ?_, fun z => (by cases z)⟩
      walk_at "wp"
      exact k
    | hear m c =>
      dsimp only [eD]
      walk_at "wp"
      refine ⟨fun z => (by cases z), fun _ => ?_⟩
      walk_at "wp"
      refine ⟨fun _ => ?_, fun z => (by cases z)⟩
      walk_at "wp"
      exact k
    | come r m =>
      dsimp only [eD]
      have he' : r < f.roads.length := he
      have hq := List.getElem?_eq_getElem he'
      generalize f.roads[r]'he' = q at hq
      have hl := List.getElem?_eq_getElem (show r < s.ld.length by rw [hs.ld]; exact he')
      generalize s.ld[r]'(by rw [hs.ld]; exact he') = l at hl
      rw [cause_come hq hl] at k
      walk_at "wp"
      refine ⟨fun z => (by cases z), fun _ => ?_⟩
      walk_at "wp"
      refine ⟨fun z => (by cases z), fun _ => ?_⟩
      walk_at "wp"
      refine ⟨s, r, l, rfl, hl, fun p => ?_⟩
      walk_at "wps"
      refine bl_seqC (fun ρ m' => m' = n ∧ ∃ p, ρ = ⟨[some (.t (eF f)), some (.t (eS s)), some (.t (.tup [.str "come", .int (r : Nat), .int m])), some (.l p ((l.head q.kind).map eLt) true), none, none], []⟩) ?_ ?_
      · walk_at "wp"
        refine wIxT (atI_map hq) ?_
        walk_at "wp"
        refine ⟨fun z => ?_, fun z => ?_⟩
        · walk_at "wp"
          refine wSlL fun p2 => ?_
          refine ⟨rfl, p2, ?_⟩
          have e : cutA (l.w.map eLt) none (some 1) = (l.head q.kind).map eLt := by
            unfold Ld.head
            rw [if_pos (of_decide_eq_true z), List.map_take]
            exact cutA_take _ 1
          rw [e]
          rfl
        · refine bl_next ⟨rfl, p, ?_⟩
          have e : l.w.map eLt = (l.head q.kind).map eLt := by
            unfold Ld.head
            rw [if_neg (of_decide_eq_false z)]
          rw [e]
          rfl
      · rintro ρ m' ⟨em, p2, rfl⟩
        subst em
        generalize l.head q.kind = w at k
        refine bl_seq (bl_forS (α := Int × Str) [4, 5] eLt (fun _ : Unit => [some (.t (eF f)), some (.t (eS s)), some (.t (.tup [.str "come", .int (r : Nat), .int m])), some (.gh p2), none, none]) (fun i _ m2 => m2 = m' ∧ (w.take i).find? (fun x => decide (x.1 = m)) = none) (ei_own (j := 3) rfl fun g => ?_))
        refine ⟨w, (), rfl, rfl, ⟨rfl, rfl⟩, fun p hp => List.mem_cons_of_mem _ hp, fun i v _ m2 hv ⟨em, hf⟩ => ?_, fun _ m2 ⟨em, hf⟩ => ?_⟩
        · subst em
          walk_at "wp"
          refine ⟨fun z => ?_, fun z => ?_⟩
          · rw [find_some hf hv z] at k
            walk_at "wp"
            exact k
          · refine bl_next ?_
            exact ⟨rfl, (), rfl, rfl, find_none hf hv z⟩
        · subst em
          rw [List.take_length] at hf
          rw [hf] at k
          walk_at "wp"
          exact k
abbrev F_answered : PF := fun xs n K => ∃ (f : Fm) (s : Sd) (e : Dd) (b : Nat), xs = [.t (eF f), .t (eS s), .t (eD e)] ∧ FOk f ∧ SOk f s b ∧ DOk f e ∧ K (.t (eA (answered f s e))) n
theorem len_answered : ∀ xs n K, F_answered xs n K → xs.length = 3 := fun _ _ _ ⟨_, _, _, _, e, _⟩ => by rw [e]; rfl
abbrev N_answered : List Str := ["form", "stand", "deed", "cause", "m"]
theorem sc_answered : FnScope N_answered ["form", "stand", "deed"] (defScope s_answered) := ⟨rfl, rfl, rfl, by decide +kernel, rfl, by decide +kernel, by decide +kernel⟩
theorem cal_answered {P : Program} {w : World} {K : PySem.W.Frag} {mg : Str → Option Value} {base : Heap} {f : Addr} {fd : FuncData} (B : Bi mg) (c_cause_of : Cal P w K mg base "cause_of" 2 ["form", "stand", "deed"] (spU F_cause_of)) (c_machine_of : Cal P w K mg base "machine_of" 1 ["form", "deed"] (spU F_machine_of)) (c_answer : Cal P w K mg base "answer" 1 ["form", "m", "state", "cause"] (spU F_answer)) (F : Fun K "answered" "answered" s_answered f fd) (gm : mg "answered" = some (.ref f)) : Cal P w K mg base "answered" 3 ["form", "stand", "deed"] (spU F_answered) := by
  have bn : Binds K fd ["form", "stand", "deed"] [] := F.binds fun _ _ _ _ _ _ us hl => match us, hl with | [_, _, _], _ => rfl
  refine mk_cal (k := 2) F gm bn sc_answered rfl len_answered fun cdv A outer s H E hr => ?_
  have nd := (sc_answered).nd
  apply Exists.intro
  apply And.intro
  · exact (pss_cons (ps_set (i := 3) nd rfl (Or.inl rfl) (pe_cal c_cause_of hr (by rfl) (pa_cons (pv 0) (pa_cons (pv 1) (pa_cons (pv 2) pa_nil)))))
    (pss_cons (ps_if (pt_cmpR op_isP (pv 3) pe_non (nomark _)) (pss_one (ps_ret pe_non)) pss_nil)
    (pss_cons (ps_set (i := 4) nd rfl (Or.inl rfl) (pe_cal c_machine_of hr (by rfl) (pa_cons (pv 0) (pa_cons (pv 2) pa_nil))))
    (pss_one (ps_ret (pe_cal c_answer hr (by rfl) (pa_cons (pv 0) (pa_cons (pv 4) (pa_cons (pe_ix (ix_K (K := K)) (pe_ix (ix_K (K := K)) (pv 1) pe_int (fun _ _ => rfl)) (pv 4) (fun _ _ => rfl)) (pa_cons (pv 3) pa_nil))))))))))
  · rintro xs n Kx ⟨f, s, e, bb, rfl, hf, hs, he, k⟩
    have hm := mach_lt hf he
    have hx := List.getElem?_eq_getElem (show mach f e < s.st.length by rw [hs.st]; exact hm)
    generalize s.st[mach f e]'(by rw [hs.st]; exact hm) = x at hx
    walk_at "wp"
    refine ⟨f, s, e, bb, rfl, hs, he, ?_⟩
    walk_at "wp"
    cases hc : cause f s e with
    | none =>
      walk_at "wp"
      refine ⟨fun _ => ?_, fun z => (by cases z)⟩
      walk_at "wp"
      have ea : answered f s e = none := by unfold CK.answered; rw [hc]
      rw [ea] at k; exact k
    | some c =>
      walk_at "wp"
      refine ⟨fun z => (by cases z), fun _ => ?_⟩
      walk_at "wp"
      refine ⟨he, ?_⟩
      walk_at "wp"
      refine wIxT (atI_map hx) ?_
      walk_at "wp"
      have ea : answered f s e = f.answer (mach f e) x c := by unfold CK.answered; rw [hc, hx]
      rw [ea] at k
      exact ⟨f, mach f e, x, c, rfl, hm, k⟩
abbrev F_can : PF := fun xs n K => ∃ (f : Fm) (s : Sd) (d : T) (b : Nat), xs = [.t (eF f), .t (eS s), .t d] ∧ FOk f ∧ SOk f s b ∧ d.mild ∧ (∀ e, d = eD e → DOk f e → K (.t (.bl (can f s e))) n) ∧ ((∀ e, d = eD e → ¬ DOk f e) → K (.t (.bl false)) n)
theorem len_can : ∀ xs n K, F_can xs n K → xs.length = 3 := fun _ _ _ ⟨_, _, _, _, e, _⟩ => by rw [e]; rfl
abbrev N_can : List Str := ["form", "stand", "thing"]
theorem sc_can : FnScope N_can ["form", "stand", "thing"] (defScope s_can) := ⟨rfl, rfl, rfl, by decide +kernel, rfl, by decide +kernel, by decide +kernel⟩
theorem cal_can {P : Program} {w : World} {K : PySem.W.Frag} {mg : Str → Option Value} {base : Heap} {f : Addr} {fd : FuncData} (B : Bi mg) (c_is_plain : Cal P w K mg base "is_plain" 3 ["form", "thing"] (spU F_is_plain)) (c_answered : Cal P w K mg base "answered" 3 ["form", "stand", "deed"] (spU F_answered)) (F : Fun K "can" "can" s_can f fd) (gm : mg "can" = some (.ref f)) : Cal P w K mg base "can" 4 ["form", "stand", "thing"] (spU F_can) := by
  have bn : Binds K fd ["form", "stand", "thing"] [] := F.binds fun _ _ _ _ _ _ us hl => match us, hl with | [_, _, _], _ => rfl
  refine mk_cal (k := 3) F gm bn sc_can rfl len_can fun cdv A outer s H E hr => ?_
  have nd := (sc_can).nd
  apply Exists.intro
  apply And.intro
  · exact (pss_one (ps_ret (pe_and (pe_cal c_is_plain hr (by rfl) (pa_cons (pv 0) (pa_cons (pv 2) pa_nil))) (pe_one (pe_cmpR op_isnotP (pe_cal c_answered hr (by rfl) (pa_cons (pv 0) (pa_cons (pv 1) (pa_cons (pv 2) pa_nil)))) pe_non (nomark _))))))
  · rintro xs n Kx ⟨f, s, d, bb, rfl, hf, hs, md, k1, k2⟩
    walk_at "wp"
    refine ⟨md, ?_⟩
    walk_at "wp"
    refine ⟨fun z => ?_, fun z => ?_⟩
    · obtain ⟨e, rfl, he⟩ := (isPlain_iff f d).mp z
      walk_at "wp"
      refine ⟨f, s, e, bb, rfl, hf, hs, he, ?_⟩
      walk_at "wp"
      have e1 : (!(eA (answered f s e)).isNon) = can f s e := by
        rw [eA_non]; unfold CK.can; cases answered f s e <;> rfl
      rw [e1]
      exact k1 e rfl he
    · refine k2 fun e ed he => ?_
      rw [(isPlain_iff f d).mpr ⟨e, ed, he⟩] at z
      cases z
end CK
/-! part D5 -/
set_option Elab.async false
set_option linter.all false
set_option maxRecDepth 100000
set_option maxHeartbeats 1000000
/-! Defs of plain, part 3. -/
namespace CK
open PySem PySem.Spec PyProof.Rows L2
local macro_rules | `(tactic| walk_at "wp0") => `(tactic| first
  | ((with_reducible refine bl_retL (a := ?va) (ds := ?vd) ?vh ?_); (case vh => exact rfl))
  | ((with_reducible refine bl_retD (a := ?va) (ds := ?vd) ?vh ?_); (case vh => exact rfl))
  | (with_reducible refine bl_ret ?_)
  | (with_reducible refine bl_if ?_)
  | (with_reducible refine bl_asg ?_)
  | (with_reducible refine bl_asgP ?_)
  | (with_reducible refine bl_next ?_)
  | (with_reducible refine et_test ?_)
  | (with_reducible refine et_B ?_)
  | (with_reducible refine et_and ?_)
  | (with_reducible refine et_or ?_)
  | (with_reducible refine et_not ?_)
  | (with_reducible refine et_yes ?_)
  | ((with_reducible refine ev_varT (d := ?vd) ?vh ?_); (case vh => exact rfl))
  | ((with_reducible refine ev_varL (a := ?va) (ds := ?vd) (o := ?vo) ?vh ?_); (case vh => exact rfl))
  | ((with_reducible refine ev_varD (a := ?va) (kvs := ?vd) (o := ?vo) ?vh ?_); (case vh => exact rfl))
  | ((with_reducible refine ev_varP ?vh ?_); (case vh => exact rfl))
  | (with_reducible refine ev_int ?_)
  | (with_reducible refine ev_str ?_)
  | (with_reducible refine ev_bl ?_)
  | (with_reducible refine ev_non ?_)
  | (with_reducible refine ev_ty ?_)
  | (with_reducible refine ev_op ro_ix ?_)
  | (with_reducible refine ev_op ro_eq ?_)
  | (with_reducible refine ev_op ro_is ?_)
  | (with_reducible refine ev_op ro_cmp ?_)
  | (with_reducible refine ev_op ro_add ?_)
  | (with_reducible refine ev_op ro_sub ?_)
  | (with_reducible refine ev_op ro_mul ?_)
  | (with_reducible refine ev_op ro_mod ?_)
  | (with_reducible refine ev_op ro_div ?_)
  | (with_reducible refine ev_op ro_pow ?_)
  | (with_reducible refine ev_op ro_in ?_)
  | (with_reducible refine ev_neg ?_)
  | (with_reducible refine ev_cb rc_len ?_)
  | (with_reducible refine ev_cb rc_isi ?_)
  | (with_reducible refine ev_cb rc_all ?_)
  | (with_reducible refine ev_cb rc_list ?_)
  | (with_reducible refine ev_cb rc_tuple ?_)
  | (with_reducible refine ev_cb rc_int ?_)
  | (with_reducible refine ev_cb rc_max ?_)
  | (with_reducible refine ea_cons ?_)
  | (with_reducible refine ea_nil ?_)
  | (with_reducible refine ev_tup ?_)
  | (with_reducible refine ev_lst ?_)
  | (with_reducible refine ev_sl ?_)
  | (with_reducible refine eo_none ?_)
  | (with_reducible refine eo_some ?_)
  | (with_reducible refine ev_dget ?_)
  | (with_reducible refine ev_dnew ?_)
  | (with_reducible refine ev_if ?_)
  | (with_reducible refine ev_and ?_)
  | (with_reducible refine ev_or ?_)
  | (with_reducible refine ev_not ?_)
  | (with_reducible refine ev_chain ro_cmp ro_cmp ?_)
  | (with_reducible refine ev_call ?_)
  | (with_reducible refine ev_lrg2 ?_)
  | (with_reducible refine wAddI ?_)
  | (with_reducible refine wSub ?_)
  | (with_reducible refine wEqI ?_)
  | (with_reducible refine wEqS ?_)
  | (with_reducible refine wNeI ?_)
  | (with_reducible refine wNeS ?_)
  | (with_reducible refine wCmp ?_)
  | (with_reducible refine wLenT ?_)
  | (with_reducible refine wLenL ?_)
  | (with_reducible refine wTupT ?_)
  | (with_reducible refine wTupL ?_)
  | (with_reducible refine wIsN ?_)
  | (with_reducible refine wNotN ?_)
  | (with_reducible refine wIsB ?_)
  | (with_reducible refine wInt ?_)
  | (with_reducible refine wMax ?_)
  | (with_reducible refine wListT ?_; intro _)
  | (with_reducible refine wListL ?_; intro _)
  | (with_reducible refine wSlT ?_)
  | ((with_reducible refine wIxT (d := ?vd) ?vh ?_); (case vh => exact rfl))
  | (refine wIxT atI_c0 ?_)
  | (refine wIxT atI_c1 ?_)
  | (refine wIxT atI_c2 ?_)
  | ((with_reducible refine wIxL (d := ?vd) ?vh ?_); (case vh => exact rfl))
  | ((with_reducible refine wIsi (b := ?vd) ?vh ?_); (case vh => exact rfl))
  | ((with_reducible refine wIsiL (b := ?vd) ?vh ?_); (case vh => exact rfl))
  | (with_reducible refine tg_tup rfl ?_)
  | (with_reducible refine tgs_cons ?_)
  | (with_reducible refine tgs_nil ?_)
  | ((with_reducible refine tg_name ?vh ?_); (case vh => decide))
  | (with_reducible refine ⟨_, rfl, ?_⟩)
  | (with_reducible refine ⟨_, _, rfl, ?_⟩)
  | (with_reducible refine ⟨_, _, rfl, rfl, ?_⟩)
  | (with_reducible refine ⟨_, _, _, rfl, ?_⟩)
  | (refine And.intro (show List.length _ ≤ lim from Nat.le_of_ble_eq_true rfl) ?_)
  | (with_reducible refine seqK_nx ?_)
  | (with_reducible refine seqK_rt ?_)
  | (with_reducible refine seqK_ex ?_)
  | fail "wp0: no step")
local macro_rules | `(tactic| walk_at "wp1") => `(tactic| first | (with_reducible refine bl_seq ?_) | walk_at "wp0")
local macro_rules | `(tactic| walk_at "wps") => `(tactic| repeat (walk_at "wp0"))
local macro_rules | `(tactic| walk_at "wp") => `(tactic| repeat (walk_at "wp1"))
abbrev F_taken_out : PF := fun xs n K => ∃ (ls : List Ld) (r : Nat) (m : Int) (l : Ld), xs = [.t (.tup (ls.map eLd)), .t (.int (r : Nat)), .t (.int m)] ∧ ls[r]? = some l ∧ ls.length ≤ 1000 ∧ K (.t (.tup ((ls.set r (l.out m)).map eLd))) n
theorem len_taken_out : ∀ xs n K, F_taken_out xs n K → xs.length = 3 := fun _ _ _ ⟨_, _, _, _, e, _⟩ => by rw [e]; rfl
theorem cat_lim {a b : List T} {k : Nat} (h : (a ++ b).length = k) (h2 : k ≤ 100000) : (a ++ b).length ≤ lim := by rw [h]; exact h2
abbrev N_taken_out : List Str := ["loads", "road", "number", "sent", "waiting", "left", "letter"]
theorem sc_taken_out : FnScope N_taken_out ["loads", "road", "number"] (defScope s_taken_out) := ⟨rfl, rfl, rfl, by decide +kernel, rfl, by decide +kernel, by decide +kernel⟩
theorem cal_taken_out {P : Program} {w : World} {K : PySem.W.Frag} {mg : Str → Option Value} {base : Heap} {f : Addr} {fd : FuncData} (B : Bi mg) (F : Fun K "taken_out" "taken_out" s_taken_out f fd) (gm : mg "taken_out" = some (.ref f)) : Cal P w K mg base "taken_out" 1 ["loads", "road", "number"] (spU F_taken_out) := by
  have bn : Binds K fd ["loads", "road", "number"] [] := F.binds fun _ _ _ _ _ _ us hl => match us, hl with | [_, _, _], _ => rfl
  refine mk_cal (k := 0) F gm bn sc_taken_out rfl len_taken_out fun cdv A outer s H E hr => ?_
  have nd := (sc_taken_out).nd
  apply Exists.intro
  apply And.intro
  · exact (pss_cons (ps_asg (pe_ix (ix_K (K := K)) (pv 0) (pv 1) (fun _ _ => rfl)) (pg_tup rfl (pgs_cons (pg_name (i := 3) nd rfl (Or.inl rfl)) (pgs_cons (pg_name (i := 4) nd rfl (Or.inl rfl)) pgs_nil))))
    (pss_cons (ps_set (i := 5) nd rfl (Or.inl rfl) (pe_callTy (call_tupleK (K := K)) (by rfl) B.tuple bt_tuple (pa_cons (pe_lc (own := [("letter", 6)]) (g := (gName 6)) rfl nd (pi_seqU (pv 4)) (blkOk_by (own := [("letter", 6)]) (N := N_taken_out) (sc := (defScope s_taken_out)) (by decide +kernel)) (fun _ _ _ _ _ => (pg_name (i := 6) nd rfl (Or.inl rfl))) (fun _ _ _ _ _ => (pts_one (pt_cmpR (op_neK (K := K) hr.units) (pe_ix (ix_K (K := K)) (pv 6) pe_int (fun _ _ => rfl)) (pv 2) (nomark _)))) (fun _ _ _ _ _ => (pv 6))) pa_nil)))
    (pss_one (ps_ret (pe_op (op_addK (K := K)) (pe_op (op_addK (K := K)) (pe_slice (sl_K (K := K)) (pv 0) po_none (po_some (pv 1))) (pe_tup (pa_cons (pe_tup (pa_cons (pv 3) (pa_cons (pv 5) pa_nil))) pa_nil))) (pe_slice (sl_K (K := K)) (pv 0) (po_some (pe_op (op_addK (K := K)) (pv 1) pe_int)) po_none))))))
  · rintro xs n Kx ⟨ls, r, m, l, rfl, hl, h10, k⟩
    have hr := (List.getElem?_eq_some_iff.mp hl).1
    walk_at "wp"
    refine wIxT (atI_map hl) ?_
    walk_at "wp"
    refine ev_lcF eLt (fun x => !decide (x.1 = m)) eLt (ei_tup ?_)
    walk_at "wp"
    intro g
    refine ⟨l.w, rfl, fun x hx => ?_, fun p => ?_⟩
    · walk_at "wp"
      refine ⟨?_, fun _ => ?_⟩
      · walk_at "wp"
        exact ⟨rfl, rfl⟩
      · walk_at "wp"
        exact ⟨rfl, rfl⟩
    walk_at "wp"
    have h1 : (cutA (ls.map eLd) none (some (r : Int)) ++ [eLd (l.out m)]).length ≤ lim := by
      rw [cutA_take]; simp; show _ ≤ 100000; omega
    refine wAddT h1 ?_
    walk_at "wp"
    refine wAddT ?_ ?_
    · rw [show ((r : Int) + 1) = ((r + 1 : Nat) : Int) from rfl, cutA_take, cutA_drop]; simp; show _ ≤ 100000; omega
    · have e := set_cutT eLd hr (l.out m)
      exact (congrArg (fun z => Kx (.t (.tup z)) n) e).mpr k
abbrev F_sent_out : PF := fun xs n K => ∃ (ls : List Ld) (ss : List (Nat × Str)) (b : Nat), xs = [.t (.tup (ls.map eLd)), .t (.tup (ss.map eSend))] ∧ ls.length ≤ 1000 ∧ (∀ (j : Nat) x, ls[j]? = some x → LOk b x) ∧ b + ss.length ≤ 10000 ∧ (∀ s ∈ ss, s.1 < ls.length) ∧ K (.t (.tup ((sendAll ls ss).map eLd))) n
theorem len_sent_out : ∀ xs n K, F_sent_out xs n K → xs.length = 2 := fun _ _ _ ⟨_, _, _, e, _⟩ => by rw [e]; rfl
abbrev N_sent_out : List Str := ["loads", "sends", "road", "sign", "sent", "waiting"]
theorem sc_sent_out : FnScope N_sent_out ["loads", "sends"] (defScope s_sent_out) := ⟨rfl, rfl, rfl, by decide +kernel, rfl, by decide +kernel, by decide +kernel⟩
theorem cal_sent_out {P : Program} {w : World} {K : PySem.W.Frag} {mg : Str → Option Value} {base : Heap} {f : Addr} {fd : FuncData} (B : Bi mg) (F : Fun K "sent_out" "sent_out" s_sent_out f fd) (gm : mg "sent_out" = some (.ref f)) : Cal P w K mg base "sent_out" 1 ["loads", "sends"] (spU F_sent_out) := by
  have bn : Binds K fd ["loads", "sends"] [] := F.binds fun _ _ _ _ _ _ us hl => match us, hl with | [_, _], _ => rfl
  refine mk_cal (k := 0) F gm bn sc_sent_out rfl len_sent_out fun cdv A outer s H E hr => ?_
  have nd := (sc_sent_out).nd
  apply Exists.intro
  apply And.intro
  · exact (pss_cons (ps_for PassesOwn.never rfl (pi_seqU (pv 1)) (pg_tup rfl (pgs_cons (pg_name (i := 2) nd rfl (Or.inl rfl)) (pgs_cons (pg_name (i := 3) nd rfl (Or.inl rfl)) pgs_nil)))
      (pss_cons (ps_asg (pe_ix (ix_K (K := K)) (pv 0) (pv 2) (fun _ _ => rfl)) (pg_tup rfl (pgs_cons (pg_name (i := 4) nd rfl (Or.inl rfl)) (pgs_cons (pg_name (i := 5) nd rfl (Or.inl rfl)) pgs_nil))))
    (pss_one (ps_set (i := 0) nd rfl (Or.inl rfl) (pe_op (op_addK (K := K)) (pe_op (op_addK (K := K)) (pe_slice (sl_K (K := K)) (pv 0) po_none (po_some (pv 2))) (pe_tup (pa_cons (pe_tup (pa_cons (pe_op (op_addK (K := K)) (pv 4) pe_int) (pa_cons (pe_op (op_addK (K := K)) (pv 5) (pe_tup (pa_cons (pe_tup (pa_cons (pv 4) (pa_cons (pv 3) pa_nil))) pa_nil))) pa_nil))) pa_nil))) (pe_slice (sl_K (K := K)) (pv 0) (po_some (pe_op (op_addK (K := K)) (pv 2) pe_int)) po_none))))))
    (pss_one (ps_ret (pv 0))))
  · rintro xs n Kx ⟨ls, ss, b, rfl, h10, hok, hb, hr, k⟩
    refine bl_seq (bl_forS (α := Nat × Str) [2, 3, 4, 5] eSend (fun l : List Ld => [some (.t (.tup (l.map eLd))), some (.t (.tup (ss.map eSend))), none, none, none, none]) (fun i l m' => m' = n ∧ l = sendAll ls (ss.take i)) (ei_tup ?_))
    walk_at "wp"
    intro g
    refine ⟨ss, ls, rfl, rfl, ⟨rfl, rfl⟩, fun p hp => List.mem_cons_of_mem _ hp, fun i v l m' hv ⟨em, hl⟩ => ?_, fun l m' ⟨em, hl⟩ => ?_⟩
    · subst em
      have hi := (List.getElem?_eq_some_iff.mp hv).1
      have hv' : v.1 < l.length := by rw [hl, sendAll_len]; exact hr v (List.mem_of_getElem? hv)
      have hx := List.getElem?_eq_getElem hv'
      have hlen : l.length = ls.length := by rw [hl, sendAll_len]
      have hlok : ∀ (j : Nat) x, l[j]? = some x → LOk (b + i) x := by
        have := sendAll_ok (b := b) (ss.take i) hok
        rw [← hl] at this
        exact fun j x e => (this j x e).mono (by rw [List.length_take]; omega)
      generalize l[v.1]'hv' = x at hx
      walk_at "wp"
      refine wIxT (atI_map hx) ?_
      walk_at "wp"
      have h2 := (hlok _ _ hx).2.2.2.1
      refine wAddT ?_ ?_
      · simp; show _ ≤ 100000; omega
      walk_at "wp"
      have h1 : (cutA (l.map eLd) none (some (v.1 : Int)) ++ [eLd (x.put v.2)]).length ≤ lim := by
        rw [cutA_take]; simp; show _ ≤ 100000; omega
      have ex : T.tup [.int (x.sent + 1), .tup (x.w.map eLt ++ [T.tup [.int x.sent, .str v.2]])] = eLd (x.put v.2) := by
        simp [Ld.put]
      rw [ex]
      refine wAddT h1 ?_
      walk_at "wp"
      refine wAddT ?_ ?_
      · rw [show ((v.1 : Int) + 1) = ((v.1 + 1 : Nat) : Int) from rfl, cutA_take, cutA_drop]; simp; show _ ≤ 100000; omega
      · rw [set_cutT eLd hv' (x.put v.2)]
        refine ⟨rfl, l.set v.1 (x.put v.2), rfl, rfl, ?_⟩
        rw [List.take_add_one, hv]
        show _ = List.foldl sendOne ls (ss.take i ++ [v])
        rw [List.foldl_append]
        show _ = sendOne (sendAll ls (ss.take i)) v
        rw [← hl]
        simp only [sendOne, hx]
    · subst em
      rw [List.take_length] at hl
      subst hl
      walk_at "wp"
      exact k
theorem eA_some {a : Int} {ss : List (Nat × Str)} {w : Option Str} : eA (some (a, ss, w)) = .tup [.int a, .tup (ss.map eSend), eO w] := rfl
abbrev F_done : PF := fun xs n K => ∃ (f : Fm) (s : Sd) (e : Dd) (b : Nat), xs = [.t (eF f), .t (eS s), .t (eD e)] ∧ FOk f ∧ SOk f s b ∧ b ≤ 9000 ∧ DOk f e ∧ (eD e).mild ∧ can f s e = true ∧ K (.t (.tup [eS (step f s e), eTold (told f s e)])) n
theorem len_done : ∀ xs n K, F_done xs n K → xs.length = 3 := fun _ _ _ ⟨_, _, _, _, e, _⟩ => by rw [e]; rfl
abbrev N_done : List Str := ["form", "stand", "deed", "after", "sends", "word", "m", "states", "loads", "told"]
theorem sc_done : FnScope N_done ["form", "stand", "deed"] (defScope s_done) := ⟨rfl, rfl, rfl, by decide +kernel, rfl, by decide +kernel, by decide +kernel⟩
theorem cal_done {P : Program} {w : World} {K : PySem.W.Frag} {mg : Str → Option Value} {base : Heap} {f : Addr} {fd : FuncData} (B : Bi mg) (c_answered : Cal P w K mg base "answered" 3 ["form", "stand", "deed"] (spU F_answered)) (c_machine_of : Cal P w K mg base "machine_of" 1 ["form", "deed"] (spU F_machine_of)) (c_can : Cal P w K mg base "can" 4 ["form", "stand", "thing"] (spU F_can)) (c_taken_out : Cal P w K mg base "taken_out" 1 ["loads", "road", "number"] (spU F_taken_out)) (c_sent_out : Cal P w K mg base "sent_out" 1 ["loads", "sends"] (spU F_sent_out)) (F : Fun K "done" "done" s_done f fd) (gm : mg "done" = some (.ref f)) : Cal P w K mg base "done" 5 ["form", "stand", "deed"] (spU F_done) := by
  have bn : Binds K fd ["form", "stand", "deed"] [] := F.binds fun _ _ _ _ _ _ us hl => match us, hl with | [_, _, _], _ => rfl
  refine mk_cal (k := 4) F gm bn sc_done rfl len_done fun cdv A outer s H E hr => ?_
  have nd := (sc_done).nd
  apply Exists.intro
  apply And.intro
  · exact (pss_cons (ps_if (pt_not (pt_val (pe_cal c_can hr (by rfl) (pa_cons (pv 0) (pa_cons (pv 1) (pa_cons (pv 2) pa_nil)))))) (pss_one ps_never) pss_nil)
    (pss_cons (ps_asg (pe_cal c_answered hr (by rfl) (pa_cons (pv 0) (pa_cons (pv 1) (pa_cons (pv 2) pa_nil)))) (pg_tup rfl (pgs_cons (pg_name (i := 3) nd rfl (Or.inl rfl)) (pgs_cons (pg_name (i := 4) nd rfl (Or.inl rfl)) (pgs_cons (pg_name (i := 5) nd rfl (Or.inl rfl)) pgs_nil)))))
    (pss_cons (ps_set (i := 6) nd rfl (Or.inl rfl) (pe_cal c_machine_of hr (by rfl) (pa_cons (pv 0) (pa_cons (pv 2) pa_nil))))
    (pss_cons (ps_set (i := 7) nd rfl (Or.inl rfl) (pe_op (op_addK (K := K)) (pe_op (op_addK (K := K)) (pe_slice (sl_K (K := K)) (pe_ix (ix_K (K := K)) (pv 1) pe_int (fun _ _ => rfl)) po_none (po_some (pv 6))) (pe_tup (pa_cons (pv 3) pa_nil))) (pe_slice (sl_K (K := K)) (pe_ix (ix_K (K := K)) (pv 1) pe_int (fun _ _ => rfl)) (po_some (pe_op (op_addK (K := K)) (pv 6) pe_int)) po_none)))
    (pss_cons (ps_set (i := 8) nd rfl (Or.inl rfl) (pe_ix (ix_K (K := K)) (pv 1) pe_int (fun _ _ => rfl)))
    (pss_cons (ps_if (pt_cmpR (op_eqK (K := K) hr.units) (pe_ix (ix_K (K := K)) (pv 2) pe_int (fun _ _ => rfl)) pe_str (nomark _)) (pss_one (ps_set (i := 8) nd rfl (Or.inl rfl) (pe_cal c_taken_out hr (by rfl) (pa_cons (pv 8) (pa_cons (pe_ix (ix_K (K := K)) (pv 2) pe_int (fun _ _ => rfl)) (pa_cons (pe_ix (ix_K (K := K)) (pv 2) pe_int (fun _ _ => rfl)) pa_nil)))))) pss_nil)
    (pss_cons (ps_set (i := 9) nd rfl (Or.inl rfl) pe_non)
    (pss_cons (ps_if (pt_cmpR op_isnotP (pv 5) pe_non (nomark _)) (pss_one (ps_set (i := 9) nd rfl (Or.inl rfl) (pe_tup (pa_cons (pv 6) (pa_cons (pv 5) pa_nil))))) pss_nil)
    (pss_one (ps_ret (pe_tup (pa_cons (pe_tup (pa_cons (pv 7) (pa_cons (pe_cal c_sent_out hr (by rfl) (pa_cons (pv 8) (pa_cons (pv 4) pa_nil))) pa_nil))) (pa_cons (pv 9) pa_nil)))))))))))))
  · rintro xs n Kx ⟨f, s, e, b, rfl, hf, hs, hb, he, md, hc, k⟩
    have hm := mach_lt hf he
    have hm' : mach f e < s.st.length := by rw [hs.st]; exact hm
    have hrl := hf.rl
    have hrd := hf.rd
    have hst := hs.st
    walk_at "wps"
    refine bl_seqC (fun ρ m' => m' = n ∧ ρ = env0 N_done [.t (eF f), .t (eS s), .t (eD e)]) ?_ ?_
    · walk_at "wp"
      refine ⟨f, s, eD e, b, rfl, hf, hs, md, fun e2 he2 _ => ?_, fun h => absurd he (h e rfl)⟩
      cases eD_inj he2
      rw [hc]
      walk_at "wp"
      refine ⟨fun z => (by cases z), fun _ => ?_⟩
      walk_at "wp"
      exact ⟨rfl, rfl⟩
    rintro ρ m' ⟨em, rfl⟩
    subst em
    cases ha : answered f s e with
    | none =>
      unfold CK.can at hc
      rw [ha] at hc
      cases hc
    | some p =>
    obtain ⟨a, ss, w⟩ := p
    have hss := answered_sends hf ha
    have es : step f s e = ⟨s.st.set (mach f e) a, sendAll (takenLd s.ld e) ss⟩ := by simp only [CK.step, ha]
    rw [es] at k
    walk_at "wp"
    refine ⟨f, s, e, b, rfl, hf, hs, he, ?_⟩
    rw [ha, eA_some]
    walk_at "wp"
    refine ⟨he, ?_⟩
    walk_at "wp"
    refine wAddT ?_ ?_
    · rw [cutA_take]; simp; show _ ≤ 100000; omega
    walk_at "wp"
    refine wAddT ?_ ?_
    · rw [show ((mach f e : Int) + 1) = ((mach f e + 1 : Nat) : Int) from rfl, cutA_take, cutA_drop]; simp; show _ ≤ 100000; omega
    rw [set_cutT T.int hm' a]
    walk_at "wps"
    refine bl_seq ?_
    walk_at "wps"
    refine bl_seqC (fun ρ m2 => m2 = m' ∧ ρ = ⟨[some (.t (eF f)), some (.t (eS s)), some (.t (eD e)), some (.t (.int a)), some (.t (.tup (ss.map eSend))), some (.t (eO w)), some (.t (.int (mach f e : Nat))), some (.t (.tup ((s.st.set (mach f e) a).map T.int))), some (.t (.tup ((takenLd s.ld e).map eLd))), none], []⟩) ?_ ?_
    · cases e with
      | own m =>
        dsimp only [eD]
        walk_at "wp"
        exact ⟨fun z => (by cases z), fun _ => bl_next ⟨rfl, rfl⟩⟩
      | hear m c =>
        dsimp only [eD]
        walk_at "wp"
        exact ⟨fun z => (by cases z), fun _ => bl_next ⟨rfl, rfl⟩⟩
      | come r m =>
        have hr : r < s.ld.length := by rw [hs.ld]; exact he
        have hl := List.getElem?_eq_getElem hr
        generalize s.ld[r]'hr = l at hl
        have et : takenLd s.ld (.come r m) = s.ld.set r (l.out m) := by simp only [takenLd, hl]
        rw [et]
        dsimp only [eD]
        walk_at "wp"
        refine ⟨fun _ => ?_, fun z => (by cases z)⟩
        walk_at "wp"
        refine ⟨s.ld, r, m, l, rfl, hl, by rw [hs.ld]; omega, ?_⟩
        exact ⟨rfl, rfl⟩
    rintro ρ m2 ⟨em, rfl⟩
    subst em
    walk_at "wps"
    refine bl_seq ?_
    walk_at "wps"
    refine bl_seqC (fun ρ m3 => m3 = m2 ∧ ρ = ⟨[some (.t (eF f)), some (.t (eS s)), some (.t (eD e)), some (.t (.int a)), some (.t (.tup (ss.map eSend))), some (.t (eO w)), some (.t (.int (mach f e : Nat))), some (.t (.tup ((s.st.set (mach f e) a).map T.int))), some (.t (.tup ((takenLd s.ld e).map eLd))), some (.t (eTold (told f s e)))], []⟩) ?_ ?_
    · walk_at "wp"
      cases w with
      | none =>
        have et : told f s e = none := by simp only [told, ha]
        rw [et]
        exact ⟨fun z => (by cases z), fun _ => bl_next ⟨rfl, rfl⟩⟩
      | some w =>
        have et : told f s e = some (mach f e, w) := by simp only [told, ha]
        rw [et]
        refine ⟨fun _ => ?_, fun z => (by cases z)⟩
        dsimp only [eO]
        walk_at "wp"
        exact ⟨rfl, rfl⟩
    rintro ρ m3 ⟨em, rfl⟩
    subst em
    walk_at "wp"
    refine ⟨takenLd s.ld e, ss, b, rfl, by rw [takenLd_len, hs.ld]; omega, takenLd_ok hs.w e, by omega, fun x hx => ?_, ?_⟩
    · obtain ⟨q, hq, _⟩ := hss.2 x hx
      rw [takenLd_len, hs.ld]
      exact (List.getElem?_eq_some_iff.mp hq).1
    walk_at "wp"
    exact k
/-- the tellings of a run -/
def tolds (f : Fm) : Sd → List Dd → List (Nat × Str)
  | _, [] => []
  | s, d :: ds => (match told f s d with | some x => [x] | none => []) ++ tolds f (step f s d) ds
theorem runs_take {f : Fm} : ∀ (ds : List Dd) (s : Sd) (i : Nat) (d : Dd), Runs f s ds → ds[i]? = some d → DOk f d ∧ can f (walk f s (ds.take i)) d = true
  | [], _, _, _, _, e => by simp at e
  | x :: ds, s, 0, d, h, e => by
    simp at e
    subst e
    exact ⟨h.1, h.2.1⟩
  | x :: ds, s, i + 1, d, h, e => by
    have := runs_take ds (step f s x) i d h.2.2 (by simpa using e)
    exact this
theorem walk_ok {f : Fm} (F : FOk f) : ∀ (ds : List Dd) (s : Sd) (b : Nat), SOk f s b → SOk f (walk f s ds) (b + 3 * ds.length)
  | [], s, b, h => h
  | d :: ds, s, b, h => by
    have := walk_ok F ds (step f s d) (b + 3) (h.step F d)
    exact this.mono (by simp; omega)
theorem walk_snoc (f : Fm) (s : Sd) (ds : List Dd) (i : Nat) (d : Dd) (h : ds[i]? = some d) : walk f s (ds.take (i + 1)) = step f (walk f s (ds.take i)) d := by
  rw [List.take_add_one, h]
  show List.foldl (step f) s (ds.take i ++ [d]) = _
  rw [List.foldl_append]
  rfl
theorem sign_len {c : Str} (h : isSign (.str c) = true) : c.length = 1 := by
  simp only [isSign, Bool.and_eq_true, decide_eq_true_eq] at h
  exact h.2
theorem eD_mild {f : Fm} {d : Dd} (h : DOk f d) : (eD d).mild := by
  cases d with
  | own m => simp [eD, T.mild, milds]; decide
  | hear m c =>
    have := sign_len h.2
    simp [eD, T.mild, milds, this]; decide
  | come r n => simp [eD, T.mild, milds]; decide
theorem enum_get (ds : List T) : enumT ds = (ds.zipIdx).map fun p => T.tup [.int (p.2 : Nat), p.1] := by
  apply List.ext_getElem?
  intro i
  rw [List.getElem?_map, List.getElem?_zipIdx]
  cases h : ds[i]? with
  | none =>
    have := List.getElem?_eq_none_iff.mp h
    rw [List.getElem?_eq_none (by rw [enumT_len]; exact this)]
    rfl
  | some d =>
    rw [enumT_get h]
    simp
theorem zipIdx_get {α : Type} {xs : List α} {i : Nat} {x : α} {k : Nat} (h : xs.zipIdx[i]? = some (x, k)) : xs[i]? = some x ∧ k = i := by
  rw [List.getElem?_zipIdx] at h
  cases e : xs[i]? with
  | none => rw [e] at h; cases h
  | some y => rw [e] at h; simp at h; exact ⟨by rw [h.1], h.2.symm⟩
theorem enum_map {α : Type} (g : α → T) (xs : List α) : enumT (xs.map g) = xs.zipIdx.map fun p => T.tup [.int (p.2 : Nat), g p.1] := by
  rw [enum_get, List.zipIdx_map, List.map_map]
  rfl
abbrev F_run : PF := fun xs n K => ∃ (f : Fm) (s : Sd) (es : List Dd) (b : Nat), xs = [.t (eF f), .t (eS s), .t (.tup (es.map eD))] ∧ FOk f ∧ SOk f s b ∧ b + 3 * es.length ≤ 8000 ∧ Runs f s es ∧ K (.t (.tup [eS (walk f s es), .lst])) n
theorem len_run : ∀ xs n K, F_run xs n K → xs.length = 3 := fun _ _ _ ⟨_, _, _, _, e, _⟩ => by rw [e]; rfl
abbrev N_run : List Str := ["form", "stand", "deeds", "words", "number", "deed", "told"]
theorem sc_run : FnScope N_run ["form", "stand", "deeds"] (defScope s_run) := ⟨rfl, rfl, rfl, by decide +kernel, rfl, by decide +kernel, by decide +kernel⟩
theorem cal_run {P : Program} {w : World} {K : PySem.W.Frag} {mg : Str → Option Value} {base : Heap} {f : Addr} {fd : FuncData} (B : Bi mg) (c_done : Cal P w K mg base "done" 5 ["form", "stand", "deed"] (spU F_done)) (c_can : Cal P w K mg base "can" 4 ["form", "stand", "thing"] (spU F_can)) (F : Fun K "run" "run" s_run f fd) (gm : mg "run" = some (.ref f)) : Cal P w K mg base "run" 6 ["form", "stand", "deeds"] (spU F_run) := by
  have bn : Binds K fd ["form", "stand", "deeds"] [] := F.binds fun _ _ _ _ _ _ us hl => match us, hl with | [_, _, _], _ => rfl
  refine mk_cal (k := 5) F gm bn sc_run rfl len_run fun cdv A outer s H E hr => ?_
  have nd := (sc_run).nd
  apply Exists.intro
  apply And.intro
  · exact (pss_cons (ps_set (i := 3) nd rfl (Or.inl rfl) (pe_lst pa_nil))
    (pss_cons (ps_for PassesOwn.never rfl (pi_enumT (by rfl) B.enumerate (pa_cons (pv 2) pa_nil)) (pg_tup rfl (pgs_cons (pg_name (i := 4) nd rfl (Or.inl rfl)) (pgs_cons (pg_name (i := 5) nd rfl (Or.inl rfl)) pgs_nil)))
      (pss_cons (ps_if (pt_not (pt_val (pe_cal c_can hr (by rfl) (pa_cons (pv 0) (pa_cons (pv 1) (pa_cons (pv 5) pa_nil)))))) (pss_one ps_never) pss_nil)
    (pss_cons (ps_asg (pe_cal c_done hr (by rfl) (pa_cons (pv 0) (pa_cons (pv 1) (pa_cons (pv 5) pa_nil)))) (pg_tup rfl (pgs_cons (pg_name (i := 1) nd rfl (Or.inl rfl)) (pgs_cons (pg_name (i := 6) nd rfl (Or.inl rfl)) pgs_nil))))
    (pss_one (ps_if (pt_cmpR op_isnotP (pv 6) pe_non (nomark _)) (pss_one (ps_expr (pe_bm PySem.F.plainAttrs_list PySem.F.slot_list_append PySem.F.type_list_append mt_append (pv 3) (pa_cons (pv 6) pa_nil)))) pss_nil)))))
    (pss_one (ps_ret (pe_tup (pa_cons (pv 1) (pa_cons (pv 3) pa_nil)))))))
  · rintro xs n Kx ⟨f, s, es, b, rfl, hf, hs, hb, hr, k⟩
    walk_at "wps"
    refine bl_seq ?_
    walk_at "wps"
    intro p0
    walk_at "wps"
    refine bl_seq (bl_forS (α := Dd × Nat) [4, 5, 6] (fun p => T.tup [.int (p.2 : Nat), eD p.1]) (fun p : Sd × Addr × List T => [some (.t (eF f)), some (.t (eS p.1)), some (.t (.tup (es.map eD))), some (.l p.2.1 p.2.2 true), none, none, none]) (fun i p m' => m' = n ∧ p.1 = walk f s (es.take i) ∧ p.2.2.length ≤ i) (ei_enum ?_))
    walk_at "wp"
    intro g
    refine ⟨es.zipIdx, (s, p0, []), enum_map eD es, rfl, ⟨rfl, rfl, Nat.le_refl _⟩, fun p hp => List.mem_cons_of_mem _ hp, fun i v q m' hv ⟨em, h1, h2⟩ => ?_, fun q m' ⟨em, h1, h2⟩ => ?_⟩
    · subst em
      obtain ⟨d, j⟩ := v
      obtain ⟨hv, rfl⟩ := zipIdx_get hv
      obtain ⟨s', a, l⟩ := q
      dsimp only at h1 h2
      have hi := (List.getElem?_eq_some_iff.mp hv).1
      have hd := runs_take es s j d hr hv
      have hs' : SOk f s' (b + 3 * es.length) := by
        rw [h1]
        exact (walk_ok hf _ _ _ hs).mono (by rw [List.length_take]; omega)
      rw [← h1] at hd
      walk_at "wp"
      refine ⟨f, s', eD d, _, rfl, hf, hs', eD_mild hd.1, fun e2 he2 _ => ?_, fun h => absurd hd.1 (h d rfl)⟩
      cases eD_inj he2
      rw [hd.2]
      walk_at "wp"
      refine ⟨fun z => (by cases z), fun _ => ?_⟩
      walk_at "wp"
      refine ⟨f, s', d, _, rfl, hf, hs', by omega, hd.1, eD_mild hd.1, hd.2, ?_⟩
      walk_at "wp"
      have hw : step f s' d = walk f s (es.take (j + 1)) := by rw [walk_snoc f s es j d hv, h1]
      cases ht : told f s' d with
      | none =>
        refine ⟨fun z => (by cases z), fun _ => bl_next ?_⟩
        exact ⟨rfl, (step f s' d, a, l), rfl, rfl, hw, by dsimp only; omega⟩
      | some x =>
        refine ⟨fun _ => ?_, fun z => (by cases z)⟩
        refine bl_append (j := 3) rfl (by show l.length < 100000; omega) ?_
        walk_at "wp"
        exact ⟨rfl, (step f s' d, a, l ++ [_]), rfl, rfl, hw, by simp; omega⟩
    · subst em
      obtain ⟨s', a, l⟩ := q
      dsimp only at h1
      rw [List.length_zipIdx, List.take_length] at h1
      rw [← h1] at k
      walk_at "wp"
      exact k
end CK
/-! part M4 -/
set_option Elab.async false
set_option linter.all false
set_option maxRecDepth 100000
set_option maxHeartbeats 1000000
/-! The plain model, part 4: events, sendings, dark letters. -/
namespace CK
open PySem PySem.Spec PyProof.Rows L2
def cnt (f : Fm) (es : List Dd) (m : Nat) : Nat := (es.map (mach f)).count m
theorem cnt_nil (f : Fm) (m : Nat) : cnt f [] m = 0 := rfl
theorem cnt_snoc (f : Fm) (es : List Dd) (d : Dd) (m : Nat) : cnt f (es ++ [d]) m = cnt f es m + (if mach f d = m then 1 else 0) := by
  unfold cnt
  rw [List.map_append, List.count_append]
  simp [List.count_cons]
theorem cnt_le (f : Fm) (es : List Dd) (m : Nat) : cnt f es m ≤ es.length := by
  unfold cnt
  have := List.count_le_length (a := m) (l := es.map (mach f))
  rwa [List.length_map] at this
theorem cnt_take_mono (f : Fm) (es : List Dd) (m : Nat) (k : Nat) : cnt f (es.take k) m ≤ cnt f es m := by
  unfold cnt
  rw [List.map_take]
  exact List.Sublist.count_le _ (List.take_sublist _ _)
def evsFrom (f : Fm) : List Dd → List Dd → List (Nat × Nat)
  | _, [] => []
  | pre, d :: ds => (mach f d, cnt f pre (mach f d)) :: evsFrom f (pre ++ [d]) ds
def evs (f : Fm) (es : List Dd) : List (Nat × Nat) := evsFrom f [] es
theorem evsFrom_append (f : Fm) : ∀ (xs pre ys : List Dd), evsFrom f pre (xs ++ ys) = evsFrom f pre xs ++ evsFrom f (pre ++ xs) ys
  | [], pre, ys => by simp [evsFrom]
  | x :: xs, pre, ys => by
    show (_ :: evsFrom f (pre ++ [x]) (xs ++ ys)) = _
    rw [evsFrom_append f xs (pre ++ [x]) ys]
    simp [evsFrom]
theorem evs_snoc (f : Fm) (es : List Dd) (d : Dd) : evs f (es ++ [d]) = evs f es ++ [(mach f d, cnt f es (mach f d))] := by
  unfold evs
  rw [evsFrom_append]
  simp [evsFrom]
theorem evsFrom_len (f : Fm) : ∀ (xs pre : List Dd), (evsFrom f pre xs).length = xs.length
  | [], _ => rfl
  | x :: xs, pre => by show (evsFrom f _ xs).length + 1 = _; rw [evsFrom_len f xs]; rfl
theorem evs_len (f : Fm) (es : List Dd) : (evs f es).length = es.length := evsFrom_len f es []
theorem evs_take (f : Fm) (es : List Dd) (i : Nat) (d : Dd) (h : es[i]? = some d) : evs f (es.take (i + 1)) = evs f (es.take i) ++ [(mach f d, cnt f (es.take i) (mach f d))] := by
  rw [List.take_add_one, h]
  exact evs_snoc f _ d
theorem evsFrom_get (f : Fm) : ∀ (xs pre : List Dd) (k : Nat) (d : Dd), xs[k]? = some d → (evsFrom f pre xs)[k]? = some (mach f d, cnt f (pre ++ xs.take k) (mach f d))
  | [], _, _, _, e => by simp at e
  | x :: xs, pre, 0, d, e => by
    simp at e
    subst e
    simp [evsFrom]
  | x :: xs, pre, k + 1, d, e => by
    have := evsFrom_get f xs (pre ++ [x]) k d (by simpa using e)
    show (evsFrom f (pre ++ [x]) xs)[k]? = _
    rw [this]
    simp
theorem evs_get {f : Fm} {es : List Dd} {k : Nat} {d : Dd} (h : es[k]? = some d) : (evs f es)[k]? = some (mach f d, cnt f (es.take k) (mach f d)) := by
  have := evsFrom_get f es [] k d h
  show (evsFrom f [] es)[k]? = _
  simpa using this
abbrev eEv (p : Nat × Nat) : T := .tup [.int (p.1 : Nat), .int (p.2 : Nat)]
def eP : Option Int → T
  | none => .non
  | some i => .int i
def cnts (f : Fm) (es : List Dd) : List Int := (List.range f.rules.length).map fun m => ((cnt f es m : Nat) : Int)
theorem cnts_len (f : Fm) (es : List Dd) : (cnts f es).length = f.rules.length := by simp [cnts]
theorem cnts_get {f : Fm} {es : List Dd} {m : Nat} (h : m < f.rules.length) : (cnts f es)[m]? = some ((cnt f es m : Nat) : Int) := by
  unfold cnts
  rw [List.getElem?_map, List.getElem?_range h]
  rfl
theorem cnts_snoc {f : Fm} {es : List Dd} {d : Dd} : (cnts f es).set (mach f d) ((cnt f es (mach f d) : Nat) + 1 : Int) = cnts f (es ++ [d]) := by
  apply List.ext_getElem?
  intro i
  by_cases hi : i < f.rules.length
  · rw [cnts_get hi, cnt_snoc]
    by_cases e : mach f d = i
    · subst e
      rw [List.getElem?_set_self (by rw [cnts_len]; exact hi)]
      simp
    · rw [List.getElem?_set_ne e, cnts_get hi]
      simp [e]
  · rw [List.getElem?_eq_none (by rw [List.length_set, cnts_len]; omega), List.getElem?_eq_none (by rw [cnts_len]; omega)]
theorem cnts_nil (f : Fm) : f.rules.map (fun _ => T.int 0) = (cnts f []).map T.int := by
  unfold cnts
  rw [List.map_map]
  apply List.ext_getElem
  · simp
  · intro i h1 h2
    simp [cnt]
/-! ### sendings -/
theorem sendAll_at (ss : List (Nat × Str)) : ∀ {ls : List Ld} {r : Nat} {l : Ld}, ls[r]? = some l → ∃ l', (sendAll ls ss)[r]? = some l' ∧ l.sent ≤ l'.sent ∧ l'.sent ≤ l.sent + ss.length ∧ (∀ x ∈ l'.w, x ∈ l.w ∨ l.sent ≤ x.1) ∧ (l.sent < l'.sent → ∃ s ∈ ss, s.1 = r) := by
  induction ss with
  | nil => intro ls r l h; exact ⟨l, h, Int.le_refl _, by simp, fun x hx => .inl hx, fun z => absurd z (Int.lt_irrefl _)⟩
  | cons s ss ih =>
    intro ls r l h
    have key : ∃ l1, (sendOne ls s)[r]? = some l1 ∧ l.sent ≤ l1.sent ∧ l1.sent ≤ l.sent + 1 ∧ (∀ x ∈ l1.w, x ∈ l.w ∨ l.sent ≤ x.1) ∧ (l.sent < l1.sent → s.1 = r) := by
      unfold sendOne
      cases hl : ls[s.1]? with
      | none => exact ⟨l, h, Int.le_refl _, by omega, fun x hx => .inl hx, fun z => absurd z (Int.lt_irrefl _)⟩
      | some l0 =>
        by_cases e : s.1 = r
        · subst e
          rw [h] at hl
          cases hl
          refine ⟨l.put s.2, ?_, by show l.sent ≤ l.sent + 1; omega, Int.le_refl _, fun x hx => ?_, fun _ => rfl⟩
          · show (ls.set s.1 _)[s.1]? = _
            rw [List.getElem?_set_self (List.getElem?_eq_some_iff.mp h).1]
          · rcases List.mem_append.mp hx with hx | hx
            · exact .inl hx
            · rw [List.mem_singleton.mp hx]
              exact .inr (Int.le_refl _)
        · refine ⟨l, ?_, Int.le_refl _, by omega, fun x hx => .inl hx, fun z => absurd z (Int.lt_irrefl _)⟩
          show (ls.set s.1 _)[r]? = _
          rw [List.getElem?_set_ne e]
          exact h
    obtain ⟨l1, h1, a1, a2, a3, a4⟩ := key
    obtain ⟨l2, h2, b1, b2, b3, b4⟩ := ih h1
    refine ⟨l2, h2, by omega, by simp; omega, fun x hx => ?_, fun z => ?_⟩
    · rcases b3 x hx with q | q
      · exact a3 x q
      · exact .inr (by omega)
    · by_cases q : l.sent < l1.sent
      · exact ⟨s, List.mem_cons_self, a4 q⟩
      · obtain ⟨s', hs', e⟩ := b4 (by omega)
        exact ⟨s', List.mem_cons_of_mem _ hs', e⟩
theorem taken_at {ls : List Ld} {r : Nat} {l : Ld} (d : Dd) (h : ls[r]? = some l) : ∃ l', (takenLd ls d)[r]? = some l' ∧ l'.sent = l.sent ∧ ∀ x ∈ l'.w, x ∈ l.w := by
  cases d with
  | come r2 n =>
    cases hl : ls[r2]? with
    | none =>
      have e : takenLd ls (.come r2 n) = ls := by simp only [takenLd, hl]
      rw [e]; exact ⟨l, h, rfl, fun x hx => hx⟩
    | some l2 =>
      have e : takenLd ls (.come r2 n) = ls.set r2 (l2.out n) := by simp only [takenLd, hl]
      rw [e]
      by_cases q : r2 = r
      · subst q
        rw [h] at hl
        cases hl
        refine ⟨l.out n, ?_, rfl, fun x hx => (List.mem_filter.mp hx).1⟩
        rw [List.getElem?_set_self (List.getElem?_eq_some_iff.mp h).1]
      · refine ⟨l, ?_, rfl, fun x hx => hx⟩
        rw [List.getElem?_set_ne q]; exact h
  | _ => exact ⟨l, h, rfl, fun x hx => hx⟩
theorem step_at {f : Fm} (F : FOk f) {s : Sd} {r : Nat} {l : Ld} (d : Dd) (h : s.ld[r]? = some l) : ∃ l', (step f s d).ld[r]? = some l' ∧ l.sent ≤ l'.sent ∧ l'.sent ≤ l.sent + 3 ∧ (∀ x ∈ l'.w, x ∈ l.w ∨ l.sent ≤ x.1) ∧ (l.sent < l'.sent → ∃ q, f.roads[r]? = some q ∧ q.src = mach f d) := by
  unfold CK.step
  cases ha : answered f s d with
  | none => exact ⟨l, h, Int.le_refl _, by omega, fun x hx => .inl hx, fun z => absurd z (Int.lt_irrefl _)⟩
  | some p =>
    obtain ⟨a, ss, w⟩ := p
    have hss := answered_sends F ha
    obtain ⟨l1, h1, a1, a2⟩ := taken_at d h
    obtain ⟨l2, h2, b1, b2, b3, b4⟩ := sendAll_at ss h1
    refine ⟨l2, h2, by omega, by have := hss.1; omega, fun x hx => ?_, fun z => ?_⟩
    · rcases b3 x hx with q | q
      · exact .inl (a2 x q)
      · exact .inr (by omega)
    · obtain ⟨s', hs', e⟩ := b4 (by omega)
      have := hss.2 s' hs'
      rw [e] at this
      exact this
def sentAt (f : Fm) (s : Sd) (es : List Dd) (k r : Nat) : Int := match (walk f s (es.take k)).ld[r]? with
  | some l => l.sent
  | none => 0
theorem walk_ldlen (f : Fm) : ∀ (es : List Dd) (s : Sd), (walk f s es).ld.length = s.ld.length
  | [], s => rfl
  | d :: ds, s => by
    show (walk f (step f s d) ds).ld.length = _
    rw [walk_ldlen f ds]
    unfold CK.step
    split
    · show (sendAll _ _).length = _
      rw [sendAll_len, takenLd_len]
    · rfl
theorem sentAt_of {f : Fm} {s : Sd} {es : List Dd} {k r : Nat} {l : Ld} (h : (walk f s (es.take k)).ld[r]? = some l) : sentAt f s es k r = l.sent := by
  unfold sentAt; rw [h]
theorem ld_at (f : Fm) (s : Sd) (es : List Dd) (k : Nat) {r : Nat} (h : r < s.ld.length) : ∃ l, (walk f s (es.take k)).ld[r]? = some l ∧ sentAt f s es k r = l.sent := by
  have h' : r < (walk f s (es.take k)).ld.length := by rw [walk_ldlen]; exact h
  exact ⟨_, List.getElem?_eq_getElem h', sentAt_of (List.getElem?_eq_getElem h')⟩
theorem sentAt_step {f : Fm} (F : FOk f) (s : Sd) (es : List Dd) {k r : Nat} {d : Dd} (hd : es[k]? = some d) (h : r < s.ld.length) : sentAt f s es k r ≤ sentAt f s es (k + 1) r ∧ sentAt f s es (k + 1) r ≤ sentAt f s es k r + 3 ∧ (sentAt f s es k r < sentAt f s es (k + 1) r → ∃ q, f.roads[r]? = some q ∧ q.src = mach f d) := by
  obtain ⟨l, hl, e⟩ := ld_at f s es k h
  obtain ⟨l', hl', a, b, c, g⟩ := step_at F d hl
  have e' : sentAt f s es (k + 1) r = l'.sent := sentAt_of (by rw [walk_snoc f s es k d hd]; exact hl')
  rw [e, e']
  exact ⟨a, b, g⟩
theorem sentAt_mono {f : Fm} (F : FOk f) (s : Sd) (es : List Dd) {r : Nat} (h : r < s.ld.length) : ∀ {j k : Nat}, j ≤ k → sentAt f s es j r ≤ sentAt f s es k r := by
  intro j k hjk
  induction k with
  | zero =>
    have : j = 0 := by omega
    subst this
    exact Int.le_refl _
  | succ k ih =>
    by_cases e : j = k + 1
    · subst e; exact Int.le_refl _
    · have h1 := ih (by omega)
      cases hd : es[k]? with
      | none =>
        have hk := List.getElem?_eq_none_iff.mp hd
        have e : sentAt f s es (k + 1) r = sentAt f s es k r := by
          unfold sentAt
          rw [List.take_of_length_le (by omega), List.take_of_length_le (by omega)]
        omega
      | some d =>
        have := (sentAt_step F s es hd h).1
        omega
/-- the letters that wait: they waited from the first, or were sent -/
theorem waits_from {f : Fm} (F : FOk f) (s : Sd) (es : List Dd) {r : Nat} {l0 : Ld} (h0 : s.ld[r]? = some l0) : ∀ (k : Nat) {l : Ld}, (walk f s (es.take k)).ld[r]? = some l → ∀ x ∈ l.w, x ∈ l0.w ∨ l0.sent ≤ x.1 := by
  intro k
  induction k with
  | zero => intro l h x hx; rw [show walk f s (es.take 0) = s from rfl, h0] at h; cases h; exact .inl hx
  | succ k ih =>
    intro l h x hx
    cases hd : es[k]? with
    | none =>
      have hk := List.getElem?_eq_none_iff.mp hd
      rw [List.take_of_length_le (by omega)] at h
      rw [List.take_of_length_le hk] at ih
      exact ih h x hx
    | some d =>
      have hr : r < s.ld.length := (List.getElem?_eq_some_iff.mp h0).1
      obtain ⟨l1, hl1, e1⟩ := ld_at f s es k hr
      obtain ⟨l', hl', a, b, c, g⟩ := step_at F d hl1
      rw [walk_snoc f s es k d hd] at h
      rw [h] at hl'
      cases hl'
      rcases c x hx with q | q
      · exact ih hl1 x q
      · have m := sentAt_mono F s es hr (Nat.zero_le k)
        have e0 : sentAt f s es 0 r = l0.sent := sentAt_of h0
        exact .inr (by omega)
/-- which deed sent the letter n of the road r -/
def snd (f : Fm) (s : Sd) (es : List Dd) (r : Nat) (n : Int) : Option Nat :=
  if n < sentAt f s es 0 r then none else (List.range es.length).find? fun k => decide (n < sentAt f s es (k + 1) r)
theorem range_find {p : Nat → Bool} : ∀ {m k : Nat}, k < m → p k = true → (∀ j, j < k → p j = false) → (List.range m).find? p = some k := by
  intro m k hk hp hn
  rw [List.find?_range_eq_some]
  refine ⟨hp, by simpa using hk, fun j hj => by simp [hn j hj]⟩
theorem snd_at {f : Fm} (F : FOk f) {s : Sd} {es : List Dd} {r : Nat} {n : Int} {k : Nat} (hr : r < s.ld.length) (hk : k < es.length) (h1 : sentAt f s es k r ≤ n) (h2 : n < sentAt f s es (k + 1) r) : snd f s es r n = some k := by
  unfold snd
  have m := sentAt_mono F s es hr (Nat.zero_le k)
  rw [if_neg (by omega)]
  refine range_find hk (by simpa using h2) fun j hj => ?_
  have m2 := sentAt_mono F s es hr (show j + 1 ≤ k by omega)
  simp
  omega
theorem snd_old {f : Fm} {s : Sd} {es : List Dd} {r : Nat} {n : Int} (h : n < sentAt f s es 0 r) : snd f s es r n = none := by
  unfold snd
  rw [if_pos h]
theorem snd_some {f : Fm} (F : FOk f) {s : Sd} {es : List Dd} {r : Nat} {n : Int} {k : Nat} (hr : r < s.ld.length) (h : snd f s es r n = some k) : k < es.length ∧ sentAt f s es k r ≤ n ∧ n < sentAt f s es (k + 1) r := by
  unfold snd at h
  split at h
  · cases h
  · rename_i h0
    rw [List.find?_range_eq_some] at h
    obtain ⟨a, b, c⟩ := h
    have hk : k < es.length := by simpa using b
    refine ⟨hk, ?_, by simpa using a⟩
    cases k with
    | zero => omega
    | succ k =>
      have := c k (by omega)
      simp at this
      exact this
/-- a letter of the road r whose sending is known -/
def Known (f : Fm) (s : Sd) (es : List Dd) (r : Nat) (n : Int) : Prop := ∃ l0, s.ld[r]? = some l0 ∧ n < sentAt f s es es.length r ∧ (n < l0.sent → ∃ x ∈ l0.w, x.1 = n)
end CK
/-! part D6 -/
set_option Elab.async false
set_option linter.all false
set_option maxRecDepth 100000
set_option maxHeartbeats 1000000
/-! Defs of pasts and cuts. -/
namespace CK
open PySem PySem.Spec PyProof.Rows L2
local macro_rules | `(tactic| walk_at "wp0") => `(tactic| first
  | ((with_reducible refine bl_retL (a := ?va) (ds := ?vd) ?vh ?_); (case vh => exact rfl))
  | ((with_reducible refine bl_retD (a := ?va) (ds := ?vd) ?vh ?_); (case vh => exact rfl))
  | (with_reducible refine bl_ret ?_)
  | (with_reducible refine bl_if ?_)
  | (with_reducible refine bl_asg ?_)
  | (with_reducible refine bl_asgP ?_)
  | (with_reducible refine bl_next ?_)
  | (with_reducible refine et_test ?_)
  | (with_reducible refine et_B ?_)
  | (with_reducible refine et_and ?_)
  | (with_reducible refine et_or ?_)
  | (with_reducible refine et_not ?_)
  | (with_reducible refine et_yes ?_)
  | ((with_reducible refine ev_varT (d := ?vd) ?vh ?_); (case vh => exact rfl))
  | ((with_reducible refine ev_varL (a := ?va) (ds := ?vd) (o := ?vo) ?vh ?_); (case vh => exact rfl))
  | ((with_reducible refine ev_varD (a := ?va) (kvs := ?vd) (o := ?vo) ?vh ?_); (case vh => exact rfl))
  | ((with_reducible refine ev_varP ?vh ?_); (case vh => exact rfl))
  | (with_reducible refine ev_int ?_)
  | (with_reducible refine ev_str ?_)
  | (with_reducible refine ev_bl ?_)
  | (with_reducible refine ev_non ?_)
  | (with_reducible refine ev_ty ?_)
  | (with_reducible refine ev_op ro_ix ?_)
  | (with_reducible refine ev_op ro_eq ?_)
  | (with_reducible refine ev_op ro_is ?_)
  | (with_reducible refine ev_op ro_cmp ?_)
  | (with_reducible refine ev_op ro_add ?_)
  | (with_reducible refine ev_op ro_sub ?_)
  | (with_reducible refine ev_op ro_mul ?_)
  | (with_reducible refine ev_op ro_mod ?_)
  | (with_reducible refine ev_op ro_div ?_)
  | (with_reducible refine ev_op ro_pow ?_)
  | (with_reducible refine ev_op ro_in ?_)
  | (with_reducible refine ev_neg ?_)
  | (with_reducible refine ev_cb rc_len ?_)
  | (with_reducible refine ev_cb rc_isi ?_)
  | (with_reducible refine ev_cb rc_all ?_)
  | (with_reducible refine ev_cb rc_list ?_)
  | (with_reducible refine ev_cb rc_tuple ?_)
  | (with_reducible refine ev_cb rc_int ?_)
  | (with_reducible refine ev_cb rc_max ?_)
  | (with_reducible refine ea_cons ?_)
  | (with_reducible refine ea_nil ?_)
  | (with_reducible refine ev_tup ?_)
  | (with_reducible refine ev_lst ?_)
  | (with_reducible refine ev_sl ?_)
  | (with_reducible refine eo_none ?_)
  | (with_reducible refine eo_some ?_)
  | (with_reducible refine ev_dget ?_)
  | (with_reducible refine ev_dnew ?_)
  | (with_reducible refine ev_if ?_)
  | (with_reducible refine ev_and ?_)
  | (with_reducible refine ev_or ?_)
  | (with_reducible refine ev_not ?_)
  | (with_reducible refine ev_chain ro_cmp ro_cmp ?_)
  | (with_reducible refine ev_call ?_)
  | (with_reducible refine ev_lrg2 ?_)
  | (with_reducible refine wAddI ?_)
  | (with_reducible refine wSub ?_)
  | (with_reducible refine wEqI ?_)
  | (with_reducible refine wEqS ?_)
  | (with_reducible refine wNeI ?_)
  | (with_reducible refine wNeS ?_)
  | (with_reducible refine wCmp ?_)
  | (with_reducible refine wLenT ?_)
  | (with_reducible refine wLenL ?_)
  | (with_reducible refine wTupT ?_)
  | (with_reducible refine wTupL ?_)
  | (with_reducible refine wIsN ?_)
  | (with_reducible refine wNotN ?_)
  | (with_reducible refine wIsB ?_)
  | (with_reducible refine wInt ?_)
  | (with_reducible refine wMax ?_)
  | (with_reducible refine wListT ?_; intro _)
  | (with_reducible refine wListL ?_; intro _)
  | (with_reducible refine wSlT ?_)
  | ((with_reducible refine wIxT (d := ?vd) ?vh ?_); (case vh => exact rfl))
  | (refine wIxT atI_c0 ?_)
  | (refine wIxT atI_c1 ?_)
  | (refine wIxT atI_c2 ?_)
  | ((with_reducible refine wIxL (d := ?vd) ?vh ?_); (case vh => exact rfl))
  | ((with_reducible refine wIsi (b := ?vd) ?vh ?_); (case vh => exact rfl))
  | ((with_reducible refine wIsiL (b := ?vd) ?vh ?_); (case vh => exact rfl))
  | (with_reducible refine tg_tup rfl ?_)
  | (with_reducible refine tgs_cons ?_)
  | (with_reducible refine tgs_nil ?_)
  | ((with_reducible refine tg_name ?vh ?_); (case vh => decide))
  | (with_reducible refine ⟨_, rfl, ?_⟩)
  | (with_reducible refine ⟨_, _, rfl, ?_⟩)
  | (with_reducible refine ⟨_, _, rfl, rfl, ?_⟩)
  | (with_reducible refine ⟨_, _, _, rfl, ?_⟩)
  | (refine And.intro (show List.length _ ≤ lim from Nat.le_of_ble_eq_true rfl) ?_)
  | (with_reducible refine seqK_nx ?_)
  | (with_reducible refine seqK_rt ?_)
  | (with_reducible refine seqK_ex ?_)
  | fail "wp0: no step")
local macro_rules | `(tactic| walk_at "wp1") => `(tactic| first | (with_reducible refine bl_seq ?_) | walk_at "wp0")
local macro_rules | `(tactic| walk_at "wps") => `(tactic| repeat (walk_at "wp0"))
local macro_rules | `(tactic| walk_at "wp") => `(tactic| repeat (walk_at "wp1"))
abbrev F_is_whole_cuts : PF := fun xs n K => ∃ d, xs = [.t d] ∧ K (.t (.bl (isWhole d))) n
theorem len_is_whole_cuts : ∀ xs n K, F_is_whole_cuts xs n K → xs.length = 1 := fun _ _ _ ⟨_, e, _⟩ => by rw [e]; rfl
abbrev N_is_whole_cuts : List Str := ["thing"]
theorem sc_is_whole_cuts : FnScope N_is_whole_cuts ["thing"] (defScope s_is_whole_cuts) := ⟨rfl, rfl, rfl, by decide +kernel, rfl, by decide +kernel, by decide +kernel⟩
theorem cal_is_whole_cuts {P : Program} {w : World} {K : PySem.W.Frag} {mg : Str → Option Value} {base : Heap} {f : Addr} {fd : FuncData} (B : Bi mg) (F : Fun K "is_whole" "is_whole" s_is_whole_cuts f fd) (gm : mg "is_whole_cuts" = some (.ref f)) : Cal P w K mg base "is_whole_cuts" 1 ["thing"] (spU F_is_whole_cuts) := by
  have bn : Binds K fd ["thing"] [] := F.binds fun _ _ _ _ _ _ us hl => match us, hl with | [_], _ => rfl
  refine mk_cal (k := 0) F gm bn sc_is_whole_cuts rfl len_is_whole_cuts fun cdv A outer s H E hr => ?_
  have nd := (sc_is_whole_cuts).nd
  apply Exists.intro
  apply And.intro
  · exact (pss_one (ps_ret (pe_and (pe_callB (call_isiK (K := K)) (by rfl) B.isinstance bt_isinstance (pa_cons (pv 0) (pa_cons (pe_bltn (v := .ty "int") (by rfl) B.int bt_int rfl) pa_nil))) (pe_one (pe_not (pe_callB (call_isiK (K := K)) (by rfl) B.isinstance bt_isinstance (pa_cons (pv 0) (pa_cons (pe_bltn (v := .ty "bool") (by rfl) B.bool bt_bool rfl) pa_nil))))))))
  · rintro xs n Kx ⟨d, rfl, k⟩
    walk_at "wp"
    cases d
    all_goals (walk_at "wp"; refine ⟨fun z => ?_, fun z => ?_⟩ <;> first | cases z | skip)
    all_goals (walk_at "wp")
    all_goals exact k
abbrev F_events_of : PF := fun xs n K => ∃ (f : Fm) (es : List Dd), xs = [.t (eF f), .t (.tup (es.map eD))] ∧ FOk f ∧ (∀ e ∈ es, DOk f e) ∧ es.length ≤ 5000 ∧ ∀ p, K (.l p ((evs f es).map eEv) true) n
theorem len_events_of : ∀ xs n K, F_events_of xs n K → xs.length = 2 := fun _ _ _ ⟨_, _, e, _⟩ => by rw [e]; rfl
abbrev N_events_of : List Str := ["form", "deeds", "many", "found", "deed", "m", "rule"]
theorem sc_events_of : FnScope N_events_of ["form", "deeds"] (defScope s_events_of) := ⟨rfl, rfl, rfl, by decide +kernel, rfl, by decide +kernel, by decide +kernel⟩
theorem cal_events_of {P : Program} {w : World} {K : PySem.W.Frag} {mg : Str → Option Value} {base : Heap} {f : Addr} {fd : FuncData} (B : Bi mg) (c_machine_of : Cal P w K mg base "machine_of" 1 ["form", "deed"] (spU F_machine_of)) (F : Fun K "events_of" "events_of" s_events_of f fd) (gm : mg "events_of" = some (.ref f)) : Cal P w K mg base "events_of" 2 ["form", "deeds"] (spU F_events_of) := by
  have bn : Binds K fd ["form", "deeds"] [] := F.binds fun _ _ _ _ _ _ us hl => match us, hl with | [_, _], _ => rfl
  refine mk_cal (k := 1) F gm bn sc_events_of rfl len_events_of fun cdv A outer s H E hr => ?_
  have nd := (sc_events_of).nd
  apply Exists.intro
  apply And.intro
  · exact (pss_cons (ps_setLc (i := 2) (own := [("rule", 6)]) (g := (gName 6)) (tt := tYes) rfl nd rfl rfl (sw_true rfl rfl rfl (by decide +kernel)) (pi_seqU (pe_ix (ix_K (K := K)) (pv 0) pe_int (fun _ _ => rfl))) (blkOk_by (own := [("rule", 6)]) (N := N_events_of) (sc := (defScope s_events_of)) (by decide +kernel)) (fun _ _ _ _ _ => (pg_name (i := 6) nd rfl (Or.inl rfl))) (fun _ _ _ _ _ => pts_nil) (fun _ _ _ _ _ => pe_int))
    (pss_cons (ps_set (i := 3) nd rfl (Or.inl rfl) (pe_lst pa_nil))
    (pss_cons (ps_for PassesOwn.never rfl (pi_seqU (pv 1)) (pg_name (i := 4) nd rfl (Or.inl rfl))
      (pss_cons (ps_set (i := 5) nd rfl (Or.inl rfl) (pe_cal c_machine_of hr (by rfl) (pa_cons (pv 0) (pa_cons (pv 4) pa_nil))))
    (pss_cons (ps_expr (pe_bm PySem.F.plainAttrs_list PySem.F.slot_list_append PySem.F.type_list_append mt_append (pv 3) (pa_cons (pe_tup (pa_cons (pv 5) (pa_cons (pe_ix (ix_K (K := K)) (pv 2) (pv 5) (fun _ _ => rfl)) pa_nil))) pa_nil)))
    (pss_one (ps_asg (pe_op (op_addK (K := K)) (pe_ix (ix_K (K := K)) (pv 2) (pv 5) (fun _ _ => rfl)) pe_int) (pg_sub (pv 2) (pv 5) set_list))))))
    (pss_one (ps_ret (pv 3))))))
  · rintro xs n Kx ⟨f, es, rfl, hf, hok, hl, k⟩
    refine bl_seq (bl_asg (ev_lcM eRl (fun _ => .int 0) (ei_tup ?_)))
    walk_at "wp"
    intro g
    refine ⟨f.rules, rfl, fun x hx => ?_, fun a => ?_⟩
    · walk_at "wp"
      exact ⟨rfl, rfl⟩
    rw [cnts_nil]
    walk_at "wps"
    refine bl_seq ?_
    walk_at "wps"
    intro b
    walk_at "wps"
    refine bl_seq (bl_forS (α := Dd) [4, 5, 6] eD (fun p : List Dd => [some (.t (eF f)), some (.t (.tup (es.map eD))), some (.l a ((cnts f p).map T.int) true), some (.l b ((evs f p).map eEv) true), none, none, none]) (fun i p m' => m' = n ∧ p = es.take i) (ei_tup ?_))
    walk_at "wp"
    intro g
    refine ⟨es, [], rfl, rfl, ⟨rfl, rfl⟩, fun p hp => List.mem_cons_of_mem _ hp, fun i d p m' hv ⟨em, h1⟩ => ?_, fun p m' ⟨em, h1⟩ => ?_⟩
    · subst em
      have hi := (List.getElem?_eq_some_iff.mp hv).1
      have hd := hok d (List.mem_of_getElem? hv)
      have hm := mach_lt hf hd
      have hp : p.length ≤ 5000 := by rw [h1, List.length_take]; omega
      walk_at "wps"
      refine bl_seq ?_
      walk_at "wps"
      refine ⟨hd, ?_⟩
      walk_at "wps"
      refine bl_seq (bl_append (j := 3) rfl (by rw [List.length_map, evs_len]; show _ < 100000; omega) ?_)
      walk_at "wp"
      refine wIxL (atI_map (cnts_get hm)) ?_
      walk_at "wp"
      refine bl_setL (j := 2) rfl ?_
      walk_at "wp"
      refine wIxL (atI_map (cnts_get hm)) ?_
      walk_at "wp"
      refine ⟨_, mach f d, rfl, by rw [List.length_map, cnts_len]; exact ixN_nat hm, ?_⟩
      have e1 : ((cnts f p).map T.int).set (mach f d) (T.int ((cnt f p (mach f d) : Nat) + 1)) = (cnts f (p ++ [d])).map T.int := by
        rw [← cnts_snoc, List.map_set]
      have e2 : (evs f p).map eEv ++ [T.tup [.int (mach f d : Nat), .int (cnt f p (mach f d) : Nat)]] = (evs f (p ++ [d])).map eEv := by
        rw [evs_snoc, List.map_append]; rfl
      rw [e1, e2]
      exact ⟨rfl, p ++ [d], rfl, rfl, by rw [h1, List.take_add_one, hv]; rfl⟩
    · subst em
      rw [List.take_length] at h1
      subst h1
      walk_at "wp"
      exact k b
abbrev F_ends_of_run : PF := fun xs n K => ∃ (f : Fm) (es : List Dd), xs = [.t (eF f), .t (.tup (es.map eD))] ∧ FOk f ∧ (∀ e ∈ es, DOk f e) ∧ es.length ≤ 5000 ∧ K (.t (.tup ((cnts f es).map T.int))) n
theorem len_ends_of_run : ∀ xs n K, F_ends_of_run xs n K → xs.length = 2 := fun _ _ _ ⟨_, _, e, _⟩ => by rw [e]; rfl
theorem rep_zero (f : Fm) : (List.replicate ((f.rules.map eRl).length : Int).toNat [T.int 0]).flatten = (cnts f []).map T.int := by
  rw [← cnts_nil, List.length_map, Int.toNat_natCast]
  induction f.rules with
  | nil => rfl
  | cons a l ih => simp only [List.length_cons, List.replicate_succ, List.flatten_cons, ih, List.map_cons]; rfl
abbrev N_ends_of_run : List Str := ["form", "deeds", "many", "machine", "number"]
theorem sc_ends_of_run : FnScope N_ends_of_run ["form", "deeds"] (defScope s_ends_of_run) := ⟨rfl, rfl, rfl, by decide +kernel, rfl, by decide +kernel, by decide +kernel⟩
theorem cal_ends_of_run {P : Program} {w : World} {K : PySem.W.Frag} {mg : Str → Option Value} {base : Heap} {f : Addr} {fd : FuncData} (B : Bi mg) (c_events_of : Cal P w K mg base "events_of" 2 ["form", "deeds"] (spU F_events_of)) (F : Fun K "ends_of_run" "ends_of_run" s_ends_of_run f fd) (gm : mg "ends_of_run" = some (.ref f)) : Cal P w K mg base "ends_of_run" 3 ["form", "deeds"] (spU F_ends_of_run) := by
  have bn : Binds K fd ["form", "deeds"] [] := F.binds fun _ _ _ _ _ _ us hl => match us, hl with | [_, _], _ => rfl
  refine mk_cal (k := 2) F gm bn sc_ends_of_run rfl len_ends_of_run fun cdv A outer s H E hr => ?_
  have nd := (sc_ends_of_run).nd
  apply Exists.intro
  apply And.intro
  · exact (pss_cons (ps_set (i := 2) nd rfl (Or.inl rfl) (pe_op (op_mulK (K := K)) (pe_lst (pa_cons pe_int pa_nil)) (pe_callB (call_lenK (K := K)) (by rfl) B.len bt_len (pa_cons (pe_ix (ix_K (K := K)) (pv 0) pe_int (fun _ _ => rfl)) pa_nil))))
    (pss_cons (ps_for PassesOwn.never rfl (pi_seqU (pe_cal c_events_of hr (by rfl) (pa_cons (pv 0) (pa_cons (pv 1) pa_nil)))) (pg_tup rfl (pgs_cons (pg_name (i := 3) nd rfl (Or.inl rfl)) (pgs_cons (pg_name (i := 4) nd rfl (Or.inl rfl)) pgs_nil)))
      (pss_one (ps_asg (pe_op (op_addK (K := K)) (pv 4) pe_int) (pg_sub (pv 2) (pv 3) set_list))))
    (pss_one (ps_ret (pe_callTy (call_tupleK (K := K)) (by rfl) B.tuple bt_tuple (pa_cons (pv 2) pa_nil))))))
  · rintro xs n Kx ⟨f, es, rfl, hf, hok, hl, k⟩
    have hrl := hf.rl
    walk_at "wps"
    refine bl_seq ?_
    walk_at "wps"
    intro a0
    walk_at "wps"
    refine wMulL (by omega) (by rw [List.length_map]; omega) (by rw [List.length_map]; simp; show _ ≤ 100000; omega) fun a => ?_
    rw [rep_zero]
    walk_at "wps"
    refine bl_seq (bl_forS (α := Nat × Nat) [3, 4] eEv (fun p : List Dd => [some (.t (eF f)), some (.t (.tup (es.map eD))), some (.l a ((cnts f p).map T.int) true), none, none]) (fun i p m' => m' = n ∧ p = es.take i) (ei_new ?_))
    walk_at "wp"
    refine ⟨hf, hok, hl, fun b => ?_⟩
    walk_at "wp"
    intro g
    refine ⟨evs f es, [], rfl, rfl, ⟨rfl, rfl⟩, fun p hp => List.mem_cons_of_mem _ hp, fun i v p m' hv ⟨em, h1⟩ => ?_, fun p m' ⟨em, h1⟩ => ?_⟩
    · subst em
      have hi : i < es.length := by have := (List.getElem?_eq_some_iff.mp hv).1; rwa [evs_len] at this
      have hd := List.getElem?_eq_getElem hi
      generalize es[i]'hi = d at hd
      rw [evs_get hd] at hv
      cases hv
      have hm := mach_lt hf (hok d (List.mem_of_getElem? hd))
      walk_at "wp"
      refine bl_setL (j := 2) rfl ?_
      walk_at "wp"
      refine ⟨_, mach f d, rfl, by rw [List.length_map, cnts_len]; exact ixN_nat hm, ?_⟩
      rw [← h1]
      have e1 : ((cnts f p).map T.int).set (mach f d) (T.int ((cnt f p (mach f d) : Nat) + 1)) = (cnts f (p ++ [d])).map T.int := by
        rw [← cnts_snoc, List.map_set]
      rw [e1]
      exact ⟨rfl, p ++ [d], rfl, rfl, by rw [h1, List.take_add_one, hd]; rfl⟩
    · subst em
      rw [evs_len, List.take_length] at h1
      subst h1
      walk_at "wp"
      exact k
def areSeen (f : Fm) : T → Bool
  | .tup ds => decide (ds.length = f.rules.length) && ds.all fun d => d.isNon || isWhole d
  | _ => false
abbrev F_are_seen : PF := fun xs n K => ∃ (f : Fm) (d : T), xs = [.t (eF f), .t d] ∧ K (.t (.bl (areSeen f d))) n
theorem len_are_seen : ∀ xs n K, F_are_seen xs n K → xs.length = 2 := fun _ _ _ ⟨_, _, e, _⟩ => by rw [e]; rfl
abbrev N_are_seen : List Str := ["form", "thing", "one"]
theorem sc_are_seen : FnScope N_are_seen ["form", "thing"] (defScope s_are_seen) := ⟨rfl, rfl, rfl, by decide +kernel, rfl, by decide +kernel, by decide +kernel⟩
theorem cal_are_seen {P : Program} {w : World} {K : PySem.W.Frag} {mg : Str → Option Value} {base : Heap} {f : Addr} {fd : FuncData} (B : Bi mg) (c_is_whole_cuts : Cal P w K mg base "is_whole_cuts" 1 ["thing"] (spU F_is_whole_cuts)) (F : Fun K "are_seen" "are_seen" s_are_seen f fd) (gm : mg "are_seen" = some (.ref f)) : Cal P w K mg base "are_seen" 2 ["form", "thing"] (spU F_are_seen) := by
  have bn : Binds K fd ["form", "thing"] [] := F.binds fun _ _ _ _ _ _ us hl => match us, hl with | [_, _], _ => rfl
  refine mk_cal (k := 1) F gm bn sc_are_seen rfl len_are_seen fun cdv A outer s H E hr => ?_
  have nd := (sc_are_seen).nd
  apply Exists.intro
  apply And.intro
  · exact (pss_cons (ps_if (PW.pt (pw_or (pt_not (pt_val (pe_callB (call_isiK (K := K)) (by rfl) B.isinstance bt_isinstance (pa_cons (pv 1) (pa_cons (pe_bltn (v := .ty "tuple") (by rfl) B.tuple bt_tuple rfl) pa_nil))))) (pw_or1 (pt_cmpR (op_neK (K := K) hr.units) (pe_callB (call_lenK (K := K)) (by rfl) B.len bt_len (pa_cons (pv 1) pa_nil)) (pe_callB (call_lenK (K := K)) (by rfl) B.len bt_len (pa_cons (pe_ix (ix_K (K := K)) (pv 0) pe_int (fun _ _ => rfl)) pa_nil)) (nomark _))))) (pss_one (ps_ret pe_bl)) pss_nil)
    (pss_one (ps_ret (pe_callB (call_allK (K := K) rfl) (by rfl) B.all bt_all (pa_cons (pe_lc (own := [("one", 2)]) (g := (gName 2)) (tt := tYes) rfl nd (pi_seqU (pv 1)) (blkOk_by (own := [("one", 2)]) (N := N_are_seen) (sc := (defScope s_are_seen)) (by decide +kernel)) (fun _ _ _ _ _ => (pg_name (i := 2) nd rfl (Or.inl rfl))) (fun _ _ _ _ _ => pts_nil) (fun _ _ _ _ _ => (pe_or (pe_cmpR op_isP (pv 2) pe_non (nomark _)) (pe_one (pe_cal c_is_whole_cuts hr (by rfl) (pa_cons (pv 2) pa_nil)))))) pa_nil)))))
  · rintro xs n Kx ⟨f, d, rfl, k⟩
    walk_at "wp"
    cases d with
    | tup ds =>
      walk_at "wp"
      refine ⟨fun z => (by cases z), fun _ => ?_⟩
      walk_at "wp"
      refine ⟨fun z => ?_, fun z => ?_⟩
      · walk_at "wp"
        have e : areSeen f (.tup ds) = false := by
          simp at z
          simp [areSeen]
          intro h; omega
        rw [e] at k; exact k
      have e : areSeen f (.tup ds) = (ds.map fun d => d.isNon || isWhole d).all id := by
        simp at z
        have z' : ds.length = f.rules.length := by omega
        rw [List.all_map]
        simp [areSeen, z']
      rw [e] at k
      walk_at "wp"
      refine ev_lcM (fun d : T => d) (fun d => .bl (d.isNon || isWhole d)) (ei_tup ?_)
      walk_at "wp"
      intro g
      refine ⟨ds, (by simp), fun d hd => ?_, fun a => ?_⟩
      · walk_at "wp"
        refine ⟨fun z2 => ?_, fun z2 => ?_⟩
        · rw [z2]; exact ⟨rfl, rfl⟩
        · rw [z2]
          walk_at "wp"
          exact ⟨rfl, rfl⟩
      · walk_at "wp"
        refine wAll (by rw [List.map_map]; rfl) ?_
        exact k
    | _ =>
      walk_at "wp"
      refine ⟨fun _ => ?_, fun z => (by cases z)⟩
      refine ⟨fun _ => ?_, fun z => (by cases z)⟩
      walk_at "wp"
      exact k
end CK
/-! part M5 -/
set_option Elab.async false
set_option linter.all false
set_option maxRecDepth 100000
set_option maxHeartbeats 1000000
/-! The plain model, part 5: tables of letters. -/
namespace CK
open PySem PySem.Spec PyProof.Rows L2
theorem rgT_nat (k : Nat) : rgT 0 (k : Int) = (List.range k).map fun i => T.int (i : Nat) := by
  unfold rgT
  rw [show ((k : Int) - 0).toNat = k by omega]
  apply List.map_congr_left
  intro i _
  rw [Int.zero_add]
theorem ei_rngN {ta : TE} {ρ : En} {n : Nat} {K : List T → En → Nat → Prop} (h : Ev ta ρ n fun x m => ∃ k : Nat, x = .t (.int (k : Nat)) ∧ k ≤ 10000 ∧ K ((List.range k).map fun i => T.int (i : Nat)) ρ m) : EvI (iRng1 (tCons ta tNil)) ρ n K :=
  ei_rng1 (h.mono fun x m ⟨k, e, hk, z⟩ => ⟨k, e, by show (k : Int) ≤ ((100000 : Nat) : Int); omega, by omega, by rw [rgT_nat]; exact z⟩)
theorem valT_put (kvs : List (List Key × T)) (k k' : List Key) (v : T) : valT (putT kvs k v) k' = if k' = k then some v else valT kvs k' := by
  unfold valT putT
  by_cases ha : (kvs.any fun kv => decide (kv.1 = k)) = true
  · rw [if_pos ha]
    induction kvs with
    | nil => simp at ha
    | cons p kvs ih =>
      rw [List.map_cons, List.find?_cons, List.find?_cons]
      by_cases hp : p.1 = k
      · rw [if_pos hp]
        by_cases hk : k' = k
        · subst hk
          simp [hp]
        · rw [if_neg hk]
          have e1 : decide ((p.1, v).1 = k') = false := by simp [hp]; exact fun z => hk z.symm
          have e2 : decide (p.1 = k') = false := by simp [hp]; exact fun z => hk z.symm
          rw [e1]
          simp only []
          clear ih ha
          induction kvs with
          | nil => rfl
          | cons q kvs ih2 =>
            rw [List.map_cons, List.find?_cons, List.find?_cons]
            by_cases hq : q.1 = k
            · rw [if_pos hq]
              have e3 : decide ((q.1, v).1 = k') = false := by simp [hq]; exact fun z => hk z.symm
              have e4 : decide (q.1 = k') = false := by simp [hq]; exact fun z => hk z.symm
              rw [e3]
              exact ih2
            · rw [if_neg hq]
              cases decide (q.1 = k') with
              | true => rfl
              | false => exact ih2
      · rw [if_neg hp]
        have ha' : (kvs.any fun kv => decide (kv.1 = k)) = true := by
          rw [List.any_cons] at ha
          simpa [hp] using ha
        by_cases hk : p.1 = k'
        · have hk2 : ¬ k' = k := fun z => hp (hk.trans z)
          rw [if_neg hk2]
          simp [hk]
        · simp only [hk, decide_false]
          exact ih ha'
  · rw [if_neg ha, List.find?_append]
    have hn : kvs.find? (fun kv => decide (kv.1 = k)) = none := by
      rw [List.find?_eq_none]
      intro x hx z
      exact ha (List.any_eq_true.mpr ⟨x, hx, z⟩)
    by_cases hk : k' = k
    · subst hk
      rw [hn]
      simp
    · rw [if_neg hk]
      cases kvs.find? (fun kv => decide (kv.1 = k')) with
      | some x => rfl
      | none =>
        have hk2 : ¬ k = k' := fun z => hk z.symm
        simp [hk2]
def lk (r : Nat) (n : Int) : List Key := [.inl (r : Int), .inl n]
theorem lk_inj {r r' : Nat} {n n' : Int} : lk r n = lk r' n' ↔ r = r' ∧ n = n' := by
  unfold lk
  constructor
  · intro h
    simp at h
    exact ⟨by omega, h.2⟩
  · rintro ⟨rfl, rfl⟩; rfl
/-- the table holds the letters P, with what sent them -/
def Fd (P : Nat → Int → T → Prop) (kvs : List (List Key × T)) : Prop := ∀ r n v, P r n v → ∃ c, valT kvs (lk r n) = some (.tup [v, c])
theorem Fd.put {P P' : Nat → Int → T → Prop} {kvs : List (List Key × T)} {r : Nat} {n : Int} {v c : T} (h : Fd P kvs) (hp : ∀ r' n' v', P' r' n' v' → (r' = r ∧ n' = n ∧ v' = v) ∨ (¬ (r' = r ∧ n' = n) ∧ P r' n' v')) : Fd P' (putT kvs (lk r n) (.tup [v, c])) := fun r' n' v' q => by
  rw [valT_put]
  rcases hp r' n' v' q with ⟨rfl, rfl, rfl⟩ | ⟨h1, h2⟩
  · exact ⟨c, by rw [if_pos rfl]⟩
  · rw [if_neg fun z => h1 (lk_inj.mp z)]
    exact h r' n' v' h2
def sT : Option Nat → T
  | none => .non
  | some k => .int (k : Nat)
/-- the letters known behind k deeds -/
def LK (f : Fm) (s : Sd) (es : List Dd) (k : Nat) (r : Nat) (n : Int) (v : T) : Prop := ∃ l0, s.ld[r]? = some l0 ∧ n < sentAt f s es k r ∧ (n < l0.sent → ∃ x ∈ l0.w, x.1 = n) ∧ v = sT (snd f s es r n)
/-- the letter of a deed that can be done is known -/
theorem come_known {f : Fm} (F : FOk f) {s : Sd} {b : Nat} (S : SOk f s b) {es : List Dd} {k : Nat} {r : Nat} {n : Int} (hd : DOk f (.come r n)) (hc : can f (walk f s (es.take k)) (.come r n) = true) : ∃ v, LK f s es k r n v := by
  have hr : r < s.ld.length := by rw [S.ld]; exact hd
  have h0 := List.getElem?_eq_getElem hr
  obtain ⟨l, hl, e⟩ := ld_at f s es k hr
  have hd' : r < f.roads.length := hd
  have hq := List.getElem?_eq_getElem hd'
  generalize f.roads[r]'hd' = q at hq
  have hw := (walk_ok F (es.take k) s b S).w r l hl
  unfold can answered cause at hc
  simp only [hq, hl] at hc
  cases hf : (l.head q.kind).find? (fun x => decide (x.1 = n)) with
  | none => rw [hf] at hc; simp at hc
  | some x =>
    have hx : x ∈ l.w := by
      have := List.mem_of_find?_eq_some hf
      unfold Ld.head at this
      split at this
      · exact List.mem_of_mem_take this
      · exact this
    have hn : x.1 = n := by simpa using List.find?_some hf
    refine ⟨_, _, h0, ?_, fun z => ?_, rfl⟩
    · rw [e, ← hn]
      exact hw.2.1 x hx
    · rcases waits_from F s es h0 k hl x hx with q | q
      · exact ⟨x, q, hn⟩
      · exact absurd z (by omega)
end CK
/-! part D7 -/
set_option Elab.async false
set_option linter.all false
set_option maxRecDepth 100000
set_option maxHeartbeats 2000000
/-! Defs of pasts and colours. -/
namespace CK
open PySem PySem.Spec PyProof.Rows L2
local macro_rules | `(tactic| walk_at "wp0") => `(tactic| first
  | ((with_reducible refine bl_retL (a := ?va) (ds := ?vd) ?vh ?_); (case vh => exact rfl))
  | ((with_reducible refine bl_retD (a := ?va) (ds := ?vd) ?vh ?_); (case vh => exact rfl))
  | (with_reducible refine bl_ret ?_)
  | (with_reducible refine bl_if ?_)
  | (with_reducible refine bl_asg ?_)
  | (with_reducible refine bl_asgP ?_)
  | (with_reducible refine bl_next ?_)
  | (with_reducible refine et_test ?_)
  | (with_reducible refine et_B ?_)
  | (with_reducible refine et_and ?_)
  | (with_reducible refine et_or ?_)
  | (with_reducible refine et_not ?_)
  | (with_reducible refine et_yes ?_)
  | ((with_reducible refine ev_varT (d := ?vd) ?vh ?_); (case vh => exact rfl))
  | ((with_reducible refine ev_varL (a := ?va) (ds := ?vd) (o := ?vo) ?vh ?_); (case vh => exact rfl))
  | ((with_reducible refine ev_varD (a := ?va) (kvs := ?vd) (o := ?vo) ?vh ?_); (case vh => exact rfl))
  | ((with_reducible refine ev_varP ?vh ?_); (case vh => exact rfl))
  | (with_reducible refine ev_int ?_)
  | (with_reducible refine ev_str ?_)
  | (with_reducible refine ev_bl ?_)
  | (with_reducible refine ev_non ?_)
  | (with_reducible refine ev_ty ?_)
  | (with_reducible refine ev_op ro_ix ?_)
  | (with_reducible refine ev_op ro_eq ?_)
  | (with_reducible refine ev_op ro_is ?_)
  | (with_reducible refine ev_op ro_cmp ?_)
  | (with_reducible refine ev_op ro_add ?_)
  | (with_reducible refine ev_op ro_sub ?_)
  | (with_reducible refine ev_op ro_mul ?_)
  | (with_reducible refine ev_op ro_mod ?_)
  | (with_reducible refine ev_op ro_div ?_)
  | (with_reducible refine ev_op ro_pow ?_)
  | (with_reducible refine ev_op ro_in ?_)
  | (with_reducible refine ev_neg ?_)
  | (with_reducible refine ev_cb rc_len ?_)
  | (with_reducible refine ev_cb rc_isi ?_)
  | (with_reducible refine ev_cb rc_all ?_)
  | (with_reducible refine ev_cb rc_list ?_)
  | (with_reducible refine ev_cb rc_tuple ?_)
  | (with_reducible refine ev_cb rc_int ?_)
  | (with_reducible refine ev_cb rc_max ?_)
  | (with_reducible refine ea_cons ?_)
  | (with_reducible refine ea_nil ?_)
  | (with_reducible refine ev_tup ?_)
  | (with_reducible refine ev_lst ?_)
  | (with_reducible refine ev_sl ?_)
  | (with_reducible refine eo_none ?_)
  | (with_reducible refine eo_some ?_)
  | (with_reducible refine ev_dget ?_)
  | (with_reducible refine ev_dnew ?_)
  | (with_reducible refine ev_if ?_)
  | (with_reducible refine ev_and ?_)
  | (with_reducible refine ev_or ?_)
  | (with_reducible refine ev_not ?_)
  | (with_reducible refine ev_chain ro_cmp ro_cmp ?_)
  | (with_reducible refine ev_call ?_)
  | (with_reducible refine ev_lrg2 ?_)
  | (with_reducible refine wAddI ?_)
  | (with_reducible refine wSub ?_)
  | (with_reducible refine wEqI ?_)
  | (with_reducible refine wEqS ?_)
  | (with_reducible refine wNeI ?_)
  | (with_reducible refine wNeS ?_)
  | (with_reducible refine wCmp ?_)
  | (with_reducible refine wLenT ?_)
  | (with_reducible refine wLenL ?_)
  | (with_reducible refine wTupT ?_)
  | (with_reducible refine wTupL ?_)
  | (with_reducible refine wIsN ?_)
  | (with_reducible refine wNotN ?_)
  | (with_reducible refine wIsB ?_)
  | (with_reducible refine wInt ?_)
  | (with_reducible refine wMax ?_)
  | (with_reducible refine wListT ?_; intro _)
  | (with_reducible refine wListL ?_; intro _)
  | (with_reducible refine wSlT ?_)
  | ((with_reducible refine wIxT (d := ?vd) ?vh ?_); (case vh => exact rfl))
  | (refine wIxT atI_c0 ?_)
  | (refine wIxT atI_c1 ?_)
  | (refine wIxT atI_c2 ?_)
  | ((with_reducible refine wIxL (d := ?vd) ?vh ?_); (case vh => exact rfl))
  | ((with_reducible refine wIsi (b := ?vd) ?vh ?_); (case vh => exact rfl))
  | ((with_reducible refine wIsiL (b := ?vd) ?vh ?_); (case vh => exact rfl))
  | (with_reducible refine tg_tup rfl ?_)
  | (with_reducible refine tgs_cons ?_)
  | (with_reducible refine tgs_nil ?_)
  | ((with_reducible refine tg_name ?vh ?_); (case vh => decide))
  | (with_reducible refine ⟨_, rfl, ?_⟩)
  | (with_reducible refine ⟨_, _, rfl, ?_⟩)
  | (with_reducible refine ⟨_, _, rfl, rfl, ?_⟩)
  | (with_reducible refine ⟨_, _, _, rfl, ?_⟩)
  | (refine And.intro (show List.length _ ≤ lim from Nat.le_of_ble_eq_true rfl) ?_)
  | (with_reducible refine seqK_nx ?_)
  | (with_reducible refine seqK_rt ?_)
  | (with_reducible refine seqK_ex ?_)
  | fail "wp0: no step")
local macro_rules | `(tactic| walk_at "wp1") => `(tactic| first | (with_reducible refine bl_seq ?_) | walk_at "wp0")
local macro_rules | `(tactic| walk_at "wps") => `(tactic| repeat (walk_at "wp0"))
local macro_rules | `(tactic| walk_at "wp") => `(tactic| repeat (walk_at "wp1"))
abbrev F_letters_of : PF := fun xs n K => ∃ (f : Fm) (s : Sd) (es : List Dd) (b : Nat), xs = [.t (eF f), .t (eS s), .t (.tup (es.map eD))] ∧ FOk f ∧ SOk f s b ∧ b ≤ 1000 ∧ es.length ≤ 1000 ∧ Runs f s es ∧ ∀ p kvs, Fd (LK f s es es.length) kvs → K (.dic p kvs true) n
theorem len_letters_of : ∀ xs n K, F_letters_of xs n K → xs.length = 3 := fun _ _ _ ⟨_, _, _, _, e, _⟩ => by rw [e]; rfl
theorem keys_lk (r : Nat) (n : Int) : keys [.int (r : Nat), .int n] = some (lk r n) := rfl
abbrev N_letters_of : List Str := ["form", "stand", "deeds", "found", "road", "number", "sign", "k", "deed", "letter", "behind"]
theorem sc_letters_of : FnScope N_letters_of ["form", "stand", "deeds"] (defScope s_letters_of) := ⟨rfl, rfl, rfl, by decide +kernel, rfl, by decide +kernel, by decide +kernel⟩
theorem cal_letters_of {P : Program} {w : World} {K : PySem.W.Frag} {mg : Str → Option Value} {base : Heap} {f : Addr} {fd : FuncData} (B : Bi mg) (c_run : Cal P w K mg base "run" 6 ["form", "stand", "deeds"] (spU F_run)) (c_waits : Cal P w K mg base "waits" 1 ["stand", "road"] (spU F_waits)) (c_done : Cal P w K mg base "done" 5 ["form", "stand", "deed"] (spU F_done)) (F : Fun K "letters_of" "letters_of" s_letters_of f fd) (gm : mg "letters_of" = some (.ref f)) : Cal P w K mg base "letters_of" 7 ["form", "stand", "deeds"] (spU F_letters_of) := by
  have bn : Binds K fd ["form", "stand", "deeds"] [] := F.binds fun _ _ _ _ _ _ us hl => match us, hl with | [_, _, _], _ => rfl
  refine mk_cal (k := 6) F gm bn sc_letters_of rfl len_letters_of fun cdv A outer s H E hr => ?_
  have nd := (sc_letters_of).nd
  apply Exists.intro
  apply And.intro
  · exact (pss_cons (ps_expr (pe_cal c_run hr (by rfl) (pa_cons (pv 0) (pa_cons (pv 1) (pa_cons (pv 2) pa_nil)))))
    (pss_cons (ps_set (i := 3) nd rfl (Or.inl rfl) pe_dnewT)
    (pss_cons (ps_for PassesOwn.never rfl (pi_range1 (by rfl) B.range (pa_cons (pe_callB (call_lenK (K := K)) (by rfl) B.len bt_len (pa_cons (pe_ix (ix_K (K := K)) (pv 0) pe_int (fun _ _ => rfl)) pa_nil)) pa_nil)) (pg_name (i := 4) nd rfl (Or.inl rfl))
      (pss_one (ps_for PassesOwn.never rfl (pi_seqU (pe_cal c_waits hr (by rfl) (pa_cons (pv 1) (pa_cons (pv 4) pa_nil)))) (pg_tup rfl (pgs_cons (pg_name (i := 5) nd rfl (Or.inl rfl)) (pgs_cons (pg_name (i := 6) nd rfl (Or.inl rfl)) pgs_nil)))
      (pss_one (ps_dput (hu_of hr) (pv 3) (pe_tup (pa_cons (pv 4) (pa_cons (pv 5) pa_nil))) (pe_tup (pa_cons pe_non (pa_cons pe_non pa_nil))) rfl)))))
    (pss_cons (ps_for PassesOwn.never rfl (pi_enumT (by rfl) B.enumerate (pa_cons (pv 2) pa_nil)) (pg_tup rfl (pgs_cons (pg_name (i := 7) nd rfl (Or.inl rfl)) (pgs_cons (pg_name (i := 8) nd rfl (Or.inl rfl)) pgs_nil)))
      (pss_cons (ps_if (pt_cmpR (op_eqK (K := K) hr.units) (pe_ix (ix_K (K := K)) (pv 8) pe_int (fun _ _ => rfl)) pe_str (nomark _)) (pss_cons (ps_set (i := 9) nd rfl (Or.inl rfl) (pe_tup (pa_cons (pe_ix (ix_K (K := K)) (pv 8) pe_int (fun _ _ => rfl)) (pa_cons (pe_ix (ix_K (K := K)) (pv 8) pe_int (fun _ _ => rfl)) pa_nil))))
    (pss_one (ps_dput (hu_of hr) (pv 3) (pv 9) (pe_tup (pa_cons (pe_ix (ix_K (K := K)) (pe_dget (hu_of hr) (pv 3) (pv 9) (fun _ _ => rfl)) pe_int (fun _ _ => rfl)) (pa_cons (pv 7) pa_nil))) rfl))) pss_nil)
    (pss_cons (ps_set (i := 10) nd rfl (Or.inl rfl) (pe_ix (ix_K (K := K)) (pe_cal c_done hr (by rfl) (pa_cons (pv 0) (pa_cons (pv 1) (pa_cons (pv 8) pa_nil)))) pe_int (fun _ _ => rfl)))
    (pss_cons (ps_for PassesOwn.never rfl (pi_range1 (by rfl) B.range (pa_cons (pe_callB (call_lenK (K := K)) (by rfl) B.len bt_len (pa_cons (pe_ix (ix_K (K := K)) (pv 0) pe_int (fun _ _ => rfl)) pa_nil)) pa_nil)) (pg_name (i := 4) nd rfl (Or.inl rfl))
      (pss_one (ps_for PassesOwn.never rfl (pi_range2 (by rfl) B.range (pa_cons (pe_ix (ix_K (K := K)) (pe_ix (ix_K (K := K)) (pe_ix (ix_K (K := K)) (pv 1) pe_int (fun _ _ => rfl)) (pv 4) (fun _ _ => rfl)) pe_int (fun _ _ => rfl)) (pa_cons (pe_ix (ix_K (K := K)) (pe_ix (ix_K (K := K)) (pe_ix (ix_K (K := K)) (pv 10) pe_int (fun _ _ => rfl)) (pv 4) (fun _ _ => rfl)) pe_int (fun _ _ => rfl)) pa_nil))) (pg_name (i := 5) nd rfl (Or.inl rfl))
      (pss_one (ps_dput (hu_of hr) (pv 3) (pe_tup (pa_cons (pv 4) (pa_cons (pv 5) pa_nil))) (pe_tup (pa_cons (pv 7) (pa_cons pe_non pa_nil))) rfl)))))
    (pss_one (ps_set (i := 1) nd rfl (Or.inl rfl) (pv 10)))))))
    (pss_one (ps_ret (pv 3)))))))
  · rintro xs n Kx ⟨f, s, es, b, rfl, hf, hs, hb, hel, hr, k⟩
    have hrd := hf.rd
    have hld := hs.ld
    refine bl_seq (bl_drop ?_)
    walk_at "wps"
    refine ⟨f, s, es, b, rfl, hf, hs, by omega, hr, ?_⟩
    walk_at "wps"
    refine bl_seq ?_
    walk_at "wps"
    intro p0
    walk_at "wps"
    refine bl_seq (bl_forS (α := Nat) [4, 5, 6] (fun i : Nat => T.int (i : Nat)) (fun q : List (List Key × T) => [some (.t (eF f)), some (.t (eS s)), some (.t (.tup (es.map eD))), some (.dic p0 q true), none, none, none, none, none, none, none]) (fun j q m' => m' = n ∧ q.length ≤ j * b ∧ Fd (fun r n' v => v = .non ∧ r < j ∧ ∃ l, s.ld[r]? = some l ∧ ∃ x ∈ l.w, x.1 = n') q) (ei_rngN ?_))
    walk_at "wp"
    refine ⟨by rw [List.length_map]; omega, ?_⟩
    rw [List.length_map]
    refine ⟨List.range f.roads.length, [], rfl, rfl, ⟨rfl, by simp, fun r n' v h => absurd h.2.1 (by omega)⟩, fun p hp => hp, fun j j' q m' hv ⟨em, h1, h2⟩ => ?_, fun q m' ⟨em, h1, h2⟩ => ?_⟩
    · subst em
      have hj : j < f.roads.length := by have := (List.getElem?_eq_some_iff.mp hv).1; rwa [List.length_range] at this
      rw [List.getElem?_range hj] at hv
      cases hv
      have hl := List.getElem?_eq_getElem (show j < s.ld.length by omega)
      generalize s.ld[j]'(by omega) = l at hl
      have hlw := (hs.w j l hl).2.2.2.1
      walk_at "wp"
      refine bl_forS (α := Int × Str) [5, 6] eLt (fun q : List (List Key × T) => [some (.t (eF f)), some (.t (eS s)), some (.t (.tup (es.map eD))), some (.dic p0 q true), some (.t (.int (j : Nat))), none, none, none, none, none, none]) (fun i q m2 => m2 = m' ∧ q.length ≤ j * b + i ∧ Fd (fun r n' v => v = .non ∧ ∃ l', s.ld[r]? = some l' ∧ ((r < j ∧ ∃ x ∈ l'.w, x.1 = n') ∨ (r = j ∧ ∃ x ∈ l'.w.take i, x.1 = n'))) q) (ei_new ?_)
      walk_at "wp"
      refine ⟨s, j, l, rfl, hl, fun p1 => ?_⟩
      walk_at "wp"
      intro g
      refine ⟨l.w, q, rfl, rfl, ⟨rfl, h1, fun r n' v ⟨a, l', c, d⟩ => ?_⟩, fun p hp => List.mem_cons_of_mem _ hp, fun i x q2 m2 hv ⟨em, h3, h4⟩ => ?_, fun q2 m2 ⟨em, h3, h4⟩ => ?_⟩
      · rcases d with ⟨d1, d2⟩ | ⟨d1, x, d2, _⟩
        · exact h2 r n' v ⟨a, d1, l', c, d2⟩
        · simp at d2
      · subst em
        walk_at "wp"
        have hi := (List.getElem?_eq_some_iff.mp hv).1
        have hjb : j * b ≤ 10 * 1000 := Nat.mul_le_mul (by omega) hb
        refine bl_dput (j := 3) rfl (by show _ < 100000; omega) ?_
        walk_at "wp"
        refine ⟨rfl, _, rfl, rfl, Nat.le_trans (putT_len _ _ _) (by omega), h4.put (r := j) (n := x.1) (v := .non) (c := .non) fun r' n' v' ⟨a, l', c, d⟩ => ?_⟩
        by_cases hk : r' = j ∧ n' = x.1
        · exact .inl ⟨hk.1, hk.2, a⟩
        · refine .inr ⟨hk, a, l', c, ?_⟩
          rcases d with d | ⟨d1, y, d2, d3⟩
          · exact .inl d
          · subst d1
            rw [hl] at c
            cases c
            rw [List.take_add_one, hv] at d2
            rcases List.mem_append.mp d2 with d2 | d2
            · exact .inr ⟨rfl, y, d2, d3⟩
            · simp at d2
              exact absurd ⟨rfl, by rw [← d3, d2]⟩ hk
      · subst em
        refine ⟨rfl, q2, rfl, rfl, ?_, fun r n' v ⟨a, h5, l', h6, h7⟩ => ?_⟩
        · have : (j + 1) * b = j * b + b := by rw [Nat.add_mul, Nat.one_mul]
          omega
        · by_cases hrj : r = j
          · subst hrj
            rw [hl] at h6
            cases h6
            exact h4 r n' v ⟨a, l, hl, .inr ⟨rfl, by rw [List.take_length]; exact h7⟩⟩
          · exact h4 r n' v ⟨a, l', h6, .inl ⟨by omega, h7⟩⟩
    · subst em
      rw [List.length_range] at h1 h2
      have hrb : f.roads.length * b ≤ 10 * b := Nat.mul_le_mul_right _ hrd
      walk_at "wps"
      refine bl_seq (bl_forS (α := Dd × Nat) [4, 5, 6, 7, 8, 9, 10] (fun p => T.tup [.int (p.2 : Nat), eD p.1]) (fun p : Sd × List (List Key × T) => [some (.t (eF f)), some (.t (eS p.1)), some (.t (.tup (es.map eD))), some (.dic p0 p.2 true), none, none, none, none, none, none, none]) (fun i p m2 => m2 = m' ∧ p.1 = walk f s (es.take i) ∧ p.2.length ≤ 10 * b + 31 * i ∧ Fd (LK f s es i) p.2) (ei_enum ?_))
      walk_at "wp"
      intro g
      refine ⟨es.zipIdx, (s, q), enum_map eD es, rfl, ⟨rfl, rfl, by dsimp only; omega, fun r n' v ⟨l0, a, c, d, e⟩ => ?_⟩, fun p hp => List.mem_cons_of_mem _ hp, fun i v p m2 hv ⟨em, h3, h4, h5⟩ => ?_, fun p m2 ⟨em, h3, h4, h5⟩ => ?_⟩
      · have e0 : sentAt f s es 0 r = l0.sent := sentAt_of a
        rw [e0] at c
        refine h2 r n' v ⟨by rw [e, snd_old (by rw [e0]; exact c)]; rfl, by have := (List.getElem?_eq_some_iff.mp a).1; omega, l0, a, d c⟩
      · subst em
        obtain ⟨d, i'⟩ := v
        obtain ⟨hv, rfl⟩ := zipIdx_get hv
        obtain ⟨s', q2⟩ := p
        dsimp only at h3 h4 h5
        have hi := (List.getElem?_eq_some_iff.mp hv).1
        have hd := runs_take es s i' d hr hv
        have hs' : SOk f s' (b + 3 * es.length) := by
          rw [h3]
          exact (walk_ok hf _ _ _ hs).mono (by rw [List.length_take]; omega)
        have hw : step f s' d = walk f s (es.take (i' + 1)) := by rw [walk_snoc f s es i' d hv, h3]
        walk_at "wps"
        refine bl_seqC (fun ρ m3 => m3 = m2 ∧ ∃ q3, wipeL ρ.s [9] = [some (.t (eF f)), some (.t (eS s')), some (.t (.tup (es.map eD))), some (.dic p0 q3 true), none, none, none, some (.t (.int (i' : Nat))), some (.t (eD d)), none, none] ∧ ρ.g = g :: [] ∧ q3.length ≤ 10 * b + 31 * i' + 1 ∧ Fd (LK f s es i') q3) ?_ ?_
        · cases d with
          | own m =>
            dsimp only [eD]
            walk_at "wp"
            exact ⟨fun z => (by cases z), fun _ => bl_next ⟨rfl, q2, rfl, rfl, by omega, h5⟩⟩
          | hear m c =>
            dsimp only [eD]
            walk_at "wp"
            exact ⟨fun z => (by cases z), fun _ => bl_next ⟨rfl, q2, rfl, rfl, by omega, h5⟩⟩
          | come r m =>
            obtain ⟨v0, hv0⟩ := come_known hf hs hd.1 hd.2
            obtain ⟨c0, hc0⟩ := h5 r m v0 hv0
            dsimp only [eD]
            walk_at "wp"
            refine ⟨fun _ => ?_, fun z => (by cases z)⟩
            walk_at "wp"
            refine bl_dput (j := 3) rfl (by show _ < 100000; omega) ?_
            walk_at "wp"
            refine ⟨_, _, _, _, _, _, rfl, rfl, keys_lk r m, hc0, ?_⟩
            walk_at "wp"
            refine ⟨rfl, _, rfl, rfl, Nat.le_trans (putT_len _ _ _) (by omega), h5.put (r := r) (n := m) (v := v0) (c := .int (i' : Nat)) fun r' n' v' h => ?_⟩
            by_cases hk : r' = r ∧ n' = m
            · obtain ⟨rfl, rfl⟩ := hk
              obtain ⟨_, _, _, _, e1⟩ := h
              obtain ⟨_, _, _, _, e2⟩ := hv0
              exact .inl ⟨rfl, rfl, by rw [e1, e2]⟩
            · exact .inr ⟨hk, h⟩
        rintro ⟨σ, gg⟩ m3 ⟨em, q3, e1, e2, h6, h7⟩
        subst em
        dsimp only at e1 e2
        subst e2
        refine Blk.fget [9] ?_
        show Blk _ _ _ ⟨wipeL σ [9], [g]⟩ _ _
        rw [e1]
        clear e1 σ
        refine bl_seq ?_
        walk_at "wps"
        refine ⟨f, s', d, _, rfl, hf, hs', by omega, hd.1, eD_mild hd.1, by rw [h3]; exact hd.2, ?_⟩
        walk_at "wps"
        have hs2 : SOk f (step f s' d) (b + 3 * es.length + 3) := hs'.step hf d
        refine bl_seq (bl_forS (α := Nat) [4, 5] (fun i : Nat => T.int (i : Nat)) (fun q : List (List Key × T) => [some (.t (eF f)), some (.t (eS s')), some (.t (.tup (es.map eD))), some (.dic p0 q true), none, none, none, some (.t (.int (i' : Nat))), some (.t (eD d)), none, some (.t (eS (step f s' d)))]) (fun j q m' => m' = m3 ∧ q.length ≤ 10 * b + 31 * i' + 1 + 3 * j ∧ Fd (fun r n' v => ∃ l0, s.ld[r]? = some l0 ∧ n' < (if r < j then sentAt f s es (i' + 1) r else sentAt f s es i' r) ∧ (n' < l0.sent → ∃ x ∈ l0.w, x.1 = n') ∧ v = sT (snd f s es r n')) q) (ei_rngN ?_))
        walk_at "wp"
        refine ⟨by rw [List.length_map]; omega, ?_⟩
        rw [List.length_map]
        refine ⟨List.range f.roads.length, q3, rfl, rfl, ⟨rfl, by omega, fun r n' v ⟨l0, a, c, e⟩ => ?_⟩, fun p hp => hp, fun j j' q m' hv2 ⟨em, h8, h9⟩ => ?_, fun q m' ⟨em, h8, h9⟩ => ?_⟩
        · rw [if_neg (by omega)] at c
          exact h7 r n' v ⟨l0, a, c, e⟩
        · subst em
          have hj : j < f.roads.length := by have := (List.getElem?_eq_some_iff.mp hv2).1; rwa [List.length_range] at this
          rw [List.getElem?_range hj] at hv2
          cases hv2
          obtain ⟨l1, hl1, el1⟩ := ld_at f s es i' (show j < s.ld.length by omega)
          obtain ⟨l2, hl2, el2⟩ := ld_at f s es (i' + 1) (show j < s.ld.length by omega)
          obtain ⟨st1, st2, _⟩ := sentAt_step hf s es hv (show j < s.ld.length by omega)
          rw [← h3] at hl1
          rw [← hw] at hl2
          have b1 := hs'.w j l1 hl1
          have b2 := hs2.w j l2 hl2
          have b11 := b1.1
          have b15 := b1.2.2.2.2
          have b21 := b2.1
          have b25 := b2.2.2.2.2
          walk_at "wp"
          refine bl_forS (α := Nat) [5] (fun i : Nat => T.int (sentAt f s es i' j + (i : Nat))) (fun q : List (List Key × T) => [some (.t (eF f)), some (.t (eS s')), some (.t (.tup (es.map eD))), some (.dic p0 q true), some (.t (.int (j : Nat))), none, none, some (.t (.int (i' : Nat))), some (.t (eD d)), none, some (.t (eS (step f s' d)))]) (fun i q m2 => m2 = m' ∧ q.length ≤ 10 * b + 31 * i' + 1 + 3 * j + i ∧ Fd (fun r n' v => ∃ l0, s.ld[r]? = some l0 ∧ n' < (if r < j then sentAt f s es (i' + 1) r else if r = j then sentAt f s es i' r + (i : Nat) else sentAt f s es i' r) ∧ (n' < l0.sent → ∃ x ∈ l0.w, x.1 = n') ∧ v = sT (snd f s es r n')) q) (ei_rng2 ?_)
          walk_at "wp"
          refine wIxT (atI_map hl1) ?_
          walk_at "wp"
          refine wIxT (atI_map hl2) ?_
          walk_at "wp"
          rw [← el1, ← el2]
          rw [← el1] at b11 b15
          rw [← el2] at b21 b25
          refine ⟨by omega, by omega, by omega, by omega, by show _ ≤ 100000; omega, ?_⟩
          refine ⟨List.range (sentAt f s es (i' + 1) j - sentAt f s es i' j).toNat, q, rfl, rfl, ⟨rfl, by omega, fun r n' v ⟨l0, a, c, e⟩ => h9 r n' v ⟨l0, a, ?_, e⟩⟩, fun p hp => hp, fun i x q4 m2 hv4 ⟨em, h10, h11⟩ => ?_, fun q4 m2 ⟨em, h10, h11⟩ => ?_⟩
          · by_cases hrj : r < j
            · rw [if_pos hrj] at c ⊢; exact c
            · rw [if_neg hrj] at c ⊢
              by_cases hrj2 : r = j
              · rw [if_pos hrj2] at c; omega
              · rw [if_neg hrj2] at c; exact c
          · subst em
            have hx : i < (sentAt f s es (i' + 1) j - sentAt f s es i' j).toNat := by have := (List.getElem?_eq_some_iff.mp hv4).1; rwa [List.length_range] at this
            rw [List.getElem?_range hx] at hv4
            cases hv4
            walk_at "wp"
            refine bl_dput (j := 3) rfl (by show _ < 100000; omega) ?_
            walk_at "wp"
            have hsnd := snd_at hf (s := s) (es := es) (r := j) (n := sentAt f s es i' j + (i : Nat)) (k := i') (by omega) hi (by omega) (by omega)
            refine ⟨rfl, _, rfl, rfl, Nat.le_trans (putT_len _ _ _) (by omega), h11.put (r := j) (n := sentAt f s es i' j + (i : Nat)) (v := .int (i' : Nat)) (c := .non) fun r' n' v' ⟨l0, a, c, e1, e2⟩ => ?_⟩
            by_cases hk : r' = j ∧ n' = sentAt f s es i' j + (i : Nat)
            · obtain ⟨rfl, rfl⟩ := hk
              refine .inl ⟨rfl, rfl, ?_⟩
              rw [e2, hsnd]; rfl
            · refine .inr ⟨hk, l0, a, ?_, e1, e2⟩
              by_cases hrj : r' < j
              · rw [if_pos hrj] at c ⊢; exact c
              · rw [if_neg hrj] at c ⊢
                by_cases hrj2 : r' = j
                · rw [if_pos hrj2] at c ⊢
                  subst hrj2
                  have : n' ≠ sentAt f s es i' r' + (i : Nat) := fun z => hk ⟨rfl, z⟩
                  omega
                · rw [if_neg hrj2] at c ⊢; exact c
          · subst em
            rw [List.length_range] at h10 h11
            refine ⟨rfl, q4, rfl, rfl, by omega, fun r n' v ⟨l0, a, c, e⟩ => h11 r n' v ⟨l0, a, ?_, e⟩⟩
            by_cases hrj : r < j
            · rw [if_pos hrj]; rw [if_pos (by omega)] at c; exact c
            · rw [if_neg hrj]
              by_cases hrj2 : r = j
              · rw [if_pos hrj2]; rw [if_pos (by omega)] at c; subst hrj2; omega
              · rw [if_neg hrj2]; rw [if_neg (by omega)] at c; exact c
        · subst em
          rw [List.length_range] at h8 h9
          walk_at "wp"
          refine ⟨rfl, (step f s' d, q), rfl, rfl, hw, by dsimp only; omega, fun r n' v ⟨l0, a, c, e⟩ => h9 r n' v ⟨l0, a, ?_, e⟩⟩
          rw [if_pos (by have := (List.getElem?_eq_some_iff.mp a).1; omega)]
          exact c
      · subst em
        obtain ⟨s', q2⟩ := p
        dsimp only at h3 h5
        rw [List.length_zipIdx] at h5
        walk_at "wp"
        exact k _ _ h5
end CK
/-! part M6 -/
set_option Elab.async false
set_option linter.all false
set_option maxRecDepth 100000
set_option maxHeartbeats 1000000
/-! The plain model, part 6: dark letters, ways. -/
namespace CK
open PySem PySem.Spec PyProof.Rows L2
/-- the letter n of the road r is dark -/
def dark (f : Fm) (s : Sd) (es : List Dd) (sn : List (Option Int)) (r : Nat) (n : Int) : Bool :=
  match f.roads[r]? with
  | none => false
  | some q => match sn[q.src]? with
    | some (some p) => (match snd f s es r n with
      | some k => (match (evs f es)[k]? with
        | some ev => decide (p ≤ (ev.2 : Nat))
        | none => false)
      | none => false)
    | _ => false
/-- what goes on the way -/
inductive Wd where
  | bg (m : Nat)
  | dd (d : Dd)
def eW : Wd → T
  | .bg m => .tup [.str "begin", .int (m : Nat)]
  | .dd d => eD d
def bgIf (f : Fm) (sn : List (Option Int)) (es : List Dd) (m : Nat) : List Wd :=
  if sn[m]? = some (some ((cnt f es m : Nat) : Int)) then [.bg m] else []
def wayFrom (f : Fm) (sn : List (Option Int)) : List Dd → List Dd → List Wd
  | _, [] => []
  | pre, d :: ds => bgIf f sn pre (mach f d) ++ .dd d :: wayFrom f sn (pre ++ [d]) ds
def wayEnd (f : Fm) (sn : List (Option Int)) (es : List Dd) : List Wd :=
  ((List.range sn.length).filter fun m => decide (sn[m]? = some (some ((cnt f es m : Nat) : Int)))).map .bg
def way (f : Fm) (es : List Dd) (sn : List (Option Int)) : List Wd := wayFrom f sn [] es ++ wayEnd f sn es
theorem wayFrom_append (f : Fm) (sn : List (Option Int)) : ∀ (xs pre ys : List Dd), wayFrom f sn pre (xs ++ ys) = wayFrom f sn pre xs ++ wayFrom f sn (pre ++ xs) ys
  | [], pre, ys => by simp [wayFrom]
  | x :: xs, pre, ys => by
    show (bgIf f sn pre (mach f x) ++ .dd x :: wayFrom f sn (pre ++ [x]) (xs ++ ys)) = _
    rw [wayFrom_append f sn xs (pre ++ [x]) ys]
    simp [wayFrom]
theorem wayFrom_take (f : Fm) (sn : List (Option Int)) (es : List Dd) (i : Nat) (d : Dd) (h : es[i]? = some d) : wayFrom f sn [] (es.take (i + 1)) = wayFrom f sn [] (es.take i) ++ (bgIf f sn (es.take i) (mach f d) ++ [.dd d]) := by
  rw [List.take_add_one, h]
  show wayFrom f sn [] (es.take i ++ [d]) = _
  rw [wayFrom_append]
  simp [wayFrom]
theorem wayFrom_len (f : Fm) (sn : List (Option Int)) : ∀ (xs pre : List Dd), (wayFrom f sn pre xs).length ≤ 2 * xs.length
  | [], pre => by simp [wayFrom]
  | x :: xs, pre => by
    have := wayFrom_len f sn xs (pre ++ [x])
    unfold wayFrom bgIf
    split <;> (simp; omega)
theorem wayEnd_len (f : Fm) (sn : List (Option Int)) (es : List Dd) : (wayEnd f sn es).length ≤ sn.length := by
  unfold wayEnd
  rw [List.length_map]
  have := List.length_filter_le (fun m => decide (sn[m]? = some (some ((cnt f es m : Nat) : Int)))) (List.range sn.length)
  rwa [List.length_range] at this
theorem eP_noB (p : Option Int) : (eP p).noB = true := by cases p <;> rfl
theorem wEqP {p : Option Int} {i : Int} {K : X → Prop} (k : K (.t (.bl (decide (p = some i))))) : EqW false (.t (eP p)) (.t (.int i)) K := by
  obtain ⟨a, b, h1, h2, h3⟩ := eqvN (eP p) (.int i) (eP_noB p) rfl
  refine ⟨a, b, h1, h2, ?_, ?_⟩
  · cases h2
    simp [PyData.depth]
  · have e : PyData.eqv a b = decide (p = some i) := by
      rw [Bool.eq_iff_iff, h3, decide_eq_true_eq]
      cases p with
      | none => simp [eP]
      | some j => simp [eP]
    rw [e]; exact k
end CK
/-! part D8 -/
set_option Elab.async false
set_option linter.all false
set_option maxRecDepth 100000
set_option maxHeartbeats 2000000
/-! Defs of colours. -/
namespace CK
open PySem PySem.Spec PyProof.Rows L2
local macro_rules | `(tactic| walk_at "wp0") => `(tactic| first
  | ((with_reducible refine bl_retL (a := ?va) (ds := ?vd) ?vh ?_); (case vh => exact rfl))
  | ((with_reducible refine bl_retD (a := ?va) (ds := ?vd) ?vh ?_); (case vh => exact rfl))
  | (with_reducible refine bl_ret ?_)
  | (with_reducible refine bl_if ?_)
  | (with_reducible refine bl_asg ?_)
  | (with_reducible refine bl_asgP ?_)
  | (with_reducible refine bl_next ?_)
  | (with_reducible refine et_test ?_)
  | (with_reducible refine et_B ?_)
  | (with_reducible refine et_and ?_)
  | (with_reducible refine et_or ?_)
  | (with_reducible refine et_not ?_)
  | (with_reducible refine et_yes ?_)
  | ((with_reducible refine ev_varT (d := ?vd) ?vh ?_); (case vh => exact rfl))
  | ((with_reducible refine ev_varL (a := ?va) (ds := ?vd) (o := ?vo) ?vh ?_); (case vh => exact rfl))
  | ((with_reducible refine ev_varD (a := ?va) (kvs := ?vd) (o := ?vo) ?vh ?_); (case vh => exact rfl))
  | ((with_reducible refine ev_varP ?vh ?_); (case vh => exact rfl))
  | (with_reducible refine ev_int ?_)
  | (with_reducible refine ev_str ?_)
  | (with_reducible refine ev_bl ?_)
  | (with_reducible refine ev_non ?_)
  | (with_reducible refine ev_ty ?_)
  | (with_reducible refine ev_op ro_ix ?_)
  | (with_reducible refine ev_op ro_eq ?_)
  | (with_reducible refine ev_op ro_is ?_)
  | (with_reducible refine ev_op ro_cmp ?_)
  | (with_reducible refine ev_op ro_add ?_)
  | (with_reducible refine ev_op ro_sub ?_)
  | (with_reducible refine ev_op ro_mul ?_)
  | (with_reducible refine ev_op ro_mod ?_)
  | (with_reducible refine ev_op ro_div ?_)
  | (with_reducible refine ev_op ro_pow ?_)
  | (with_reducible refine ev_op ro_in ?_)
  | (with_reducible refine ev_neg ?_)
  | (with_reducible refine ev_cb rc_len ?_)
  | (with_reducible refine ev_cb rc_isi ?_)
  | (with_reducible refine ev_cb rc_all ?_)
  | (with_reducible refine ev_cb rc_list ?_)
  | (with_reducible refine ev_cb rc_tuple ?_)
  | (with_reducible refine ev_cb rc_int ?_)
  | (with_reducible refine ev_cb rc_max ?_)
  | (with_reducible refine ea_cons ?_)
  | (with_reducible refine ea_nil ?_)
  | (with_reducible refine ev_tup ?_)
  | (with_reducible refine ev_lst ?_)
  | (with_reducible refine ev_sl ?_)
  | (with_reducible refine eo_none ?_)
  | (with_reducible refine eo_some ?_)
  | (with_reducible refine ev_dget ?_)
  | (with_reducible refine ev_dnew ?_)
  | (with_reducible refine ev_if ?_)
  | (with_reducible refine ev_and ?_)
  | (with_reducible refine ev_or ?_)
  | (with_reducible refine ev_not ?_)
  | (with_reducible refine ev_chain ro_cmp ro_cmp ?_)
  | (with_reducible refine ev_call ?_)
  | (with_reducible refine ev_lrg2 ?_)
  | (with_reducible refine wAddI ?_)
  | (with_reducible refine wSub ?_)
  | (with_reducible refine wEqI ?_)
  | (with_reducible refine wEqS ?_)
  | (with_reducible refine wNeI ?_)
  | (with_reducible refine wNeS ?_)
  | (with_reducible refine wCmp ?_)
  | (with_reducible refine wLenT ?_)
  | (with_reducible refine wLenL ?_)
  | (with_reducible refine wTupT ?_)
  | (with_reducible refine wTupL ?_)
  | (with_reducible refine wIsN ?_)
  | (with_reducible refine wNotN ?_)
  | (with_reducible refine wIsB ?_)
  | (with_reducible refine wInt ?_)
  | (with_reducible refine wMax ?_)
  | (with_reducible refine wListT ?_; intro _)
  | (with_reducible refine wListL ?_; intro _)
  | (with_reducible refine wSlT ?_)
  | ((with_reducible refine wIxT (d := ?vd) ?vh ?_); (case vh => exact rfl))
  | (refine wIxT atI_c0 ?_)
  | (refine wIxT atI_c1 ?_)
  | (refine wIxT atI_c2 ?_)
  | ((with_reducible refine wIxL (d := ?vd) ?vh ?_); (case vh => exact rfl))
  | ((with_reducible refine wIsi (b := ?vd) ?vh ?_); (case vh => exact rfl))
  | ((with_reducible refine wIsiL (b := ?vd) ?vh ?_); (case vh => exact rfl))
  | (with_reducible refine tg_tup rfl ?_)
  | (with_reducible refine tgs_cons ?_)
  | (with_reducible refine tgs_nil ?_)
  | ((with_reducible refine tg_name ?vh ?_); (case vh => decide))
  | (with_reducible refine ⟨_, rfl, ?_⟩)
  | (with_reducible refine ⟨_, _, rfl, ?_⟩)
  | (with_reducible refine ⟨_, _, rfl, rfl, ?_⟩)
  | (with_reducible refine ⟨_, _, _, rfl, ?_⟩)
  | (refine And.intro (show List.length _ ≤ lim from Nat.le_of_ble_eq_true rfl) ?_)
  | (with_reducible refine seqK_nx ?_)
  | (with_reducible refine seqK_rt ?_)
  | (with_reducible refine seqK_ex ?_)
  | fail "wp0: no step")
local macro_rules | `(tactic| walk_at "wp1") => `(tactic| first | (with_reducible refine bl_seq ?_) | walk_at "wp0")
local macro_rules | `(tactic| walk_at "wps") => `(tactic| repeat (walk_at "wp0"))
local macro_rules | `(tactic| walk_at "wp") => `(tactic| repeat (walk_at "wp1"))
abbrev eTk (s : Sd) (es : List Dd) (sn : List (Option Int)) : T := .tup [eS s, .tup (es.map eD), .tup (sn.map eP)]
abbrev F_is_dark : PF := fun xs n K => ∃ (f : Fm) (s : Sd) (es : List Dd) (sn : List (Option Int)) (r : Nat) (m : Int) (b : Nat), xs = [.t (eF f), .t (eTk s es sn), .t (.tup [.int (r : Nat), .int m])] ∧ FOk f ∧ SOk f s b ∧ b ≤ 1000 ∧ es.length ≤ 1000 ∧ Runs f s es ∧ sn.length = f.rules.length ∧ r < f.roads.length ∧ (∃ v, LK f s es es.length r m v) ∧ K (.t (.bl (dark f s es sn r m))) n
theorem len_is_dark : ∀ xs n K, F_is_dark xs n K → xs.length = 3 := fun _ _ _ ⟨_, _, _, _, _, _, _, e, _⟩ => by rw [e]; rfl
theorem runs_ok {f : Fm} {s : Sd} {es : List Dd} (h : Runs f s es) : ∀ e ∈ es, DOk f e := fun e he => by
  obtain ⟨i, hi, rfl⟩ := List.mem_iff_getElem.mp he
  exact (runs_take es s i _ h (List.getElem?_eq_getElem hi)).1
abbrev N_is_dark : List Str := ["form", "taking", "letter", "base", "deeds", "seen", "position", "sending"]
theorem sc_is_dark : FnScope N_is_dark ["form", "taking", "letter"] (defScope s_is_dark) := ⟨rfl, rfl, rfl, by decide +kernel, rfl, by decide +kernel, by decide +kernel⟩
theorem cal_is_dark {P : Program} {w : World} {K : PySem.W.Frag} {mg : Str → Option Value} {base : Heap} {f : Addr} {fd : FuncData} (B : Bi mg) (c_letters_of : Cal P w K mg base "letters_of" 7 ["form", "stand", "deeds"] (spU F_letters_of)) (c_events_of : Cal P w K mg base "events_of" 2 ["form", "deeds"] (spU F_events_of)) (F : Fun K "is_dark" "is_dark" s_is_dark f fd) (gm : mg "is_dark" = some (.ref f)) : Cal P w K mg base "is_dark" 8 ["form", "taking", "letter"] (spU F_is_dark) := by
  have bn : Binds K fd ["form", "taking", "letter"] [] := F.binds fun _ _ _ _ _ _ us hl => match us, hl with | [_, _, _], _ => rfl
  refine mk_cal (k := 7) F gm bn sc_is_dark rfl len_is_dark fun cdv A outer s H E hr => ?_
  have nd := (sc_is_dark).nd
  apply Exists.intro
  apply And.intro
  · exact (pss_cons (ps_asg (pv 1) (pg_tup rfl (pgs_cons (pg_name (i := 3) nd rfl (Or.inl rfl)) (pgs_cons (pg_name (i := 4) nd rfl (Or.inl rfl)) (pgs_cons (pg_name (i := 5) nd rfl (Or.inl rfl)) pgs_nil)))))
    (pss_cons (ps_set (i := 6) nd rfl (Or.inl rfl) (pe_ix (ix_K (K := K)) (pv 5) (pe_ix (ix_K (K := K)) (pe_ix (ix_K (K := K)) (pe_ix (ix_K (K := K)) (pv 0) pe_int (fun _ _ => rfl)) (pe_ix (ix_K (K := K)) (pv 2) pe_int (fun _ _ => rfl)) (fun _ _ => rfl)) pe_int (fun _ _ => rfl)) (fun _ _ => rfl)))
    (pss_cons (ps_set (i := 7) nd rfl (Or.inl rfl) (pe_ix (ix_K (K := K)) (pe_dget (hu_of hr) (pe_cal c_letters_of hr (by rfl) (pa_cons (pv 0) (pa_cons (pv 3) (pa_cons (pv 4) pa_nil)))) (pv 2) (fun _ _ => rfl)) pe_int (fun _ _ => rfl)))
    (pss_one (ps_ret (pe_and (pe_cmpR op_isnotP (pv 6) pe_non (nomark _)) (pe_and (pe_cmpR op_isnotP (pv 7) pe_non (nomark _)) (pe_one (pe_cmpR op_ge (pe_ix (ix_K (K := K)) (pe_ix (ix_K (K := K)) (pe_cal c_events_of hr (by rfl) (pa_cons (pv 0) (pa_cons (pv 4) pa_nil))) (pv 7) (fun _ _ => rfl)) pe_int (fun _ _ => rfl)) (pv 6) (nomark _))))))))))
  · rintro xs n Kx ⟨f, s, es, sn, r, m, b, rfl, hf, hs, hb, hel, hr, hsn, hrr, ⟨v, hv⟩, k⟩
    have hq := List.getElem?_eq_getElem hrr
    generalize f.roads[r]'hrr = q at hq
    have hsr := (hf.road r q hq).1
    have hp := List.getElem?_eq_getElem (show q.src < sn.length by omega)
    generalize sn[q.src]'(by omega) = p at hp
    walk_at "wp"
    refine wIxT (atI_map hq) ?_
    walk_at "wp"
    refine wIxT (atI_map hp) ?_
    walk_at "wp"
    refine ⟨f, s, es, b, rfl, hf, hs, hb, hel, hr, fun p0 kvs hk => ?_⟩
    obtain ⟨c, hc⟩ := hk r m v hv
    walk_at "wp"
    refine ⟨_, _, _, _, _, _, rfl, rfl, keys_lk r m, hc, ?_⟩
    walk_at "wp"
    obtain ⟨l0, _, _, _, ev⟩ := hv
    subst ev
    cases p with
    | none =>
      have ed : dark f s es sn r m = false := by simp only [dark, hq, hp]
      rw [ed] at k
      exact ⟨fun z => (by cases z), fun _ => k⟩
    | some p =>
      refine ⟨fun _ => ?_, fun z => (by cases z)⟩
      walk_at "wp"
      cases hsd : snd f s es r m with
      | none =>
        have ed : dark f s es sn r m = false := by simp only [dark, hq, hp, hsd]
        rw [ed] at k
        exact ⟨fun z => (by cases z), fun _ => k⟩
      | some kk =>
        have hkk := (snd_some hf (by rw [hs.ld]; exact hrr) hsd).1
        have hd := List.getElem?_eq_getElem hkk
        generalize es[kk]'hkk = d at hd
        have hev := evs_get (f := f) hd
        have ed : dark f s es sn r m = decide (p ≤ ((cnt f (es.take kk) (mach f d) : Nat) : Int)) := by simp only [dark, hq, hp, hsd, hev]
        rw [ed] at k
        refine ⟨fun _ => ?_, fun z => (by cases z)⟩
        walk_at "wp"
        refine ⟨hf, runs_ok hr, by omega, fun p1 => ?_⟩
        dsimp only [sT]
        walk_at "wp"
        refine wIxL (atI_map hev) ?_
        walk_at "wp"
        dsimp only [eP]
        walk_at "wp"
        exact k
abbrev F_colours_way : PF := fun xs n K => ∃ (f : Fm) (s : Sd) (es : List Dd) (sn : List (Option Int)), xs = [.t (eF f), .t (eTk s es sn)] ∧ FOk f ∧ es.length ≤ 1000 ∧ (∀ e ∈ es, DOk f e) ∧ sn.length = f.rules.length ∧ ∀ p, K (.l p ((way f es sn).map eW) true) n
theorem len_colours_way : ∀ xs n K, F_colours_way xs n K → xs.length = 2 := fun _ _ _ ⟨_, _, _, _, e, _⟩ => by rw [e]; rfl
theorem cut3 {α : Type} {a b c : α} : cutA [a, b, c] (some 1) none = [b, c] := rfl
theorem sn_get {sn : List (Option Int)} {m : Nat} (h : m < sn.length) : ∃ p, sn[m]? = some p := ⟨_, List.getElem?_eq_getElem h⟩
abbrev N_colours_way : List Str := ["form", "taking", "deeds", "seen", "way", "ends", "deed", "machine"]
theorem sc_colours_way : FnScope N_colours_way ["form", "taking"] (defScope s_colours_way) := ⟨rfl, rfl, rfl, by decide +kernel, rfl, by decide +kernel, by decide +kernel⟩
theorem cal_colours_way {P : Program} {w : World} {K : PySem.W.Frag} {mg : Str → Option Value} {base : Heap} {f : Addr} {fd : FuncData} (B : Bi mg) (c_machine_of : Cal P w K mg base "machine_of" 1 ["form", "deed"] (spU F_machine_of)) (F : Fun K "colours_way" "colours_way" s_colours_way f fd) (gm : mg "colours_way" = some (.ref f)) : Cal P w K mg base "colours_way" 2 ["form", "taking"] (spU F_colours_way) := by
  have bn : Binds K fd ["form", "taking"] [] := F.binds fun _ _ _ _ _ _ us hl => match us, hl with | [_, _], _ => rfl
  refine mk_cal (k := 1) F gm bn sc_colours_way rfl len_colours_way fun cdv A outer s H E hr => ?_
  have nd := (sc_colours_way).nd
  apply Exists.intro
  apply And.intro
  · exact (pss_cons (ps_asg (pe_slice (sl_K (K := K)) (pv 1) (po_some pe_int) po_none) (pg_tup rfl (pgs_cons (pg_name (i := 2) nd rfl (Or.inl rfl)) (pgs_cons (pg_name (i := 3) nd rfl (Or.inr rfl)) pgs_nil))))
    (pss_cons (ps_set (i := 4) nd rfl (Or.inl rfl) (pe_lst pa_nil))
    (pss_cons (ps_set (i := 5) nd rfl (Or.inr rfl) (pe_op (op_mulK (K := K)) (pe_lst (pa_cons pe_int pa_nil)) (pe_callB (call_lenK (K := K)) (by rfl) B.len bt_len (pa_cons (pv 3) pa_nil))))
    (pss_cons (ps_for PassesOwn.never rfl (pi_seqU (pv 2)) (pg_name (i := 6) nd rfl (Or.inl rfl))
      (pss_cons (ps_set (i := 7) nd rfl (Or.inl rfl) (pe_cal c_machine_of hr (by rfl) (pa_cons (pv 0) (pa_cons (pv 6) pa_nil))))
    (pss_cons (ps_if (pt_cmpR (op_eqK (K := K) hr.units) (pe_ix (ix_K (K := K)) (pv 3) (pv 7) (fun _ _ => rfl)) (pe_ix (ix_K (K := K)) (pv 5) (pv 7) (fun _ _ => rfl)) (nomark _)) (pss_one (ps_expr (pe_bm PySem.F.plainAttrs_list PySem.F.slot_list_append PySem.F.type_list_append mt_append (pv 4) (pa_cons (pe_tup (pa_cons pe_str (pa_cons (pv 7) pa_nil))) pa_nil)))) pss_nil)
    (pss_cons (ps_expr (pe_bm PySem.F.plainAttrs_list PySem.F.slot_list_append PySem.F.type_list_append mt_append (pv 4) (pa_cons (pv 6) pa_nil)))
    (pss_one (ps_asg (pe_op (op_addK (K := K)) (pe_ix (ix_K (K := K)) (pv 5) (pv 7) (fun _ _ => rfl)) pe_int) (pg_sub (pv 5) (pv 7) set_list)))))))
    (pss_one (ps_ret (pe_op (op_addK (K := K)) (pv 4) (pe_lc (own := [("machine", 7)]) (g := (gName 7)) rfl nd (pi_range1 (by rfl) B.range (pa_cons (pe_callB (call_lenK (K := K)) (by rfl) B.len bt_len (pa_cons (pv 3) pa_nil)) pa_nil)) (blkOk_by (own := [("machine", 7)]) (N := N_colours_way) (sc := (defScope s_colours_way)) (by decide +kernel)) (fun _ _ _ _ _ => (pg_name (i := 7) nd rfl (Or.inl rfl))) (fun _ _ _ _ _ => (pts_one (pt_cmpR (op_eqK (K := K) hr.units) (pe_ix (ix_K (K := K)) (pv 3) (pv 7) (fun _ _ => rfl)) (pe_ix (ix_K (K := K)) (pv 5) (pv 7) (fun _ _ => rfl)) (nomark _)))) (fun _ _ _ _ _ => (pe_tup (pa_cons pe_str (pa_cons (pv 7) pa_nil))))))))))))
  · rintro xs n Kx ⟨f, s, es, sn, rfl, hf, hel, hok, hsn, k⟩
    have hrl := hf.rl
    walk_at "wps"
    refine bl_seq ?_
    walk_at "wps"
    rw [cut3]
    walk_at "wps"
    refine bl_seq ?_
    walk_at "wps"
    intro p0
    walk_at "wps"
    refine bl_seq ?_
    walk_at "wps"
    intro p1
    walk_at "wps"
    rw [List.length_map, hsn]
    refine wMulL (by omega) (by omega) (by simp; show _ ≤ 100000; omega) fun a => ?_
    have hz := rep_zero f
    rw [List.length_map] at hz
    rw [hz]
    walk_at "wps"
    refine bl_seq (bl_forS (α := Dd) [6, 7] eD (fun q : List Dd × List Wd => [some (.t (eF f)), some (.t (eTk s es sn)), some (.t (.tup (es.map eD))), some (.t (.tup (sn.map eP))), some (.l p0 (q.2.map eW) true), some (.l a ((cnts f q.1).map T.int) true), none, none]) (fun i q m' => m' = n ∧ q.1 = es.take i ∧ q.2 = wayFrom f sn [] (es.take i)) (ei_tup ?_))
    walk_at "wp"
    intro g
    refine ⟨es, ([], []), rfl, rfl, ⟨rfl, rfl, rfl⟩, fun p hp => List.mem_cons_of_mem _ hp, fun i d q m' hv ⟨em, h1, h2⟩ => ?_, fun q m' ⟨em, h1, h2⟩ => ?_⟩
    · subst em
      obtain ⟨pre, w⟩ := q
      dsimp only at h1 h2
      have hi := (List.getElem?_eq_some_iff.mp hv).1
      have hd := hok d (List.mem_of_getElem? hv)
      have hm := mach_lt hf hd
      obtain ⟨p, hp⟩ := sn_get (show mach f d < sn.length by omega)
      have hwl : w.length ≤ 2 * 1000 := by
        rw [h2]
        have := wayFrom_len f sn (es.take i) []
        rw [List.length_take] at this
        omega
      walk_at "wps"
      refine bl_seq ?_
      walk_at "wps"
      refine ⟨hd, ?_⟩
      walk_at "wps"
      refine bl_seqC (fun ρ m3 => m3 = m' ∧ ρ = ⟨[some (.t (eF f)), some (.t (eTk s es sn)), some (.t (.tup (es.map eD))), some (.t (.tup (sn.map eP))), some (.l p0 ((w ++ bgIf f sn pre (mach f d)).map eW) true), some (.l a ((cnts f pre).map T.int) true), some (.t (eD d)), some (.t (.int (mach f d : Nat)))], [g]⟩) ?_ ?_
      · walk_at "wp"
        refine wIxT (atI_map hp) ?_
        walk_at "wp"
        refine wIxL (atI_map (cnts_get hm)) ?_
        refine wEqP ?_
        walk_at "wp"
        refine ⟨fun z => ?_, fun z => ?_⟩
        · have e : bgIf f sn pre (mach f d) = [.bg (mach f d)] := by
            unfold bgIf
            rw [hp, if_pos (by rw [of_decide_eq_true z])]
          refine bl_append (j := 4) rfl (by rw [List.length_map]; show w.length < 100000; omega) ?_
          walk_at "wp"
          refine ⟨rfl, ?_⟩
          rw [e, List.map_append]
          rfl
        · have e : bgIf f sn pre (mach f d) = [] := by
            unfold bgIf
            rw [hp, if_neg (fun h => of_decide_eq_false z (Option.some.inj h))]
          refine bl_next ⟨rfl, ?_⟩
          rw [e, List.append_nil]
          rfl
      rintro ρ m3 ⟨em, rfl⟩
      subst em
      have hbl : (bgIf f sn pre (mach f d)).length ≤ 1 := by unfold bgIf; split <;> simp
      refine bl_seq (bl_append (j := 4) rfl (by rw [List.length_map, List.length_append]; show _ < 100000; omega) ?_)
      walk_at "wp"
      refine bl_setL (j := 5) rfl ?_
      walk_at "wp"
      refine wIxL (atI_map (cnts_get hm)) ?_
      walk_at "wp"
      refine ⟨_, mach f d, rfl, by rw [List.length_map, cnts_len]; exact ixN_nat hm, ?_⟩
      have e1 : ((cnts f pre).map T.int).set (mach f d) (T.int ((cnt f pre (mach f d) : Nat) + 1)) = (cnts f (pre ++ [d])).map T.int := by
        rw [← cnts_snoc, List.map_set]
      have e2 : (w ++ bgIf f sn pre (mach f d)).map eW ++ [eD d] = (w ++ (bgIf f sn pre (mach f d) ++ [Wd.dd d])).map eW := by
        simp [eW]
      rw [e1, e2]
      refine ⟨rfl, (pre ++ [d], _), rfl, rfl, by dsimp only; rw [h1, List.take_add_one, hv]; rfl, ?_⟩
      dsimp only
      rw [wayFrom_take f sn es i d hv, h2, h1]
    · subst em
      obtain ⟨pre, w⟩ := q
      dsimp only at h1 h2
      rw [List.take_length] at h1 h2
      subst h1
      have hwl : w.length ≤ 2 * 1000 := by
        rw [h2]
        have := wayFrom_len f sn pre []
        omega
      have hwe := wayEnd_len f sn pre
      walk_at "wp"
      refine ev_lcF (fun i : Nat => T.int (i : Nat)) (fun i => decide (sn[i]? = some (some ((cnt f pre i : Nat) : Int)))) (fun i => eW (.bg i)) (ei_rngN ?_)
      walk_at "wp"
      refine ⟨by rw [List.length_map]; omega, List.range sn.length, by rw [List.length_map], fun x hx => ?_, fun c => ?_⟩
      · have hx' := List.mem_range.mp hx
        obtain ⟨p, hp⟩ := sn_get hx'
        walk_at "wp"
        refine ⟨?_, fun _ => ?_⟩
        · walk_at "wp"
          refine wIxT (atI_map hp) ?_
          walk_at "wp"
          refine wIxL (atI_map (cnts_get (show x < f.rules.length by omega))) ?_
          refine wEqP ?_
          walk_at "wp"
          refine ⟨?_, rfl⟩
          rw [hp]
          simp
        · walk_at "wp"
          exact ⟨rfl, rfl⟩
      · have e : w.map eW ++ ((List.range sn.length).filter fun i => decide (sn[i]? = some (some ((cnt f pre i : Nat) : Int)))).map (fun i => eW (.bg i)) = (way f pre sn).map eW := by
          unfold way wayEnd
          rw [List.map_append, List.map_map, h2]
          rfl
        refine wAddL ?_ ?_
        · rw [e, List.length_map]
          unfold way
          rw [List.length_append, ← h2]
          show _ ≤ 100000
          omega
        · rw [e]
          exact k
end CK
/-! part CkX -/
set_option Elab.async false
set_option linter.all false
set_option maxRecDepth 100000
set_option maxHeartbeats 2000000
/-! The layer CK, part X: the class NoTaking, its exceptions. -/
namespace CK
open PySem PySem.Spec PyProof.Rows L2
section
open PySem.W
variable {prog : Program} {w : World} {A : Around} {K : Frag} {name : Str} {s : Shared} {E : Value → Shared → Prop}
/-- a class's method by its name, of a class of the program -/
theorem method_own {C : Addr} {v : Value} {pl : Sem Bool} {Q : Value × List Value → Shared → Prop} (X : K.In s.heap) (hr : readsIn K C (.type "type") = true) (e : findCls K (.ref C) (.type "type") name = some (.val v)) (hh : handedIn v = true)
    (h : Q (v, []) { s with toks := s.toks + 1 }) : wpAny (model prog w) A (getMethod (.ref C) name pl) Q E s := by
  have hr' := hr
  simp only [readsIn, Bool.and_eq_true, beq_iff_eq] at hr'
  obtain ⟨⟨⟨⟨a, b⟩, c'⟩, d⟩, f⟩ := hr'
  have L0 : Looks (model prog w) s.heap (typeOf (.ref C)) (.type "type") := looks_typeIn X b
  unfold getMethod specialOf
  refine wpAny_bind (wpAny_bind (L0.here ((looks_findIn X c').here ?_)))
  dsimp only
  rw [if_pos canon_tga]
  refine wpAny_bind (wpAny_mono (Q := fun v => Q (v, [])) (E := E) ?_ (fun _ _ z => wpAny_pure z) fun _ _ z => z)
  exact cls_value X hr e hh h
end
section
variable {X : Cx} {e : Expr} {es : List Expr} {ta : TA} {p1 p2 pos : Pos}
/-- CutError.__init__(self, ..): the base's own -/
theorem pe_ceinit {pl : Sem Bool} {x : Str} {C0 : Addr} (hg : Gl X x) (hm : X.mg x = some (.ref C0)) (hr : PySem.W.readsIn X.K C0 (.type "type") = true) (vV : PySem.W.findCls X.K (.ref C0) (.type "type") "__init__" = some (.val (.builtin "ValueError.__init__"))) (ha : PA X (e :: es) ta)
    (hc : eval (.Call (.Attribute (.Name x p1) "__init__" p2) (e :: es) [] pos) X.env = (do
      let ov ← eval (.Name x p1) X.env
      standAt p2.atName
      let (f, first) ← holding [ov] (getMethod ov "__init__" pl)
      callWith pos f first (backTo pos (starEach (e :: es) X.env)) (backToKw pos (keywordEach [] X.env))) := by rfl)
    (hdb : (x == ("__debug__" : Str)) = false := by decide) (he : starEach (e :: es) X.env = (false, eval e X.env) :: starEach es X.env := by rfl) (hpl : (backTo pos (starEach es X.env)).any (·.1) = false := by rfl) :
    PE X (.Call (.Attribute (.Name x p1) "__init__" p2) (e :: es) [] pos) (tVeI X.K ta) := by
  refine ⟨fun pins s σ H Q I h => ?_⟩
  refine PySem.W.methodCall_KW (ld_glob I hg hm ?_ hdb) hc
  refine method_own I.kIn hr vV (by decide +kernel) ?_
  show wpAny _ _ (callWith pos (Value.builtin "ValueError.__init__") [] (backTo pos (starEach (e :: es) X.env)) []) _ _ _
  refine PyProof.Rows.callWith_method1 (thn (ha.run pos pins _ σ H _ (I.tok _) h) fun us s1 ⟨vs, H1, I1, r1, a, C, ws, ev, hl, T, ea, q⟩ => ?_) he hpl
  subst ev
  cases r1 with
  | @cons _ u0 _ ur ra rw' =>
    obtain rfl : u0 = Value.ref a := ra
    have hlen : ur.length ≤ sizeLine := by
      rw [← Paired.length rw', sizeLine_eq]
      omega
    exact oinit_ok T I1 ea hlen fun s' J => ⟨.non, H1, J, rfl, q⟩
end
abbrev N_ini : List Str := ["self", "word", "number"]
theorem sc_ini : FnScope N_ini N_ini (defScope sIni) := ⟨rfl, rfl, rfl, by decide +kernel, rfl, by decide +kernel, by decide +kernel⟩
/-- what the written part says of the class NoTaking -/
structure NtF (K : PySem.W.Frag) (mg : Str → Option Value) (C : Addr) : Prop where
  T : OexC K C
  gm : mg "NoTaking" = some (.ref C)
  fw : PySem.W.findIn K (.ref C) "word" = some none
  fn : PySem.W.findIn K (.ref C) "number" = some none
  ini : ∃ fI fd, PySem.W.findIn K (.ref C) "__init__" = some (some (.ref fI)) ∧ PySem.W.typeIn K (.ref fI) = some (.type "function") ∧ Fun K "__init__" "NoTaking.__init__" sIni fI fd
  cut : ∃ C0, mg "CutError" = some (.ref C0) ∧ PySem.W.readsIn K C0 (.type "type") = true ∧ PySem.W.findCls K (.ref C0) (.type "type") "__init__" = some (.val (.builtin "ValueError.__init__"))
theorem ini_ok {P : Program} {w : World} {K : PySem.W.Frag} {mg : Str → Option Value} {base : Heap} {C fI : Addr} {fd : FuncData} (Z : NtF K mg C) (F : Fun K "__init__" "NoTaking.__init__" sIni fI fd) : FnOk P w K mg base CX0 1 fI fd N_ini (spIni C) := by
  obtain ⟨C0, g0, r0, c0⟩ := Z.cut
  refine F.ok (k := 0) sc_ini (fun vs H Q E ⟨a, w, k, e, _⟩ => by rw [e]; rfl) fun cdv A outer s H vs Q E hr h => ?_
  have nd := sc_ini.nd
  apply Exists.intro
  apply And.intro
  · exact (pss_cons (ps_expr (pe_ceinit (by rfl) g0 r0 c0 (pa_cons (pv 0) (pa_cons pe_str pa_nil)))) (pss_cons (ps_ost (pv 0) (pv 1)) (pss_one (ps_ost (pv 0) (pv 2)))))
  · obtain ⟨a, w, k, rfl, ha, q⟩ := h
    refine ⟨_, rfl, ⟨a, C, [.str "no taking"], rfl, by show 1 ≤ 1000; omega, Z.T, ha, ?_⟩⟩
    refine ⟨_, rfl, _, rfl, a, C, rfl, Z.T, Z.fw, .inl ⟨ha, fun dx hdx hne => ?_⟩⟩
    refine ⟨_, rfl, _, rfl, a, C, rfl, Z.T, Z.fn, .inr ⟨dx, [(("word" : Str), w)], upd_same, by rw [upd_ne hne]; exact upd_same, by show 1 ≤ 900; omega, q dx hdx hne⟩⟩
theorem pmk_nt {X : Cx} {C : Addr} {k : Nat} {e : Expr} {es : List Expr} {ta : TA} {p pos : Pos} (Z : NtF X.K X.mg C) (hr : Room k X.A) (ha : PA X (e :: es) ta) (hk : 2 ≤ k := by decide) (hg : Gl X "NoTaking" := by rfl)
    (he : starEach (e :: es) X.env = (false, eval e X.env) :: starEach es X.env := by rfl) (hpl : (backTo pos (starEach es X.env)).any (·.1) = false := by rfl) : PMk X (.Call (.Name "NoTaking" p) (e :: es) [] pos) (tMkO C (spIni C) [] ta) := by
  obtain ⟨fI, fd, h1, h2, F⟩ := Z.ini
  have bn : Binds X.K fd N_ini [] := F.binds fun _ _ _ _ _ _ us hl => match us, hl with | [_, _, _], _ => rfl
  exact pmk_oex Z.T h1 h2 (ini_ok (P := X.prog) (w := X.w) (base := X.base) Z F) (hr.mono hk) bn .nil (fun _ _ _ _ _ _ _ h => h.elim) hg Z.gm ha (by decide) he hpl
end CK
/-! part M7 -/
set_option Elab.async false
set_option linter.all false
set_option maxRecDepth 100000
set_option maxHeartbeats 1000000
/-! The plain model, part 7: right takings. -/
namespace CK
open PySem PySem.Spec PyProof.Rows L2
theorem runs_snoc {f : Fm} : ∀ {es : List Dd} {s : Sd} {d : Dd}, Runs f s (es ++ [d]) ↔ Runs f s es ∧ DOk f d ∧ can f (walk f s es) d = true
  | [], s, d => by
    show (DOk f d ∧ can f s d = true ∧ True) ↔ True ∧ _
    simp [walk]
  | x :: es, s, d => by
    show (DOk f x ∧ can f s x = true ∧ Runs f (step f s x) (es ++ [d])) ↔ (DOk f x ∧ can f s x = true ∧ Runs f (step f s x) es) ∧ _
    rw [runs_snoc (es := es)]
    show _ ↔ _ ∧ DOk f d ∧ can f (walk f (step f s x) es) d = true
    constructor
    · rintro ⟨a, b, c, d⟩; exact ⟨⟨a, b, c⟩, d⟩
    · rintro ⟨⟨a, b, c⟩, d⟩; exact ⟨a, b, c, d⟩
theorem runs_cut {f : Fm} : ∀ {es : List Dd} {s : Sd} (i : Nat), Runs f s es → Runs f s (es.take i)
  | [], s, i, h => by simpa using h
  | x :: es, s, 0, h => trivial
  | x :: es, s, i + 1, h => ⟨h.1, h.2.1, runs_cut i h.2.2⟩
theorem eD_map_inj : ∀ {xs ys : List Dd}, xs.map eD = ys.map eD → xs = ys
  | [], [], _ => rfl
  | [], _ :: _, h => by cases h
  | _ :: _, [], h => by cases h
  | x :: xs, y :: ys, h => by
    simp only [List.map_cons, List.cons.injEq] at h
    rw [eD_inj h.1, eD_map_inj h.2]
def SeenOk (f : Fm) (es : List Dd) (sn : List (Option Int)) : Prop := ∀ (m : Nat) (p : Int), sn[m]? = some (some p) → 0 ≤ p ∧ p ≤ ((cnt f es m : Nat) : Int)
def DarkOk (f : Fm) (s : Sd) (es : List Dd) (sn : List (Option Int)) : Prop := ∀ (i r : Nat) (m : Int), es[i]? = some (.come r m) → dark f s es sn r m = true → ∃ p : Int, sn[mach f (.come r m)]? = some (some p) ∧ p ≤ ((cnt f (es.take i) (mach f (.come r m)) : Nat) : Int)
structure Right (f : Fm) (s : Sd) (es : List Dd) (sn : List (Option Int)) : Prop where
  base : rightStand f (eS s) = true
  len : sn.length = f.rules.length
  run : Runs f s es
  seen : SeenOk f es sn
  dark : DarkOk f s es sn
/-! ### right stands are stands -/
theorem isLetter_dec {w : List T} {s : Int} (h : (w.all fun d => isLetter d s) = true) : ∃ l : List (Int × Str), w = l.map eLt ∧ (∀ x ∈ l, 0 ≤ x.1 ∧ x.1 < s) ∧ w.map numOf = l.map (·.1) := by
  induction w with
  | nil => exact ⟨[], rfl, by simp, rfl⟩
  | cons d w ih =>
    rw [List.all_cons, Bool.and_eq_true] at h
    obtain ⟨l, rfl, h1, h2⟩ := ih h.2
    obtain ⟨i, x, rfl, a, b, c⟩ := isLetter_num h.1
    refine ⟨(i, x) :: l, rfl, fun y hy => ?_, by simp only [List.map_cons, h2]; rfl⟩
    rcases List.mem_cons.mp hy with rfl | hy
    · exact ⟨a, b⟩
    · exact h1 y hy
theorem upI_lt : ∀ {l : List Int} {a : Int}, upI (a :: l) = true → (∀ x ∈ l, a < x) ∧ upI l = true
  | [], a, _ => ⟨by simp, rfl⟩
  | b :: l, a, h => by
    unfold upI at h
    rw [Bool.and_eq_true, decide_eq_true_eq] at h
    obtain ⟨h1, h2⟩ := h
    have := (upI_lt h2).1
    refine ⟨fun x hx => ?_, h2⟩
    rcases List.mem_cons.mp hx with rfl | hx
    · exact h1
    · have := this x hx
      omega
theorem upI_nodup : ∀ {l : List Int}, upI l = true → l.Nodup
  | [], _ => List.nodup_nil
  | a :: l, h => by
    have := upI_lt h
    exact List.nodup_cons.mpr ⟨fun hm => by have := this.1 a hm; omega, upI_nodup this.2⟩
theorem rgI_nodup (a b : Int) : (rgI a b).Nodup := by
  unfold rgI
  refine List.Pairwise.map _ (fun x y h => ?_) (List.nodup_range)
  intro z
  exact h (by omega)
theorem isLoad_dec {d : T} {o : Str} (h : isLoad d o = true) (md : d.mild) (nb : d.nb) : ∃ l : Ld, d = eLd l ∧ LOk 16 l := by
  match d, h, md, nb with
  | .tup [.int s, .tup w], h, md, nb =>
    have h0 : 0 ≤ s := by
      by_cases z : 0 ≤ s
      · exact z
      · simp [isLoad, z] at h
    rw [isLoad_w h0, Bool.and_eq_true] at h
    obtain ⟨l, rfl, h1, h2⟩ := isLetter_dec h.1
    have hl : (l.map eLt).length ≤ 16 := (md.all _ (by simp)).len16
    rw [List.length_map] at hl
    refine ⟨⟨s, l⟩, rfl, h0, fun x hx => (h1 x hx).2, ?_, hl, by have := nb _ _ rfl; show s < _; omega⟩
    rw [h2] at h
    have h3 := h.2
    split at h3
    · have := of_decide_eq_true h3
      show (l.map (·.1)).Nodup
      rw [this]
      exact rgI_nodup _ _
    · exact upI_nodup h3
  | .tup [.non, _], h, _, _ | .tup [.bl _, _], h, _, _ | .tup [.str _, _], h, _, _ | .tup [.tup _, _], h, _, _ | .tup [.lst, _], h, _, _ => cases h
  | .tup [.int _, .non], h, _, _ | .tup [.int _, .bl _], h, _, _ | .tup [.int _, .int _], h, _, _ | .tup [.int _, .str _], h, _, _ | .tup [.int _, .lst], h, _, _ => cases h
  | .tup (a :: b :: c :: l), h, _, _ => cases a <;> first | cases h | (cases b <;> cases h)
  | .tup [a], h, _, _ => cases a <;> cases h
  | .tup [], h, _, _ | .non, h, _, _ | .bl _, h, _, _ | .int _, h, _, _ | .str _, h, _, _ | .lst, h, _, _ => cases h
theorem ints_dec {ss : List T} {a b : Int} (h : (ss.all fun d => isWithin d a b) = true) : ∃ l : List Int, ss = l.map T.int := by
  induction ss with
  | nil => exact ⟨[], rfl⟩
  | cons d ss ih =>
    rw [List.all_cons, Bool.and_eq_true] at h
    obtain ⟨l, rfl⟩ := ih h.2
    cases d with
    | int i => exact ⟨i :: l, rfl⟩
    | _ => cases h.1
theorem loads_dec : ∀ {ls : List T} {qs : List Rd}, ls.length = qs.length → ((ls.zip qs).all fun p => isLoad p.1 p.2.kind) = true → (∀ d ∈ ls, d.mild) → (∀ d ∈ ls, d.nb) → ∃ l : List Ld, ls = l.map eLd ∧ ∀ (i : Nat) x, l[i]? = some x → LOk 16 x
  | [], [], _, _, _, _ => ⟨[], rfl, by simp⟩
  | d :: ls, q :: qs, e, h, md, nb => by
    rw [List.zip_cons_cons, List.all_cons, Bool.and_eq_true] at h
    obtain ⟨l, rfl, h1⟩ := loads_dec (by simpa using e) h.2 (fun d hd => md d (List.mem_cons_of_mem _ hd)) (fun d hd => nb d (List.mem_cons_of_mem _ hd))
    obtain ⟨x, rfl, h2⟩ := isLoad_dec h.1 (md _ List.mem_cons_self) (nb _ List.mem_cons_self)
    refine ⟨x :: l, rfl, fun i y hy => ?_⟩
    cases i with
    | zero => simp at hy; subst hy; exact h2
    | succ i => exact h1 i y (by simpa using hy)
theorem rightStand_dec {f : Fm} {d : T} (h : rightStand f d = true) (md : d.mild) (sb : d.sb) : ∃ s : Sd, d = eS s ∧ SOk f s 16 := by
  match d, h, md, sb with
  | .tup [.tup ss, .tup ls], h, md, sb =>
    have h' : (decide (ss.length = f.rules.length) && (decide (ls.length = f.roads.length) && ((ss.all fun d => isWithin d 0 99) && (ls.zip f.roads).all fun p => isLoad p.1 p.2.kind))) = true := h
    simp only [Bool.and_eq_true, decide_eq_true_eq] at h'
    obtain ⟨h1, h2, h3, h4⟩ := h'
    obtain ⟨l, rfl⟩ := ints_dec h3
    obtain ⟨k, rfl, h5⟩ := loads_dec h2 h4 (md.all (.tup ls) (by simp)).all (sb _ _ rfl)
    rw [List.length_map] at h1 h2
    exact ⟨⟨l, k⟩, rfl, h1, h2, h5⟩
  | .tup [.tup _, .non], h, _, _ | .tup [.tup _, .bl _], h, _, _ | .tup [.tup _, .str _], h, _, _ | .tup [.tup _, .int _], h, _, _ | .tup [.tup _, .lst], h, _, _ => cases h
  | .tup [.non, _], h, _, _ | .tup [.bl _, _], h, _, _ | .tup [.str _, _], h, _, _ | .tup [.int _, _], h, _, _ | .tup [.lst, _], h, _, _ => cases h
  | .tup (a :: b :: c :: l), h, _, _ => cases a <;> first | cases h | (cases b <;> cases h)
  | .tup [a], h, _, _ => cases a <;> cases h
  | .tup [], h, _, _ | .non, h, _, _ | .bl _, h, _, _ | .int _, h, _, _ | .str _, h, _, _ | .lst, h, _, _ => cases h
theorem seen_dec {ds : List T} (h : (ds.all fun d => d.isNon || isWhole d) = true) : ∃ sn : List (Option Int), ds = sn.map eP := by
  induction ds with
  | nil => exact ⟨[], rfl⟩
  | cons d ds ih =>
    rw [List.all_cons, Bool.and_eq_true] at h
    obtain ⟨l, rfl⟩ := ih h.2
    cases d with
    | int i => exact ⟨some i :: l, rfl⟩
    | non => exact ⟨none :: l, rfl⟩
    | _ => cases h.1
theorem areSeen_dec {f : Fm} {d : T} (h : areSeen f d = true) : ∃ sn : List (Option Int), d = .tup (sn.map eP) ∧ sn.length = f.rules.length := by
  cases d with
  | tup ds =>
    unfold areSeen at h
    rw [Bool.and_eq_true, decide_eq_true_eq] at h
    obtain ⟨sn, rfl⟩ := seen_dec h.2
    exact ⟨sn, rfl, by rw [← h.1, List.length_map]⟩
  | _ => cases h
theorem areSeen_enc {f : Fm} {sn : List (Option Int)} (h : sn.length = f.rules.length) : areSeen f (.tup (sn.map eP)) = true := by
  unfold areSeen
  rw [Bool.and_eq_true, decide_eq_true_eq, List.length_map]
  refine ⟨h, ?_⟩
  rw [List.all_eq_true]
  intro d hd
  obtain ⟨p, _, rfl⟩ := List.mem_map.mp hd
  cases p <;> rfl
theorem eP_inj {p q : Option Int} (h : eP p = eP q) : p = q := by
  cases p <;> cases q <;> simp [eP] at h ⊢
  exact h
theorem eP_map_inj : ∀ {xs ys : List (Option Int)}, xs.map eP = ys.map eP → xs = ys
  | [], [], _ => rfl
  | [], _ :: _, h => by cases h
  | _ :: _, [], h => by cases h
  | x :: xs, y :: ys, h => by
    simp only [List.map_cons, List.cons.injEq] at h
    rw [eP_inj h.1, eP_map_inj h.2]
theorem int_map_inj : ∀ {xs ys : List Int}, xs.map T.int = ys.map T.int → xs = ys
  | [], [], _ => rfl
  | [], _ :: _, h => by cases h
  | _ :: _, [], h => by cases h
  | x :: xs, y :: ys, h => by
    simp only [List.map_cons, List.cons.injEq, T.int.injEq] at h
    rw [h.1, int_map_inj h.2]
theorem eLt_map_inj : ∀ {xs ys : List (Int × Str)}, xs.map eLt = ys.map eLt → xs = ys
  | [], [], _ => rfl
  | [], _ :: _, h => by cases h
  | _ :: _, [], h => by cases h
  | (x, c) :: xs, (y, e) :: ys, h => by
    simp only [List.map_cons, List.cons.injEq, T.tup.injEq, T.int.injEq, T.str.injEq, and_true] at h
    obtain ⟨⟨rfl, rfl⟩, h2⟩ := h
    rw [eLt_map_inj h2]
theorem eLd_map_inj : ∀ {xs ys : List Ld}, xs.map eLd = ys.map eLd → xs = ys
  | [], [], _ => rfl
  | [], _ :: _, h => by cases h
  | _ :: _, [], h => by cases h
  | ⟨x, c⟩ :: xs, ⟨y, e⟩ :: ys, h => by
    simp only [List.map_cons, List.cons.injEq, T.tup.injEq, T.int.injEq, and_true] at h
    obtain ⟨⟨rfl, h1⟩, h2⟩ := h
    rw [eLd_map_inj h2, eLt_map_inj h1]
theorem eS_inj {s t : Sd} (h : eS s = eS t) : s = t := by
  obtain ⟨a, b⟩ := s
  obtain ⟨c, d⟩ := t
  simp only [T.tup.injEq, List.cons.injEq, and_true] at h
  rw [int_map_inj h.1, eLd_map_inj h.2]
theorem eTk_inj {s t : Sd} {es ds : List Dd} {sn tn : List (Option Int)} (h : eTk s es sn = eTk t ds tn) : s = t ∧ es = ds ∧ sn = tn := by
  have h' : [eS s, T.tup (es.map eD), T.tup (sn.map eP)] = [eS t, T.tup (ds.map eD), T.tup (tn.map eP)] := by
    have := h
    simp only [T.tup.injEq] at this
    simpa using this
  simp only [List.cons.injEq, and_true] at h'
  obtain ⟨h1, h2, h3⟩ := h'
  exact ⟨eS_inj h1, eD_map_inj (T.tup.inj h2), eP_map_inj (T.tup.inj h3)⟩
end CK
/-! part D9 -/
set_option Elab.async false
set_option linter.all false
set_option maxRecDepth 100000
set_option maxHeartbeats 2000000
/-! Defs that raise. -/
namespace CK
open PySem PySem.Spec PyProof.Rows L2
local macro_rules | `(tactic| walk_at "wp0") => `(tactic| first
  | ((with_reducible refine bl_retL (a := ?va) (ds := ?vd) ?vh ?_); (case vh => exact rfl))
  | ((with_reducible refine bl_retD (a := ?va) (ds := ?vd) ?vh ?_); (case vh => exact rfl))
  | (with_reducible refine bl_ret ?_)
  | (with_reducible refine bl_if ?_)
  | (with_reducible refine bl_asg ?_)
  | (with_reducible refine bl_asgP ?_)
  | (with_reducible refine bl_next ?_)
  | (with_reducible refine et_test ?_)
  | (with_reducible refine et_B ?_)
  | (with_reducible refine et_and ?_)
  | (with_reducible refine et_or ?_)
  | (with_reducible refine et_not ?_)
  | (with_reducible refine et_yes ?_)
  | ((with_reducible refine ev_varT (d := ?vd) ?vh ?_); (case vh => exact rfl))
  | ((with_reducible refine ev_varL (a := ?va) (ds := ?vd) (o := ?vo) ?vh ?_); (case vh => exact rfl))
  | ((with_reducible refine ev_varD (a := ?va) (kvs := ?vd) (o := ?vo) ?vh ?_); (case vh => exact rfl))
  | ((with_reducible refine ev_varP ?vh ?_); (case vh => exact rfl))
  | (with_reducible refine ev_int ?_)
  | (with_reducible refine ev_str ?_)
  | (with_reducible refine ev_bl ?_)
  | (with_reducible refine ev_non ?_)
  | (with_reducible refine ev_ty ?_)
  | (with_reducible refine ev_op ro_ix ?_)
  | (with_reducible refine ev_op ro_eq ?_)
  | (with_reducible refine ev_op ro_is ?_)
  | (with_reducible refine ev_op ro_cmp ?_)
  | (with_reducible refine ev_op ro_add ?_)
  | (with_reducible refine ev_op ro_sub ?_)
  | (with_reducible refine ev_op ro_mul ?_)
  | (with_reducible refine ev_op ro_mod ?_)
  | (with_reducible refine ev_op ro_div ?_)
  | (with_reducible refine ev_op ro_pow ?_)
  | (with_reducible refine ev_op ro_in ?_)
  | (with_reducible refine ev_neg ?_)
  | (with_reducible refine ev_cb rc_len ?_)
  | (with_reducible refine ev_cb rc_isi ?_)
  | (with_reducible refine ev_cb rc_all ?_)
  | (with_reducible refine ev_cb rc_list ?_)
  | (with_reducible refine ev_cb rc_tuple ?_)
  | (with_reducible refine ev_cb rc_int ?_)
  | (with_reducible refine ev_cb rc_max ?_)
  | (with_reducible refine ea_cons ?_)
  | (with_reducible refine ea_nil ?_)
  | (with_reducible refine ev_tup ?_)
  | (with_reducible refine ev_lst ?_)
  | (with_reducible refine ev_sl ?_)
  | (with_reducible refine eo_none ?_)
  | (with_reducible refine eo_some ?_)
  | (with_reducible refine ev_dget ?_)
  | (with_reducible refine ev_dnew ?_)
  | (with_reducible refine ev_if ?_)
  | (with_reducible refine ev_and ?_)
  | (with_reducible refine ev_or ?_)
  | (with_reducible refine ev_not ?_)
  | (with_reducible refine ev_chain ro_cmp ro_cmp ?_)
  | (with_reducible refine ev_call ?_)
  | (with_reducible refine ev_lrg2 ?_)
  | (with_reducible refine wAddI ?_)
  | (with_reducible refine wSub ?_)
  | (with_reducible refine wEqI ?_)
  | (with_reducible refine wEqS ?_)
  | (with_reducible refine wNeI ?_)
  | (with_reducible refine wNeS ?_)
  | (with_reducible refine wCmp ?_)
  | (with_reducible refine wLenT ?_)
  | (with_reducible refine wLenL ?_)
  | (with_reducible refine wTupT ?_)
  | (with_reducible refine wTupL ?_)
  | (with_reducible refine wIsN ?_)
  | (with_reducible refine wNotN ?_)
  | (with_reducible refine wIsB ?_)
  | (with_reducible refine wInt ?_)
  | (with_reducible refine wMax ?_)
  | (with_reducible refine wListT ?_; intro _)
  | (with_reducible refine wListL ?_; intro _)
  | (with_reducible refine wSlT ?_)
  | ((with_reducible refine wIxT (d := ?vd) ?vh ?_); (case vh => exact rfl))
  | (refine wIxT atI_c0 ?_)
  | (refine wIxT atI_c1 ?_)
  | (refine wIxT atI_c2 ?_)
  | ((with_reducible refine wIxL (d := ?vd) ?vh ?_); (case vh => exact rfl))
  | ((with_reducible refine wIsi (b := ?vd) ?vh ?_); (case vh => exact rfl))
  | ((with_reducible refine wIsiL (b := ?vd) ?vh ?_); (case vh => exact rfl))
  | (with_reducible refine tg_tup rfl ?_)
  | (with_reducible refine tgs_cons ?_)
  | (with_reducible refine tgs_nil ?_)
  | ((with_reducible refine tg_name ?vh ?_); (case vh => decide))
  | (with_reducible refine ⟨_, rfl, ?_⟩)
  | (with_reducible refine ⟨_, _, rfl, ?_⟩)
  | (with_reducible refine ⟨_, _, rfl, rfl, ?_⟩)
  | (with_reducible refine ⟨_, _, _, rfl, ?_⟩)
  | (refine And.intro (show List.length _ ≤ lim from Nat.le_of_ble_eq_true rfl) ?_)
  | (with_reducible refine seqK_nx ?_)
  | (with_reducible refine seqK_rt ?_)
  | (with_reducible refine seqK_ex ?_)
  | fail "wp0: no step")
local macro_rules | `(tactic| walk_at "wp1") => `(tactic| first | (with_reducible refine bl_seq ?_) | walk_at "wp0")
local macro_rules | `(tactic| walk_at "wps") => `(tactic| repeat (walk_at "wp0"))
local macro_rules | `(tactic| walk_at "wp") => `(tactic| repeat (walk_at "wp1"))
abbrev F_asked_deeds : PFX := fun xs n K KE => ∃ (f : Fm) (s : Sd) (ds : List T) (b : Nat), xs = [.t (eF f), .t (eS s), .t (.tup ds)] ∧ FOk f ∧ SOk f s b ∧ b + 3 * ds.length ≤ 8000 ∧ (∀ d ∈ ds, d.mild) ∧ (∀ es, ds = es.map eD → Runs f s es → K (.t .non) n) ∧ ((¬ ∃ es, ds = es.map eD ∧ Runs f s es) → KE n)
theorem len_asked_deeds : ∀ xs n K KE, F_asked_deeds xs n K KE → xs.length = 3 := fun _ _ _ _ ⟨_, _, _, _, e, _⟩ => by rw [e]; rfl
theorem enum_idx (ds : List T) : enumT ds = ds.zipIdx.map fun p => T.tup [.int (p.2 : Nat), p.1] := enum_get ds
abbrev N_asked_deeds : List Str := ["form", "base", "deeds", "now", "number", "deed"]
theorem sc_asked_deeds : FnScope N_asked_deeds ["form", "base", "deeds"] (defScope s_asked_deeds) := ⟨rfl, rfl, rfl, by decide +kernel, rfl, by decide +kernel, by decide +kernel⟩
theorem cal_asked_deeds {P : Program} {w : World} {K : PySem.W.Frag} {mg : Str → Option Value} {base : Heap} {f C : Addr} {fd : FuncData} (B : Bi mg) (Z : NtF K mg C) (c_can : Cal P w K mg base "can" 4 ["form", "stand", "thing"] (spU F_can)) (c_done : Cal P w K mg base "done" 5 ["form", "stand", "deed"] (spU F_done)) (F : Fun K "asked_deeds" "asked_deeds" s_asked_deeds f fd) (gm : mg "asked_deeds" = some (.ref f)) : CalX P w K mg base "asked_deeds" 6 ["form", "base", "deeds"] (spX C F_asked_deeds) := by
  have bn : Binds K fd ["form", "base", "deeds"] [] := F.binds fun _ _ _ _ _ _ us hl => match us, hl with | [_, _, _], _ => rfl
  refine mk_calX (k := 5) F gm bn sc_asked_deeds rfl len_asked_deeds fun cdv A outer s H E hr => ?_
  have nd := (sc_asked_deeds).nd
  apply Exists.intro
  apply And.intro
  · exact (pss_cons (ps_set (i := 3) nd rfl (Or.inl rfl) (pv 1))
    (pss_one (ps_for (passes_of rfl) rfl (pi_enumT (by rfl) B.enumerate (pa_cons (pv 2) pa_nil)) (pg_tup rfl (pgs_cons (pg_name (i := 4) nd rfl (Or.inl rfl)) (pgs_cons (pg_name (i := 5) nd rfl (Or.inl rfl)) pgs_nil)))
      (pss_cons (ps_if (pt_not (pt_val (pe_cal c_can hr (by rfl) (pa_cons (pv 0) (pa_cons (pv 3) (pa_cons (pv 5) pa_nil)))))) (pss_one (ps_raise rfl (takes_of rfl rfl rfl rfl) (pmk_nt Z hr (pa_cons pe_str (pa_cons (pv 4) pa_nil))))) pss_nil)
    (pss_one (ps_set (i := 3) nd rfl (Or.inl rfl) (pe_ix (ix_K (K := K)) (pe_cal c_done hr (by rfl) (pa_cons (pv 0) (pa_cons (pv 3) (pa_cons (pv 5) pa_nil)))) pe_int (fun _ _ => rfl))))))))
  · rintro xs n Kx KE ⟨f, s, ds, b, rfl, hf, hs, hb, md, k, ke⟩
    refine bl_seq ?_
    walk_at "wps"
    refine bl_forS (α := T × Nat) [4, 5] (fun p => T.tup [.int (p.2 : Nat), p.1]) (fun q : Sd => [some (.t (eF f)), some (.t (eS s)), some (.t (.tup ds)), some (.t (eS q)), none, none]) (fun i q m' => m' = n ∧ ∃ es, ds.take i = es.map eD ∧ Runs f s es ∧ q = walk f s es) (ei_enum ?_)
    walk_at "wp"
    intro g
    refine ⟨ds.zipIdx, s, enum_idx ds, rfl, ⟨rfl, [], rfl, trivial, rfl⟩, fun p hp => List.mem_cons_of_mem _ hp, fun i v q m' hv ⟨em, es, h1, h2, h3⟩ => ?_, fun q m' ⟨em, es, h1, h2, h3⟩ => ?_⟩
    · subst em h3
      obtain ⟨d, i'⟩ := v
      obtain ⟨hv, rfl⟩ := zipIdx_get hv
      have hi := (List.getElem?_eq_some_iff.mp hv).1
      have hel : es.length = i' := by
        have := congrArg List.length h1
        rw [List.length_take, List.length_map] at this
        omega
      have hs' := walk_ok hf es s b hs
      have hn : ds.take (i' + 1) = es.map eD ++ [d] := by rw [List.take_add_one, hv, h1]; rfl
      -- what is false of d ends it
      have kno : (∀ e, d = eD e → DOk f e → can f (walk f s es) e = false) → KE m' := fun h => by
        refine ke fun ⟨es2, e1, r2⟩ => ?_
        have e2 : es2.take i' = es := by
          have := h1
          rw [e1, ← List.map_take] at this
          exact eD_map_inj this
        have hi2 : i' < es2.length := by rw [e1, List.length_map] at hi; exact hi
        have hd2 := List.getElem?_eq_getElem hi2
        have := runs_take es2 s i' _ r2 hd2
        rw [e2] at this
        have e3 : d = eD (es2[i']'hi2) := by
          rw [e1, List.getElem?_map, hd2] at hv
          exact (Option.some.inj hv).symm
        have z := h _ e3 this.1
        rw [this.2] at z
        cases z
      walk_at "wps"
      refine bl_seqC (fun ρ m3 => m3 = m' ∧ ∃ e, d = eD e ∧ DOk f e ∧ can f (walk f s es) e = true ∧ ρ = ⟨[some (.t (eF f)), some (.t (eS s)), some (.t (.tup ds)), some (.t (eS (walk f s es))), some (.t (.int (i' : Nat))), some (.t d)], [g]⟩) ?_ ?_
      · walk_at "wp"
        refine ⟨f, walk f s es, d, _, rfl, hf, hs', md d (List.mem_of_getElem? hv), fun e he hd => ?_, fun h => ?_⟩
        · cases hc : can f (walk f s es) e with
          | true =>
            walk_at "wp"
            exact ⟨fun z => (by cases z), fun _ => bl_next ⟨rfl, e, he, hd, hc, rfl⟩⟩
          | false =>
            walk_at "wp"
            refine ⟨fun _ => ?_, fun z => (by cases z)⟩
            refine bl_raise ?_
            walk_at "wp"
            refine kno fun e2 he2 _ => ?_
            rw [he] at he2
            cases eD_inj he2
            exact hc
        · walk_at "wp"
          refine ⟨fun _ => ?_, fun z => (by cases z)⟩
          refine bl_raise ?_
          walk_at "wp"
          exact kno fun e2 he2 hd => absurd hd (h e2 he2)
      rintro ρ m3 ⟨em, e, he, hd, hc, rfl⟩
      subst em
      subst he
      walk_at "wp"
      refine ⟨f, walk f s es, e, _, rfl, hf, hs', by omega, hd, eD_mild hd, hc, ?_⟩
      walk_at "wp"
      refine ⟨rfl, walk f s (es ++ [e]), ?_, rfl, es ++ [e], by rw [hn, List.map_append]; rfl, runs_snoc.mpr ⟨h2, hd, hc⟩, rfl⟩
      have ew : walk f s (es ++ [e]) = step f (walk f s es) e := by
        show List.foldl (step f) s (es ++ [e]) = _
        rw [List.foldl_append]
        rfl
      rw [ew]
      rfl
    · subst em h3
      rw [List.length_zipIdx, List.take_length] at h1
      exact k es h1 h2
abbrev F_asked_seen : PFX := fun xs n K KE => ∃ (f : Fm) (es : List Dd) (sn : List (Option Int)), xs = [.t (eF f), .t (.tup (es.map eD)), .t (.tup (sn.map eP))] ∧ FOk f ∧ (∀ e ∈ es, DOk f e) ∧ es.length ≤ 5000 ∧ sn.length = f.rules.length ∧ (SeenOk f es sn → K (.t .non) n) ∧ (¬ SeenOk f es sn → KE n)
theorem len_asked_seen : ∀ xs n K KE, F_asked_seen xs n K KE → xs.length = 3 := fun _ _ _ _ ⟨_, _, _, e, _⟩ => by rw [e]; rfl
abbrev N_asked_seen : List Str := ["form", "deeds", "seen", "ends", "machine"]
theorem sc_asked_seen : FnScope N_asked_seen ["form", "deeds", "seen"] (defScope s_asked_seen) := ⟨rfl, rfl, rfl, by decide +kernel, rfl, by decide +kernel, by decide +kernel⟩
theorem cal_asked_seen {P : Program} {w : World} {K : PySem.W.Frag} {mg : Str → Option Value} {base : Heap} {f C : Addr} {fd : FuncData} (B : Bi mg) (Z : NtF K mg C) (c_ends_of_run : Cal P w K mg base "ends_of_run" 3 ["form", "deeds"] (spU F_ends_of_run)) (F : Fun K "asked_seen" "asked_seen" s_asked_seen f fd) (gm : mg "asked_seen" = some (.ref f)) : CalX P w K mg base "asked_seen" 4 ["form", "deeds", "seen"] (spX C F_asked_seen) := by
  have bn : Binds K fd ["form", "deeds", "seen"] [] := F.binds fun _ _ _ _ _ _ us hl => match us, hl with | [_, _, _], _ => rfl
  refine mk_calX (k := 3) F gm bn sc_asked_seen rfl len_asked_seen fun cdv A outer s H E hr => ?_
  have nd := (sc_asked_seen).nd
  apply Exists.intro
  apply And.intro
  · exact (pss_cons (ps_set (i := 3) nd rfl (Or.inl rfl) (pe_cal c_ends_of_run hr (by rfl) (pa_cons (pv 0) (pa_cons (pv 1) pa_nil))))
    (pss_one (ps_for (passes_of rfl) rfl (pi_range1 (by rfl) B.range (pa_cons (pe_callB (call_lenK (K := K)) (by rfl) B.len bt_len (pa_cons (pv 3) pa_nil)) pa_nil)) (pg_name (i := 4) nd rfl (Or.inl rfl))
      (pss_one (ps_if (PW.pt (pw_and (pt_cmpR op_isnotP (pe_ix (ix_K (K := K)) (pv 2) (pv 4) (fun _ _ => rfl)) pe_non (nomark _)) (pw_and1 (pt_not (pt_chain op_le op_le pe_int (pe_ix (ix_K (K := K)) (pv 2) (pv 4) (fun _ _ => rfl)) (pe_ix (ix_K (K := K)) (pv 3) (pv 4) (fun _ _ => rfl))))))) (pss_one (ps_raise rfl (takes_of rfl rfl rfl rfl) (pmk_nt Z hr (pa_cons pe_str (pa_cons (pv 4) pa_nil))))) pss_nil)))))
  · rintro xs n Kx KE ⟨f, es, sn, rfl, hf, hok, hel, hsn, k, ke⟩
    have hrl := hf.rl
    refine bl_seq ?_
    walk_at "wps"
    refine ⟨hf, hok, hel, ?_⟩
    walk_at "wps"
    refine bl_forS (α := Nat) [4] (fun i => T.int (i : Nat)) (fun _ : Unit => [some (.t (eF f)), some (.t (.tup (es.map eD))), some (.t (.tup (sn.map eP))), some (.t (.tup ((cnts f es).map T.int))), none]) (fun i q m' => m' = n ∧ ∀ (m : Nat) (p : Int), m < i → sn[m]? = some (some p) → 0 ≤ p ∧ p ≤ ((cnt f es m : Nat) : Int)) (ei_rngN ?_)
    walk_at "wp"
    rw [List.length_map, cnts_len]
    refine ⟨by omega, List.range f.rules.length, (), rfl, rfl, ⟨rfl, fun m p z => absurd z (by omega)⟩, fun p hp => hp, fun i v q m' hv ⟨em, h1⟩ => ?_, fun q m' ⟨em, h1⟩ => ?_⟩
    · subst em
      have hi : i < f.rules.length := by have := (List.getElem?_eq_some_iff.mp hv).1; rwa [List.length_range] at this
      rw [List.getElem?_range hi] at hv
      cases hv
      obtain ⟨p, hp⟩ := sn_get (show i < sn.length by omega)
      have kyes : (∀ q, p = some q → 0 ≤ q ∧ q ≤ ((cnt f es i : Nat) : Int)) → (∀ (m : Nat) (p : Int), m < i + 1 → sn[m]? = some (some p) → 0 ≤ p ∧ p ≤ ((cnt f es m : Nat) : Int)) := fun h m q hm hq => by
        by_cases e : m = i
        · subst e
          rw [hp] at hq
          exact h q (Option.some.inj hq)
        · exact h1 m q (by omega) hq
      walk_at "wp"
      refine wIxT (atI_map hp) ?_
      walk_at "wp"
      cases p with
      | none =>
        refine ⟨fun z => (by cases z), fun _ => ?_⟩
        refine ⟨fun z => (by cases z), fun _ => bl_next ?_⟩
        exact ⟨rfl, (), rfl, rfl, kyes fun q z => (by cases z)⟩
      | some q =>
        refine ⟨fun _ => ?_, fun z => (by cases z)⟩
        walk_at "wp"
        refine wIxT (atI_map hp) ?_
        dsimp only [eP]
        walk_at "wp"
        have hno : ¬ (0 ≤ q ∧ q ≤ ((cnt f es i : Nat) : Int)) → KE m' := fun z => ke fun h => z (h i q hp)
        refine ⟨fun h0 => ?_, fun h0 => ?_⟩
        · walk_at "wp"
          refine wIxT (atI_map (cnts_get hi)) ?_
          walk_at "wp"
          refine ⟨fun z => ?_, fun z => ?_⟩
          · refine bl_raise ?_
            walk_at "wp"
            refine hno fun y => ?_
            simp at z
            omega
          · refine bl_next ?_
            refine ⟨rfl, (), rfl, rfl, kyes fun q' e => ?_⟩
            cases e
            simp at z
            exact ⟨of_decide_eq_true h0, z⟩
        · walk_at "wp"
          refine ⟨fun _ => ?_, fun z => (by cases z)⟩
          refine bl_raise ?_
          walk_at "wp"
          exact hno fun y => of_decide_eq_false h0 y.1
    · subst em
      rw [List.length_range] at h1
      exact k fun m p hp => h1 m p (by have := (List.getElem?_eq_some_iff.mp hp).1; omega) hp
abbrev F_asked_dark : PFX := fun xs n K KE => ∃ (f : Fm) (s : Sd) (es : List Dd) (sn : List (Option Int)) (b : Nat), xs = [.t (eF f), .t (eTk s es sn)] ∧ FOk f ∧ SOk f s b ∧ b ≤ 1000 ∧ es.length ≤ 1000 ∧ Runs f s es ∧ sn.length = f.rules.length ∧ (DarkOk f s es sn → K (.t .non) n) ∧ (¬ DarkOk f s es sn → KE n)
theorem len_asked_dark : ∀ xs n K KE, F_asked_dark xs n K KE → xs.length = 2 := fun _ _ _ _ ⟨_, _, _, _, _, e, _⟩ => by rw [e]; rfl
theorem LK.mono {f : Fm} (F : FOk f) {s : Sd} {b : Nat} (S : SOk f s b) {es : List Dd} {j k r : Nat} {n : Int} {v : T} (h : LK f s es j r n v) (hjk : j ≤ k) : LK f s es k r n v := by
  obtain ⟨l0, a, c, d⟩ := h
  have := sentAt_mono F s es (List.getElem?_eq_some_iff.mp a).1 hjk
  exact ⟨l0, a, by omega, d⟩
abbrev N_asked_dark : List Str := ["form", "taking", "deeds", "seen", "events", "number", "deed", "machine", "event"]
theorem sc_asked_dark : FnScope N_asked_dark ["form", "taking"] (defScope s_asked_dark) := ⟨rfl, rfl, rfl, by decide +kernel, rfl, by decide +kernel, by decide +kernel⟩
theorem cal_asked_dark {P : Program} {w : World} {K : PySem.W.Frag} {mg : Str → Option Value} {base : Heap} {f C : Addr} {fd : FuncData} (B : Bi mg) (Z : NtF K mg C) (c_events_of : Cal P w K mg base "events_of" 2 ["form", "deeds"] (spU F_events_of)) (c_is_dark : Cal P w K mg base "is_dark" 8 ["form", "taking", "letter"] (spU F_is_dark)) (F : Fun K "asked_dark" "asked_dark" s_asked_dark f fd) (gm : mg "asked_dark" = some (.ref f)) : CalX P w K mg base "asked_dark" 9 ["form", "taking"] (spX C F_asked_dark) := by
  have bn : Binds K fd ["form", "taking"] [] := F.binds fun _ _ _ _ _ _ us hl => match us, hl with | [_, _], _ => rfl
  refine mk_calX (k := 8) F gm bn sc_asked_dark rfl len_asked_dark fun cdv A outer s H E hr => ?_
  have nd := (sc_asked_dark).nd
  apply Exists.intro
  apply And.intro
  · exact (pss_cons (ps_asg (pe_slice (sl_K (K := K)) (pv 1) (po_some pe_int) po_none) (pg_tup rfl (pgs_cons (pg_name (i := 2) nd rfl (Or.inl rfl)) (pgs_cons (pg_name (i := 3) nd rfl (Or.inl rfl)) pgs_nil))))
    (pss_cons (ps_set (i := 4) nd rfl (Or.inl rfl) (pe_cal c_events_of hr (by rfl) (pa_cons (pv 0) (pa_cons (pv 2) pa_nil))))
    (pss_one (ps_for (passes_of rfl) rfl (pi_enumT (by rfl) B.enumerate (pa_cons (pv 2) pa_nil)) (pg_tup rfl (pgs_cons (pg_name (i := 5) nd rfl (Or.inl rfl)) (pgs_cons (pg_name (i := 6) nd rfl (Or.inl rfl)) pgs_nil)))
      (pss_one (ps_if (PW.pt (pw_and (pt_cmpR (op_eqK (K := K) hr.units) (pe_ix (ix_K (K := K)) (pv 6) pe_int (fun _ _ => rfl)) pe_str (nomark _)) (pw_and1 (pt_val (pe_cal c_is_dark hr (by rfl) (pa_cons (pv 0) (pa_cons (pv 1) (pa_cons (pe_tup (pa_cons (pe_ix (ix_K (K := K)) (pv 6) pe_int (fun _ _ => rfl)) (pa_cons (pe_ix (ix_K (K := K)) (pv 6) pe_int (fun _ _ => rfl)) pa_nil))) pa_nil)))))))) (pss_cons (ps_asg (pe_ix (ix_K (K := K)) (pv 4) (pv 5) (fun _ _ => rfl)) (pg_tup rfl (pgs_cons (pg_name (i := 7) nd rfl (Or.inl rfl)) (pgs_cons (pg_name (i := 8) nd rfl (Or.inl rfl)) pgs_nil))))
    (pss_one (ps_if (PW.pt (pw_or (pt_cmpR op_isP (pe_ix (ix_K (K := K)) (pv 3) (pv 7) (fun _ _ => rfl)) pe_non (nomark _)) (pw_or1 (pt_cmpR op_lt (pv 8) (pe_ix (ix_K (K := K)) (pv 3) (pv 7) (fun _ _ => rfl)) (nomark _))))) (pss_one (ps_raise rfl (takes_of rfl rfl rfl rfl) (pmk_nt Z hr (pa_cons pe_str (pa_cons (pv 5) pa_nil))))) pss_nil))) pss_nil))))))
  · rintro xs n Kx KE ⟨f, s, es, sn, b, rfl, hf, hs, hb, hel, hr, hsn, k, ke⟩
    have hok := runs_ok hr
    refine bl_seq ?_
    walk_at "wps"
    rw [cut3]
    walk_at "wps"
    refine bl_seq ?_
    walk_at "wps"
    refine ⟨hf, hok, by omega, fun p0 => ?_⟩
    walk_at "wps"
    refine bl_forS (α := Dd × Nat) [5, 6, 7, 8] (fun p => T.tup [.int (p.2 : Nat), eD p.1]) (fun _ : Unit => [some (.t (eF f)), some (.t (eTk s es sn)), some (.t (.tup (es.map eD))), some (.t (.tup (sn.map eP))), some (.l p0 ((evs f es).map eEv) true), none, none, none, none]) (fun i q m' => m' = n ∧ ∀ (j r : Nat) (m : Int), j < i → es[j]? = some (.come r m) → dark f s es sn r m = true → ∃ p : Int, sn[mach f (.come r m)]? = some (some p) ∧ p ≤ ((cnt f (es.take j) (mach f (.come r m)) : Nat) : Int)) (ei_enum ?_)
    walk_at "wp"
    intro g
    refine ⟨es.zipIdx, (), enum_map eD es, rfl, ⟨rfl, fun j r m z => absurd z (by omega)⟩, fun p hp => List.mem_cons_of_mem _ hp, fun i v q m' hv ⟨em, h1⟩ => ?_, fun q m' ⟨em, h1⟩ => ?_⟩
    · subst em
      obtain ⟨d, i'⟩ := v
      obtain ⟨hv, rfl⟩ := zipIdx_get hv
      have hi := (List.getElem?_eq_some_iff.mp hv).1
      have hd := runs_take es s i' d hr hv
      have kyes : (∀ r m, d = .come r m → dark f s es sn r m = true → ∃ p : Int, sn[mach f (.come r m)]? = some (some p) ∧ p ≤ ((cnt f (es.take i') (mach f (.come r m)) : Nat) : Int)) → (∀ (j r : Nat) (m : Int), j < i' + 1 → es[j]? = some (.come r m) → dark f s es sn r m = true → ∃ p : Int, sn[mach f (.come r m)]? = some (some p) ∧ p ≤ ((cnt f (es.take j) (mach f (.come r m)) : Nat) : Int)) := fun h j r m hj hm hdk => by
        by_cases e : j = i'
        · subst e
          rw [hv] at hm
          cases hm
          exact h r m rfl hdk
        · exact h1 j r m (by omega) hm hdk
      cases d with
      | own m =>
        dsimp only [eD]
        walk_at "wp"
        refine ⟨fun z => (by cases z), fun _ => ?_⟩
        refine ⟨fun z => (by cases z), fun _ => bl_next ?_⟩
        exact ⟨rfl, (), rfl, rfl, kyes fun r m z => (by cases z)⟩
      | hear m c =>
        dsimp only [eD]
        walk_at "wp"
        refine ⟨fun z => (by cases z), fun _ => ?_⟩
        refine ⟨fun z => (by cases z), fun _ => bl_next ?_⟩
        exact ⟨rfl, (), rfl, rfl, kyes fun r m z => (by cases z)⟩
      | come r m =>
        obtain ⟨v0, hv0⟩ := come_known hf hs hd.1 hd.2
        have hm := mach_lt hf hd.1
        have hev := evs_get (f := f) hv
        obtain ⟨p, hp⟩ := sn_get (show mach f (.come r m) < sn.length by omega)
        dsimp only [eD]
        walk_at "wp"
        refine ⟨fun _ => ?_, fun z => (by cases z)⟩
        walk_at "wp"
        refine ⟨f, s, es, sn, r, m, b, rfl, hf, hs, hb, hel, hr, hsn, hd.1, ⟨v0, LK.mono hf hs hv0 (by omega)⟩, ?_⟩
        walk_at "wp"
        refine ⟨fun hdk => ?_, fun hdk => ?_⟩
        · walk_at "wp"
          refine wIxL (atI_map hev) ?_
          walk_at "wp"
          refine wIxT (atI_map hp) ?_
          walk_at "wp"
          have kno : (∀ q, p = some q → ¬ q ≤ ((cnt f (es.take i') (mach f (.come r m)) : Nat) : Int)) → KE m' := fun z => ke fun h => by
            obtain ⟨q, h2, h3⟩ := h i' r m hv hdk
            rw [hp] at h2
            exact z q (Option.some.inj h2) h3
          cases p with
          | none =>
            refine ⟨fun _ => ?_, fun z => (by cases z)⟩
            refine ⟨fun _ => ?_, fun z => (by cases z)⟩
            refine bl_raise ?_
            walk_at "wp"
            exact kno fun q z => (by cases z)
          | some q =>
            refine ⟨fun z => (by cases z), fun _ => ?_⟩
            walk_at "wp"
            refine wIxT (atI_map hp) ?_
            dsimp only [eP]
            walk_at "wp"
            refine ⟨fun z => ?_, fun z => ?_⟩
            · refine bl_raise ?_
              walk_at "wp"
              refine kno fun q' e => ?_
              cases e
              have := of_decide_eq_true z
              omega
            · refine bl_next ?_
              refine ⟨rfl, (), rfl, rfl, kyes fun r' m2 e _ => ?_⟩
              cases e
              exact ⟨q, hp, by have := of_decide_eq_false z; omega⟩
        · refine bl_next ?_
          refine ⟨rfl, (), rfl, rfl, kyes fun r' m2 e h => ?_⟩
          cases e
          rw [hdk] at h
          cases h
    · subst em
      rw [List.length_zipIdx] at h1
      exact k fun j r m hj => h1 j r m (List.getElem?_eq_some_iff.mp hj).1 hj
abbrev F_right_colours : PFX := fun xs n K KE => ∃ (f : Fm) (d : T), xs = [.t (eF f), .t d] ∧ FOk f ∧ d.mild ∧ d.kb ∧ (∀ s es sn, d = eTk s es sn → Right f s es sn → SOk f s 16 → es.length ≤ 16 → K (.t (.bl true)) n) ∧ ((¬ ∃ s es sn, d = eTk s es sn ∧ Right f s es sn) → KE n)
theorem len_right_colours : ∀ xs n K KE, F_right_colours xs n K KE → xs.length = 2 := fun _ _ _ _ ⟨_, _, e, _⟩ => by rw [e]; rfl
abbrev N_right_colours : List Str := ["form", "thing"]
theorem sc_right_colours : FnScope N_right_colours ["form", "thing"] (defScope s_right_colours) := ⟨rfl, rfl, rfl, by decide +kernel, rfl, by decide +kernel, by decide +kernel⟩
theorem cal_right_colours {P : Program} {w : World} {K : PySem.W.Frag} {mg : Str → Option Value} {base : Heap} {f C : Addr} {fd : FuncData} (B : Bi mg) (Z : NtF K mg C) (c_asked_deeds : CalX P w K mg base "asked_deeds" 6 ["form", "base", "deeds"] (spX C F_asked_deeds)) (c_asked_seen : CalX P w K mg base "asked_seen" 4 ["form", "deeds", "seen"] (spX C F_asked_seen)) (c_asked_dark : CalX P w K mg base "asked_dark" 9 ["form", "taking"] (spX C F_asked_dark)) (c_right_stand : Cal P w K mg base "right_stand" 5 ["form", "thing"] (spU F_right_stand)) (c_are_seen : Cal P w K mg base "are_seen" 2 ["form", "thing"] (spU F_are_seen)) (F : Fun K "right_colours" "right_colours" s_right_colours f fd) (gm : mg "right_colours" = some (.ref f)) : CalX P w K mg base "right_colours" 10 ["form", "thing"] (spX C F_right_colours) := by
  have bn : Binds K fd ["form", "thing"] [] := F.binds fun _ _ _ _ _ _ us hl => match us, hl with | [_, _], _ => rfl
  refine mk_calX (k := 9) F gm bn sc_right_colours rfl len_right_colours fun cdv A outer s H E hr => ?_
  have nd := (sc_right_colours).nd
  apply Exists.intro
  apply And.intro
  · exact (pss_cons (ps_if (PW.pt (pw_or (pt_not (pt_val (pe_callB (call_isiK (K := K)) (by rfl) B.isinstance bt_isinstance (pa_cons (pv 1) (pa_cons (pe_bltn (v := .ty "tuple") (by rfl) B.tuple bt_tuple rfl) pa_nil))))) (pw_or (pt_cmpR (op_neK (K := K) hr.units) (pe_callB (call_lenK (K := K)) (by rfl) B.len bt_len (pa_cons (pv 1) pa_nil)) pe_int (nomark _)) (pw_or1 (pt_not (pt_val (pe_cal c_right_stand hr (by rfl) (pa_cons (pv 0) (pa_cons (pe_ix (ix_K (K := K)) (pv 1) pe_int (fun _ _ => rfl)) pa_nil))))))))) (pss_one (ps_raise rfl (takes_of rfl rfl rfl rfl) (pmk_nt Z hr (pa_cons pe_str (pa_cons pe_int pa_nil))))) pss_nil)
    (pss_cons (ps_if (PW.pt (pw_or (pt_not (pt_val (pe_callB (call_isiK (K := K)) (by rfl) B.isinstance bt_isinstance (pa_cons (pe_ix (ix_K (K := K)) (pv 1) pe_int (fun _ _ => rfl)) (pa_cons (pe_bltn (v := .ty "tuple") (by rfl) B.tuple bt_tuple rfl) pa_nil))))) (pw_or1 (pt_not (pt_val (pe_cal c_are_seen hr (by rfl) (pa_cons (pv 0) (pa_cons (pe_ix (ix_K (K := K)) (pv 1) pe_int (fun _ _ => rfl)) pa_nil)))))))) (pss_one (ps_raise rfl (takes_of rfl rfl rfl rfl) (pmk_nt Z hr (pa_cons pe_str (pa_cons pe_int pa_nil))))) pss_nil)
    (pss_cons (ps_expr (pe_calX c_asked_deeds hr (takes_of rfl rfl rfl rfl) (by rfl) (pa_cons (pv 0) (pa_cons (pe_ix (ix_K (K := K)) (pv 1) pe_int (fun _ _ => rfl)) (pa_cons (pe_ix (ix_K (K := K)) (pv 1) pe_int (fun _ _ => rfl)) pa_nil)))))
    (pss_cons (ps_expr (pe_calX c_asked_seen hr (takes_of rfl rfl rfl rfl) (by rfl) (pa_cons (pv 0) (pa_cons (pe_ix (ix_K (K := K)) (pv 1) pe_int (fun _ _ => rfl)) (pa_cons (pe_ix (ix_K (K := K)) (pv 1) pe_int (fun _ _ => rfl)) pa_nil)))))
    (pss_cons (ps_expr (pe_calX c_asked_dark hr (takes_of rfl rfl rfl rfl) (by rfl) (pa_cons (pv 0) (pa_cons (pv 1) pa_nil))))
    (pss_one (ps_ret pe_bl)))))))
  · rintro xs n Kx KE ⟨f, d, rfl, hf, md, kb, k, ke⟩
    have hrl := hf.rl
    walk_at "wps"
    refine bl_seqC (fun ρ m => m = n ∧ ∃ s a c, d = .tup [eS s, a, c] ∧ rightStand f (eS s) = true ∧ SOk f s 16 ∧ ρ = env0 N_right_colours [.t (eF f), .t d]) ?_ ?_
    · have kno : (∀ s a c, d = .tup [eS s, a, c] → rightStand f (eS s) = true → False) → KE n := fun h => ke fun ⟨s, es, sn, e, r⟩ => h s _ _ e r.base
      walk_at "wp"
      cases d with
      | tup ds =>
        walk_at "wp"
        refine ⟨fun z => (by cases z), fun _ => ?_⟩
        walk_at "wp"
        refine ⟨fun z => ?_, fun z => ?_⟩
        · refine ⟨fun _ => ?_, fun z => (by cases z)⟩
          refine bl_raise ?_
          walk_at "wp"
          refine kno fun s a c e _ => ?_
          cases e
          simp at z
        · have hl : ds.length = 3 := by simp at z; omega
          obtain ⟨a, b, c, rfl⟩ := len3 hl
          walk_at "wp"
          refine ⟨md.all a (by simp), kb _ _ _ rfl, ?_⟩
          walk_at "wp"
          refine ⟨fun z => ?_, fun z => ?_⟩
          · refine bl_raise ?_
            walk_at "wp"
            refine kno fun s a' c' e h => ?_
            simp only [T.tup.injEq, List.cons.injEq] at e
            rw [e.1, show rightStand f (eS s) = true from h] at z
            cases z
          · have z' : rightStand f a = true := by simpa using z
            obtain ⟨s, rfl, hs⟩ := rightStand_dec z' (md.all a (by simp)) (kb _ _ _ rfl)
            exact bl_next ⟨rfl, s, b, c, rfl, z', hs, rfl⟩
      | _ =>
        walk_at "wp"
        refine ⟨fun _ => ?_, fun z => (by cases z)⟩
        refine ⟨fun _ => ?_, fun z => (by cases z)⟩
        refine bl_raise ?_
        walk_at "wp"
        exact kno fun s a c e _ => (by cases e)
    rintro ρ m ⟨em, s, a, c, rfl, hb, hs, rfl⟩
    subst em
    walk_at "wps"
    refine bl_seqC (fun ρ m' => m' = m ∧ ∃ (ds : List T) (sn : List (Option Int)), a = .tup ds ∧ c = .tup (sn.map eP) ∧ sn.length = f.rules.length ∧ ρ = env0 N_right_colours [.t (eF f), .t (.tup [eS s, a, c])]) ?_ ?_
    · walk_at "wp"
      cases a with
      | tup ds =>
        walk_at "wp"
        refine ⟨fun z => (by cases z), fun _ => ?_⟩
        walk_at "wp"
        refine ⟨fun z => ?_, fun z => ?_⟩
        · refine bl_raise ?_
          walk_at "wp"
          refine ke fun ⟨s', es, sn, e, r⟩ => ?_
          have ec : c = .tup (sn.map eP) := by
            simp only [T.tup.injEq, List.cons.injEq] at e
            exact e.2.2.1
          rw [ec, areSeen_enc r.len] at z
          cases z
        · obtain ⟨sn, rfl, hsn⟩ := areSeen_dec (f := f) (d := c) (by simpa using z)
          exact bl_next ⟨rfl, ds, sn, rfl, rfl, hsn, rfl⟩
      | _ =>
        walk_at "wp"
        refine ⟨fun _ => ?_, fun z => (by cases z)⟩
        refine ⟨fun _ => ?_, fun z => (by cases z)⟩
        refine bl_raise ?_
        walk_at "wp"
        refine ke fun ⟨s', es, sn, e, r⟩ => ?_
        simp only [T.tup.injEq, List.cons.injEq] at e
        cases e.2.1
    rintro ρ m' ⟨em, ds, sn, rfl, rfl, hsn, rfl⟩
    subst em
    have mds := md.all (.tup ds) (by simp)
    have hdl := mds.len16
    have dec : ∀ {s' : Sd} {es : List Dd} {sn' : List (Option Int)}, T.tup [eS s, .tup ds, .tup (sn.map eP)] = eTk s' es sn' → s' = s ∧ ds = es.map eD ∧ sn' = sn := fun {s' es sn'} e => by
      have e' : [eS s, T.tup ds, T.tup (sn.map eP)] = [eS s', T.tup (es.map eD), T.tup (sn'.map eP)] := T.tup.inj e
      have h1 := List.cons.inj e'
      have h2 := List.cons.inj h1.2
      have h3 := List.cons.inj h2.2
      exact ⟨(eS_inj h1.1).symm, T.tup.inj h2.1, (eP_map_inj (T.tup.inj h3.1)).symm⟩
    refine bl_seq (bl_dropX ?_)
    walk_at "wp"
    refine ⟨f, s, ds, 16, rfl, hf, hs, by omega, mds.all, fun es e r => ?_, fun h => ?_⟩
    · subst e
      rw [List.length_map] at hdl
      walk_at "wps"
      refine bl_seq (bl_dropX ?_)
      walk_at "wp"
      refine ⟨hf, runs_ok r, by omega, hsn, fun so => ?_, fun h => ?_⟩
      · walk_at "wps"
        refine bl_seq (bl_dropX ?_)
        walk_at "wp"
        refine ⟨f, s, es, sn, 16, rfl, hf, hs, by omega, by omega, r, hsn, fun dk => ?_, fun h => ?_⟩
        · walk_at "wp"
          exact k s es sn rfl ⟨hb, hsn, r, so, dk⟩ hs hdl
        · refine ke fun ⟨s', es', sn', e, q⟩ => ?_
          obtain ⟨rfl, e2, rfl⟩ := dec e
          cases eD_map_inj e2
          exact h q.dark
      · refine ke fun ⟨s', es', sn', e, q⟩ => ?_
        obtain ⟨rfl, e2, rfl⟩ := dec e
        cases eD_map_inj e2
        exact h q.seen
    · refine ke fun ⟨s', es', sn', e, q⟩ => ?_
      obtain ⟨rfl, e2, rfl⟩ := dec e
      exact h ⟨es', e2, q.run⟩
end CK
/-! part M8 -/
set_option Elab.async false
set_option linter.all false
set_option maxRecDepth 100000
set_option maxHeartbeats 1000000
/-! The plain model, part 8: the law's own step; equalities. -/
namespace CK
open PySem PySem.Spec PyProof.Rows L2
def eStep (f : Fm) (s : Sd) (d : Dd) : T := if can f s d = true then eS (step f s d) else .non
theorem noBs_map {α : Type} (g : α → T) (h : ∀ x, (g x).noB = true) : ∀ xs : List α, noBs (xs.map g) = true
  | [] => rfl
  | x :: xs => by
    show ((g x).noB && noBs (xs.map g)) = true
    rw [h x, noBs_map g h xs]; rfl
theorem noB_lt (x : Int × Str) : (eLt x).noB = true := rfl
theorem noB_o (x : Option Str) : (eO x).noB = true := by cases x <;> rfl
theorem noB_mv (v : Mv) : (eMv v).noB = true := by
  show ((T.int v.st).noB && ((T.str v.cause).noB && ((T.int v.nx).noB && (noBs (v.sends.map eSend) && ((eO v.word).noB && true))))) = true
  rw [noBs_map eSend (fun _ => rfl), noB_o]
  rfl
theorem wEqNil {p q : Addr} {o o2 : Bool} {ds : List T} {K : X → Prop} (h : noBs ds = true) (k : K (.t (.bl ds.isEmpty))) : EqW false (.l p ds o) (.l q [] o2) K := by
  obtain ⟨ps, hp⟩ := pdsN ds h
  refine ⟨.list ps, .list [], by simp only [X.pd, hp], rfl, by simp [PyData.depth, PyData.depthAll], ?_⟩
  have e : PyData.eqv (.list ps) (.list []) = ds.isEmpty := by
    rw [PyData.eqv]
    cases ds with
    | nil => cases hp; rfl
    | cons d ds =>
      unfold pds at hp
      split at hp
      · cases hp; rfl
      · cases hp
  rw [e]; exact k
theorem eLt_inj {x y : Int × Str} (h : eLt x = eLt y) : x = y := by
  obtain ⟨a, b⟩ := x
  obtain ⟨c, d⟩ := y
  simp only [T.tup.injEq, List.cons.injEq, T.int.injEq, T.str.injEq, and_true] at h
  obtain ⟨rfl, rfl⟩ := h
  rfl
theorem wNeLt {x y : Int × Str} {K : X → Prop} (k : K (.t (.bl (!decide (x = y))))) : EqW true (.t (eLt x)) (.t (eLt y)) K := by
  obtain ⟨a, b, h1, h2, h3⟩ := eqvN (eLt x) (eLt y) rfl rfl
  refine ⟨a, b, h1, h2, ?_, ?_⟩
  · cases h1
    simp [PyData.depth, PyData.depthAll]
    omega
  · have e : PyData.eqv a b = decide (x = y) := by
      rw [Bool.eq_iff_iff, h3, decide_eq_true_eq]
      exact ⟨eLt_inj, fun z => by rw [z]⟩
    show K (.t (.bl (!PyData.eqv a b)))
    rw [e]; exact k
/-! one of distinct -/
theorem filter_one {α β : Type} [DecidableEq β] (g : α → β) : ∀ {xs : List α}, (xs.map g).Nodup → ∀ b, (xs.filter fun x => decide (g x = b)) = [] ∨ ∃ x, x ∈ xs ∧ g x = b ∧ (xs.filter fun x => decide (g x = b)) = [x]
  | [], _, b => .inl rfl
  | x :: xs, h, b => by
    rw [List.map_cons, List.nodup_cons] at h
    rcases filter_one g h.2 b with e | ⟨y, hy, e1, e2⟩
    · by_cases hx : g x = b
      · exact .inr ⟨x, List.mem_cons_self, hx, by rw [List.filter_cons, if_pos (by simpa using hx), e]⟩
      · exact .inl (by rw [List.filter_cons, if_neg (by simpa using hx), e])
    · by_cases hx : g x = b
      · exact absurd (by rw [hx, ← e1]; exact List.mem_map_of_mem hy) h.1
      · exact .inr ⟨y, List.mem_cons_of_mem _ hy, e1, by rw [List.filter_cons, if_neg (by simpa using hx), e2]⟩
theorem nodup_same {α β : Type} {g : α → β} : ∀ {xs : List α}, (xs.map g).Nodup → ∀ {x y}, x ∈ xs → y ∈ xs → g x = g y → x = y
  | a :: xs, h, x, y, hx, hy, e => by
    rw [List.map_cons, List.nodup_cons] at h
    have mm : ∀ z, z ∈ xs → g z ∈ xs.map g := fun z hz => List.mem_map_of_mem hz
    rcases List.mem_cons.mp hx with hx1 | hx1
    · rcases List.mem_cons.mp hy with hy1 | hy1
      · rw [hx1, hy1]
      · exact absurd (by rw [← hx1, e]; exact mm _ hy1) h.1
    · rcases List.mem_cons.mp hy with hy1 | hy1
      · exact absurd (by rw [← hy1, ← e]; exact mm _ hx1) h.1
      · exact nodup_same h.2 hx1 hy1 e
/-- what the law finds of a letter -/
theorem come_find {l : Ld} (h : (l.w.map (·.1)).Nodup) (n : Int) (kind : Str) :
    ((l.w.filter fun x => decide (x.1 = n)) = [] ∧ (l.head kind).find? (fun x => decide (x.1 = n)) = none) ∨
    ∃ x, x ∈ l.w ∧ (l.w.filter fun x => decide (x.1 = n)) = [x] ∧ l.w ≠ [] ∧ (l.w.filter fun y => !decide (y = x)) = (l.out n).w ∧
      ((kind = "row" ∧ l.w[0]? ≠ some x ∧ (l.head kind).find? (fun x => decide (x.1 = n)) = none) ∨ ((kind = "row" → l.w[0]? = some x) ∧ (l.head kind).find? (fun x => decide (x.1 = n)) = some x)) := by
  rcases filter_one (fun z : Int × Str => z.1) h n with e | ⟨x, hx, e1, e2⟩
  · refine .inl ⟨e, ?_⟩
    rw [List.find?_eq_none]
    intro y hy z
    have hy' : y ∈ l.w := by
      unfold Ld.head at hy
      split at hy
      · exact List.mem_of_mem_take hy
      · exact hy
    have : y ∈ l.w.filter fun x => decide (x.1 = n) := List.mem_filter.mpr ⟨hy', z⟩
    rw [e] at this
    cases this
  · refine .inr ⟨x, hx, e2, (fun z => by rw [z] at hx; cases hx), ?_, ?_⟩
    · show _ = l.w.filter fun x => !decide (x.1 = n)
      apply List.filter_congr
      intro y hy
      by_cases hyx : y = x
      · subst hyx; simp [e1]
      · have : ¬ y.1 = n := fun z => hyx (nodup_same h hy hx (z.trans e1.symm))
        simp [hyx, this]
    · by_cases hk : kind = "row"
      · have hh : l.head kind = l.w.take 1 := by unfold Ld.head; rw [if_pos hk]
        rw [hh]
        cases hw : l.w with
        | nil => rw [hw] at hx; cases hx
        | cons w0 w =>
          by_cases h0 : w0 = x
          · subst h0
            exact .inr ⟨fun _ => by simp, by simp [e1]⟩
          · have : ¬ w0.1 = n := fun z => h0 (nodup_same h (by rw [hw]; exact List.mem_cons_self) hx (z.trans e1.symm))
            exact .inl ⟨hk, by simp [h0], by simp [this]⟩
      · have hh : l.head kind = l.w := by unfold Ld.head; rw [if_neg hk]
        refine .inr ⟨fun z => absurd z hk, ?_⟩
        rw [hh]
        cases hf : l.w.find? (fun x => decide (x.1 = n)) with
        | none =>
          have := List.find?_eq_none.mp hf x hx
          simp [e1] at this
        | some y =>
          have a := List.mem_of_find?_eq_some hf
          have b : y.1 = n := by simpa using List.find?_some hf
          rw [nodup_same h a hx (b.trans e1.symm)]
theorem mv_find {f : Fm} (F : FOk f) {m : Nat} {r : Rl} (hr : f.rules[m]? = some r) (x : Int) (c : Str) :
    (r.mv.filter (mvIs x c) = [] ∧ r.mv.find? (mvIs x c) = none) ∨ ∃ v, v ∈ r.mv ∧ r.mv.filter (mvIs x c) = [v] ∧ r.mv.find? (mvIs x c) = some v := by
  have key : ∀ (l : List Mv), (∀ (i j : Nat) v u, l[i]? = some v → l[j]? = some u → v.st = u.st → v.cause = u.cause → i = j) → (l.filter (mvIs x c) = [] ∧ l.find? (mvIs x c) = none) ∨ ∃ v, v ∈ l ∧ l.filter (mvIs x c) = [v] ∧ l.find? (mvIs x c) = some v := by
    intro l
    induction l with
    | nil => intro _; exact .inl ⟨rfl, rfl⟩
    | cons v l ih =>
      intro h
      have ih' := ih fun i j a b ha hb e1 e2 => by
        have := h (i + 1) (j + 1) a b (by simpa using ha) (by simpa using hb) e1 e2
        omega
      cases hv : mvIs x c v with
      | false =>
        rw [List.filter_cons, List.find?_cons, hv]
        rcases ih' with a | ⟨u, a, b, d⟩
        · exact .inl a
        · exact .inr ⟨u, List.mem_cons_of_mem _ a, b, d⟩
      | true =>
        refine .inr ⟨v, List.mem_cons_self, ?_, by rw [List.find?_cons, hv]⟩
        rw [List.filter_cons, hv]
        rcases ih' with a | ⟨u, a, b, d⟩
        · simp [a.1]
        · exfalso
          obtain ⟨j, hj, e⟩ := List.mem_iff_getElem.mp a
          have hu : mvIs x c u = true := List.find?_some d
          unfold mvIs at hv hu
          rw [Bool.and_eq_true, decide_eq_true_eq, decide_eq_true_eq] at hv hu
          have := h 0 (j + 1) v u rfl (by show l[j]? = some u; exact List.getElem?_eq_some_iff.mpr ⟨hj, e⟩) (hv.1.trans hu.1.symm) (hv.2.trans hu.2.symm)
          omega
  exact key r.mv (F.mv1 m r hr)
end CK
/-! part D10 -/
set_option Elab.async false
set_option linter.all false
set_option maxRecDepth 100000
set_option maxHeartbeats 2000000
/-! The law's own defs, part 1. -/
namespace CK
open PySem PySem.Spec PyProof.Rows L2
local macro_rules | `(tactic| walk_at "wp0") => `(tactic| first
  | ((with_reducible refine bl_retL (a := ?va) (ds := ?vd) ?vh ?_); (case vh => exact rfl))
  | ((with_reducible refine bl_retD (a := ?va) (ds := ?vd) ?vh ?_); (case vh => exact rfl))
  | (with_reducible refine bl_ret ?_)
  | (with_reducible refine bl_if ?_)
  | (with_reducible refine bl_asg ?_)
  | (with_reducible refine bl_asgP ?_)
  | (with_reducible refine bl_next ?_)
  | (with_reducible refine et_test ?_)
  | (with_reducible refine et_B ?_)
  | (with_reducible refine et_and ?_)
  | (with_reducible refine et_or ?_)
  | (with_reducible refine et_not ?_)
  | (with_reducible refine et_yes ?_)
  | ((with_reducible refine ev_varT (d := ?vd) ?vh ?_); (case vh => exact rfl))
  | ((with_reducible refine ev_varL (a := ?va) (ds := ?vd) (o := ?vo) ?vh ?_); (case vh => exact rfl))
  | ((with_reducible refine ev_varD (a := ?va) (kvs := ?vd) (o := ?vo) ?vh ?_); (case vh => exact rfl))
  | ((with_reducible refine ev_varP ?vh ?_); (case vh => exact rfl))
  | (with_reducible refine ev_int ?_)
  | (with_reducible refine ev_str ?_)
  | (with_reducible refine ev_bl ?_)
  | (with_reducible refine ev_non ?_)
  | (with_reducible refine ev_ty ?_)
  | (with_reducible refine ev_op ro_ix ?_)
  | (with_reducible refine ev_op ro_eq ?_)
  | (with_reducible refine ev_op ro_is ?_)
  | (with_reducible refine ev_op ro_cmp ?_)
  | (with_reducible refine ev_op ro_add ?_)
  | (with_reducible refine ev_op ro_sub ?_)
  | (with_reducible refine ev_op ro_mul ?_)
  | (with_reducible refine ev_op ro_mod ?_)
  | (with_reducible refine ev_op ro_div ?_)
  | (with_reducible refine ev_op ro_pow ?_)
  | (with_reducible refine ev_op ro_in ?_)
  | (with_reducible refine ev_neg ?_)
  | (with_reducible refine ev_cb rc_len ?_)
  | (with_reducible refine ev_cb rc_isi ?_)
  | (with_reducible refine ev_cb rc_all ?_)
  | (with_reducible refine ev_cb rc_list ?_)
  | (with_reducible refine ev_cb rc_tuple ?_)
  | (with_reducible refine ev_cb rc_int ?_)
  | (with_reducible refine ev_cb rc_max ?_)
  | (with_reducible refine ea_cons ?_)
  | (with_reducible refine ea_nil ?_)
  | (with_reducible refine ev_tup ?_)
  | (with_reducible refine ev_lst ?_)
  | (with_reducible refine ev_sl ?_)
  | (with_reducible refine eo_none ?_)
  | (with_reducible refine eo_some ?_)
  | (with_reducible refine ev_dget ?_)
  | (with_reducible refine ev_dnew ?_)
  | (with_reducible refine ev_if ?_)
  | (with_reducible refine ev_and ?_)
  | (with_reducible refine ev_or ?_)
  | (with_reducible refine ev_not ?_)
  | (with_reducible refine ev_chain ro_cmp ro_cmp ?_)
  | (with_reducible refine ev_call ?_)
  | (with_reducible refine ev_lrg2 ?_)
  | (with_reducible refine wAddI ?_)
  | (with_reducible refine wSub ?_)
  | (with_reducible refine wEqI ?_)
  | (with_reducible refine wEqS ?_)
  | (with_reducible refine wNeI ?_)
  | (with_reducible refine wNeS ?_)
  | (with_reducible refine wCmp ?_)
  | (with_reducible refine wLenT ?_)
  | (with_reducible refine wLenL ?_)
  | (with_reducible refine wTupT ?_)
  | (with_reducible refine wTupL ?_)
  | (with_reducible refine wIsN ?_)
  | (with_reducible refine wNotN ?_)
  | (with_reducible refine wIsB ?_)
  | (with_reducible refine wInt ?_)
  | (with_reducible refine wMax ?_)
  | (with_reducible refine wListT ?_; intro _)
  | (with_reducible refine wListL ?_; intro _)
  | (with_reducible refine wSlT ?_)
  | ((with_reducible refine wIxT (d := ?vd) ?vh ?_); (case vh => exact rfl))
  | (refine wIxT atI_c0 ?_)
  | (refine wIxT atI_c1 ?_)
  | (refine wIxT atI_c2 ?_)
  | ((with_reducible refine wIxL (d := ?vd) ?vh ?_); (case vh => exact rfl))
  | ((with_reducible refine wIsi (b := ?vd) ?vh ?_); (case vh => exact rfl))
  | ((with_reducible refine wIsiL (b := ?vd) ?vh ?_); (case vh => exact rfl))
  | (with_reducible refine tg_tup rfl ?_)
  | (with_reducible refine tgs_cons ?_)
  | (with_reducible refine tgs_nil ?_)
  | ((with_reducible refine tg_name ?vh ?_); (case vh => decide))
  | (with_reducible refine ⟨_, rfl, ?_⟩)
  | (with_reducible refine ⟨_, _, rfl, ?_⟩)
  | (with_reducible refine ⟨_, _, rfl, rfl, ?_⟩)
  | (with_reducible refine ⟨_, _, _, rfl, ?_⟩)
  | (refine And.intro (show List.length _ ≤ lim from Nat.le_of_ble_eq_true rfl) ?_)
  | (with_reducible refine seqK_nx ?_)
  | (with_reducible refine seqK_rt ?_)
  | (with_reducible refine seqK_ex ?_)
  | fail "wp0: no step")
local macro_rules | `(tactic| walk_at "wp1") => `(tactic| first | (with_reducible refine bl_seq ?_) | walk_at "wp0")
local macro_rules | `(tactic| walk_at "wps") => `(tactic| repeat (walk_at "wp0"))
local macro_rules | `(tactic| walk_at "wp") => `(tactic| repeat (walk_at "wp1"))
abbrev F__law_machine : PF := fun xs n K => ∃ (f : Fm) (e : Dd), xs = [.t (eF f), .t (eD e)] ∧ DOk f e ∧ K (.t (.int (mach f e : Nat))) n
theorem len__law_machine : ∀ xs n K, F__law_machine xs n K → xs.length = 2 := fun _ _ _ ⟨_, _, e, _⟩ => by rw [e]; rfl
abbrev N__law_machine : List Str := ["_law_form", "_law_deed"]
theorem sc__law_machine : FnScope N__law_machine ["_law_form", "_law_deed"] (defScope s__law_machine) := ⟨rfl, rfl, rfl, by decide +kernel, rfl, by decide +kernel, by decide +kernel⟩
theorem cal__law_machine {P : Program} {w : World} {K : PySem.W.Frag} {mg : Str → Option Value} {base : Heap} {f : Addr} {fd : FuncData} (B : Bi mg) (F : Fun K "_law_machine" "_law_machine" s__law_machine f fd) (gm : mg "_law_machine" = some (.ref f)) : Cal P w K mg base "_law_machine" 1 ["_law_form", "_law_deed"] (spU F__law_machine) := by
  have bn : Binds K fd ["_law_form", "_law_deed"] [] := F.binds fun _ _ _ _ _ _ us hl => match us, hl with | [_, _], _ => rfl
  refine mk_cal (k := 0) F gm bn sc__law_machine rfl len__law_machine fun cdv A outer s H E hr => ?_
  have nd := (sc__law_machine).nd
  apply Exists.intro
  apply And.intro
  · exact (pss_one (ps_ret (pe_ifExp (pt_cmpR (op_eqK (K := K) hr.units) (pe_ix (ix_K (K := K)) (pv 1) pe_int (fun _ _ => rfl)) pe_str (nomark _)) (pe_ix (ix_K (K := K)) (pe_ix (ix_K (K := K)) (pe_ix (ix_K (K := K)) (pv 0) pe_int (fun _ _ => rfl)) (pe_ix (ix_K (K := K)) (pv 1) pe_int (fun _ _ => rfl)) (fun _ _ => rfl)) pe_int (fun _ _ => rfl)) (pe_ix (ix_K (K := K)) (pv 1) pe_int (fun _ _ => rfl)))))
  · rintro xs n Kx ⟨f, e, rfl, he, k⟩
    cases e with
    | own m =>
      dsimp only [eD]
      walk_at "wp"
      refine ⟨fun z => (by cases z), fun _ => ?_⟩
      walk_at "wp"
      exact k
    | hear m c =>
      dsimp only [eD]
      walk_at "wp"
      refine ⟨fun z => (by cases z), fun _ => ?_⟩
      walk_at "wp"
      exact k
    | come r m =>
      dsimp only [eD]
      have hq := List.getElem?_eq_getElem (show r < f.roads.length from he)
      generalize f.roads[r]'he = q at hq
      rw [mach_come hq] at k
      walk_at "wp"
      refine ⟨fun _ => ?_, fun z => (by cases z)⟩
      walk_at "wp"
      refine wIxT (atI_map hq) ?_
      walk_at "wp"
      exact k
abbrev F__law_after : PF := fun xs n K => ∃ (f : Fm) (s : Sd) (e : Dd) (b : Nat), xs = [.t (eF f), .t (eS s), .t (eD e)] ∧ FOk f ∧ SOk f s b ∧ b ≤ 9000 ∧ DOk f e ∧ K (.t (eStep f s e)) n
theorem len__law_after : ∀ xs n K, F__law_after xs n K → xs.length = 3 := fun _ _ _ ⟨_, _, _, _, e, _⟩ => by rw [e]; rfl
def foldMv (m : Nat) (a : List Int × List Ld) (vs : List Mv) : List Int × List Ld := vs.foldl (fun a v => (a.1.set m v.nx, sendAll a.2 v.sends)) a
theorem can_none {f : Fm} {s : Sd} {e : Dd} (h : cause f s e = none) : can f s e = false := by
  unfold can answered; rw [h]; rfl
abbrev N__law_after : List Str := ["_law_form", "_law_stand", "_law_deed", "_law_states", "_law_roads", "_law_m", "_law_cause", "_law_sent", "_law_waiting", "_law_some", "_law_moves", "_law_move", "_law_road", "_law_sign", "_law_letter"]
theorem sc__law_after : FnScope N__law_after ["_law_form", "_law_stand", "_law_deed"] (defScope s__law_after) := ⟨rfl, rfl, rfl, by decide +kernel, rfl, by decide +kernel, by decide +kernel⟩
theorem cal__law_after {P : Program} {w : World} {K : PySem.W.Frag} {mg : Str → Option Value} {base : Heap} {f : Addr} {fd : FuncData} (B : Bi mg) (c__law_machine : Cal P w K mg base "_law_machine" 1 ["_law_form", "_law_deed"] (spU F__law_machine)) (F : Fun K "_law_after" "_law_after" s__law_after f fd) (gm : mg "_law_after" = some (.ref f)) : Cal P w K mg base "_law_after" 2 ["_law_form", "_law_stand", "_law_deed"] (spU F__law_after) := by
  have bn : Binds K fd ["_law_form", "_law_stand", "_law_deed"] [] := F.binds fun _ _ _ _ _ _ us hl => match us, hl with | [_, _, _], _ => rfl
  refine mk_cal (k := 1) F gm bn sc__law_after rfl len__law_after fun cdv A outer s H E hr => ?_
  have nd := (sc__law_after).nd
  apply Exists.intro
  apply And.intro
  · exact (pss_cons (ps_set (i := 3) nd rfl (Or.inr rfl) (pe_callTy (call_listK (K := K)) (by rfl) B.list bt_list (pa_cons (pe_ix (ix_K (K := K)) (pv 1) pe_int (fun _ _ => rfl)) pa_nil)))
    (pss_cons (ps_set (i := 4) nd rfl (Or.inl rfl) (pe_callTy (call_listK (K := K)) (by rfl) B.list bt_list (pa_cons (pe_ix (ix_K (K := K)) (pv 1) pe_int (fun _ _ => rfl)) pa_nil)))
    (pss_cons (ps_set (i := 5) nd rfl (Or.inr rfl) (pe_cal c__law_machine hr (by rfl) (pa_cons (pv 0) (pa_cons (pv 2) pa_nil))))
    (pss_cons (ps_set (i := 6) nd rfl (Or.inr rfl) (pe_ifExp (pt_cmpR (op_eqK (K := K) hr.units) (pe_ix (ix_K (K := K)) (pv 2) pe_int (fun _ _ => rfl)) pe_str (nomark _)) (pe_ix (ix_K (K := K)) (pv 2) pe_int (fun _ _ => rfl)) pe_str))
    (pss_cons (ps_if (pt_cmpR (op_eqK (K := K) hr.units) (pe_ix (ix_K (K := K)) (pv 2) pe_int (fun _ _ => rfl)) pe_str (nomark _)) (pss_cons (ps_asg (pe_ix (ix_K (K := K)) (pv 4) (pe_ix (ix_K (K := K)) (pv 2) pe_int (fun _ _ => rfl)) (fun _ _ => rfl)) (pg_tup rfl (pgs_cons (pg_name (i := 7) nd rfl (Or.inl rfl)) (pgs_cons (pg_name (i := 8) nd rfl (Or.inl rfl)) pgs_nil))))
    (pss_cons (ps_set (i := 9) nd rfl (Or.inr rfl) (pe_lc (own := [("_law_letter", 14)]) (g := (gName 14)) rfl nd (pi_seqU (pv 8)) (blkOk_by (own := [("_law_letter", 14)]) (N := N__law_after) (sc := (defScope s__law_after)) (by decide +kernel)) (fun _ _ _ _ _ => (pg_name (i := 14) nd rfl (Or.inl rfl))) (fun _ _ _ _ _ => (pts_one (pt_cmpR (op_eqK (K := K) hr.units) (pe_ix (ix_K (K := K)) (pv 14) pe_int (fun _ _ => rfl)) (pe_ix (ix_K (K := K)) (pv 2) pe_int (fun _ _ => rfl)) (nomark _)))) (fun _ _ _ _ _ => (pv 14))))
    (pss_cons (ps_if (PW.pt (pw_or (pt_cmpR (op_eqK (K := K) hr.units) (pv 9) (pe_lst pa_nil) (nomark _)) (pw_or1 (PW.pt (pw_and (pt_cmpR (op_eqK (K := K) hr.units) (pe_ix (ix_K (K := K)) (pe_ix (ix_K (K := K)) (pe_ix (ix_K (K := K)) (pv 0) pe_int (fun _ _ => rfl)) (pe_ix (ix_K (K := K)) (pv 2) pe_int (fun _ _ => rfl)) (fun _ _ => rfl)) pe_int (fun _ _ => rfl)) pe_str (nomark _)) (pw_and1 (pt_cmpR (op_neK (K := K) hr.units) (pe_ix (ix_K (K := K)) (pv 8) pe_int (fun _ _ => rfl)) (pe_ix (ix_K (K := K)) (pv 9) pe_int (fun _ _ => rfl)) (nomark _)))))))) (pss_one (ps_ret pe_non)) pss_nil)
    (pss_cons (ps_set (i := 6) nd rfl (Or.inr rfl) (pe_ix (ix_K (K := K)) (pe_ix (ix_K (K := K)) (pv 9) pe_int (fun _ _ => rfl)) pe_int (fun _ _ => rfl)))
    (pss_one (ps_asg (pe_tup (pa_cons (pv 7) (pa_cons (pe_callTy (call_tupleK (K := K)) (by rfl) B.tuple bt_tuple (pa_cons (pe_lc (own := [("_law_letter", 14)]) (g := (gName 14)) rfl nd (pi_seqU (pv 8)) (blkOk_by (own := [("_law_letter", 14)]) (N := N__law_after) (sc := (defScope s__law_after)) (by decide +kernel)) (fun _ _ _ _ _ => (pg_name (i := 14) nd rfl (Or.inl rfl))) (fun _ _ _ _ _ => (pts_one (pt_cmpR (op_neK (K := K) hr.units) (pv 14) (pe_ix (ix_K (K := K)) (pv 9) pe_int (fun _ _ => rfl)) (nomark _)))) (fun _ _ _ _ _ => (pv 14))) pa_nil)) pa_nil))) (pg_sub (pv 4) (pe_ix (ix_K (K := K)) (pv 2) pe_int (fun _ _ => rfl)) set_list))))))) pss_nil)
    (pss_cons (ps_setLc (i := 10) (own := [("_law_move", 11)]) (g := (gName 11)) rfl nd rfl rfl (sw_true rfl rfl rfl (by decide +kernel)) (pi_seqU (pe_ix (ix_K (K := K)) (pe_ix (ix_K (K := K)) (pe_ix (ix_K (K := K)) (pv 0) pe_int (fun _ _ => rfl)) (pv 5) (fun _ _ => rfl)) pe_int (fun _ _ => rfl))) (blkOk_by (own := [("_law_move", 11)]) (N := N__law_after) (sc := (defScope s__law_after)) (by decide +kernel)) (fun _ _ _ _ _ => (pg_name (i := 11) nd rfl (Or.inl rfl))) (fun _ _ _ _ _ => (pts_one (PW.pt (pw_and (pt_cmpR (op_eqK (K := K) hr.units) (pe_ix (ix_K (K := K)) (pv 11) pe_int (fun _ _ => rfl)) (pe_ix (ix_K (K := K)) (pv 3) (pv 5) (fun _ _ => rfl)) (nomark _)) (pw_and1 (pt_cmpR (op_eqK (K := K) hr.units) (pe_ix (ix_K (K := K)) (pv 11) pe_int (fun _ _ => rfl)) (pv 6) (nomark _))))))) (fun _ _ _ _ _ => (pv 11)))
    (pss_cons (ps_if (PW.pt (pw_and (pt_cmpR (op_eqK (K := K) hr.units) (pv 10) (pe_lst pa_nil) (nomark _)) (pw_and1 (pt_cmpR (op_eqK (K := K) hr.units) (pv 6) pe_str (nomark _))))) (pss_one (ps_ret pe_non)) pss_nil)
    (pss_cons (ps_for PassesOwn.never rfl (pi_seqU (pv 10)) (pg_name (i := 11) nd rfl (Or.inl rfl))
      (pss_cons (ps_asg (pe_ix (ix_K (K := K)) (pv 11) pe_int (fun _ _ => rfl)) (pg_sub (pv 3) (pv 5) set_list))
    (pss_one (ps_for PassesOwn.never rfl (pi_seqU (pe_ix (ix_K (K := K)) (pv 11) pe_int (fun _ _ => rfl))) (pg_tup rfl (pgs_cons (pg_name (i := 12) nd rfl (Or.inl rfl)) (pgs_cons (pg_name (i := 13) nd rfl (Or.inl rfl)) pgs_nil)))
      (pss_cons (ps_asg (pe_ix (ix_K (K := K)) (pv 4) (pv 12) (fun _ _ => rfl)) (pg_tup rfl (pgs_cons (pg_name (i := 7) nd rfl (Or.inl rfl)) (pgs_cons (pg_name (i := 8) nd rfl (Or.inl rfl)) pgs_nil))))
    (pss_one (ps_asg (pe_tup (pa_cons (pe_op (op_addK (K := K)) (pv 7) pe_int) (pa_cons (pe_op (op_addK (K := K)) (pv 8) (pe_tup (pa_cons (pe_tup (pa_cons (pv 7) (pa_cons (pv 13) pa_nil))) pa_nil))) pa_nil))) (pg_sub (pv 4) (pv 12) set_list))))))))
    (pss_one (ps_ret (pe_tup (pa_cons (pe_callTy (call_tupleK (K := K)) (by rfl) B.tuple bt_tuple (pa_cons (pv 3) pa_nil)) (pa_cons (pe_callTy (call_tupleK (K := K)) (by rfl) B.tuple bt_tuple (pa_cons (pv 4) pa_nil)) pa_nil)))))))))))))
  · rintro xs n Kx ⟨f, s, e, b, rfl, hf, hs, hb, he, k⟩
    have hm := mach_lt hf he
    have hm' : mach f e < s.st.length := by rw [hs.st]; exact hm
    have hx := List.getElem?_eq_getElem hm'
    generalize s.st[mach f e]'hm' = x at hx
    have hr := List.getElem?_eq_getElem hm
    generalize f.rules[mach f e]'hm = r at hr
    have hrl := hf.rl
    have hrd := hf.rd
    have hst := hs.st
    have hld := hs.ld
    refine bl_seq ?_
    walk_at "wps"
    rename_i a
    refine bl_seq ?_
    walk_at "wps"
    rename_i a2
    refine bl_seq ?_
    walk_at "wps"
    refine ⟨he, ?_⟩
    walk_at "wps"
    refine bl_seqC (fun ρ m => m = n ∧ ρ = ⟨[some (.t (eF f)), some (.t (eS s)), some (.t (eD e)), some (.l a (s.st.map T.int) true), some (.l a2 (s.ld.map eLd) true), some (.t (.int (mach f e : Nat))), some (.t (.str (match e with | .hear _ c => c | _ => "own"))), none, none, none, none, none, none, none, none], []⟩) ?_ ?_
    · cases e with
      | own m =>
        dsimp only [eD]
        walk_at "wp"
        refine ⟨fun z => (by cases z), fun _ => ?_⟩
        walk_at "wp"
        exact ⟨rfl, rfl⟩
      | hear m c =>
        dsimp only [eD]
        walk_at "wp"
        refine ⟨fun _ => ?_, fun z => (by cases z)⟩
        walk_at "wp"
        exact ⟨rfl, rfl⟩
      | come r m =>
        dsimp only [eD]
        walk_at "wp"
        refine ⟨fun z => (by cases z), fun _ => ?_⟩
        walk_at "wp"
        exact ⟨rfl, rfl⟩
    rintro ρ m ⟨em, rfl⟩
    subst em
    have kno : cause f s e = none → Kx (.t .non) m := fun h => by
      have : eStep f s e = .non := by unfold eStep; rw [can_none h]; rfl
      rw [this] at k; exact k
    refine bl_seqC (fun ρ m2 => m2 = m ∧ ∃ c, cause f s e = some c ∧ ρ.g = [] ∧ wipeL ρ.s [7, 8, 9] = [some (.t (eF f)), some (.t (eS s)), some (.t (eD e)), some (.l a (s.st.map T.int) true), some (.l a2 ((takenLd s.ld e).map eLd) true), some (.t (.int (mach f e : Nat))), some (.t (.str c)), none, none, none, none, none, none, none, none]) ?_ ?_
    · cases e with
      | own m =>
        dsimp only [eD]
        walk_at "wp"
        exact ⟨fun z => (by cases z), fun _ => bl_next ⟨rfl, "own", rfl, rfl, rfl⟩⟩
      | hear m c =>
        dsimp only [eD]
        walk_at "wp"
        exact ⟨fun z => (by cases z), fun _ => bl_next ⟨rfl, c, rfl, rfl, rfl⟩⟩
      | come r nn =>
        have hrr : r < f.roads.length := he
        have hq := List.getElem?_eq_getElem hrr
        generalize f.roads[r]'hrr = q at hq
        have hrl2 : r < s.ld.length := by omega
        have hl := List.getElem?_eq_getElem hrl2
        generalize s.ld[r]'hrl2 = l at hl
        have hlo := hs.w r l hl
        have hc := cause_come (f := f) (s := s) (n := nn) hq hl
        have et : takenLd s.ld (.come r nn) = s.ld.set r (l.out nn) := by simp only [takenLd, hl]
        rw [et]
        dsimp only [eD]
        walk_at "wp"
        refine ⟨fun _ => ?_, fun z => (by cases z)⟩
        refine bl_seq ?_
        walk_at "wps"
        refine wIxL (atI_map hl) ?_
        walk_at "wps"
        refine bl_seq ?_
        walk_at "wps"
        refine ev_lcF eLt (fun x => decide (x.1 = nn)) eLt (ei_tup ?_)
        walk_at "wp"
        intro g
        refine ⟨l.w, rfl, fun y hy => ?_, fun p => ?_⟩
        · walk_at "wp"
          refine ⟨?_, fun _ => ?_⟩
          · walk_at "wp"
            exact ⟨rfl, rfl⟩
          · walk_at "wp"
            exact ⟨rfl, rfl⟩
        walk_at "wps"
        rcases come_find hlo.2.2.1 nn q.kind with ⟨e1, e2⟩ | ⟨y, hy, e1, e2, e3, e4⟩
        · rw [e1]
          walk_at "wp"
          intro p0
          refine wEqNil rfl ?_
          walk_at "wp"
          refine ⟨fun _ => ?_, fun z => (by cases z)⟩
          refine ⟨fun _ => ?_, fun z => (by cases z)⟩
          walk_at "wp"
          exact kno (by rw [hc, e2]; rfl)
        rw [e1]
        obtain ⟨w0, w, hw⟩ : ∃ w0 w, l.w = w0 :: w := by
          cases h : l.w with
          | nil => exact absurd h e2
          | cons w0 w => exact ⟨w0, w, rfl⟩
        have e6w : l.w[0]? = some w0 := by rw [hw]; rfl
        rw [e6w] at e4
        refine bl_seqC (fun ρ m2 => m2 = m ∧ (l.head q.kind).find? (fun x => decide (x.1 = nn)) = some y ∧ ρ = ⟨[some (.t (eF f)), some (.t (eS s)), some (.t (.tup [.str "come", .int (r : Nat), .int nn])), some (.l a (s.st.map T.int) true), some (.l a2 (s.ld.map eLd) true), some (.t (.int (mach f (.come r nn) : Nat))), some (.t (.str "own")), some (.t (.int l.sent)), some (.t (.tup (l.w.map eLt))), some (.l p [eLt y] true), none, none, none, none, none], []⟩) ?_ ?_
        · walk_at "wp"
          intro p0
          refine wEqNil rfl ?_
          walk_at "wp"
          refine ⟨fun z => (by cases z), fun _ => ?_⟩
          walk_at "wp"
          refine wIxT (atI_map hq) ?_
          walk_at "wp"
          have e5 : l.w.map eLt = eLt w0 :: w.map eLt := by rw [hw]; rfl
          refine ⟨fun z => ?_, fun z => ?_⟩
          · walk_at "wp"
            refine wIxT (d := eLt w0) (by rw [e5]; exact atI_c0) ?_
            walk_at "wp"
            refine wNeLt ?_
            walk_at "wp"
            have hk := of_decide_eq_true z
            rcases e4 with ⟨_, e6, e7⟩ | ⟨e6, e7⟩
            · have hne : ¬ w0 = y := fun h => e6 (by rw [h])
              rw [decide_eq_false hne]
              refine ⟨fun _ => ?_, fun z => (by cases z)⟩
              walk_at "wp"
              exact kno (by rw [hc, e7]; rfl)
            · have he6 : w0 = y := Option.some.inj (e6 hk)
              rw [decide_eq_true he6]
              exact ⟨fun z => (by cases z), fun _ => bl_next ⟨rfl, e7, rfl⟩⟩
          · have hk := of_decide_eq_false z
            refine ⟨fun z => (by cases z), fun _ => bl_next ?_⟩
            rcases e4 with ⟨e6, _⟩ | ⟨_, e7⟩
            · exact absurd e6 hk
            · exact ⟨rfl, e7, rfl⟩
        rintro ρ m2 ⟨em, hfd, rfl⟩
        subst em
        refine bl_seq ?_
        walk_at "wps"
        refine bl_setL (j := 4) rfl ?_
        walk_at "wp"
        refine ev_lcF eLt (fun x => !decide (x = y)) eLt (ei_tup ?_)
        walk_at "wp"
        intro g2
        refine ⟨l.w, rfl, fun y2 hy2 => ?_, fun p2 => ?_⟩
        · walk_at "wp"
          refine ⟨?_, fun _ => ?_⟩
          · walk_at "wp"
            refine wNeLt ?_
            walk_at "wp"
            exact ⟨rfl, rfl⟩
          · walk_at "wp"
            exact ⟨rfl, rfl⟩
        rw [e3]
        walk_at "wp"
        refine ⟨_, r, rfl, by rw [List.length_map]; exact ixN_nat hrl2, ?_⟩
        refine ⟨rfl, y.2, by rw [hc, hfd]; rfl, rfl, ?_⟩
        rw [List.map_set]
        rfl
    rintro ⟨σ, gg⟩ m2 ⟨em, c, hc, e1, e2⟩
    subst em
    dsimp only at e1 e2
    subst e1
    refine Blk.fget [7, 8, 9] ?_
    show Blk _ _ _ ⟨wipeL σ [7, 8, 9], []⟩ _ _
    rw [e2]
    clear e2 σ kno
    have ha : answered f s e = ansOf x c (r.mv.find? (mvIs x c)) := by
      unfold answered Fm.answer
      rw [hc, hx]
      show (match f.rules[mach f e]? with | none => none | some r => ansOf x c (r.mv.find? (mvIs x c))) = _
      rw [hr]
    have hlo : ∀ (j : Nat) y, (takenLd s.ld e)[j]? = some y → LOk b y := takenLd_ok hs.w e
    have htl : (takenLd s.ld e).length = f.roads.length := by rw [takenLd_len]; exact hld
    generalize hL : takenLd s.ld e = L at hlo htl
    refine bl_seq ?_
    walk_at "wps"
    refine ev_lcF eMv (mvIs x c) eMv (ei_tup ?_)
    walk_at "wp"
    refine wIxT (atI_map hr) ?_
    walk_at "wp"
    intro g
    refine ⟨r.mv, rfl, fun v hv => ?_, fun p => ?_⟩
    · walk_at "wp"
      refine ⟨?_, fun _ => ?_⟩
      · walk_at "wp"
        refine wIxL (atI_map hx) ?_
        walk_at "wp"
        refine ⟨fun z => ?_, fun z => ?_⟩
        · walk_at "wp"
          exact ⟨by unfold mvIs; rw [z]; rfl, rfl⟩
        · exact ⟨by unfold mvIs; rw [z]; rfl, rfl⟩
      · walk_at "wp"
        exact ⟨rfl, rfl⟩
    walk_at "wps"
    have hmv : (r.mv.filter (mvIs x c)).length ≤ 1 ∧ (r.mv.filter (mvIs x c) = [] → c = "own" → Kx (.t .non) m2) ∧ (¬ (r.mv.filter (mvIs x c) = [] ∧ c = "own") → Kx (.t (.tup [.tup ((foldMv (mach f e) (s.st, L) (r.mv.filter (mvIs x c))).1.map T.int), .tup ((foldMv (mach f e) (s.st, L) (r.mv.filter (mvIs x c))).2.map eLd)])) m2) := by
      rcases mv_find hf hr x c with ⟨f1, f2⟩ | ⟨v, hv, f1, f2⟩
      · rw [f2] at ha
        refine ⟨by rw [f1]; exact Nat.zero_le _, fun _ hcw => ?_, fun h => ?_⟩
        · have : answered f s e = none := by rw [ha]; simp [ansOf, hcw]
          have e3 : eStep f s e = .non := by unfold eStep CK.can; rw [this]; rfl
          rw [e3] at k; exact k
        · have hcw : ¬ c = "own" := fun z => h ⟨f1, z⟩
          have : answered f s e = some (x, [], none) := by rw [ha]; simp [ansOf, hcw]
          have e3 : eStep f s e = eS ⟨s.st.set (mach f e) x, L⟩ := by
            unfold eStep CK.can CK.step
            rw [this, hL]
            rfl
          rw [e3] at k
          rw [f1]
          have e4 : s.st.set (mach f e) x = s.st := by
            apply List.ext_getElem?
            intro i
            by_cases hi : mach f e = i
            · subst hi
              rw [List.getElem?_set_self hm', hx]
            · rw [List.getElem?_set_ne hi]
          rw [e4] at k
          exact k
      · rw [f2] at ha
        refine ⟨by rw [f1]; exact Nat.le_refl _, fun h => absurd (f1.symm.trans h) (by simp), fun h => ?_⟩
        have : answered f s e = some (v.nx, v.sends, v.word) := ha
        have e3 : eStep f s e = eS ⟨s.st.set (mach f e) v.nx, sendAll L v.sends⟩ := by
          unfold eStep CK.can CK.step
          rw [this, hL]
          rfl
        rw [e3] at k
        rw [f1]
        exact k
    obtain ⟨hm1, hm2, hm3⟩ := hmv
    clear k
    have hmem : ∀ v ∈ r.mv.filter (mvIs x c), v ∈ r.mv := fun v hv => (List.mem_filter.mp hv).1
    generalize r.mv.filter (mvIs x c) = mvs at hm1 hm2 hm3 hmem
    refine bl_seqC (fun ρ m3 => m3 = m2 ∧ ¬ (mvs = [] ∧ c = "own") ∧ ρ = ⟨[some (.t (eF f)), some (.t (eS s)), some (.t (eD e)), some (.l a (s.st.map T.int) true), some (.l a2 (L.map eLd) true), some (.t (.int (mach f e : Nat))), some (.t (.str c)), none, none, none, some (.l p (mvs.map eMv) true), none, none, none, none], []⟩) ?_ ?_
    · walk_at "wp"
      intro p0
      refine wEqNil (noBs_map eMv noB_mv _) ?_
      walk_at "wp"
      cases mvs with
      | nil =>
        refine ⟨fun _ => ?_, fun z => (by cases z)⟩
        walk_at "wp"
        refine ⟨fun z => ?_, fun z => ?_⟩
        · walk_at "wp"
          exact hm2 rfl (of_decide_eq_true z)
        · exact bl_next ⟨rfl, fun h => of_decide_eq_false z h.2, rfl⟩
      | cons v vs =>
        refine ⟨fun z => (by cases z), fun _ => ?_⟩
        exact ⟨fun z => (by cases z), fun _ => bl_next ⟨rfl, fun h => absurd h.1 (by simp), rfl⟩⟩
    rintro ρ m3 ⟨em, hn0, rfl⟩
    subst em
    have hfin := hm3 hn0
    refine bl_seq (bl_forS (α := Mv) [7, 8, 11, 12, 13] eMv (fun q : List Int × List Ld => [some (.t (eF f)), some (.t (eS s)), some (.t (eD e)), some (.l a (q.1.map T.int) true), some (.l a2 (q.2.map eLd) true), some (.t (.int (mach f e : Nat))), some (.t (.str c)), none, none, none, some (.gh p), none, none, none, none]) (fun i q m' => m' = m3 ∧ q = foldMv (mach f e) (s.st, L) (mvs.take i) ∧ q.1.length = s.st.length ∧ q.2.length = L.length ∧ ∀ (j : Nat) y, q.2[j]? = some y → LOk (b + 3 * i) y) (ei_own (j := 10) rfl fun g => ?_))
    refine ⟨mvs, (s.st, L), rfl, rfl, ⟨rfl, rfl, rfl, rfl, hlo⟩, fun p hp => List.mem_cons_of_mem _ hp, fun i v q m' hv ⟨em, h1, h2, h3, h4⟩ => ?_, fun q m' ⟨em, h1, h2, h3, h4⟩ => ?_⟩
    · subst em
      obtain ⟨qs, ql⟩ := q
      dsimp only at h1 h2 h3 h4
      have hi := (List.getElem?_eq_some_iff.mp hv).1
      have hvs := hf.sends _ r hr v (hmem v (List.mem_of_getElem? hv))
      walk_at "wps"
      refine bl_seq (bl_setL (j := 3) rfl ?_)
      walk_at "wp"
      refine ⟨_, mach f e, rfl, by rw [List.length_map, h2]; exact ixN_nat hm', ?_⟩
      rw [← List.map_set]
      walk_at "wps"
      refine bl_forS (α := Nat × Str) [7, 8, 12, 13] eSend (fun q2 : List Ld => [some (.t (eF f)), some (.t (eS s)), some (.t (eD e)), some (.l a ((qs.set (mach f e) v.nx).map T.int) true), some (.l a2 (q2.map eLd) true), some (.t (.int (mach f e : Nat))), some (.t (.str c)), none, none, none, some (.gh p), some (.t (eMv v)), none, none, none]) (fun i2 q2 m4 => m4 = m' ∧ q2 = sendAll ql (v.sends.take i2) ∧ q2.length = L.length ∧ ∀ (j : Nat) y, q2[j]? = some y → LOk (b + 3 * i + i2) y) (ei_tup ?_)
      walk_at "wp"
      intro g2
      refine ⟨v.sends, ql, rfl, rfl, ⟨rfl, rfl, h3, h4⟩, fun p hp => List.mem_cons_of_mem _ hp, fun i2 sd q2 m4 hv2 ⟨em, h5, h6, h7⟩ => ?_, fun q2 m4 ⟨em, h5, h6, h7⟩ => ?_⟩
      · subst em
        have hi2 := (List.getElem?_eq_some_iff.mp hv2).1
        obtain ⟨qr, hqr, _⟩ := hvs.2 sd (List.mem_of_getElem? hv2)
        have hsd : sd.1 < q2.length := by rw [h6, htl]; exact (List.getElem?_eq_some_iff.mp hqr).1
        have hy := List.getElem?_eq_getElem hsd
        generalize q2[sd.1]'hsd = y at hy
        have hyl := (h7 _ _ hy).2.2.2.1
        walk_at "wp"
        refine wIxL (atI_map hy) ?_
        walk_at "wp"
        refine bl_setL (j := 4) rfl ?_
        walk_at "wp"
        refine wAddT ?_ ?_
        · simp; show _ ≤ 100000; omega
        walk_at "wp"
        refine ⟨_, sd.1, rfl, by rw [List.length_map]; exact ixN_nat hsd, ?_⟩
        have ey : T.tup [.int (y.sent + 1), .tup (y.w.map eLt ++ [T.tup [.int y.sent, .str sd.2]])] = eLd (y.put sd.2) := by simp [Ld.put]
        rw [ey, ← List.map_set]
        refine ⟨rfl, q2.set sd.1 (y.put sd.2), rfl, rfl, ?_, by rw [List.length_set]; exact h6, ?_⟩
        · rw [List.take_add_one, hv2]
          show _ = List.foldl sendOne ql (v.sends.take i2 ++ [sd])
          rw [List.foldl_append]
          show _ = sendOne (sendAll ql (v.sends.take i2)) sd
          rw [← h5]
          simp only [sendOne, hy]
        · exact set_all (fun j y e => (h7 j y e).mono (by omega)) ((h7 _ _ hy).put _)
      · subst em
        rw [List.take_length] at h5
        subst h5
        refine ⟨rfl, (qs.set (mach f e) v.nx, sendAll ql v.sends), rfl, rfl, ?_, by dsimp only; rw [List.length_set]; exact h2, h6, fun j y e => (h7 j y e).mono (by have := hvs.1; omega)⟩
        rw [List.take_add_one, hv]
        show _ = List.foldl _ (s.st, L) (mvs.take i ++ [v])
        rw [List.foldl_append]
        show _ = (fun a v => (a.1.set (mach f e) v.nx, sendAll a.2 v.sends)) (foldMv (mach f e) (s.st, L) (mvs.take i)) v
        rw [← h1]
    · subst em
      rw [List.take_length] at h1
      subst h1
      walk_at "wp"
      exact hfin
end CK
/-! part D11 -/
set_option Elab.async false
set_option linter.all false
set_option maxRecDepth 100000
set_option maxHeartbeats 2000000
/-! The law's own defs, part 2. -/
namespace CK
open PySem PySem.Spec PyProof.Rows L2
local macro_rules | `(tactic| walk_at "wp0") => `(tactic| first
  | ((with_reducible refine bl_retL (a := ?va) (ds := ?vd) ?vh ?_); (case vh => exact rfl))
  | ((with_reducible refine bl_retD (a := ?va) (ds := ?vd) ?vh ?_); (case vh => exact rfl))
  | (with_reducible refine bl_ret ?_)
  | (with_reducible refine bl_if ?_)
  | (with_reducible refine bl_asg ?_)
  | (with_reducible refine bl_asgP ?_)
  | (with_reducible refine bl_next ?_)
  | (with_reducible refine et_test ?_)
  | (with_reducible refine et_B ?_)
  | (with_reducible refine et_and ?_)
  | (with_reducible refine et_or ?_)
  | (with_reducible refine et_not ?_)
  | (with_reducible refine et_yes ?_)
  | ((with_reducible refine ev_varT (d := ?vd) ?vh ?_); (case vh => exact rfl))
  | ((with_reducible refine ev_varL (a := ?va) (ds := ?vd) (o := ?vo) ?vh ?_); (case vh => exact rfl))
  | ((with_reducible refine ev_varD (a := ?va) (kvs := ?vd) (o := ?vo) ?vh ?_); (case vh => exact rfl))
  | ((with_reducible refine ev_varP ?vh ?_); (case vh => exact rfl))
  | (with_reducible refine ev_int ?_)
  | (with_reducible refine ev_str ?_)
  | (with_reducible refine ev_bl ?_)
  | (with_reducible refine ev_non ?_)
  | (with_reducible refine ev_ty ?_)
  | (with_reducible refine ev_op ro_ix ?_)
  | (with_reducible refine ev_op ro_eq ?_)
  | (with_reducible refine ev_op ro_is ?_)
  | (with_reducible refine ev_op ro_cmp ?_)
  | (with_reducible refine ev_op ro_add ?_)
  | (with_reducible refine ev_op ro_sub ?_)
  | (with_reducible refine ev_op ro_mul ?_)
  | (with_reducible refine ev_op ro_mod ?_)
  | (with_reducible refine ev_op ro_div ?_)
  | (with_reducible refine ev_op ro_pow ?_)
  | (with_reducible refine ev_op ro_in ?_)
  | (with_reducible refine ev_neg ?_)
  | (with_reducible refine ev_cb rc_len ?_)
  | (with_reducible refine ev_cb rc_isi ?_)
  | (with_reducible refine ev_cb rc_all ?_)
  | (with_reducible refine ev_cb rc_list ?_)
  | (with_reducible refine ev_cb rc_tuple ?_)
  | (with_reducible refine ev_cb rc_int ?_)
  | (with_reducible refine ev_cb rc_max ?_)
  | (with_reducible refine ea_cons ?_)
  | (with_reducible refine ea_nil ?_)
  | (with_reducible refine ev_tup ?_)
  | (with_reducible refine ev_lst ?_)
  | (with_reducible refine ev_sl ?_)
  | (with_reducible refine eo_none ?_)
  | (with_reducible refine eo_some ?_)
  | (with_reducible refine ev_dget ?_)
  | (with_reducible refine ev_dnew ?_)
  | (with_reducible refine ev_if ?_)
  | (with_reducible refine ev_and ?_)
  | (with_reducible refine ev_or ?_)
  | (with_reducible refine ev_not ?_)
  | (with_reducible refine ev_chain ro_cmp ro_cmp ?_)
  | (with_reducible refine ev_call ?_)
  | (with_reducible refine ev_lrg2 ?_)
  | (with_reducible refine wAddI ?_)
  | (with_reducible refine wSub ?_)
  | (with_reducible refine wEqI ?_)
  | (with_reducible refine wEqS ?_)
  | (with_reducible refine wNeI ?_)
  | (with_reducible refine wNeS ?_)
  | (with_reducible refine wCmp ?_)
  | (with_reducible refine wLenT ?_)
  | (with_reducible refine wLenL ?_)
  | (with_reducible refine wTupT ?_)
  | (with_reducible refine wTupL ?_)
  | (with_reducible refine wIsN ?_)
  | (with_reducible refine wNotN ?_)
  | (with_reducible refine wIsB ?_)
  | (with_reducible refine wInt ?_)
  | (with_reducible refine wMax ?_)
  | (with_reducible refine wListT ?_; intro _)
  | (with_reducible refine wListL ?_; intro _)
  | (with_reducible refine wSlT ?_)
  | ((with_reducible refine wIxT (d := ?vd) ?vh ?_); (case vh => exact rfl))
  | (refine wIxT atI_c0 ?_)
  | (refine wIxT atI_c1 ?_)
  | (refine wIxT atI_c2 ?_)
  | ((with_reducible refine wIxL (d := ?vd) ?vh ?_); (case vh => exact rfl))
  | ((with_reducible refine wIsi (b := ?vd) ?vh ?_); (case vh => exact rfl))
  | ((with_reducible refine wIsiL (b := ?vd) ?vh ?_); (case vh => exact rfl))
  | (with_reducible refine tg_tup rfl ?_)
  | (with_reducible refine tgs_cons ?_)
  | (with_reducible refine tgs_nil ?_)
  | ((with_reducible refine tg_name ?vh ?_); (case vh => decide))
  | (with_reducible refine ⟨_, rfl, ?_⟩)
  | (with_reducible refine ⟨_, _, rfl, ?_⟩)
  | (with_reducible refine ⟨_, _, rfl, rfl, ?_⟩)
  | (with_reducible refine ⟨_, _, _, rfl, ?_⟩)
  | (refine And.intro (show List.length _ ≤ lim from Nat.le_of_ble_eq_true rfl) ?_)
  | (with_reducible refine seqK_nx ?_)
  | (with_reducible refine seqK_rt ?_)
  | (with_reducible refine seqK_ex ?_)
  | fail "wp0: no step")
local macro_rules | `(tactic| walk_at "wp1") => `(tactic| first | (with_reducible refine bl_seq ?_) | walk_at "wp0")
local macro_rules | `(tactic| walk_at "wps") => `(tactic| repeat (walk_at "wp0"))
local macro_rules | `(tactic| walk_at "wp") => `(tactic| repeat (walk_at "wp1"))
/-- deeds in a tuple or a list -/
def DsX (x : X) (ds : List T) : Prop := x = .t (.tup ds) ∨ ∃ a, x = .l a ds false
theorem ei_ds {F : PySem.W.Frag} {ρ : En} {n j : Nat} {x : X} {ds : List T} {K : List T → En → Nat → Prop} (hj : ρ.s[j]? = some (some x)) (h : DsX x ds) (k : ∀ g : Gh, K ds { ρ with g := g :: ρ.g } n) : EvI (iSeqU F (tVar j)) ρ n K := by
  rcases h with rfl | ⟨a, rfl⟩
  · exact ei_tup (ev_varT hj ⟨ds, rfl, k⟩)
  · exact ei_ro hj k
theorem wLenD {x : X} {ds : List T} {K : X → Prop} (h : DsX x ds) (k : K (.t (.int ds.length))) : LenW [x.rd] K := by
  rcases h with rfl | ⟨a, rfl⟩
  · exact k
  · exact k
theorem DsX.arg {x : X} {ds : List T} (h : DsX x ds) : x.rd.arg = x ∧ x.isGh = false := by
  rcases h with rfl | ⟨a, rfl⟩ <;> exact ⟨rfl, rfl⟩
def WOk (f : Fm) (s : Sd) (d : Dd) : Prop := DOk f d ∧ can f s d = true
theorem hear_can {f : Fm} (F : FOk f) {s : Sd} {b : Nat} (S : SOk f s b) {m : Nat} (h : m < f.rules.length) : WOk f s (.hear m "a") := by
  refine ⟨⟨h, by decide +kernel⟩, ?_⟩
  have hx := List.getElem?_eq_getElem (show m < s.st.length by rw [S.st]; exact h)
  have hr := List.getElem?_eq_getElem h
  have e : answered f s (.hear m "a") = ansOf (s.st[m]'(by rw [S.st]; exact h)) "a" ((f.rules[m]'h).mv.find? (mvIs (s.st[m]'(by rw [S.st]; exact h)) "a")) := by
    simp only [answered, cause, mach, hx, Fm.answer, hr]
  unfold can
  rw [e]
  cases (f.rules[m]'h).mv.find? (mvIs (s.st[m]'(by rw [S.st]; exact h)) "a") with
  | some v => rfl
  | none =>
    unfold ansOf
    rw [if_neg (by decide)]
    rfl
abbrev F__law_may : PF := fun xs n K => ∃ (f : Fm) (s : Sd) (b : Nat), xs = [.t (eF f), .t (eS s)] ∧ FOk f ∧ SOk f s b ∧ b ≤ 1000 ∧ (∀ p ds, ds ≠ [] → ds.length ≤ 30000 → (∀ d ∈ ds, WOk f s d) → K (.l p (ds.map eD) true) n)
theorem len__law_may : ∀ xs n K, F__law_may xs n K → xs.length = 2 := fun _ _ _ ⟨_, _, _, e, _⟩ => by rw [e]; rfl
abbrev N__law_may : List Str := ["_law_form", "_law_stand", "_law_some", "_law_road", "_law_deed", "_law_m", "_law_letter"]
theorem sc__law_may : FnScope N__law_may ["_law_form", "_law_stand"] (defScope s__law_may) := ⟨rfl, rfl, rfl, by decide +kernel, rfl, by decide +kernel, by decide +kernel⟩
theorem cal__law_may {P : Program} {w : World} {K : PySem.W.Frag} {mg : Str → Option Value} {base : Heap} {f : Addr} {fd : FuncData} (B : Bi mg) (c__law_after : Cal P w K mg base "_law_after" 2 ["_law_form", "_law_stand", "_law_deed"] (spU F__law_after)) (F : Fun K "_law_may" "_law_may" s__law_may f fd) (gm : mg "_law_may" = some (.ref f)) : Cal P w K mg base "_law_may" 3 ["_law_form", "_law_stand"] (spU F__law_may) := by
  have bn : Binds K fd ["_law_form", "_law_stand"] [] := F.binds fun _ _ _ _ _ _ us hl => match us, hl with | [_, _], _ => rfl
  refine mk_cal (k := 2) F gm bn sc__law_may rfl len__law_may fun cdv A outer s H E hr => ?_
  have nd := (sc__law_may).nd
  apply Exists.intro
  apply And.intro
  · exact (pss_cons (ps_set (i := 2) nd rfl (Or.inl rfl) (pe_op (op_addK (K := K)) (pe_lc (own := [("_law_m", 5)]) (g := (gName 5)) (tt := tYes) rfl nd (pi_range1 (by rfl) B.range (pa_cons (pe_callB (call_lenK (K := K)) (by rfl) B.len bt_len (pa_cons (pe_ix (ix_K (K := K)) (pv 0) pe_int (fun _ _ => rfl)) pa_nil)) pa_nil)) (blkOk_by (own := [("_law_m", 5)]) (N := N__law_may) (sc := (defScope s__law_may)) (by decide +kernel)) (fun _ _ _ _ _ => (pg_name (i := 5) nd rfl (Or.inl rfl))) (fun _ _ _ _ _ => pts_nil) (fun _ _ _ _ _ => (pe_tup (pa_cons pe_str (pa_cons (pv 5) pa_nil))))) (pe_lc (own := [("_law_m", 5)]) (g := (gName 5)) (tt := tYes) rfl nd (pi_range1 (by rfl) B.range (pa_cons (pe_callB (call_lenK (K := K)) (by rfl) B.len bt_len (pa_cons (pe_ix (ix_K (K := K)) (pv 0) pe_int (fun _ _ => rfl)) pa_nil)) pa_nil)) (blkOk_by (own := [("_law_m", 5)]) (N := N__law_may) (sc := (defScope s__law_may)) (by decide +kernel)) (fun _ _ _ _ _ => (pg_name (i := 5) nd rfl (Or.inl rfl))) (fun _ _ _ _ _ => pts_nil) (fun _ _ _ _ _ => (pe_tup (pa_cons pe_str (pa_cons (pv 5) (pa_cons pe_str pa_nil))))))))
    (pss_cons (ps_for PassesOwn.never rfl (pi_range1 (by rfl) B.range (pa_cons (pe_callB (call_lenK (K := K)) (by rfl) B.len bt_len (pa_cons (pe_ix (ix_K (K := K)) (pv 0) pe_int (fun _ _ => rfl)) pa_nil)) pa_nil)) (pg_name (i := 3) nd rfl (Or.inr rfl))
      (pss_one (ps_set (i := 2) nd rfl (Or.inl rfl) (pe_op (op_addK (K := K)) (pv 2) (pe_op (op_mulK (K := K)) (pe_lc (own := [("_law_letter", 6)]) (g := (gName 6)) (tt := tYes) rfl nd (pi_seqU (pe_ix (ix_K (K := K)) (pe_ix (ix_K (K := K)) (pe_ix (ix_K (K := K)) (pv 1) pe_int (fun _ _ => rfl)) (pv 3) (fun _ _ => rfl)) pe_int (fun _ _ => rfl))) (blkOk_by (own := [("_law_letter", 6)]) (N := N__law_may) (sc := (defScope s__law_may)) (by decide +kernel)) (fun _ _ _ _ _ => (pg_name (i := 6) nd rfl (Or.inl rfl))) (fun _ _ _ _ _ => pts_nil) (fun _ _ _ _ _ => (pe_tup (pa_cons pe_str (pa_cons (pv 3) (pa_cons (pe_ix (ix_K (K := K)) (pv 6) pe_int (fun _ _ => rfl)) pa_nil)))))) pe_int)))))
    (pss_one (ps_ret (pe_lc (own := [("_law_deed", 4)]) (g := (gName 4)) rfl nd (pi_seqU (pv 2)) (blkOk_by (own := [("_law_deed", 4)]) (N := N__law_may) (sc := (defScope s__law_may)) (by decide +kernel)) (fun _ _ _ _ _ => (pg_name (i := 4) nd rfl (Or.inl rfl))) (fun _ _ _ _ _ => (pts_one (pt_cmpR op_isnotP (pe_cal c__law_after hr (by rfl) (pa_cons (pv 0) (pa_cons (pv 1) (pa_cons (pv 4) pa_nil)))) pe_non (nomark _)))) (fun _ _ _ _ _ => (pv 4)))))))
  · rintro xs n Kx ⟨f, s, b, rfl, hf, hs, hb, k⟩
    have hrl := hf.rl
    have hrd := hf.rd
    have hld := hs.ld
    refine bl_seq ?_
    walk_at "wps"
    refine ev_lcM (fun i : Nat => T.int (i : Nat)) (fun i => eD (.own i)) (ei_rngN ?_)
    walk_at "wp"
    rw [List.length_map]
    refine ⟨by omega, List.range f.rules.length, rfl, fun i hi => ?_, fun a => ?_⟩
    · walk_at "wp"
      exact ⟨rfl, rfl⟩
    refine ev_lcM (fun i : Nat => T.int (i : Nat)) (fun i => eD (.hear i "a")) (ei_rngN ?_)
    walk_at "wp"
    rw [List.length_map]
    refine ⟨by omega, List.range f.rules.length, rfl, fun i hi => ?_, fun a2 => ?_⟩
    · walk_at "wp"
      exact ⟨rfl, rfl⟩
    refine wAddL ?_ fun a3 => ?_
    · simp; show _ ≤ 100000; omega
    walk_at "wps"
    have e0 : (List.range f.rules.length).map (fun i => eD (.own i)) ++ (List.range f.rules.length).map (fun i => eD (.hear i "a")) = ((List.range f.rules.length).map Dd.own ++ (List.range f.rules.length).map (fun i => Dd.hear i "a")).map eD := by
      rw [List.map_append, List.map_map, List.map_map]; rfl
    rw [e0]
    refine bl_seq (bl_forS (α := Nat) [3] (fun i => T.int (i : Nat)) (fun q : Addr × List Dd => [some (.t (eF f)), some (.t (eS s)), some (.l q.1 (q.2.map eD) true), none, none, none, none]) (fun i q m' => m' = n ∧ q.2.length ≤ 20 + 2 * b * i ∧ (∀ d ∈ q.2, DOk f d) ∧ Dd.hear 0 "a" ∈ q.2) (ei_rngN ?_))
    walk_at "wp"
    rw [List.length_map]
    refine ⟨by omega, List.range f.roads.length, (a3, _), rfl, rfl, ⟨rfl, by simp; omega, fun d hd => ?_, ?_⟩, fun p hp => hp, fun i v q m' hv ⟨em, h1, h2, h3⟩ => ?_, fun q m' ⟨em, h1, h2, h3⟩ => ?_⟩
    · rcases List.mem_append.mp hd with hd | hd
      · obtain ⟨i, hi, rfl⟩ := List.mem_map.mp hd
        exact List.mem_range.mp hi
      · obtain ⟨i, hi, rfl⟩ := List.mem_map.mp hd
        exact ⟨List.mem_range.mp hi, by decide +kernel⟩
    · have h0 : 0 < f.rules.length := List.length_pos_iff.mpr hf.ne
      exact List.mem_append.mpr (.inr (List.mem_map.mpr ⟨0, List.mem_range.mpr h0, rfl⟩))
    · subst em
      obtain ⟨qa, ql⟩ := q
      dsimp only at h1 h2 h3
      have hi : i < f.roads.length := by have := (List.getElem?_eq_some_iff.mp hv).1; rwa [List.length_range] at this
      rw [List.getElem?_range hi] at hv
      cases hv
      have hl := List.getElem?_eq_getElem (show i < s.ld.length by omega)
      generalize s.ld[i]'(by omega) = l at hl
      have hlw := (hs.w i l hl).2.2.2.1
      have hbi : 2 * b * i ≤ 2 * 1000 * 10 := Nat.mul_le_mul (by omega) (by omega)
      walk_at "wp"
      refine ev_lcM eLt (fun x => eD (.come i x.1)) (ei_tup ?_)
      walk_at "wp"
      refine wIxT (atI_map hl) ?_
      walk_at "wp"
      intro g
      refine ⟨l.w, rfl, fun x hx => ?_, fun c => ?_⟩
      · walk_at "wp"
        exact ⟨rfl, rfl⟩
      walk_at "wp"
      refine wMulL (by omega) (by omega) (by simp; show _ ≤ 100000; omega) fun c2 => ?_
      have e1 : (List.replicate (2 : Int).toNat (l.w.map fun x => eD (.come i x.1))).flatten = (l.w.map (fun x => Dd.come i x.1) ++ l.w.map (fun x => Dd.come i x.1)).map eD := by
        rw [List.map_append, List.map_map]
        simp [List.replicate]
        rfl
      rw [e1]
      refine wAddL ?_ fun c3 => ?_
      · simp; show _ ≤ 100000; omega
      rw [← List.map_append]
      have e9 : 2 * b * (i + 1) = 2 * b * i + 2 * b := by rw [Nat.mul_add, Nat.mul_one]
      refine ⟨rfl, (c3, _), rfl, rfl, ?_, fun d hd => ?_, List.mem_append.mpr (.inl h3)⟩
      · dsimp only
        rw [List.length_append, List.length_append, List.length_map, e9]
        omega
      · rcases List.mem_append.mp hd with hd | hd
        · exact h2 d hd
        · have : d ∈ l.w.map (fun x => Dd.come i x.1) := by
            rcases List.mem_append.mp hd with hd | hd <;> exact hd
          obtain ⟨x, _, rfl⟩ := List.mem_map.mp this
          exact hi
    · subst em
      obtain ⟨qa, ql⟩ := q
      dsimp only at h1 h2 h3
      rw [List.length_range] at h1
      have hbi : 2 * b * f.roads.length ≤ 2 * 1000 * 10 := Nat.mul_le_mul (by omega) (by omega)
      walk_at "wp"
      refine ev_lcF eD (fun d => can f s d) eD (ei_own (j := 2) rfl fun g => ?_)
      refine ⟨ql, rfl, fun d hd => ?_, fun c => ?_⟩
      · walk_at "wp"
        refine ⟨?_, fun _ => ?_⟩
        · walk_at "wp"
          refine ⟨f, s, d, b, rfl, hf, hs, by omega, h2 d hd, ?_⟩
          walk_at "wp"
          refine ⟨?_, rfl⟩
          unfold eStep
          cases can f s d <;> rfl
        · walk_at "wp"
          exact ⟨rfl, rfl⟩
      · have h0 : 0 < f.rules.length := List.length_pos_iff.mpr hf.ne
        refine k c (ql.filter fun d => can f s d) (fun z => ?_) ?_ fun d hd => ?_
        · have : Dd.hear 0 "a" ∈ ql.filter fun d => can f s d := List.mem_filter.mpr ⟨h3, (hear_can hf hs h0).2⟩
          rw [z] at this
          cases this
        · exact Nat.le_trans (List.length_filter_le _ _) (by omega)
        · have := List.mem_filter.mp hd
          exact ⟨h2 d this.1, this.2⟩
end CK
/-! part D12 -/
set_option Elab.async false
set_option linter.all false
set_option maxRecDepth 100000
set_option maxHeartbeats 2000000
/-! The law's own defs, part 3. -/
namespace CK
open PySem PySem.Spec PyProof.Rows L2
local macro_rules | `(tactic| walk_at "wp0") => `(tactic| first
  | ((with_reducible refine bl_retL (a := ?va) (ds := ?vd) ?vh ?_); (case vh => exact rfl))
  | ((with_reducible refine bl_retD (a := ?va) (ds := ?vd) ?vh ?_); (case vh => exact rfl))
  | (with_reducible refine bl_ret ?_)
  | (with_reducible refine bl_if ?_)
  | (with_reducible refine bl_asg ?_)
  | (with_reducible refine bl_asgP ?_)
  | (with_reducible refine bl_next ?_)
  | (with_reducible refine et_test ?_)
  | (with_reducible refine et_B ?_)
  | (with_reducible refine et_and ?_)
  | (with_reducible refine et_or ?_)
  | (with_reducible refine et_not ?_)
  | (with_reducible refine et_yes ?_)
  | ((with_reducible refine ev_varT (d := ?vd) ?vh ?_); (case vh => exact rfl))
  | ((with_reducible refine ev_varL (a := ?va) (ds := ?vd) (o := ?vo) ?vh ?_); (case vh => exact rfl))
  | ((with_reducible refine ev_varD (a := ?va) (kvs := ?vd) (o := ?vo) ?vh ?_); (case vh => exact rfl))
  | ((with_reducible refine ev_varP ?vh ?_); (case vh => exact rfl))
  | (with_reducible refine ev_int ?_)
  | (with_reducible refine ev_str ?_)
  | (with_reducible refine ev_bl ?_)
  | (with_reducible refine ev_non ?_)
  | (with_reducible refine ev_ty ?_)
  | (with_reducible refine ev_op ro_ix ?_)
  | (with_reducible refine ev_op ro_eq ?_)
  | (with_reducible refine ev_op ro_is ?_)
  | (with_reducible refine ev_op ro_cmp ?_)
  | (with_reducible refine ev_op ro_add ?_)
  | (with_reducible refine ev_op ro_sub ?_)
  | (with_reducible refine ev_op ro_mul ?_)
  | (with_reducible refine ev_op ro_mod ?_)
  | (with_reducible refine ev_op ro_div ?_)
  | (with_reducible refine ev_op ro_pow ?_)
  | (with_reducible refine ev_op ro_in ?_)
  | (with_reducible refine ev_neg ?_)
  | (with_reducible refine ev_cb rc_len ?_)
  | (with_reducible refine ev_cb rc_isi ?_)
  | (with_reducible refine ev_cb rc_all ?_)
  | (with_reducible refine ev_cb rc_list ?_)
  | (with_reducible refine ev_cb rc_tuple ?_)
  | (with_reducible refine ev_cb rc_int ?_)
  | (with_reducible refine ev_cb rc_max ?_)
  | (with_reducible refine ea_cons ?_)
  | (with_reducible refine ea_nil ?_)
  | (with_reducible refine ev_tup ?_)
  | (with_reducible refine ev_lst ?_)
  | (with_reducible refine ev_sl ?_)
  | (with_reducible refine eo_none ?_)
  | (with_reducible refine eo_some ?_)
  | (with_reducible refine ev_dget ?_)
  | (with_reducible refine ev_dnew ?_)
  | (with_reducible refine ev_if ?_)
  | (with_reducible refine ev_and ?_)
  | (with_reducible refine ev_or ?_)
  | (with_reducible refine ev_not ?_)
  | (with_reducible refine ev_chain ro_cmp ro_cmp ?_)
  | (with_reducible refine ev_call ?_)
  | (with_reducible refine ev_lrg2 ?_)
  | (with_reducible refine wAddI ?_)
  | (with_reducible refine wSub ?_)
  | (with_reducible refine wEqI ?_)
  | (with_reducible refine wEqS ?_)
  | (with_reducible refine wNeI ?_)
  | (with_reducible refine wNeS ?_)
  | (with_reducible refine wCmp ?_)
  | (with_reducible refine wLenT ?_)
  | (with_reducible refine wLenL ?_)
  | (with_reducible refine wTupT ?_)
  | (with_reducible refine wTupL ?_)
  | (with_reducible refine wIsN ?_)
  | (with_reducible refine wNotN ?_)
  | (with_reducible refine wIsB ?_)
  | (with_reducible refine wInt ?_)
  | (with_reducible refine wMax ?_)
  | (with_reducible refine wListT ?_; intro _)
  | (with_reducible refine wListL ?_; intro _)
  | (with_reducible refine wSlT ?_)
  | ((with_reducible refine wIxT (d := ?vd) ?vh ?_); (case vh => exact rfl))
  | (refine wIxT atI_c0 ?_)
  | (refine wIxT atI_c1 ?_)
  | (refine wIxT atI_c2 ?_)
  | ((with_reducible refine wIxL (d := ?vd) ?vh ?_); (case vh => exact rfl))
  | ((with_reducible refine wIsi (b := ?vd) ?vh ?_); (case vh => exact rfl))
  | ((with_reducible refine wIsiL (b := ?vd) ?vh ?_); (case vh => exact rfl))
  | (with_reducible refine tg_tup rfl ?_)
  | (with_reducible refine tgs_cons ?_)
  | (with_reducible refine tgs_nil ?_)
  | ((with_reducible refine tg_name ?vh ?_); (case vh => decide))
  | (with_reducible refine ⟨_, rfl, ?_⟩)
  | (with_reducible refine ⟨_, _, rfl, ?_⟩)
  | (with_reducible refine ⟨_, _, rfl, rfl, ?_⟩)
  | (with_reducible refine ⟨_, _, _, rfl, ?_⟩)
  | (refine And.intro (show List.length _ ≤ lim from Nat.le_of_ble_eq_true rfl) ?_)
  | (with_reducible refine seqK_nx ?_)
  | (with_reducible refine seqK_rt ?_)
  | (with_reducible refine seqK_ex ?_)
  | fail "wp0: no step")
local macro_rules | `(tactic| walk_at "wp1") => `(tactic| first | (with_reducible refine bl_seq ?_) | walk_at "wp0")
local macro_rules | `(tactic| walk_at "wps") => `(tactic| repeat (walk_at "wp0"))
local macro_rules | `(tactic| walk_at "wp") => `(tactic| repeat (walk_at "wp1"))
def mchs (f : Fm) (es : List Dd) : List Int := es.map fun d => ((mach f d : Nat) : Int)
theorem mchs_count (f : Fm) (es : List Dd) (m : Nat) : ((mchs f es).count ((m : Nat) : Int)) = cnt f es m := by
  unfold mchs cnt
  induction es with
  | nil => rfl
  | cons d es ih =>
    rw [List.map_cons, List.map_cons, List.count_cons, List.count_cons, ih]
    by_cases h : mach f d = m
    · simp [h]
    · have : ¬ ((mach f d : Nat) : Int) = ((m : Nat) : Int) := by omega
      simp [h, this]
theorem mchs_take (f : Fm) (es : List Dd) (k : Nat) : (mchs f es).take k = mchs f (es.take k) := by unfold mchs; rw [List.map_take]
abbrev F__law_all_events : PF := fun xs n K => ∃ (f : Fm) (es : List Dd) (x : X), xs = [.t (eF f), x] ∧ DsX x (es.map eD) ∧ FOk f ∧ (∀ e ∈ es, DOk f e) ∧ es.length ≤ 5000 ∧ ∀ p, K (.l p ((evs f es).map eEv) true) n
theorem len__law_all_events : ∀ xs n K, F__law_all_events xs n K → xs.length = 2 := fun _ _ _ ⟨_, _, _, e, _⟩ => by rw [e]; rfl
theorem evs_range (f : Fm) (es : List Dd) : (List.range es.length).map (fun k => T.tup [.int ((mchs f es).getD k 0), .int ((cnt f (es.take k) (match es[k]? with | some d => mach f d | none => 0) : Nat) : Int)]) = (evs f es).map eEv := by
  apply List.ext_getElem?
  intro k
  rw [List.getElem?_map, List.getElem?_map]
  by_cases hk : k < es.length
  · have hd := List.getElem?_eq_getElem hk
    generalize es[k]'hk = d at hd
    rw [List.getElem?_range hk, evs_get hd]
    have e : (mchs f es).getD k 0 = ((mach f d : Nat) : Int) := by
      unfold mchs
      rw [List.getD_eq_getElem?_getD, List.getElem?_map, hd]
      rfl
    simp only [Option.map_some, e, hd]
  · rw [List.getElem?_eq_none (by rw [List.length_range]; omega), List.getElem?_eq_none (by rw [evs_len]; omega)]
    rfl
abbrev N__law_all_events : List Str := ["_law_form", "_law_deeds", "_law_machines", "_law_deed", "_law_k"]
theorem sc__law_all_events : FnScope N__law_all_events ["_law_form", "_law_deeds"] (defScope s__law_all_events) := ⟨rfl, rfl, rfl, by decide +kernel, rfl, by decide +kernel, by decide +kernel⟩
theorem cal__law_all_events {P : Program} {w : World} {K : PySem.W.Frag} {mg : Str → Option Value} {base : Heap} {f : Addr} {fd : FuncData} (B : Bi mg) (c__law_machine : Cal P w K mg base "_law_machine" 1 ["_law_form", "_law_deed"] (spU F__law_machine)) (F : Fun K "_law_all_events" "_law_all_events" s__law_all_events f fd) (gm : mg "_law_all_events" = some (.ref f)) : Cal P w K mg base "_law_all_events" 2 ["_law_form", "_law_deeds"] (spU F__law_all_events) := by
  have bn : Binds K fd ["_law_form", "_law_deeds"] [] := F.binds fun _ _ _ _ _ _ us hl => match us, hl with | [_, _], _ => rfl
  refine mk_cal (k := 1) F gm bn sc__law_all_events rfl len__law_all_events fun cdv A outer s H E hr => ?_
  have nd := (sc__law_all_events).nd
  apply Exists.intro
  apply And.intro
  · exact (pss_cons (ps_set (i := 2) nd rfl (Or.inr rfl) (pe_lc (own := [("_law_deed", 3)]) (g := (gName 3)) (tt := tYes) rfl nd (pi_seqU (pv 1)) (blkOk_by (own := [("_law_deed", 3)]) (N := N__law_all_events) (sc := (defScope s__law_all_events)) (by decide +kernel)) (fun _ _ _ _ _ => (pg_name (i := 3) nd rfl (Or.inl rfl))) (fun _ _ _ _ _ => pts_nil) (fun _ _ _ _ _ => (pe_cal c__law_machine hr (by rfl) (pa_cons (pv 0) (pa_cons (pv 3) pa_nil))))))
    (pss_one (ps_ret (pe_lc (own := [("_law_k", 4)]) (g := (gName 4)) (tt := tYes) rfl nd (pi_range1 (by rfl) B.range (pa_cons (pe_callB (call_lenK (K := K)) (by rfl) B.len bt_len (pa_cons (pv 1) pa_nil)) pa_nil)) (blkOk_by (own := [("_law_k", 4)]) (N := N__law_all_events) (sc := (defScope s__law_all_events)) (by decide +kernel)) (fun _ _ _ _ _ => (pg_name (i := 4) nd rfl (Or.inl rfl))) (fun _ _ _ _ _ => pts_nil) (fun _ _ _ _ _ => (pe_tup (pa_cons (pe_ix (ix_K (K := K)) (pv 2) (pv 4) (fun _ _ => rfl)) (pa_cons (pe_cntK (K := K) (pe_slice (sl_K (K := K)) (pv 2) po_none (po_some (pv 4))) (pe_ix (ix_K (K := K)) (pv 2) (pv 4) (fun _ _ => rfl))) pa_nil))))))))
  · rintro xs n Kx ⟨f, es, x, rfl, hx, hf, hok, hel, k⟩
    refine bl_seq ?_
    walk_at "wps"
    refine ev_lcM eD (fun d => .int ((mach f d : Nat) : Int)) (ei_ds (j := 1) rfl hx fun g => ?_)
    refine ⟨es, rfl, fun d hd => ?_, fun a => ?_⟩
    · walk_at "wp"
      exact ⟨hok d hd, rfl, rfl⟩
    have e1 : es.map (fun d => T.int ((mach f d : Nat) : Int)) = (mchs f es).map T.int := by unfold mchs; rw [List.map_map]; rfl
    rw [e1]
    have hml : (mchs f es).length = es.length := by unfold mchs; simp
    walk_at "wp"
    refine ev_lcM (fun i : Nat => T.int (i : Nat)) (fun k => T.tup [.int ((mchs f es).getD k 0), .int ((cnt f (es.take k) (match es[k]? with | some d => mach f d | none => 0) : Nat) : Int)]) (ei_rngN ?_)
    refine ev_cb rc_len (ea_cons (ev_var (x := x) rfl hx.arg.2 (ea_nil (wLenD hx ?_))))
    rw [List.length_map]
    refine ⟨es.length, rfl, by omega, List.range es.length, rfl, fun i hi => ?_, fun c => ?_⟩
    · have hi' := List.mem_range.mp hi
      have hd := List.getElem?_eq_getElem hi'
      generalize es[i]'hi' = d at hd
      have hg : (mchs f es)[i]? = some ((mach f d : Nat) : Int) := by unfold mchs; rw [List.getElem?_map, hd]; rfl
      have hg2 : (mchs f es).getD i 0 = ((mach f d : Nat) : Int) := by rw [List.getD_eq_getElem?_getD, hg]; rfl
      walk_at "wp"
      refine wIxL (atI_map hg) ?_
      walk_at "wp"
      refine ev_cnt ?_
      walk_at "wp"
      refine wSlL fun c2 => ?_
      refine ⟨c2, (mchs f es).take i, true, by rw [cutA_take, List.map_take], ?_⟩
      walk_at "wp"
      refine wIxL (atI_map hg) ?_
      walk_at "wp"
      refine ⟨?_, rfl⟩
      simp only [hd, hg2, mchs_take, mchs_count]
      rfl
    · rw [evs_range]
      exact k c
abbrev F__law_all_ends : PF := fun xs n K => ∃ (f : Fm) (es : List Dd) (x : X), xs = [.t (eF f), x] ∧ DsX x (es.map eD) ∧ FOk f ∧ (∀ e ∈ es, DOk f e) ∧ es.length ≤ 5000 ∧ K (.t (.tup ((cnts f es).map T.int))) n
theorem len__law_all_ends : ∀ xs n K, F__law_all_ends xs n K → xs.length = 2 := fun _ _ _ ⟨_, _, _, e, _⟩ => by rw [e]; rfl
abbrev N__law_all_ends : List Str := ["_law_form", "_law_deeds", "_law_machines", "_law_deed", "_law_m"]
theorem sc__law_all_ends : FnScope N__law_all_ends ["_law_form", "_law_deeds"] (defScope s__law_all_ends) := ⟨rfl, rfl, rfl, by decide +kernel, rfl, by decide +kernel, by decide +kernel⟩
theorem cal__law_all_ends {P : Program} {w : World} {K : PySem.W.Frag} {mg : Str → Option Value} {base : Heap} {f : Addr} {fd : FuncData} (B : Bi mg) (c__law_machine : Cal P w K mg base "_law_machine" 1 ["_law_form", "_law_deed"] (spU F__law_machine)) (F : Fun K "_law_all_ends" "_law_all_ends" s__law_all_ends f fd) (gm : mg "_law_all_ends" = some (.ref f)) : Cal P w K mg base "_law_all_ends" 2 ["_law_form", "_law_deeds"] (spU F__law_all_ends) := by
  have bn : Binds K fd ["_law_form", "_law_deeds"] [] := F.binds fun _ _ _ _ _ _ us hl => match us, hl with | [_, _], _ => rfl
  refine mk_cal (k := 1) F gm bn sc__law_all_ends rfl len__law_all_ends fun cdv A outer s H E hr => ?_
  have nd := (sc__law_all_ends).nd
  apply Exists.intro
  apply And.intro
  · exact (pss_cons (ps_set (i := 2) nd rfl (Or.inr rfl) (pe_lc (own := [("_law_deed", 3)]) (g := (gName 3)) (tt := tYes) rfl nd (pi_seqU (pv 1)) (blkOk_by (own := [("_law_deed", 3)]) (N := N__law_all_ends) (sc := (defScope s__law_all_ends)) (by decide +kernel)) (fun _ _ _ _ _ => (pg_name (i := 3) nd rfl (Or.inl rfl))) (fun _ _ _ _ _ => pts_nil) (fun _ _ _ _ _ => (pe_cal c__law_machine hr (by rfl) (pa_cons (pv 0) (pa_cons (pv 3) pa_nil))))))
    (pss_one (ps_ret (pe_callTy (call_tupleK (K := K)) (by rfl) B.tuple bt_tuple (pa_cons (pe_lc (own := [("_law_m", 4)]) (g := (gName 4)) (tt := tYes) rfl nd (pi_range1 (by rfl) B.range (pa_cons (pe_callB (call_lenK (K := K)) (by rfl) B.len bt_len (pa_cons (pe_ix (ix_K (K := K)) (pv 0) pe_int (fun _ _ => rfl)) pa_nil)) pa_nil)) (blkOk_by (own := [("_law_m", 4)]) (N := N__law_all_ends) (sc := (defScope s__law_all_ends)) (by decide +kernel)) (fun _ _ _ _ _ => (pg_name (i := 4) nd rfl (Or.inl rfl))) (fun _ _ _ _ _ => pts_nil) (fun _ _ _ _ _ => (pe_cntK (K := K) (pv 2) (pv 4)))) pa_nil)))))
  · rintro xs n Kx ⟨f, es, x, rfl, hx, hf, hok, hel, k⟩
    have hrl := hf.rl
    refine bl_seq ?_
    walk_at "wps"
    refine ev_lcM eD (fun d => .int ((mach f d : Nat) : Int)) (ei_ds (j := 1) rfl hx fun g => ?_)
    refine ⟨es, rfl, fun d hd => ?_, fun a => ?_⟩
    · walk_at "wp"
      exact ⟨hok d hd, rfl, rfl⟩
    have e1 : es.map (fun d => T.int ((mach f d : Nat) : Int)) = (mchs f es).map T.int := by unfold mchs; rw [List.map_map]; rfl
    rw [e1]
    walk_at "wp"
    refine ev_lcM (fun i : Nat => T.int (i : Nat)) (fun m => T.int ((cnt f es m : Nat) : Int)) (ei_rngN ?_)
    walk_at "wp"
    rw [List.length_map]
    refine ⟨by omega, List.range f.rules.length, rfl, fun i hi => ?_, fun c => ?_⟩
    · walk_at "wp"
      refine ev_cnt ?_
      walk_at "wp"
      refine ⟨?_, rfl⟩
      rw [mchs_count]
      rfl
    · walk_at "wp"
      have e2 : (List.range f.rules.length).map (fun m => T.int ((cnt f es m : Nat) : Int)) = (cnts f es).map T.int := by unfold cnts; rw [List.map_map]; rfl
      rw [e2]
      exact k
abbrev F__law_whole : PF := fun xs n K => ∃ d, xs = [.t d] ∧ K (.t (.bl (isWhole d))) n
theorem len__law_whole : ∀ xs n K, F__law_whole xs n K → xs.length = 1 := fun _ _ _ ⟨_, e, _⟩ => by rw [e]; rfl
abbrev N__law_whole : List Str := ["_law_thing"]
theorem sc__law_whole : FnScope N__law_whole ["_law_thing"] (defScope s__law_whole) := ⟨rfl, rfl, rfl, by decide +kernel, rfl, by decide +kernel, by decide +kernel⟩
theorem cal__law_whole {P : Program} {w : World} {K : PySem.W.Frag} {mg : Str → Option Value} {base : Heap} {f : Addr} {fd : FuncData} (B : Bi mg) (F : Fun K "_law_whole" "_law_whole" s__law_whole f fd) (gm : mg "_law_whole" = some (.ref f)) : Cal P w K mg base "_law_whole" 1 ["_law_thing"] (spU F__law_whole) := by
  have bn : Binds K fd ["_law_thing"] [] := F.binds fun _ _ _ _ _ _ us hl => match us, hl with | [_], _ => rfl
  refine mk_cal (k := 0) F gm bn sc__law_whole rfl len__law_whole fun cdv A outer s H E hr => ?_
  have nd := (sc__law_whole).nd
  apply Exists.intro
  apply And.intro
  · exact (pss_one (ps_ret (pe_and (pe_callB (call_isiK (K := K)) (by rfl) B.isinstance bt_isinstance (pa_cons (pv 0) (pa_cons (pe_bltn (v := .ty "int") (by rfl) B.int bt_int rfl) pa_nil))) (pe_one (pe_not (pe_callB (call_isiK (K := K)) (by rfl) B.isinstance bt_isinstance (pa_cons (pv 0) (pa_cons (pe_bltn (v := .ty "bool") (by rfl) B.bool bt_bool rfl) pa_nil))))))))
  · rintro xs n Kx ⟨d, rfl, k⟩
    walk_at "wp"
    cases d
    all_goals (walk_at "wp"; refine ⟨fun z => ?_, fun z => ?_⟩ <;> first | cases z | skip)
    all_goals (walk_at "wp")
    all_goals exact k
abbrev F__law_tried : PF := fun xs n K => ∃ (f : Fm) (s : Sd) (e : Dd) (b : Nat), xs = [.t (eF f), .t (eS s), .t (eD e)] ∧ FOk f ∧ SOk f s b ∧ b ≤ 9000 ∧ DOk f e ∧ K (.t (eStep f s e)) n
theorem len__law_tried : ∀ xs n K, F__law_tried xs n K → xs.length = 3 := fun _ _ _ ⟨_, _, _, _, e, _⟩ => by rw [e]; rfl
abbrev N__law_tried : List Str := ["_law_form", "_law_stand", "_law_thing"]
theorem sc__law_tried : FnScope N__law_tried ["_law_form", "_law_stand", "_law_thing"] (defScope s__law_tried) := ⟨rfl, rfl, rfl, by decide +kernel, rfl, by decide +kernel, by decide +kernel⟩
theorem cal__law_tried {P : Program} {w : World} {K : PySem.W.Frag} {mg : Str → Option Value} {base : Heap} {f : Addr} {fd : FuncData} (B : Bi mg) (c__law_after : Cal P w K mg base "_law_after" 2 ["_law_form", "_law_stand", "_law_deed"] (spU F__law_after)) (c_can : Cal P w K mg base "can" 4 ["form", "stand", "thing"] (spU F_can)) (F : Fun K "_law_tried" "_law_tried" s__law_tried f fd) (gm : mg "_law_tried" = some (.ref f)) : Cal P w K mg base "_law_tried" 5 ["_law_form", "_law_stand", "_law_thing"] (spU F__law_tried) := by
  have bn : Binds K fd ["_law_form", "_law_stand", "_law_thing"] [] := F.binds fun _ _ _ _ _ _ us hl => match us, hl with | [_, _, _], _ => rfl
  refine mk_cal (k := 4) F gm bn sc__law_tried rfl len__law_tried fun cdv A outer s H E hr => ?_
  have nd := (sc__law_tried).nd
  apply Exists.intro
  apply And.intro
  · exact (pss_one (ps_ret (pe_ifExp (pt_cmpR op_isP (pe_cal c_can hr (by rfl) (pa_cons (pv 0) (pa_cons (pv 1) (pa_cons (pv 2) pa_nil)))) pe_bl (nomark _)) (pe_cal c__law_after hr (by rfl) (pa_cons (pv 0) (pa_cons (pv 1) (pa_cons (pv 2) pa_nil)))) pe_non)))
  · rintro xs n Kx ⟨f, s, e, b, rfl, hf, hs, hb, he, k⟩
    walk_at "wp"
    refine ⟨f, s, eD e, b, rfl, hf, hs, eD_mild he, fun e2 he2 _ => ?_, fun h => absurd he (h e rfl)⟩
    cases eD_inj he2
    walk_at "wp"
    refine ⟨fun z => ?_, fun z => ?_⟩
    · walk_at "wp"
      exact ⟨f, s, e, b, rfl, hf, hs, hb, he, k⟩
    · walk_at "wp"
      have hc : can f s e = false := by cases h : can f s e <;> simp_all
      have e3 : eStep f s e = .non := by unfold eStep; rw [hc]; rfl
      rw [e3] at k
      exact k
abbrev F__law_put : PF := fun xs n K => ∃ (ds : List T) (i : Nat) (d : T), xs = [.t (.tup ds), .t (.int (i : Nat)), .t d] ∧ i < ds.length ∧ ds.length ≤ 5000 ∧ K (.t (.tup (ds.set i d))) n
theorem len__law_put : ∀ xs n K, F__law_put xs n K → xs.length = 3 := fun _ _ _ ⟨_, _, _, e, _⟩ => by rw [e]; rfl
abbrev N__law_put : List Str := ["_law_row", "_law_place", "_law_thing"]
theorem sc__law_put : FnScope N__law_put ["_law_row", "_law_place", "_law_thing"] (defScope s__law_put) := ⟨rfl, rfl, rfl, by decide +kernel, rfl, by decide +kernel, by decide +kernel⟩
theorem cal__law_put {P : Program} {w : World} {K : PySem.W.Frag} {mg : Str → Option Value} {base : Heap} {f : Addr} {fd : FuncData} (B : Bi mg) (F : Fun K "_law_put" "_law_put" s__law_put f fd) (gm : mg "_law_put" = some (.ref f)) : Cal P w K mg base "_law_put" 1 ["_law_row", "_law_place", "_law_thing"] (spU F__law_put) := by
  have bn : Binds K fd ["_law_row", "_law_place", "_law_thing"] [] := F.binds fun _ _ _ _ _ _ us hl => match us, hl with | [_, _, _], _ => rfl
  refine mk_cal (k := 0) F gm bn sc__law_put rfl len__law_put fun cdv A outer s H E hr => ?_
  have nd := (sc__law_put).nd
  apply Exists.intro
  apply And.intro
  · exact (pss_one (ps_ret (pe_op (op_addK (K := K)) (pe_op (op_addK (K := K)) (pe_slice (sl_K (K := K)) (pv 0) po_none (po_some (pv 1))) (pe_tup (pa_cons (pv 2) pa_nil))) (pe_slice (sl_K (K := K)) (pv 0) (po_some (pe_op (op_addK (K := K)) (pv 1) pe_int)) po_none))))
  · rintro xs n Kx ⟨ds, i, d, rfl, hi, hl, k⟩
    walk_at "wp"
    refine wAddT ?_ ?_
    · rw [cutA_take]; simp; show _ ≤ 100000; omega
    walk_at "wp"
    refine wAddT ?_ ?_
    · rw [show ((i : Int) + 1) = ((i + 1 : Nat) : Int) from rfl, cutA_take, cutA_drop]; simp; show _ ≤ 100000; omega
    · rw [show ((i : Int) + 1) = ((i + 1 : Nat) : Int) from rfl, cutA_take, cutA_drop, set_cut hi]
      exact k
abbrev F__law_walk : PF := fun xs n K => ∃ (f : Fm) (s : Sd) (es : List Dd) (b : Nat), xs = [.t (eF f), .t (eS s), .t (.tup (es.map eD))] ∧ FOk f ∧ SOk f s b ∧ b + 3 * es.length ≤ 8000 ∧ Runs f s es ∧ K (.t (eS (walk f s es))) n
theorem len__law_walk : ∀ xs n K, F__law_walk xs n K → xs.length = 3 := fun _ _ _ ⟨_, _, _, _, e, _⟩ => by rw [e]; rfl
theorem eStep_yes {f : Fm} {s : Sd} {d : Dd} (h : can f s d = true) : eStep f s d = eS (step f s d) := by unfold eStep; rw [if_pos h]
abbrev N__law_walk : List Str := ["_law_form", "_law_stand", "_law_deeds", "_law_deed"]
theorem sc__law_walk : FnScope N__law_walk ["_law_form", "_law_stand", "_law_deeds"] (defScope s__law_walk) := ⟨rfl, rfl, rfl, by decide +kernel, rfl, by decide +kernel, by decide +kernel⟩
theorem cal__law_walk {P : Program} {w : World} {K : PySem.W.Frag} {mg : Str → Option Value} {base : Heap} {f : Addr} {fd : FuncData} (B : Bi mg) (c__law_after : Cal P w K mg base "_law_after" 2 ["_law_form", "_law_stand", "_law_deed"] (spU F__law_after)) (F : Fun K "_law_walk" "_law_walk" s__law_walk f fd) (gm : mg "_law_walk" = some (.ref f)) : Cal P w K mg base "_law_walk" 3 ["_law_form", "_law_stand", "_law_deeds"] (spU F__law_walk) := by
  have bn : Binds K fd ["_law_form", "_law_stand", "_law_deeds"] [] := F.binds fun _ _ _ _ _ _ us hl => match us, hl with | [_, _, _], _ => rfl
  refine mk_cal (k := 2) F gm bn sc__law_walk rfl len__law_walk fun cdv A outer s H E hr => ?_
  have nd := (sc__law_walk).nd
  apply Exists.intro
  apply And.intro
  · exact (pss_cons (ps_for PassesOwn.never rfl (pi_seqU (pv 2)) (pg_name (i := 3) nd rfl (Or.inl rfl))
      (pss_one (ps_set (i := 1) nd rfl (Or.inl rfl) (pe_cal c__law_after hr (by rfl) (pa_cons (pv 0) (pa_cons (pv 1) (pa_cons (pv 3) pa_nil)))))))
    (pss_one (ps_ret (pv 1))))
  · rintro xs n Kx ⟨f, s, es, b, rfl, hf, hs, hb, hr, k⟩
    refine bl_seq (bl_forS (α := Dd) [3] eD (fun q : Sd => [some (.t (eF f)), some (.t (eS q)), some (.t (.tup (es.map eD))), none]) (fun i q m' => m' = n ∧ q = walk f s (es.take i)) (ei_tup ?_))
    walk_at "wp"
    intro g
    refine ⟨es, s, rfl, rfl, ⟨rfl, rfl⟩, fun p hp => List.mem_cons_of_mem _ hp, fun i d q m' hv ⟨em, h1⟩ => ?_, fun q m' ⟨em, h1⟩ => ?_⟩
    · subst em h1
      have hi := (List.getElem?_eq_some_iff.mp hv).1
      have hd := runs_take es s i d hr hv
      walk_at "wp"
      refine ⟨f, _, d, _, rfl, hf, walk_ok hf _ _ _ hs, by rw [List.length_take]; omega, hd.1, ?_⟩
      rw [eStep_yes hd.2]
      exact ⟨rfl, _, rfl, rfl, (walk_snoc f s es i d hv).symm⟩
    · subst em h1
      rw [List.take_length] at *
      walk_at "wp"
      exact k
def isBg (k : Nat) : Wd → Bool
  | .bg m => decide (m < k)
  | .dd _ => false
abbrev F__law_is : PF := fun xs n K => ∃ (w : Wd) (k : Nat), xs = [.t (eW w), .t (.str "begin"), .t (.int (k : Nat))] ∧ K (.t (.bl (isBg k w))) n
theorem len__law_is : ∀ xs n K, F__law_is xs n K → xs.length = 3 := fun _ _ _ ⟨_, _, e, _⟩ => by rw [e]; rfl
abbrev N__law_is : List Str := ["_law_thing", "_law_word", "_law_many", "_law_good"]
theorem sc__law_is : FnScope N__law_is ["_law_thing", "_law_word", "_law_many"] (defScope s__law_is) := ⟨rfl, rfl, rfl, by decide +kernel, rfl, by decide +kernel, by decide +kernel⟩
theorem cal__law_is {P : Program} {w : World} {K : PySem.W.Frag} {mg : Str → Option Value} {base : Heap} {f : Addr} {fd : FuncData} (B : Bi mg) (c__law_whole : Cal P w K mg base "_law_whole" 1 ["_law_thing"] (spU F__law_whole)) (F : Fun K "_law_is" "_law_is" s__law_is f fd) (gm : mg "_law_is" = some (.ref f)) : Cal P w K mg base "_law_is" 2 ["_law_thing", "_law_word", "_law_many"] (spU F__law_is) := by
  have bn : Binds K fd ["_law_thing", "_law_word", "_law_many"] [] := F.binds fun _ _ _ _ _ _ us hl => match us, hl with | [_, _, _], _ => rfl
  refine mk_cal (k := 1) F gm bn sc__law_is rfl len__law_is fun cdv A outer s H E hr => ?_
  have nd := (sc__law_is).nd
  apply Exists.intro
  apply And.intro
  · exact (pss_cons (ps_set (i := 3) nd rfl (Or.inl rfl) (pe_and (pe_callB (call_isiK (K := K)) (by rfl) B.isinstance bt_isinstance (pa_cons (pv 0) (pa_cons (pe_bltn (v := .ty "tuple") (by rfl) B.tuple bt_tuple rfl) pa_nil))) (pe_and (pe_cmpR (op_eqK (K := K) hr.units) (pe_callB (call_lenK (K := K)) (by rfl) B.len bt_len (pa_cons (pv 0) pa_nil)) pe_int (nomark _)) (pe_and (pe_cmpR (op_eqK (K := K) hr.units) (pe_ix (ix_K (K := K)) (pv 0) pe_int (fun _ _ => rfl)) (pv 1) (nomark _)) (pe_one (pe_cal c__law_whole hr (by rfl) (pa_cons (pe_ix (ix_K (K := K)) (pv 0) pe_int (fun _ _ => rfl)) pa_nil)))))))
    (pss_one (ps_ret (pe_and (pv 3) (pe_one (pe_chain op_le op_lt pe_int (pe_ix (ix_K (K := K)) (pv 0) pe_int (fun _ _ => rfl)) (pv 2)))))))
  · rintro xs n Kx ⟨w, kk, rfl, k⟩
    cases w with
    | bg m =>
      dsimp only [eW]
      walk_at "wp"
      refine ⟨fun _ => ?_, fun z => (by cases z)⟩
      walk_at "wp"
      refine ⟨fun _ => ?_, fun z => (by cases z)⟩
      walk_at "wp"
      refine ⟨fun _ => ?_, fun z => (by cases z)⟩
      walk_at "wp"
      refine ⟨fun _ => ?_, fun z => (by cases z)⟩
      walk_at "wp"
      have e0 : decide ((0 : Int) ≤ ((m : Nat) : Int)) = true := by simp
      refine ⟨fun _ => ?_, fun z => absurd z (by rw [e0]; simp)⟩
      walk_at "wp"
      have e1 : isBg kk (.bg m) = decide (((m : Nat) : Int) < ((kk : Nat) : Int)) := by simp [isBg]
      rw [e1] at k
      exact k
    | dd d =>
      cases d with
      | own m =>
        dsimp only [eW, eD]
        walk_at "wp"
        refine ⟨fun _ => ?_, fun z => (by cases z)⟩
        walk_at "wp"
        refine ⟨fun _ => ?_, fun z => (by cases z)⟩
        walk_at "wp"
        refine ⟨fun z => (by cases z), fun _ => ?_⟩
        walk_at "wp"
        exact ⟨fun z => (by cases z), fun _ => k⟩
      | hear m c =>
        dsimp only [eW, eD]
        walk_at "wp"
        refine ⟨fun _ => ?_, fun z => (by cases z)⟩
        walk_at "wp"
        refine ⟨fun z => (by cases z), fun _ => ?_⟩
        walk_at "wp"
        exact ⟨fun z => (by cases z), fun _ => k⟩
      | come r m =>
        dsimp only [eW, eD]
        walk_at "wp"
        refine ⟨fun _ => ?_, fun z => (by cases z)⟩
        walk_at "wp"
        refine ⟨fun z => (by cases z), fun _ => ?_⟩
        walk_at "wp"
        exact ⟨fun z => (by cases z), fun _ => k⟩
end CK
/-! part M9 -/
set_option Elab.async false
set_option linter.all false
set_option maxRecDepth 100000
set_option maxHeartbeats 1000000
/-! The plain model, part 9: the law's table of letters. -/
namespace CK
open PySem PySem.Spec PyProof.Rows L2
def Fd3 (P : Nat → Int → T → Prop) (kvs : List (List Key × T)) : Prop := ∀ r n v, P r n v → ∃ c g, valT kvs (lk r n) = some (.tup [v, c, g])
theorem Fd3.put {P P' : Nat → Int → T → Prop} {kvs : List (List Key × T)} {r : Nat} {n : Int} {v c g : T} (h : Fd3 P kvs) (hp : ∀ r' n' v', P' r' n' v' → (r' = r ∧ n' = n ∧ v' = v) ∨ (¬ (r' = r ∧ n' = n) ∧ P r' n' v')) : Fd3 P' (putT kvs (lk r n) (.tup [v, c, g])) := fun r' n' v' q => by
  rw [valT_put]
  rcases hp r' n' v' q with ⟨rfl, rfl, rfl⟩ | ⟨h1, h2⟩
  · exact ⟨c, g, by rw [if_pos rfl]⟩
  · rw [if_neg fun z => h1 (lk_inj.mp z)]
    exact h r' n' v' h2
def OEv (f : Fm) (a : T) : Prop := a = .non ∨ ∃ m i : Nat, m < f.rules.length ∧ a = eEv (m, i)
def ShV (f : Fm) (v : T) : Prop := ∃ (a b : T) (g : Str), v = .tup [a, b, .str g] ∧ OEv f a ∧ OEv f b
def ShA (f : Fm) (kvs : List (List Key × T)) : Prop := ∀ kv ∈ kvs, ShV f kv.2
theorem ShA.put {f : Fm} {kvs : List (List Key × T)} {k : List Key} {v : T} (h : ShA f kvs) (hv : ShV f v) : ShA f (putT kvs k v) := by
  unfold putT
  split
  · intro kv hm
    obtain ⟨kv0, h0, rfl⟩ := List.mem_map.mp hm
    split
    · exact hv
    · exact h kv0 h0
  · intro kv hm
    rcases List.mem_append.mp hm with hm | hm
    · exact h kv hm
    · rw [List.mem_singleton.mp hm]; exact hv
theorem ShA.val {f : Fm} {kvs : List (List Key × T)} {k : List Key} {v : T} (h : ShA f kvs) (e : valT kvs k = some v) : ShV f v := by
  unfold valT at e
  obtain ⟨kv, h1, rfl⟩ := Option.map_eq_some_iff.mp e
  exact h kv (List.mem_of_find?_eq_some h1)
def sE (f : Fm) (es : List Dd) : Option Nat → T
  | none => .non
  | some k => match (evs f es)[k]? with
    | some ev => eEv ev
    | none => .non
def LK3 (f : Fm) (s : Sd) (es : List Dd) (k : Nat) (r : Nat) (n : Int) (v : T) : Prop := ∃ l0, s.ld[r]? = some l0 ∧ n < sentAt f s es k r ∧ (n < l0.sent → ∃ x ∈ l0.w, x.1 = n) ∧ v = sE f es (snd f s es r n)
theorem LK.three {f : Fm} {s : Sd} {es : List Dd} {k r : Nat} {n : Int} {v : T} (h : LK f s es k r n v) : ∃ v', LK3 f s es k r n v' := by
  obtain ⟨l0, a, b, c, _⟩ := h
  exact ⟨_, l0, a, b, c, rfl⟩
/-- what is sent waits -/
theorem sendAll_new (ss : List (Nat × Str)) : ∀ {ls : List Ld} {r : Nat} {l l' : Ld} (B : Int), ls[r]? = some l → (sendAll ls ss)[r]? = some l' → (∀ n, B ≤ n → n < l.sent → ∃ x ∈ l.w, x.1 = n) → ∀ n, B ≤ n → n < l'.sent → ∃ x ∈ l'.w, x.1 = n := by
  induction ss with
  | nil =>
    intro ls r l l' B h h' q
    have e : l = l' := by
      have h2 : ls[r]? = some l' := h'
      rw [h] at h2
      exact Option.some.inj h2
    rw [← e]; exact q
  | cons s ss ih =>
    intro ls r l l' B h h' q
    have h2 : (sendAll (sendOne ls s) ss)[r]? = some l' := h'
    cases hl : ls[s.1]? with
    | none =>
      have e : sendOne ls s = ls := by simp only [sendOne, hl]
      rw [e] at h2
      exact ih B h h2 q
    | some l0 =>
      have e : sendOne ls s = ls.set s.1 (l0.put s.2) := by simp only [sendOne, hl]
      rw [e] at h2
      by_cases hs : s.1 = r
      · subst hs
        rw [h] at hl
        cases hl
        refine ih B (l := l.put s.2) (List.getElem?_set_self (List.getElem?_eq_some_iff.mp h).1) h2 fun n hb hn => ?_
        by_cases hn2 : n < l.sent
        · obtain ⟨x, hx, e⟩ := q n hb hn2
          exact ⟨x, List.mem_append.mpr (.inl hx), e⟩
        · have hn3 : n < l.sent + 1 := hn
          exact ⟨(l.sent, s.2), List.mem_append.mpr (.inr (List.mem_singleton.mpr rfl)), by show l.sent = n; omega⟩
      · exact ih B (by rw [List.getElem?_set_ne hs]; exact h) h2 q
theorem step_new {f : Fm} {s : Sd} {r : Nat} {l l' : Ld} (d : Dd) (h : s.ld[r]? = some l) (h' : (step f s d).ld[r]? = some l') : ∀ n, l.sent ≤ n → n < l'.sent → ∃ x ∈ l'.w, x.1 = n := by
  unfold CK.step at h'
  cases ha : answered f s d with
  | none =>
    rw [ha] at h'
    have h2 : s.ld[r]? = some l' := h'
    rw [h] at h2
    cases h2
    intro n a b; omega
  | some p =>
    obtain ⟨a, ss, w⟩ := p
    rw [ha] at h'
    have h2 : (sendAll (takenLd s.ld d) ss)[r]? = some l' := h'
    obtain ⟨l1, h1, a1, a2⟩ := taken_at d h
    refine fun n hb hn => sendAll_new ss l.sent h1 h2 (fun n a b => by omega) n hb hn
end CK
/-! part D13 -/
set_option Elab.async false
set_option linter.all false
set_option maxRecDepth 100000
set_option maxHeartbeats 2000000
/-! The law's own defs, part 4. -/
namespace CK
open PySem PySem.Spec PyProof.Rows L2
local macro_rules | `(tactic| walk_at "wp0") => `(tactic| first
  | ((with_reducible refine bl_retL (a := ?va) (ds := ?vd) ?vh ?_); (case vh => exact rfl))
  | ((with_reducible refine bl_retD (a := ?va) (ds := ?vd) ?vh ?_); (case vh => exact rfl))
  | (with_reducible refine bl_ret ?_)
  | (with_reducible refine bl_if ?_)
  | (with_reducible refine bl_asg ?_)
  | (with_reducible refine bl_asgP ?_)
  | (with_reducible refine bl_next ?_)
  | (with_reducible refine et_test ?_)
  | (with_reducible refine et_B ?_)
  | (with_reducible refine et_and ?_)
  | (with_reducible refine et_or ?_)
  | (with_reducible refine et_not ?_)
  | (with_reducible refine et_yes ?_)
  | ((with_reducible refine ev_varT (d := ?vd) ?vh ?_); (case vh => exact rfl))
  | ((with_reducible refine ev_varL (a := ?va) (ds := ?vd) (o := ?vo) ?vh ?_); (case vh => exact rfl))
  | ((with_reducible refine ev_varD (a := ?va) (kvs := ?vd) (o := ?vo) ?vh ?_); (case vh => exact rfl))
  | ((with_reducible refine ev_varP ?vh ?_); (case vh => exact rfl))
  | (with_reducible refine ev_int ?_)
  | (with_reducible refine ev_str ?_)
  | (with_reducible refine ev_bl ?_)
  | (with_reducible refine ev_non ?_)
  | (with_reducible refine ev_ty ?_)
  | (with_reducible refine ev_op ro_ix ?_)
  | (with_reducible refine ev_op ro_eq ?_)
  | (with_reducible refine ev_op ro_is ?_)
  | (with_reducible refine ev_op ro_cmp ?_)
  | (with_reducible refine ev_op ro_add ?_)
  | (with_reducible refine ev_op ro_sub ?_)
  | (with_reducible refine ev_op ro_mul ?_)
  | (with_reducible refine ev_op ro_mod ?_)
  | (with_reducible refine ev_op ro_div ?_)
  | (with_reducible refine ev_op ro_pow ?_)
  | (with_reducible refine ev_op ro_in ?_)
  | (with_reducible refine ev_neg ?_)
  | (with_reducible refine ev_cb rc_len ?_)
  | (with_reducible refine ev_cb rc_isi ?_)
  | (with_reducible refine ev_cb rc_all ?_)
  | (with_reducible refine ev_cb rc_list ?_)
  | (with_reducible refine ev_cb rc_tuple ?_)
  | (with_reducible refine ev_cb rc_int ?_)
  | (with_reducible refine ev_cb rc_max ?_)
  | (with_reducible refine ea_cons ?_)
  | (with_reducible refine ea_nil ?_)
  | (with_reducible refine ev_tup ?_)
  | (with_reducible refine ev_lst ?_)
  | (with_reducible refine ev_sl ?_)
  | (with_reducible refine eo_none ?_)
  | (with_reducible refine eo_some ?_)
  | (with_reducible refine ev_dget ?_)
  | (with_reducible refine ev_dnew ?_)
  | (with_reducible refine ev_if ?_)
  | (with_reducible refine ev_and ?_)
  | (with_reducible refine ev_or ?_)
  | (with_reducible refine ev_not ?_)
  | (with_reducible refine ev_chain ro_cmp ro_cmp ?_)
  | (with_reducible refine ev_call ?_)
  | (with_reducible refine ev_lrg2 ?_)
  | (with_reducible refine wAddI ?_)
  | (with_reducible refine wSub ?_)
  | (with_reducible refine wEqI ?_)
  | (with_reducible refine wEqS ?_)
  | (with_reducible refine wNeI ?_)
  | (with_reducible refine wNeS ?_)
  | (with_reducible refine wCmp ?_)
  | (with_reducible refine wLenT ?_)
  | (with_reducible refine wLenL ?_)
  | (with_reducible refine wTupT ?_)
  | (with_reducible refine wTupL ?_)
  | (with_reducible refine wIsN ?_)
  | (with_reducible refine wNotN ?_)
  | (with_reducible refine wIsB ?_)
  | (with_reducible refine wInt ?_)
  | (with_reducible refine wMax ?_)
  | (with_reducible refine wListT ?_; intro _)
  | (with_reducible refine wListL ?_; intro _)
  | (with_reducible refine wSlT ?_)
  | ((with_reducible refine wIxT (d := ?vd) ?vh ?_); (case vh => exact rfl))
  | (refine wIxT atI_c0 ?_)
  | (refine wIxT atI_c1 ?_)
  | (refine wIxT atI_c2 ?_)
  | ((with_reducible refine wIxL (d := ?vd) ?vh ?_); (case vh => exact rfl))
  | ((with_reducible refine wIsi (b := ?vd) ?vh ?_); (case vh => exact rfl))
  | ((with_reducible refine wIsiL (b := ?vd) ?vh ?_); (case vh => exact rfl))
  | (with_reducible refine tg_tup rfl ?_)
  | (with_reducible refine tgs_cons ?_)
  | (with_reducible refine tgs_nil ?_)
  | ((with_reducible refine tg_name ?vh ?_); (case vh => decide))
  | (with_reducible refine ⟨_, rfl, ?_⟩)
  | (with_reducible refine ⟨_, _, rfl, ?_⟩)
  | (with_reducible refine ⟨_, _, rfl, rfl, ?_⟩)
  | (with_reducible refine ⟨_, _, _, rfl, ?_⟩)
  | (refine And.intro (show List.length _ ≤ lim from Nat.le_of_ble_eq_true rfl) ?_)
  | (with_reducible refine seqK_nx ?_)
  | (with_reducible refine seqK_rt ?_)
  | (with_reducible refine seqK_ex ?_)
  | fail "wp0: no step")
local macro_rules | `(tactic| walk_at "wp1") => `(tactic| first | (with_reducible refine bl_seq ?_) | walk_at "wp0")
local macro_rules | `(tactic| walk_at "wps") => `(tactic| repeat (walk_at "wp0"))
local macro_rules | `(tactic| walk_at "wp") => `(tactic| repeat (walk_at "wp1"))
abbrev F__law_all_letters : PF := fun xs n K => ∃ (f : Fm) (s : Sd) (es : List Dd) (x : X), xs = [.t (eF f), .t (eS s), x] ∧ DsX x (es.map eD) ∧ FOk f ∧ SOk f s 16 ∧ es.length ≤ 20 ∧ Runs f s es ∧ ∀ p kvs, Fd3 (LK3 f s es es.length) kvs → ShA f kvs → kvs.length ≤ 90000 → K (.dic p kvs true) n
theorem len__law_all_letters : ∀ xs n K, F__law_all_letters xs n K → xs.length = 3 := fun _ _ _ ⟨_, _, _, _, e, _⟩ => by rw [e]; rfl
theorem DsX.src {ρ : En} {j : Nat} {x : X} {ds : List T} (hj : ρ.s[j]? = some (some x)) (h : DsX x ds) : Src ρ x.rd ds := by
  rcases h with rfl | ⟨a, rfl⟩
  · exact .inl rfl
  · exact .inr (.inr ⟨a, rfl, j, hj⟩)
theorem zip_same {es : List Dd} {ev : List (Nat × Nat)} : zipT (es.map eD) (ev.map eEv) = (es.zip ev).map fun p => T.tup [eD p.1, eEv p.2] := zipT_map eD eEv es ev
theorem zip_get {es : List Dd} {f : Fm} {i : Nat} {d : Dd} {ev : Nat × Nat} (h : (es.zip (evs f es))[i]? = some (d, ev)) : es[i]? = some d ∧ (evs f es)[i]? = some ev := by
  rw [List.getElem?_zip_eq_some] at h
  exact h
theorem keys_ix {r : Nat} {m : Int} : cutA [T.str "come", .int (r : Nat), .int m] (some 1) none = [.int (r : Nat), .int m] := rfl
abbrev N__law_all_letters : List Str := ["_law_form", "_law_stand", "_law_deeds", "_law_table", "_law_road", "_law_k", "_law_sign", "_law_deed", "_law_event", "_law_behind"]
theorem sc__law_all_letters : FnScope N__law_all_letters ["_law_form", "_law_stand", "_law_deeds"] (defScope s__law_all_letters) := ⟨rfl, rfl, rfl, by decide +kernel, rfl, by decide +kernel, by decide +kernel⟩
theorem cal__law_all_letters {P : Program} {w : World} {K : PySem.W.Frag} {mg : Str → Option Value} {base : Heap} {f : Addr} {fd : FuncData} (B : Bi mg) (c__law_all_events : Cal P w K mg base "_law_all_events" 2 ["_law_form", "_law_deeds"] (spU F__law_all_events)) (c__law_after : Cal P w K mg base "_law_after" 2 ["_law_form", "_law_stand", "_law_deed"] (spU F__law_after)) (F : Fun K "_law_all_letters" "_law_all_letters" s__law_all_letters f fd) (gm : mg "_law_all_letters" = some (.ref f)) : Cal P w K mg base "_law_all_letters" 3 ["_law_form", "_law_stand", "_law_deeds"] (spU F__law_all_letters) := by
  have bn : Binds K fd ["_law_form", "_law_stand", "_law_deeds"] [] := F.binds fun _ _ _ _ _ _ us hl => match us, hl with | [_, _, _], _ => rfl
  refine mk_cal (k := 2) F gm bn sc__law_all_letters rfl len__law_all_letters fun cdv A outer s H E hr => ?_
  have nd := (sc__law_all_letters).nd
  apply Exists.intro
  apply And.intro
  · exact (pss_cons (ps_set (i := 3) nd rfl (Or.inl rfl) pe_dnewT)
    (pss_cons (ps_for PassesOwn.never rfl (pi_range1 (by rfl) B.range (pa_cons (pe_callB (call_lenK (K := K)) (by rfl) B.len bt_len (pa_cons (pe_ix (ix_K (K := K)) (pv 0) pe_int (fun _ _ => rfl)) pa_nil)) pa_nil)) (pg_name (i := 4) nd rfl (Or.inl rfl))
      (pss_one (ps_for PassesOwn.never rfl (pi_seqU (pe_ix (ix_K (K := K)) (pe_ix (ix_K (K := K)) (pe_ix (ix_K (K := K)) (pv 1) pe_int (fun _ _ => rfl)) (pv 4) (fun _ _ => rfl)) pe_int (fun _ _ => rfl))) (pg_tup rfl (pgs_cons (pg_name (i := 5) nd rfl (Or.inl rfl)) (pgs_cons (pg_name (i := 6) nd rfl (Or.inl rfl)) pgs_nil)))
      (pss_one (ps_dput (hu_of hr) (pv 3) (pe_tup (pa_cons (pv 4) (pa_cons (pv 5) pa_nil))) (pe_tup (pa_cons pe_non (pa_cons pe_non (pa_cons (pv 6) pa_nil)))) rfl)))))
    (pss_cons (ps_for PassesOwn.never rfl (pi_zipK (by rfl) B.zip (pa_cons (pv 2) (pa_cons (pe_cal c__law_all_events hr (by rfl) (pa_cons (pv 0) (pa_cons (pv 2) pa_nil))) pa_nil))) (pg_tup rfl (pgs_cons (pg_name (i := 7) nd rfl (Or.inl rfl)) (pgs_cons (pg_name (i := 8) nd rfl (Or.inl rfl)) pgs_nil)))
      (pss_cons (ps_set (i := 9) nd rfl (Or.inl rfl) (pe_cal c__law_after hr (by rfl) (pa_cons (pv 0) (pa_cons (pv 1) (pa_cons (pv 7) pa_nil)))))
    (pss_cons (ps_if (pt_cmpR (op_eqK (K := K) hr.units) (pe_ix (ix_K (K := K)) (pv 7) pe_int (fun _ _ => rfl)) pe_str (nomark _)) (pss_one (ps_dput (hu_of hr) (pv 3) (pe_slice (sl_K (K := K)) (pv 7) (po_some pe_int) po_none) (pe_tup (pa_cons (pe_ix (ix_K (K := K)) (pe_dget (hu_of hr) (pv 3) (pe_slice (sl_K (K := K)) (pv 7) (po_some pe_int) po_none) (fun _ _ => rfl)) pe_int (fun _ _ => rfl)) (pa_cons (pv 8) (pa_cons (pe_ix (ix_K (K := K)) (pe_dget (hu_of hr) (pv 3) (pe_slice (sl_K (K := K)) (pv 7) (po_some pe_int) po_none) (fun _ _ => rfl)) pe_int (fun _ _ => rfl)) pa_nil)))) rfl)) pss_nil)
    (pss_cons (ps_for PassesOwn.never rfl (pi_range1 (by rfl) B.range (pa_cons (pe_callB (call_lenK (K := K)) (by rfl) B.len bt_len (pa_cons (pe_ix (ix_K (K := K)) (pv 0) pe_int (fun _ _ => rfl)) pa_nil)) pa_nil)) (pg_name (i := 4) nd rfl (Or.inl rfl))
      (pss_one (ps_for PassesOwn.never rfl (pi_seqU (pe_ix (ix_K (K := K)) (pe_ix (ix_K (K := K)) (pe_ix (ix_K (K := K)) (pv 9) pe_int (fun _ _ => rfl)) (pv 4) (fun _ _ => rfl)) pe_int (fun _ _ => rfl))) (pg_tup rfl (pgs_cons (pg_name (i := 5) nd rfl (Or.inl rfl)) (pgs_cons (pg_name (i := 6) nd rfl (Or.inl rfl)) pgs_nil)))
      (pss_one (ps_if (pt_cmpR op_ge (pv 5) (pe_ix (ix_K (K := K)) (pe_ix (ix_K (K := K)) (pe_ix (ix_K (K := K)) (pv 1) pe_int (fun _ _ => rfl)) (pv 4) (fun _ _ => rfl)) pe_int (fun _ _ => rfl)) (nomark _)) (pss_one (ps_dput (hu_of hr) (pv 3) (pe_tup (pa_cons (pv 4) (pa_cons (pv 5) pa_nil))) (pe_tup (pa_cons (pv 8) (pa_cons pe_non (pa_cons (pv 6) pa_nil)))) rfl)) pss_nil)))))
    (pss_one (ps_set (i := 1) nd rfl (Or.inl rfl) (pv 9)))))))
    (pss_one (ps_ret (pv 3))))))
  · rintro xs n Kx ⟨f, s, es, x, rfl, hx, hf, hs, hel, hr, k⟩
    have hrd := hf.rd
    have hld := hs.ld
    have hok := runs_ok hr
    refine bl_seq ?_
    walk_at "wps"
    intro p0
    walk_at "wps"
    refine bl_seq (bl_forS (α := Nat) [4, 5, 6, 7, 8, 9] (fun i : Nat => T.int (i : Nat)) (fun q : List (List Key × T) => [some (.t (eF f)), some (.t (eS s)), some x, some (.dic p0 q true), none, none, none, none, none, none]) (fun j q m' => m' = n ∧ q.length ≤ j * 16 ∧ ShA f q ∧ Fd3 (fun r n' v => v = .non ∧ r < j ∧ ∃ l, s.ld[r]? = some l ∧ ∃ x ∈ l.w, x.1 = n') q) (ei_rngN ?_))
    walk_at "wp"
    refine ⟨by rw [List.length_map]; omega, ?_⟩
    rw [List.length_map]
    refine ⟨List.range f.roads.length, [], rfl, rfl, ⟨rfl, by simp, fun kv h => absurd h (by simp), fun r n' v h => absurd h.2.1 (by omega)⟩, fun p hp => hp, fun j j' q m' hv ⟨em, h1, hsh, h2⟩ => ?_, fun q m' ⟨em, h1, hsh, h2⟩ => ?_⟩
    · subst em
      have hj : j < f.roads.length := by have := (List.getElem?_eq_some_iff.mp hv).1; rwa [List.length_range] at this
      rw [List.getElem?_range hj] at hv
      cases hv
      have hl := List.getElem?_eq_getElem (show j < s.ld.length by omega)
      generalize s.ld[j]'(by omega) = l at hl
      have hlw := (hs.w j l hl).2.2.2.1
      walk_at "wp"
      refine bl_forS (α := Int × Str) [5, 6] eLt (fun q : List (List Key × T) => [some (.t (eF f)), some (.t (eS s)), some x, some (.dic p0 q true), some (.t (.int (j : Nat))), none, none, none, none, none]) (fun i q m2 => m2 = m' ∧ q.length ≤ j * 16 + i ∧ ShA f q ∧ Fd3 (fun r n' v => v = .non ∧ ∃ l', s.ld[r]? = some l' ∧ ((r < j ∧ ∃ x ∈ l'.w, x.1 = n') ∨ (r = j ∧ ∃ x ∈ l'.w.take i, x.1 = n'))) q) (ei_tup ?_)
      walk_at "wp"
      refine wIxT (atI_map hl) ?_
      walk_at "wp"
      intro g
      refine ⟨l.w, q, rfl, rfl, ⟨rfl, h1, hsh, fun r n' v ⟨a, l', c, d⟩ => ?_⟩, fun p hp => List.mem_cons_of_mem _ hp, fun i x2 q2 m2 hv ⟨em, h3, hsh2, h4⟩ => ?_, fun q2 m2 ⟨em, h3, hsh2, h4⟩ => ?_⟩
      · rcases d with ⟨d1, d2⟩ | ⟨d1, x, d2, _⟩
        · exact h2 r n' v ⟨a, d1, l', c, d2⟩
        · simp at d2
      · subst em
        walk_at "wp"
        have hi := (List.getElem?_eq_some_iff.mp hv).1
        refine bl_dput (j := 3) rfl (by show q2.length < 100000; omega) ?_
        walk_at "wp"
        refine ⟨rfl, _, rfl, rfl, Nat.le_trans (putT_len _ _ _) (by omega), hsh2.put ⟨_, _, x2.2, rfl, .inl rfl, .inl rfl⟩, h4.put (r := j) (n := x2.1) (v := .non) (c := .non) (g := .str x2.2) fun r' n' v' ⟨a, l', c, d⟩ => ?_⟩
        by_cases hk : r' = j ∧ n' = x2.1
        · exact .inl ⟨hk.1, hk.2, a⟩
        · refine .inr ⟨hk, a, l', c, ?_⟩
          rcases d with d | ⟨d1, y, d2, d3⟩
          · exact .inl d
          · subst d1
            rw [hl] at c
            cases c
            rw [List.take_add_one, hv] at d2
            rcases List.mem_append.mp d2 with d2 | d2
            · exact .inr ⟨rfl, y, d2, d3⟩
            · simp at d2
              exact absurd ⟨rfl, by rw [← d3, d2]⟩ hk
      · subst em
        refine ⟨rfl, q2, rfl, rfl, ?_, hsh2, fun r n' v ⟨a, h5, l', h6, h7⟩ => ?_⟩
        · omega
        · by_cases hrj : r = j
          · subst hrj
            rw [hl] at h6
            cases h6
            exact h4 r n' v ⟨a, l, hl, .inr ⟨rfl, by rw [List.take_length]; exact h7⟩⟩
          · exact h4 r n' v ⟨a, l', h6, .inl ⟨by omega, h7⟩⟩
    · subst em
      rw [List.length_range] at h1 h2
      walk_at "wps"
      refine bl_seq (bl_forS (α := Dd × (Nat × Nat)) [4, 5, 6, 7, 8, 9] (fun p => T.tup [eD p.1, eEv p.2]) (fun p : Sd × List (List Key × T) => [some (.t (eF f)), some (.t (eS p.1)), some x, some (.dic p0 p.2 true), none, none, none, none, none, none]) (fun i p m2 => m2 = m' ∧ p.1 = walk f s (es.take i) ∧ p.2.length ≤ 160 + 800 * i ∧ ShA f p.2 ∧ Fd3 (LK3 f s es i) p.2) (ei_zip ?_))
      refine ev_var (x := x) rfl hx.arg.2 ?_
      refine ev_call (ea_cons (ev_varT (d := eF f) rfl (ea_cons (ev_var (x := x) rfl hx.arg.2 (ea_nil ?_)))))
      refine ⟨f, es, x, by show [_, x.rd.arg] = _; rw [hx.arg.1]; rfl, hx, hf, hok, by omega, fun p1 => ?_⟩
      refine ⟨es.map eD, (evs f es).map eEv, hx.src (j := 2) rfl, .inr (.inl ⟨p1, rfl⟩), fun g g' => ?_⟩
      rw [zip_same]
      refine ⟨es.zip (evs f es), (s, q), rfl, rfl, ⟨rfl, rfl, by dsimp only; omega, hsh, fun r n' v ⟨l0, a, c, d, e⟩ => ?_⟩, fun p hp => List.mem_cons_of_mem _ (List.mem_cons_of_mem _ hp), fun i v p m2 hv ⟨em, h3, h4, hsh3, h5⟩ => ?_, fun p m2 ⟨em, h3, h4, hsh3, h5⟩ => ?_⟩
      · have e0 : sentAt f s es 0 r = l0.sent := sentAt_of a
        rw [e0] at c
        refine h2 r n' v ⟨by rw [e, snd_old (by rw [e0]; exact c)]; rfl, by have := (List.getElem?_eq_some_iff.mp a).1; omega, l0, a, d c⟩
      · subst em
        obtain ⟨d, ev⟩ := v
        obtain ⟨hv, hev⟩ := zip_get hv
        obtain ⟨s', q2⟩ := p
        dsimp only at h3 h4 h5 hsh3
        have hi := (List.getElem?_eq_some_iff.mp hv).1
        have hd := runs_take es s i d hr hv
        have hevm : ev = (mach f d, cnt f (es.take i) (mach f d)) := by
          rw [evs_get hv] at hev
          exact (Option.some.inj hev).symm
        have hoe : OEv f (eEv ev) := .inr ⟨ev.1, ev.2, by rw [hevm]; exact mach_lt hf hd.1, rfl⟩
        have hsek : sE f es (some i) = eEv ev := by simp only [sE, hev]
        have hs' : SOk f s' (16 + 3 * es.length) := by
          rw [h3]
          exact (walk_ok hf _ _ _ hs).mono (by rw [List.length_take]; omega)
        have hw : step f s' d = walk f s (es.take (i + 1)) := by rw [walk_snoc f s es i d hv, h3]
        have hs2 : SOk f (step f s' d) (16 + 3 * es.length + 3) := hs'.step hf d
        walk_at "wps"
        refine bl_seq ?_
        walk_at "wps"
        refine ⟨f, s', d, _, rfl, hf, hs', by omega, hd.1, ?_⟩
        rw [eStep_yes (by rw [h3]; exact hd.2)]
        walk_at "wps"
        refine bl_seqC (fun ρ m3 => m3 = m2 ∧ ∃ q3, ρ = ⟨[some (.t (eF f)), some (.t (eS s')), some x, some (.dic p0 q3 true), none, none, none, some (.t (eD d)), some (.t (eEv ev)), some (.t (eS (step f s' d)))], g :: g' :: []⟩ ∧ q3.length ≤ 160 + 800 * i + 1 ∧ ShA f q3 ∧ Fd3 (LK3 f s es i) q3) ?_ ?_
        · cases d with
          | own m =>
            dsimp only [eD]
            walk_at "wp"
            exact ⟨fun z => (by cases z), fun _ => bl_next ⟨rfl, q2, rfl, by omega, hsh3, h5⟩⟩
          | hear m c =>
            dsimp only [eD]
            walk_at "wp"
            exact ⟨fun z => (by cases z), fun _ => bl_next ⟨rfl, q2, rfl, by omega, hsh3, h5⟩⟩
          | come r m =>
            obtain ⟨v00, hv00⟩ := come_known hf hs hd.1 hd.2
            obtain ⟨v0, hv0⟩ := hv00.three
            obtain ⟨c0, g0, hc0⟩ := h5 r m v0 hv0
            obtain ⟨_, _, gs, e1, e2, e3⟩ := hsh3.val hc0
            cases e1
            dsimp only [eD]
            walk_at "wp"
            refine ⟨fun _ => ?_, fun z => (by cases z)⟩
            refine bl_dput (j := 3) rfl (by show q2.length < 100000; omega) ?_
            walk_at "wp"
            rw [keys_ix]
            refine ⟨_, _, _, _, _, _, rfl, rfl, keys_lk r m, hc0, ?_⟩
            walk_at "wp"
            rw [keys_ix]
            refine ⟨_, _, _, _, _, _, rfl, rfl, keys_lk r m, hc0, ?_⟩
            walk_at "wp"
            refine ⟨rfl, _, rfl, Nat.le_trans (putT_len _ _ _) (by omega), hsh3.put ⟨_, _, gs, rfl, e2, hoe⟩, h5.put (r := r) (n := m) (v := v0) (c := eEv ev) (g := .str gs) fun r' n' v' h => ?_⟩
            by_cases hk : r' = r ∧ n' = m
            · obtain ⟨rfl, rfl⟩ := hk
              obtain ⟨_, _, _, _, e1⟩ := h
              obtain ⟨_, _, _, _, e2⟩ := hv0
              exact .inl ⟨rfl, rfl, by rw [e1, e2]⟩
            · exact .inr ⟨hk, h⟩
        rintro ρ m3 ⟨em, q3, rfl, h6, hsh4, h7⟩
        subst em
        refine bl_seq (bl_forS (α := Nat) [4, 5, 6] (fun i : Nat => T.int (i : Nat)) (fun q : List (List Key × T) => [some (.t (eF f)), some (.t (eS s')), some x, some (.dic p0 q true), none, none, none, some (.t (eD d)), some (.t (eEv ev)), some (.t (eS (step f s' d)))]) (fun j q m' => m' = m3 ∧ q.length ≤ 160 + 800 * i + 1 + 79 * j ∧ ShA f q ∧ Fd3 (fun r n' v => ∃ l0, s.ld[r]? = some l0 ∧ n' < (if r < j then sentAt f s es (i + 1) r else sentAt f s es i r) ∧ (n' < l0.sent → ∃ x ∈ l0.w, x.1 = n') ∧ v = sE f es (snd f s es r n')) q) (ei_rngN ?_))
        walk_at "wp"
        refine ⟨by rw [List.length_map]; omega, ?_⟩
        rw [List.length_map]
        refine ⟨List.range f.roads.length, q3, rfl, rfl, ⟨rfl, by omega, hsh4, fun r n' v ⟨l0, a, c, e⟩ => ?_⟩, fun p hp => hp, fun j j' q m' hv2 ⟨em, h8, hsh5, h9⟩ => ?_, fun q m' ⟨em, h8, hsh5, h9⟩ => ?_⟩
        · rw [if_neg (by omega)] at c
          exact h7 r n' v ⟨l0, a, c, e⟩
        · subst em
          have hj : j < f.roads.length := by have := (List.getElem?_eq_some_iff.mp hv2).1; rwa [List.length_range] at this
          rw [List.getElem?_range hj] at hv2
          cases hv2
          obtain ⟨l1, hl1, el1⟩ := ld_at f s es i (show j < s.ld.length by omega)
          obtain ⟨l2, hl2, el2⟩ := ld_at f s es (i + 1) (show j < s.ld.length by omega)
          obtain ⟨st1, st2, _⟩ := sentAt_step hf s es hv (show j < s.ld.length by omega)
          rw [← h3] at hl1
          rw [← hw] at hl2
          have b2 := hs2.w j l2 hl2
          have b2w := b2.2.2.2.1
          have hnew := step_new (f := f) d hl1 hl2
          rw [← el1, ← el2] at hnew
          walk_at "wp"
          refine bl_forS (α := Int × Str) [5, 6] eLt (fun q : List (List Key × T) => [some (.t (eF f)), some (.t (eS s')), some x, some (.dic p0 q true), some (.t (.int (j : Nat))), none, none, some (.t (eD d)), some (.t (eEv ev)), some (.t (eS (step f s' d)))]) (fun i2 q m2 => m2 = m' ∧ q.length ≤ 160 + 800 * i + 1 + 79 * j + i2 ∧ ShA f q ∧ Fd3 (fun r n' v => ∃ l0, s.ld[r]? = some l0 ∧ (n' < (if r < j then sentAt f s es (i + 1) r else sentAt f s es i r) ∨ (r = j ∧ ∃ x ∈ l2.w.take i2, x.1 = n')) ∧ (n' < l0.sent → ∃ x ∈ l0.w, x.1 = n') ∧ v = sE f es (snd f s es r n')) q) (ei_tup ?_)
          walk_at "wp"
          refine wIxT (atI_map hl2) ?_
          walk_at "wp"
          intro g5
          refine ⟨l2.w, q, rfl, rfl, ⟨rfl, by omega, hsh5, fun r n' v ⟨l0, a, c, e⟩ => ?_⟩, fun p hp => List.mem_cons_of_mem _ hp, fun i2 x2 q4 m2 hv4 ⟨em, h10, hsh6, h11⟩ => ?_, fun q4 m2 ⟨em, h10, hsh6, h11⟩ => ?_⟩
          · rcases c with c | ⟨_, x, c, _⟩
            · exact h9 r n' v ⟨l0, a, c, e⟩
            · simp at c
          · subst em
            have hi2 := (List.getElem?_eq_some_iff.mp hv4).1
            have hx2 : x2.1 < sentAt f s es (i + 1) j := by rw [el2]; exact b2.2.1 x2 (List.mem_of_getElem? hv4)
            walk_at "wp"
            refine wIxT (atI_map hl1) ?_
            walk_at "wp"
            refine ⟨fun z => ?_, fun z => ?_⟩
            · have z' := of_decide_eq_true z
              rw [← el1] at z'
              refine bl_dput (j := 3) rfl (by show q4.length < 100000; omega) ?_
              walk_at "wp"
              have hsnd := snd_at hf (s := s) (es := es) (r := j) (n := x2.1) (k := i) (by omega) hi (by omega) hx2
              refine ⟨rfl, _, rfl, rfl, Nat.le_trans (putT_len _ _ _) (by omega), hsh6.put ⟨_, _, x2.2, rfl, hoe, .inl rfl⟩, h11.put (r := j) (n := x2.1) (v := eEv ev) (c := .non) (g := .str x2.2) fun r' n' v' ⟨l0, a, c, e1, e2⟩ => ?_⟩
              by_cases hk : r' = j ∧ n' = x2.1
              · obtain ⟨rfl, rfl⟩ := hk
                exact .inl ⟨rfl, rfl, by rw [e2, hsnd, hsek]⟩
              · refine .inr ⟨hk, l0, a, ?_, e1, e2⟩
                rcases c with c | ⟨c1, y, c2, c3⟩
                · exact .inl c
                · subst c1
                  rw [List.take_add_one, hv4] at c2
                  rcases List.mem_append.mp c2 with c2 | c2
                  · exact .inr ⟨rfl, y, c2, c3⟩
                  · simp at c2
                    exact absurd ⟨rfl, by rw [← c3, c2]⟩ hk
            · have z' := of_decide_eq_false z
              rw [← el1] at z'
              refine bl_next ?_
              refine ⟨rfl, q4, rfl, rfl, by omega, hsh6, fun r' n' v' ⟨l0, a, c, e1, e2⟩ => h11 r' n' v' ⟨l0, a, ?_, e1, e2⟩⟩
              rcases c with c | ⟨c1, y, c2, c3⟩
              · exact .inl c
              · subst c1
                rw [List.take_add_one, hv4] at c2
                rcases List.mem_append.mp c2 with c2 | c2
                · exact .inr ⟨rfl, y, c2, c3⟩
                · simp at c2
                  refine .inl ?_
                  rw [if_neg (by omega), ← c3, c2]
                  omega
          · subst em
            refine ⟨rfl, q4, rfl, rfl, by omega, hsh6, fun r n' v ⟨l0, a, c, e⟩ => h11 r n' v ⟨l0, a, ?_, e⟩⟩
            rw [List.take_length]
            by_cases hrj : r < j
            · rw [if_pos hrj]; rw [if_pos (by omega)] at c; exact .inl c
            · rw [if_neg hrj]
              by_cases hrj2 : r = j
              · subst hrj2
                rw [if_pos (by omega)] at c
                by_cases hn : n' < sentAt f s es i r
                · exact .inl hn
                · exact .inr ⟨rfl, hnew n' (by omega) c⟩
              · rw [if_neg (by omega)] at c; exact .inl c
        · subst em
          rw [List.length_range] at h8 h9
          walk_at "wp"
          refine ⟨rfl, (step f s' d, q), rfl, rfl, hw, by dsimp only; omega, hsh5, fun r n' v ⟨l0, a, c, e⟩ => h9 r n' v ⟨l0, a, ?_, e⟩⟩
          rw [if_pos (by have := (List.getElem?_eq_some_iff.mp a).1; omega)]
          exact c
      · subst em
        obtain ⟨s', q2⟩ := p
        dsimp only at h3 h4 h5 hsh3
        have hzl : (es.zip (evs f es)).length = es.length := by rw [List.length_zip, evs_len, Nat.min_self]
        rw [hzl] at h4 h5
        walk_at "wp"
        exact k _ _ h5 hsh3 (by omega)
end CK
/-! part CkY -/
set_option Elab.async false
set_option linter.all false
set_option maxRecDepth 100000
set_option maxHeartbeats 1000000
/-! The layer CK, part Y: while, the values of a dict, with slots forgotten. -/
namespace CK
open PySem PySem.Spec PyProof.Rows L2
theorem wipeL_get {s : List (Option X)} {i : Nat} : ∀ {ws : List Nat}, i ∉ ws → (wipeL s ws)[i]? = s[i]?
  | [], _ => rfl
  | w :: ws, h => by
    show ((wipeL s ws).set w none)[i]? = _
    rw [List.getElem?_set_ne (fun e => h (by rw [e]; exact List.mem_cons_self))]
    exact wipeL_get fun z => h (List.mem_cons_of_mem _ z)
theorem wipeL_set {s : List (Option X)} {j : Nat} {x : Option X} : ∀ {ws : List Nat}, j ∉ ws → wipeL (s.set j x) ws = (wipeL s ws).set j x
  | [], _ => rfl
  | w :: ws, h => by
    show (wipeL (s.set j x) ws).set w none = ((wipeL s ws).set w none).set j x
    rw [wipeL_set fun z => h (List.mem_cons_of_mem _ z)]
    exact List.set_comm _ _ (fun e => h (by rw [e]; exact List.mem_cons_self))
section
variable {C : Addr} {E : XK} {t : TS} {ρ : En} {n : Nat} {K : Out → Prop} {g : TG} {tb : TS} {tt : TT}
def wipK (ws : List Nat) (K : Out → Prop) : Out → Prop
  | .nx ρ m => K (.nx (ρ.wipe ws) m)
  | .rt x m => K (.rt x m)
  | .ex m => K (.ex m)
theorem Blk.wipe (ws : List Nat) (h : Blk C E t ρ n (wipK ws K)) : Blk C E t ρ n K := fun tp H0 H σ e D d1 d2 d3 =>
  h tp H0 H σ e D (fun a b c d e f => d1 a b (c.wipe ws) d (e.fgets ws) f) (fun a b c d e f g z => d2 a b c d e f g z) fun a b c d e f z => d3 a b c d e f z
theorem bl_whileS {β : Type} (ws : List Nat) (mk : β → List (Option X)) (I : Nat → β → Nat → Prop) (k0 : Nat) (b0 : β) (hw : wipeL ρ.s ws = mk b0) (h0 : I k0 b0 n)
    (hs : ∀ k b m, I k b m → EvT tt ⟨mk b, ρ.g⟩ m fun c m2 => (c = true → Blk C E tb ⟨mk b, ρ.g⟩ m2 (loopK (fun ρ3 m3 => ρ3.g = ρ.g ∧ ∃ k' b', k' < k ∧ wipeL ρ3.s ws = mk b' ∧ I k' b' m3) K)) ∧ (c = false → K (.nx ⟨mk b, ρ.g⟩ m2))) : Blk C E (tWhile tt tb) ρ n K := by
  refine Blk.fget ws (bl_while (fun k ρ' m => ρ'.g = ρ.g ∧ ∃ b, ρ'.s = mk b ∧ I k b m) k0 ⟨rfl, b0, hw, h0⟩ ?_)
  rintro k ⟨s', g'⟩ m ⟨eg, b, es, iv⟩
  dsimp only at eg es
  subst eg es
  refine (hs k b m iv).mono fun c m2 ⟨h1, h2⟩ => ⟨fun hc => Blk.fgetK ws ((h1 hc).mono fun o => ?_), h2⟩
  cases o with
  | nx ρ3 m3 =>
    rintro ⟨a, k', b', hk, e, iv'⟩
    exact ⟨k', hk, a, b', e, iv'⟩
  | rt x m => exact id
  | ex m => exact id
theorem bl_forVS {β : Type} (ws : List Nat) (mk : β → List (Option X)) (I : Nat → β → Nat → Prop) {j : Nat} {a : Addr} {kvs : List (List Key × T)} (hj : ρ.s[j]? = some (some (.dic a kvs false))) (hg0 : ρ.g = []) (hoth : ∀ (i : Nat) (kvs' : List (List Key × T)) (o : Bool), i ≠ j → ρ.s[i]? ≠ some (some (.dic a kvs' o))) (hjw : j ∉ ws)
    (h : ∀ g0 : Gh, ∃ b0, wipeL (ρ.s.set j (some (.gh a))) ws = mk b0 ∧ I 0 b0 n ∧ (∀ i d b m', (kvs.map (·.2))[i]? = some d → I i b m' → Tgt (List.range 40) g d ⟨mk b, [g0]⟩ fun ρ2 => Blk C E tb ρ2 m' (loopK (fun ρ3 m3 => ρ3.g = [g0] ∧ ∃ b', wipeL ρ3.s ws = mk b' ∧ I (i + 1) b' m3) (fun _ => False))) ∧
      ∀ b m', I kvs.length b m' → (mk b)[j]? = some (some (.gh a)) ∧ K (.nx ⟨(mk b).set j (some (.dic a kvs false)), []⟩ m')) : Blk C E (tLock (tFor (iValsT (tVar j)) g tb)) ρ n K := by
  refine Blk.wipe ws (bl_forV hj hg0 hoth fun g0 => ?_)
  obtain ⟨b0, e0, i0, hs, hd⟩ := h g0
  refine ⟨fun i ρ' m' => ρ'.g = [g0] ∧ ∃ b, wipeL ρ'.s ws = mk b ∧ I i b m', ⟨rfl, b0, e0, i0⟩, fun i ρ' m' z => z.1, ?_, ?_⟩
  · rintro i d ⟨s', g'⟩ m' hd' ⟨eg, b, es, iv⟩
    dsimp only at eg es
    subst eg
    refine Tgt.fget ws ?_
    show Tgt _ _ _ ⟨wipeL s' ws, [g0]⟩ _
    rw [es]
    exact hs i d b m' hd' iv
  · rintro ⟨s', g'⟩ m' ⟨eg, b, es, iv⟩
    dsimp only at eg es
    obtain ⟨h1, h2⟩ := hd b m' iv
    refine ⟨by rw [← wipeL_get hjw, es]; exact h1, ?_⟩
    show K (.nx ⟨wipeL (s'.set j _) ws, []⟩ m')
    rw [wipeL_set hjw, es]
    exact h2
end
end CK
/-! part D14 -/
set_option Elab.async false
set_option linter.all false
set_option maxRecDepth 100000
set_option maxHeartbeats 2000000
/-! The law's own defs, part 5. -/
namespace CK
open PySem PySem.Spec PyProof.Rows L2
local macro_rules | `(tactic| walk_at "wp0") => `(tactic| first
  | ((with_reducible refine bl_retL (a := ?va) (ds := ?vd) ?vh ?_); (case vh => exact rfl))
  | ((with_reducible refine bl_retD (a := ?va) (ds := ?vd) ?vh ?_); (case vh => exact rfl))
  | (with_reducible refine bl_ret ?_)
  | (with_reducible refine bl_if ?_)
  | (with_reducible refine bl_asg ?_)
  | (with_reducible refine bl_asgP ?_)
  | (with_reducible refine bl_next ?_)
  | (with_reducible refine et_test ?_)
  | (with_reducible refine et_B ?_)
  | (with_reducible refine et_and ?_)
  | (with_reducible refine et_or ?_)
  | (with_reducible refine et_not ?_)
  | (with_reducible refine et_yes ?_)
  | ((with_reducible refine ev_varT (d := ?vd) ?vh ?_); (case vh => exact rfl))
  | ((with_reducible refine ev_varL (a := ?va) (ds := ?vd) (o := ?vo) ?vh ?_); (case vh => exact rfl))
  | ((with_reducible refine ev_varD (a := ?va) (kvs := ?vd) (o := ?vo) ?vh ?_); (case vh => exact rfl))
  | ((with_reducible refine ev_varP ?vh ?_); (case vh => exact rfl))
  | (with_reducible refine ev_int ?_)
  | (with_reducible refine ev_str ?_)
  | (with_reducible refine ev_bl ?_)
  | (with_reducible refine ev_non ?_)
  | (with_reducible refine ev_ty ?_)
  | (with_reducible refine ev_op ro_ix ?_)
  | (with_reducible refine ev_op ro_eq ?_)
  | (with_reducible refine ev_op ro_is ?_)
  | (with_reducible refine ev_op ro_cmp ?_)
  | (with_reducible refine ev_op ro_add ?_)
  | (with_reducible refine ev_op ro_sub ?_)
  | (with_reducible refine ev_op ro_mul ?_)
  | (with_reducible refine ev_op ro_mod ?_)
  | (with_reducible refine ev_op ro_div ?_)
  | (with_reducible refine ev_op ro_pow ?_)
  | (with_reducible refine ev_op ro_in ?_)
  | (with_reducible refine ev_neg ?_)
  | (with_reducible refine ev_cb rc_len ?_)
  | (with_reducible refine ev_cb rc_isi ?_)
  | (with_reducible refine ev_cb rc_all ?_)
  | (with_reducible refine ev_cb rc_list ?_)
  | (with_reducible refine ev_cb rc_tuple ?_)
  | (with_reducible refine ev_cb rc_int ?_)
  | (with_reducible refine ev_cb rc_max ?_)
  | (with_reducible refine ea_cons ?_)
  | (with_reducible refine ea_nil ?_)
  | (with_reducible refine ev_tup ?_)
  | (with_reducible refine ev_lst ?_)
  | (with_reducible refine ev_sl ?_)
  | (with_reducible refine eo_none ?_)
  | (with_reducible refine eo_some ?_)
  | (with_reducible refine ev_dget ?_)
  | (with_reducible refine ev_dnew ?_)
  | (with_reducible refine ev_if ?_)
  | (with_reducible refine ev_and ?_)
  | (with_reducible refine ev_or ?_)
  | (with_reducible refine ev_not ?_)
  | (with_reducible refine ev_chain ro_cmp ro_cmp ?_)
  | (with_reducible refine ev_call ?_)
  | (with_reducible refine ev_lrg2 ?_)
  | (with_reducible refine wAddI ?_)
  | (with_reducible refine wSub ?_)
  | (with_reducible refine wEqI ?_)
  | (with_reducible refine wEqS ?_)
  | (with_reducible refine wNeI ?_)
  | (with_reducible refine wNeS ?_)
  | (with_reducible refine wCmp ?_)
  | (with_reducible refine wLenT ?_)
  | (with_reducible refine wLenL ?_)
  | (with_reducible refine wTupT ?_)
  | (with_reducible refine wTupL ?_)
  | (with_reducible refine wIsN ?_)
  | (with_reducible refine wNotN ?_)
  | (with_reducible refine wIsB ?_)
  | (with_reducible refine wInt ?_)
  | (with_reducible refine wMax ?_)
  | (with_reducible refine wListT ?_; intro _)
  | (with_reducible refine wListL ?_; intro _)
  | (with_reducible refine wSlT ?_)
  | ((with_reducible refine wIxT (d := ?vd) ?vh ?_); (case vh => exact rfl))
  | (refine wIxT atI_c0 ?_)
  | (refine wIxT atI_c1 ?_)
  | (refine wIxT atI_c2 ?_)
  | ((with_reducible refine wIxL (d := ?vd) ?vh ?_); (case vh => exact rfl))
  | ((with_reducible refine wIsi (b := ?vd) ?vh ?_); (case vh => exact rfl))
  | ((with_reducible refine wIsiL (b := ?vd) ?vh ?_); (case vh => exact rfl))
  | (with_reducible refine tg_tup rfl ?_)
  | (with_reducible refine tgs_cons ?_)
  | (with_reducible refine tgs_nil ?_)
  | ((with_reducible refine tg_name ?vh ?_); (case vh => decide))
  | (with_reducible refine ⟨_, rfl, ?_⟩)
  | (with_reducible refine ⟨_, _, rfl, ?_⟩)
  | (with_reducible refine ⟨_, _, rfl, rfl, ?_⟩)
  | (with_reducible refine ⟨_, _, _, rfl, ?_⟩)
  | (refine And.intro (show List.length _ ≤ lim from Nat.le_of_ble_eq_true rfl) ?_)
  | (with_reducible refine seqK_nx ?_)
  | (with_reducible refine seqK_rt ?_)
  | (with_reducible refine seqK_ex ?_)
  | fail "wp0: no step")
local macro_rules | `(tactic| walk_at "wp1") => `(tactic| first | (with_reducible refine bl_seq ?_) | walk_at "wp0")
local macro_rules | `(tactic| walk_at "wps") => `(tactic| repeat (walk_at "wp0"))
local macro_rules | `(tactic| walk_at "wp") => `(tactic| repeat (walk_at "wp1"))
abbrev F__law_is_dark : PF := fun xs n K => ∃ (f : Fm) (s : Sd) (es : List Dd) (sn : List (Option Int)) (r : Nat) (m : Int) (a : Addr) (kvs : List (List Key × T)), xs = [.t (eF f), .dic a kvs false, .t (.tup (sn.map eP)), .t (.tup [.int (r : Nat), .int m])] ∧ FOk f ∧ s.ld.length = f.roads.length ∧ Fd3 (LK3 f s es es.length) kvs ∧ sn.length = f.rules.length ∧ r < f.roads.length ∧ (∃ v, LK3 f s es es.length r m v) ∧ K (.t (.bl (dark f s es sn r m))) n
theorem len__law_is_dark : ∀ xs n K, F__law_is_dark xs n K → xs.length = 4 := fun _ _ _ ⟨_, _, _, _, _, _, _, _, e, _⟩ => by rw [e]; rfl
abbrev N__law_is_dark : List Str := ["_law_form", "_law_letters", "_law_seen", "_law_letter", "_law_sender"]
theorem sc__law_is_dark : FnScope N__law_is_dark ["_law_form", "_law_letters", "_law_seen", "_law_letter"] (defScope s__law_is_dark) := ⟨rfl, rfl, rfl, by decide +kernel, rfl, by decide +kernel, by decide +kernel⟩
theorem cal__law_is_dark {P : Program} {w : World} {K : PySem.W.Frag} {mg : Str → Option Value} {base : Heap} {f : Addr} {fd : FuncData} (B : Bi mg) (F : Fun K "_law_is_dark" "_law_is_dark" s__law_is_dark f fd) (gm : mg "_law_is_dark" = some (.ref f)) : Cal P w K mg base "_law_is_dark" 1 ["_law_form", "_law_letters", "_law_seen", "_law_letter"] (spU F__law_is_dark) := by
  have bn : Binds K fd ["_law_form", "_law_letters", "_law_seen", "_law_letter"] [] := F.binds fun _ _ _ _ _ _ us hl => match us, hl with | [_, _, _, _], _ => rfl
  refine mk_cal (k := 0) F gm bn sc__law_is_dark rfl len__law_is_dark fun cdv A outer s H E hr => ?_
  have nd := (sc__law_is_dark).nd
  apply Exists.intro
  apply And.intro
  · exact (pss_cons (ps_set (i := 4) nd rfl (Or.inl rfl) (pe_ix (ix_K (K := K)) (pv 2) (pe_ix (ix_K (K := K)) (pe_ix (ix_K (K := K)) (pe_ix (ix_K (K := K)) (pv 0) pe_int (fun _ _ => rfl)) (pe_ix (ix_K (K := K)) (pv 3) pe_int (fun _ _ => rfl)) (fun _ _ => rfl)) pe_int (fun _ _ => rfl)) (fun _ _ => rfl)))
    (pss_one (ps_ret (pe_and (pe_cmpR op_isnotP (pv 4) pe_non (nomark _)) (pe_and (pe_cmpR op_isnotP (pe_ix (ix_K (K := K)) (pe_dget (hu_of hr) (pv 1) (pv 3) (fun _ _ => rfl)) pe_int (fun _ _ => rfl)) pe_non (nomark _)) (pe_one (pe_cmpR op_ge (pe_ix (ix_K (K := K)) (pe_ix (ix_K (K := K)) (pe_dget (hu_of hr) (pv 1) (pv 3) (fun _ _ => rfl)) pe_int (fun _ _ => rfl)) pe_int (fun _ _ => rfl)) (pv 4) (nomark _))))))))
  · rintro xs n Kx ⟨f, s, es, sn, r, m, a, kvs, rfl, hf, hld, hk, hsn, hrr, ⟨v, hv⟩, k⟩
    have hq := List.getElem?_eq_getElem hrr
    generalize f.roads[r]'hrr = q at hq
    have hsr := (hf.road r q hq).1
    obtain ⟨p, hp⟩ := sn_get (show q.src < sn.length by omega)
    obtain ⟨c, g, hc⟩ := hk r m v hv
    walk_at "wp"
    refine wIxT (atI_map hq) ?_
    walk_at "wp"
    refine wIxT (atI_map hp) ?_
    walk_at "wp"
    obtain ⟨l0, _, _, _, ev⟩ := hv
    subst ev
    cases p with
    | none =>
      have ed : dark f s es sn r m = false := by simp only [dark, hq, hp]
      rw [ed] at k
      exact ⟨fun z => (by cases z), fun _ => k⟩
    | some p =>
      refine ⟨fun _ => ?_, fun z => (by cases z)⟩
      walk_at "wp"
      refine ⟨_, _, _, _, _, _, rfl, rfl, keys_lk r m, hc, ?_⟩
      walk_at "wp"
      cases hsd : snd f s es r m with
      | none =>
        have ed : dark f s es sn r m = false := by simp only [dark, hq, hp, hsd]
        rw [ed] at k
        exact ⟨fun z => (by cases z), fun _ => k⟩
      | some kk =>
        have hkk := (snd_some hf (by rw [hld]; exact hrr) hsd).1
        have hd := List.getElem?_eq_getElem hkk
        generalize es[kk]'hkk = d at hd
        have hev := evs_get (f := f) hd
        have ese : sE f es (some kk) = eEv (mach f d, cnt f (es.take kk) (mach f d)) := by simp only [sE, hev]
        have ed : dark f s es sn r m = decide (p ≤ ((cnt f (es.take kk) (mach f d) : Nat) : Int)) := by simp only [dark, hq, hp, hsd, hev]
        rw [ed] at k
        rw [hsd, ese] at hc
        rw [ese]
        refine ⟨fun _ => ?_, fun z => (by cases z)⟩
        walk_at "wp"
        refine ⟨_, _, _, _, _, _, rfl, rfl, keys_lk r m, hc, ?_⟩
        walk_at "wp"
        dsimp only [eP]
        walk_at "wp"
        exact k
theorem sum_set : ∀ {l : List Int} {i : Nat} {x y : Int}, l[i]? = some x → (l.set i y).sum = l.sum - x + y
  | [], i, x, y, h => by simp at h
  | a :: l, 0, x, y, h => by
    simp at h
    subst h
    simp only [List.set_cons_zero, List.sum_cons]
    omega
  | a :: l, i + 1, x, y, h => by
    have := sum_set (l := l) (i := i) (x := x) (y := y) (by simpa using h)
    simp only [List.set_cons_succ, List.sum_cons, this]
    omega
theorem sum_nonneg : ∀ {l : List Int}, (∀ x ∈ l, 0 ≤ x) → 0 ≤ l.sum
  | [], _ => by simp
  | a :: l, h => by
    have := sum_nonneg (l := l) fun x hx => h x (List.mem_cons_of_mem _ hx)
    have := h a List.mem_cons_self
    simp only [List.sum_cons]
    omega
theorem mem_set_or {l : List Int} {i : Nat} {y x : Int} (h : x ∈ l.set i y) : x ∈ l ∨ x = y := List.mem_or_eq_of_mem_set h
abbrev F__law_closed : PF := fun xs n K => ∃ (f : Fm) (a : Addr) (kvs : List (List Key × T)) (cut : List Int), xs = [.dic a kvs false, .t (.tup (cut.map T.int))] ∧ FOk f ∧ ShA f kvs ∧ cut.length = f.rules.length ∧ (∀ c ∈ cut, 0 ≤ c) ∧ ∀ cut' : List Int, cut'.length = cut.length → K (.t (.tup (cut'.map T.int))) n
theorem len__law_closed : ∀ xs n K, F__law_closed xs n K → xs.length = 2 := fun _ _ _ ⟨_, _, _, _, e, _⟩ => by rw [e]; rfl
abbrev N__law_closed : List Str := ["_law_letters", "_law_cut", "_law_going", "_law_sending", "_law_coming", "_law_sign"]
theorem sc__law_closed : FnScope N__law_closed ["_law_letters", "_law_cut"] (defScope s__law_closed) := ⟨rfl, rfl, rfl, by decide +kernel, rfl, by decide +kernel, by decide +kernel⟩
theorem cal__law_closed {P : Program} {w : World} {K : PySem.W.Frag} {mg : Str → Option Value} {base : Heap} {f : Addr} {fd : FuncData} (B : Bi mg) (F : Fun K "_law_closed" "_law_closed" s__law_closed f fd) (gm : mg "_law_closed" = some (.ref f)) : Cal P w K mg base "_law_closed" 1 ["_law_letters", "_law_cut"] (spU F__law_closed) := by
  have bn : Binds K fd ["_law_letters", "_law_cut"] [] := F.binds fun _ _ _ _ _ _ us hl => match us, hl with | [_, _], _ => rfl
  refine mk_cal (k := 0) F gm bn sc__law_closed rfl len__law_closed fun cdv A outer s H E hr => ?_
  have nd := (sc__law_closed).nd
  apply Exists.intro
  apply And.intro
  · exact (pss_cons (ps_set (i := 1) nd rfl (Or.inl rfl) (pe_callTy (call_listK (K := K)) (by rfl) B.list bt_list (pa_cons (pv 1) pa_nil)))
    (pss_cons (ps_set (i := 2) nd rfl (Or.inl rfl) pe_bl)
    (pss_cons (ps_while PassesOwn.never (pt_val (pv 2))
      (pss_cons (ps_set (i := 2) nd rfl (Or.inl rfl) pe_bl)
    (pss_one (ps_lock (ps_for PassesOwn.never rfl (pi_valuesT (pv 0)) (pg_tup rfl (pgs_cons (pg_name (i := 3) nd rfl (Or.inl rfl)) (pgs_cons (pg_name (i := 4) nd rfl (Or.inl rfl)) (pgs_cons (pg_name (i := 5) nd rfl (Or.inl rfl)) pgs_nil))))
      (pss_one (ps_if (PW.pt (pw_and (pt_cmpR op_isnotP (pv 4) pe_non (nomark _)) (pw_and1 (pt_cmpR op_isnotP (pv 3) pe_non (nomark _))))) (pss_one (ps_if (PW.pt (pw_and (pt_cmpR op_lt (pe_ix (ix_K (K := K)) (pv 4) pe_int (fun _ _ => rfl)) (pe_ix (ix_K (K := K)) (pv 1) (pe_ix (ix_K (K := K)) (pv 4) pe_int (fun _ _ => rfl)) (fun _ _ => rfl)) (nomark _)) (pw_and1 (pt_cmpR op_ge (pe_ix (ix_K (K := K)) (pv 3) pe_int (fun _ _ => rfl)) (pe_ix (ix_K (K := K)) (pv 1) (pe_ix (ix_K (K := K)) (pv 3) pe_int (fun _ _ => rfl)) (fun _ _ => rfl)) (nomark _))))) (pss_cons (ps_asg (pe_ix (ix_K (K := K)) (pv 4) pe_int (fun _ _ => rfl)) (pg_sub (pv 1) (pe_ix (ix_K (K := K)) (pv 4) pe_int (fun _ _ => rfl)) set_list))
    (pss_one (ps_set (i := 2) nd rfl (Or.inl rfl) pe_bl))) pss_nil)) pss_nil)))))))
    (pss_one (ps_ret (pe_callTy (call_tupleK (K := K)) (by rfl) B.tuple bt_tuple (pa_cons (pv 1) pa_nil)))))))
  · rintro xs n Kx ⟨f, a, kvs, cut, rfl, hf, hsh, hcl, hc0, k⟩
    refine bl_seq ?_
    walk_at "wps"
    rename_i p
    refine bl_seq ?_
    walk_at "wps"
    refine bl_seq (bl_whileS [3, 4, 5] (fun b : List Int × Bool => [some (.dic a kvs false), some (.l p (b.1.map T.int) true), some (.t (.bl b.2)), none, none, none]) (fun kk b m => m = n ∧ b.1.length = cut.length ∧ (∀ x ∈ b.1, 0 ≤ x) ∧ kk = 2 * b.1.sum.toNat + (if b.2 then 1 else 0)) (2 * cut.sum.toNat + 1) (cut, true) rfl ⟨rfl, rfl, hc0, rfl⟩ ?_)
    rintro kk ⟨c, go⟩ m ⟨em, h1, h2, h3⟩
    subst em
    dsimp only at h1 h2 h3
    walk_at "wp"
    refine ⟨fun hgo => ?_, fun hgo => ?_⟩
    · subst hgo
      refine bl_seq ?_
      walk_at "wps"
      refine bl_forVS [3, 4, 5] (fun b : List Int × Bool => [some (.gh a), some (.l p (b.1.map T.int) true), some (.t (.bl b.2)), none, none, none]) (fun i b m' => m' = m ∧ b.1.length = cut.length ∧ (∀ x ∈ b.1, 0 ≤ x) ∧ (if b.2 then b.1.sum < c.sum else b.1 = c)) (j := 0) rfl rfl (fun i kvs' o hi => ?_) (by decide) fun g0 => ?_
      · match i with
        | 0 => exact absurd rfl hi
        | 1 => intro z; cases z
        | 2 => intro z; cases z
        | 3 => intro z; cases z
        | 4 => intro z; cases z
        | 5 => intro z; cases z
        | i + 6 => intro z; cases z
      refine ⟨(c, false), rfl, ⟨rfl, h1, h2, rfl⟩, ?_, ?_⟩
      · rintro i d ⟨q, qg⟩ m' hd ⟨em, h4, h5, h6⟩
        subst em
        dsimp only at h4 h5 h6
        obtain ⟨kv, hkv, rfl⟩ := List.mem_map.mp (List.mem_of_getElem? hd)
        obtain ⟨e1, e2, sg, ev, o1, o2⟩ := hsh kv hkv
        rw [ev]
        have same : ∀ ρ3 : En, ρ3.g = [g0] → wipeL ρ3.s [3, 4, 5] = [some (.gh a), some (.l p (q.map T.int) true), some (.t (.bl qg)), none, none, none] → (ρ3.g = [g0] ∧ ∃ b' : List Int × Bool, wipeL ρ3.s [3, 4, 5] = [some (.gh a), some (.l p (b'.1.map T.int) true), some (.t (.bl b'.2)), none, none, none] ∧ m' = m' ∧ b'.1.length = cut.length ∧ (∀ x ∈ b'.1, 0 ≤ x) ∧ (if b'.2 then b'.1.sum < c.sum else b'.1 = c)) := fun ρ3 a b => ⟨a, (q, qg), b, rfl, h4, h5, h6⟩
        walk_at "wp"
        rcases o2 with rfl | ⟨m2, i2, hm2, rfl⟩
        · refine ⟨fun z => (by cases z), fun _ => ?_⟩
          refine ⟨fun z => (by cases z), fun _ => bl_next ?_⟩
          exact same _ rfl rfl
        refine ⟨fun _ => ?_, fun z => (by cases z)⟩
        walk_at "wp"
        rcases o1 with rfl | ⟨m1, i1, hm1, rfl⟩
        · refine ⟨fun z => (by cases z), fun _ => bl_next ?_⟩
          exact same _ rfl rfl
        refine ⟨fun _ => ?_, fun z => (by cases z)⟩
        have hx2 := List.getElem?_eq_getElem (show m2 < q.length by omega)
        generalize q[m2]'(by omega) = x2 at hx2
        have hx1 := List.getElem?_eq_getElem (show m1 < q.length by omega)
        generalize q[m1]'(by omega) = x1 at hx1
        walk_at "wp"
        refine wIxL (atI_map hx2) ?_
        walk_at "wp"
        refine ⟨fun z1 => ?_, fun z1 => ?_⟩
        · walk_at "wp"
          refine wIxL (atI_map hx1) ?_
          walk_at "wp"
          refine ⟨fun z2 => ?_, fun z2 => ?_⟩
          · refine bl_seq (bl_setL (j := 1) rfl ?_)
            walk_at "wp"
            refine ⟨_, m2, rfl, by rw [List.length_map]; exact ixN_nat (List.getElem?_eq_some_iff.mp hx2).1, ?_⟩
            rw [← List.map_set]
            walk_at "wp"
            have hlt : ((i2 : Nat) : Int) < x2 := of_decide_eq_true z1
            refine ⟨rfl, (q.set m2 ((i2 : Nat) : Int), true), rfl, rfl, by dsimp only; rw [List.length_set]; exact h4, fun x hx => ?_, ?_⟩
            · rcases mem_set_or hx with hx | hx
              · exact h5 x hx
              · rw [hx]; omega
            · show (q.set m2 ((i2 : Nat) : Int)).sum < c.sum
              rw [sum_set hx2]
              cases qg with
              | true => have h6' : q.sum < c.sum := h6; omega
              | false => have h6' : q = c := h6; rw [h6']; omega
          · refine bl_next ?_
            exact same _ rfl rfl
        · refine ⟨fun z => (by cases z), fun _ => bl_next ?_⟩
          exact same _ rfl rfl
      · rintro ⟨q, qg⟩ m' ⟨em, h4, h5, h6⟩
        subst em
        dsimp only at h4 h5 h6
        refine ⟨rfl, rfl, _, (q, qg), ?_, rfl, rfl, h4, h5, rfl⟩
        have n1 := sum_nonneg h5
        have n2 := sum_nonneg h2
        rw [h3]
        dsimp only
        cases qg with
        | true => have h6' : q.sum < c.sum := h6; simp; omega
        | false => have h6' : q = c := h6; rw [h6']; simp
    · walk_at "wp"
      exact k c h1
/-! ### takings -/
def wOk (f : Fm) (s : Sd) (es : List Dd) (sn : List (Option Int)) : Wd → Prop
  | .bg m => m < f.rules.length ∧ sn[m]? = some none
  | .dd d => WOk f (walk f s es) d
/-- a letter that comes to a machine not seen as yet is looked at -/
def newSn (f : Fm) (s : Sd) (es : List Dd) (sn : List (Option Int)) : Dd → List (Option Int)
  | .come r n => if sn[mach f (.come r n)]? = some none ∧ dark f s es sn r n = true then sn.set (mach f (.come r n)) (some ((cnt f es (mach f (.come r n)) : Nat) : Int)) else sn
  | _ => sn
def aftE (es : List Dd) : Wd → List Dd
  | .bg _ => es
  | .dd d => es ++ [d]
def aftS (f : Fm) (s : Sd) (es : List Dd) (sn : List (Option Int)) : Wd → List (Option Int)
  | .bg m => sn.set m (some ((cnt f es m : Nat) : Int))
  | .dd d => newSn f s es sn d
abbrev F__law_colours_after : PF := fun xs n K => ∃ (f : Fm) (s : Sd) (es : List Dd) (sn : List (Option Int)) (w : Wd), xs = [.t (eF f), .t (eTk s es sn), .t (eW w)] ∧ FOk f ∧ SOk f s 16 ∧ es.length ≤ 20 ∧ Runs f s es ∧ sn.length = f.rules.length ∧ wOk f s es sn w ∧ K (.t (eTk s (aftE es w) (aftS f s es sn w))) n
theorem len__law_colours_after : ∀ xs n K, F__law_colours_after xs n K → xs.length = 3 := fun _ _ _ ⟨_, _, _, _, _, e, _⟩ => by rw [e]; rfl
theorem sn_set (sn : List (Option Int)) (m : Nat) (i : Int) : (sn.map eP).set m (T.int i) = (sn.set m (some i)).map eP := by rw [List.map_set]; rfl
abbrev N__law_colours_after : List Str := ["_law_form", "_law_taking", "_law_deed", "_law_base", "_law_deeds", "_law_seen", "_law_m"]
theorem sc__law_colours_after : FnScope N__law_colours_after ["_law_form", "_law_taking", "_law_deed"] (defScope s__law_colours_after) := ⟨rfl, rfl, rfl, by decide +kernel, rfl, by decide +kernel, by decide +kernel⟩
theorem cal__law_colours_after {P : Program} {w : World} {K : PySem.W.Frag} {mg : Str → Option Value} {base : Heap} {f : Addr} {fd : FuncData} (B : Bi mg) (c__law_is : Cal P w K mg base "_law_is" 2 ["_law_thing", "_law_word", "_law_many"] (spU F__law_is)) (c__law_machine : Cal P w K mg base "_law_machine" 1 ["_law_form", "_law_deed"] (spU F__law_machine)) (c__law_tried : Cal P w K mg base "_law_tried" 5 ["_law_form", "_law_stand", "_law_thing"] (spU F__law_tried)) (c__law_is_dark : Cal P w K mg base "_law_is_dark" 1 ["_law_form", "_law_letters", "_law_seen", "_law_letter"] (spU F__law_is_dark)) (c__law_put : Cal P w K mg base "_law_put" 1 ["_law_row", "_law_place", "_law_thing"] (spU F__law_put)) (c__law_walk : Cal P w K mg base "_law_walk" 3 ["_law_form", "_law_stand", "_law_deeds"] (spU F__law_walk)) (c__law_all_letters : Cal P w K mg base "_law_all_letters" 3 ["_law_form", "_law_stand", "_law_deeds"] (spU F__law_all_letters)) (c__law_all_ends : Cal P w K mg base "_law_all_ends" 2 ["_law_form", "_law_deeds"] (spU F__law_all_ends)) (F : Fun K "_law_colours_after" "_law_colours_after" s__law_colours_after f fd) (gm : mg "_law_colours_after" = some (.ref f)) : Cal P w K mg base "_law_colours_after" 6 ["_law_form", "_law_taking", "_law_deed"] (spU F__law_colours_after) := by
  have bn : Binds K fd ["_law_form", "_law_taking", "_law_deed"] [] := F.binds fun _ _ _ _ _ _ us hl => match us, hl with | [_, _, _], _ => rfl
  refine mk_cal (k := 5) F gm bn sc__law_colours_after rfl len__law_colours_after fun cdv A outer s H E hr => ?_
  have nd := (sc__law_colours_after).nd
  apply Exists.intro
  apply And.intro
  · exact (pss_cons (ps_asg (pv 1) (pg_tup rfl (pgs_cons (pg_name (i := 3) nd rfl (Or.inl rfl)) (pgs_cons (pg_name (i := 4) nd rfl (Or.inl rfl)) (pgs_cons (pg_name (i := 5) nd rfl (Or.inl rfl)) pgs_nil)))))
    (pss_cons (ps_if (pt_val (pe_cal c__law_is hr (by rfl) (pa_cons (pv 2) (pa_cons pe_str (pa_cons (pe_callB (call_lenK (K := K)) (by rfl) B.len bt_len (pa_cons (pe_ix (ix_K (K := K)) (pv 0) pe_int (fun _ _ => rfl)) pa_nil)) pa_nil))))) (pss_cons (ps_if (pt_cmpR op_isnotP (pe_ix (ix_K (K := K)) (pv 5) (pe_ix (ix_K (K := K)) (pv 2) pe_int (fun _ _ => rfl)) (fun _ _ => rfl)) pe_non (nomark _)) (pss_one (ps_ret (pe_lst (pa_cons pe_str (pa_cons (pe_ix (ix_K (K := K)) (pv 2) pe_int (fun _ _ => rfl)) pa_nil))))) pss_nil)
    (pss_one (ps_ret (pe_tup (pa_cons (pv 3) (pa_cons (pv 4) (pa_cons (pe_cal c__law_put hr (by rfl) (pa_cons (pv 5) (pa_cons (pe_ix (ix_K (K := K)) (pv 2) pe_int (fun _ _ => rfl)) (pa_cons (pe_ix (ix_K (K := K)) (pe_cal c__law_all_ends hr (by rfl) (pa_cons (pv 0) (pa_cons (pv 4) pa_nil))) (pe_ix (ix_K (K := K)) (pv 2) pe_int (fun _ _ => rfl)) (fun _ _ => rfl)) pa_nil)))) pa_nil))))))) pss_nil)
    (pss_cons (ps_if (pt_cmpR op_isP (pe_cal c__law_tried hr (by rfl) (pa_cons (pv 0) (pa_cons (pe_cal c__law_walk hr (by rfl) (pa_cons (pv 0) (pa_cons (pv 3) (pa_cons (pv 4) pa_nil)))) (pa_cons (pv 2) pa_nil)))) pe_non (nomark _)) (pss_one (ps_ret (pe_lst (pa_cons pe_str (pa_cons pe_int pa_nil))))) pss_nil)
    (pss_cons (ps_set (i := 6) nd rfl (Or.inl rfl) (pe_cal c__law_machine hr (by rfl) (pa_cons (pv 0) (pa_cons (pv 2) pa_nil))))
    (pss_cons (ps_if (PW.pt (pw_and (pt_cmpR (op_eqK (K := K) hr.units) (pe_ix (ix_K (K := K)) (pv 2) pe_int (fun _ _ => rfl)) pe_str (nomark _)) (pw_and1 (pt_cmpR op_isP (pe_ix (ix_K (K := K)) (pv 5) (pv 6) (fun _ _ => rfl)) pe_non (nomark _))))) (pss_one (ps_if (pt_val (pe_cal c__law_is_dark hr (by rfl) (pa_cons (pv 0) (pa_cons (pe_cal c__law_all_letters hr (by rfl) (pa_cons (pv 0) (pa_cons (pv 3) (pa_cons (pv 4) pa_nil)))) (pa_cons (pv 5) (pa_cons (pe_slice (sl_K (K := K)) (pv 2) (po_some pe_int) po_none) pa_nil)))))) (pss_one (ps_set (i := 5) nd rfl (Or.inl rfl) (pe_cal c__law_put hr (by rfl) (pa_cons (pv 5) (pa_cons (pv 6) (pa_cons (pe_ix (ix_K (K := K)) (pe_cal c__law_all_ends hr (by rfl) (pa_cons (pv 0) (pa_cons (pv 4) pa_nil))) (pv 6) (fun _ _ => rfl)) pa_nil)))))) pss_nil)) pss_nil)
    (pss_one (ps_ret (pe_tup (pa_cons (pv 3) (pa_cons (pe_op (op_addK (K := K)) (pv 4) (pe_tup (pa_cons (pv 2) pa_nil))) (pa_cons (pv 5) pa_nil)))))))))))
  · rintro xs n Kx ⟨f, s, es, sn, w, rfl, hf, hs, hel, hr, hsn, hw, k⟩
    have hok := runs_ok hr
    have hrl := hf.rl
    walk_at "wps"
    refine bl_seq ?_
    walk_at "wps"
    cases w with
    | bg m =>
      obtain ⟨hm, hp⟩ := hw
      have hm2 : m < sn.length := by omega
      walk_at "wp"
      rw [List.length_map]
      have eb : isBg f.rules.length (.bg m) = true := by simp [isBg, hm]
      rw [eb]
      dsimp only [eW]
      walk_at "wp"
      refine ⟨fun _ => ?_, fun z => (by cases z)⟩
      walk_at "wp"
      refine wIxT (atI_map hp) ?_
      walk_at "wp"
      refine ⟨fun z => (by cases z), fun _ => ?_⟩
      walk_at "wp"
      refine ⟨f, es, _, rfl, .inl rfl, hf, hok, by omega, ?_⟩
      walk_at "wp"
      refine wIxT (atI_map (cnts_get hm)) ?_
      walk_at "wp"
      refine ⟨by rw [List.length_map]; omega, by rw [List.length_map]; omega, ?_⟩
      rw [sn_set]
      walk_at "wp"
      exact k
    | dd d =>
      obtain ⟨hd, hc⟩ := hw
      have hm := mach_lt hf hd
      obtain ⟨p, hp⟩ := sn_get (show mach f d < sn.length by omega)
      have hws := walk_ok hf es s 16 hs
      refine bl_seqC (fun ρ m => m = n ∧ ρ = ⟨[some (.t (eF f)), some (.t (eTk s es sn)), some (.t (eD d)), some (.t (eS s)), some (.t (.tup (es.map eD))), some (.t (.tup (sn.map eP))), none], []⟩) ?_ ?_
      · walk_at "wp"
        rw [List.length_map]
        refine ⟨fun z => (by cases z), fun _ => bl_next ⟨rfl, rfl⟩⟩
      rintro ρ m ⟨em, rfl⟩
      subst em
      refine bl_seqC (fun ρ m2 => m2 = m ∧ ρ = ⟨[some (.t (eF f)), some (.t (eTk s es sn)), some (.t (eD d)), some (.t (eS s)), some (.t (.tup (es.map eD))), some (.t (.tup (sn.map eP))), none], []⟩) ?_ ?_
      · walk_at "wp"
        refine ⟨f, s, es, 16, rfl, hf, hs, by omega, hr, ?_⟩
        walk_at "wp"
        refine ⟨f, walk f s es, d, _, rfl, hf, hws, by omega, hd, ?_⟩
        rw [eStep_yes hc]
        walk_at "wp"
        exact ⟨fun z => (by cases z), fun _ => bl_next ⟨rfl, rfl⟩⟩
      rintro ρ m2 ⟨em, rfl⟩
      subst em
      refine bl_seq ?_
      walk_at "wps"
      refine ⟨hd, ?_⟩
      walk_at "wps"
      refine bl_seqC (fun ρ m3 => m3 = m2 ∧ ρ = ⟨[some (.t (eF f)), some (.t (eTk s es sn)), some (.t (eD d)), some (.t (eS s)), some (.t (.tup (es.map eD))), some (.t (.tup ((newSn f s es sn d).map eP))), some (.t (.int (mach f d : Nat)))], []⟩) ?_ ?_
      · cases d with
        | own m =>
          dsimp only [eD]
          walk_at "wp"
          refine ⟨fun z => (by cases z), fun _ => ?_⟩
          exact ⟨fun z => (by cases z), fun _ => bl_next ⟨rfl, rfl⟩⟩
        | hear m c =>
          dsimp only [eD]
          walk_at "wp"
          refine ⟨fun z => (by cases z), fun _ => ?_⟩
          exact ⟨fun z => (by cases z), fun _ => bl_next ⟨rfl, rfl⟩⟩
        | come r nn =>
          have hk : can f (walk f s (es.take es.length)) (.come r nn) = true := by rw [List.take_length]; exact hc
          obtain ⟨v0, hv0⟩ := come_known hf hs hd hk
          obtain ⟨v1, hv1⟩ := hv0.three
          dsimp only [eD]
          walk_at "wp"
          refine ⟨fun _ => ?_, fun z => (by cases z)⟩
          walk_at "wp"
          refine wIxT (atI_map hp) ?_
          walk_at "wp"
          cases p with
          | some p =>
            have e : newSn f s es sn (.come r nn) = sn := by simp only [newSn, hp]; simp
            rw [e]
            exact ⟨fun z => (by cases z), fun _ => bl_next ⟨rfl, rfl⟩⟩
          | none =>
            refine ⟨fun _ => ?_, fun z => (by cases z)⟩
            walk_at "wp"
            refine ⟨f, s, es, _, rfl, .inl rfl, hf, hs, hel, hr, fun a kvs h1 h2 h3 => ?_⟩
            walk_at "wp"
            rw [keys_ix]
            refine ⟨f, s, es, sn, r, nn, a, kvs, rfl, hf, hs.ld, h1, hsn, hd, ⟨v1, hv1⟩, ?_⟩
            walk_at "wp"
            refine ⟨fun z => ?_, fun z => ?_⟩
            · have e : newSn f s es sn (.come r nn) = sn.set (mach f (.come r nn)) (some ((cnt f es (mach f (.come r nn)) : Nat) : Int)) := by simp only [newSn, hp, z]; simp
              rw [e]
              walk_at "wp"
              refine ⟨f, es, _, rfl, .inl rfl, hf, hok, by omega, ?_⟩
              walk_at "wp"
              refine wIxT (atI_map (cnts_get hm)) ?_
              walk_at "wp"
              refine ⟨by rw [List.length_map]; omega, by rw [List.length_map]; omega, ?_⟩
              rw [sn_set]
              exact ⟨rfl, rfl⟩
            · have e : newSn f s es sn (.come r nn) = sn := by simp only [newSn, z]; simp
              rw [e]
              exact bl_next ⟨rfl, rfl⟩
      rintro ρ m3 ⟨em, rfl⟩
      subst em
      walk_at "wp"
      refine wAddT (by simp; show _ ≤ 100000; omega) ?_
      walk_at "wp"
      have e : es.map eD ++ [eD d] = (es ++ [d]).map eD := by rw [List.map_append]; rfl
      rw [e]
      exact k
abbrev F__law_colours_may : PF := fun xs n K => ∃ (f : Fm) (s : Sd) (es : List Dd) (sn : List (Option Int)), xs = [.t (eF f), .t (eTk s es sn)] ∧ FOk f ∧ SOk f s 16 ∧ es.length ≤ 20 ∧ Runs f s es ∧ sn.length = f.rules.length ∧ (∀ p ws, ws ≠ [] → ws.length ≤ 70000 → (∀ w ∈ ws, wOk f s es sn w) → K (.l p (ws.map eW) true) n)
theorem len__law_colours_may : ∀ xs n K, F__law_colours_may xs n K → xs.length = 2 := fun _ _ _ ⟨_, _, _, _, e, _⟩ => by rw [e]; rfl
abbrev N__law_colours_may : List Str := ["_law_form", "_law_taking", "_law_some", "_law_m"]
theorem sc__law_colours_may : FnScope N__law_colours_may ["_law_form", "_law_taking"] (defScope s__law_colours_may) := ⟨rfl, rfl, rfl, by decide +kernel, rfl, by decide +kernel, by decide +kernel⟩
theorem cal__law_colours_may {P : Program} {w : World} {K : PySem.W.Frag} {mg : Str → Option Value} {base : Heap} {f : Addr} {fd : FuncData} (B : Bi mg) (c__law_may : Cal P w K mg base "_law_may" 3 ["_law_form", "_law_stand"] (spU F__law_may)) (c__law_walk : Cal P w K mg base "_law_walk" 3 ["_law_form", "_law_stand", "_law_deeds"] (spU F__law_walk)) (F : Fun K "_law_colours_may" "_law_colours_may" s__law_colours_may f fd) (gm : mg "_law_colours_may" = some (.ref f)) : Cal P w K mg base "_law_colours_may" 4 ["_law_form", "_law_taking"] (spU F__law_colours_may) := by
  have bn : Binds K fd ["_law_form", "_law_taking"] [] := F.binds fun _ _ _ _ _ _ us hl => match us, hl with | [_, _], _ => rfl
  refine mk_cal (k := 3) F gm bn sc__law_colours_may rfl len__law_colours_may fun cdv A outer s H E hr => ?_
  have nd := (sc__law_colours_may).nd
  apply Exists.intro
  apply And.intro
  · exact (pss_cons (ps_set (i := 2) nd rfl (Or.inl rfl) (pe_op (op_mulK (K := K)) (pe_cal c__law_may hr (by rfl) (pa_cons (pv 0) (pa_cons (pe_cal c__law_walk hr (by rfl) (pa_cons (pv 0) (pa_cons (pe_ix (ix_K (K := K)) (pv 1) pe_int (fun _ _ => rfl)) (pa_cons (pe_ix (ix_K (K := K)) (pv 1) pe_int (fun _ _ => rfl)) pa_nil)))) pa_nil))) pe_int))
    (pss_one (ps_ret (pe_op (op_addK (K := K)) (pv 2) (pe_lc (own := [("_law_m", 3)]) (g := (gName 3)) rfl nd (pi_range1 (by rfl) B.range (pa_cons (pe_callB (call_lenK (K := K)) (by rfl) B.len bt_len (pa_cons (pe_ix (ix_K (K := K)) (pv 0) pe_int (fun _ _ => rfl)) pa_nil)) pa_nil)) (blkOk_by (own := [("_law_m", 3)]) (N := N__law_colours_may) (sc := (defScope s__law_colours_may)) (by decide +kernel)) (fun _ _ _ _ _ => (pg_name (i := 3) nd rfl (Or.inl rfl))) (fun _ _ _ _ _ => (pts_one (pt_cmpR op_isP (pe_ix (ix_K (K := K)) (pe_ix (ix_K (K := K)) (pv 1) pe_int (fun _ _ => rfl)) (pv 3) (fun _ _ => rfl)) pe_non (nomark _)))) (fun _ _ _ _ _ => (pe_tup (pa_cons pe_str (pa_cons (pv 3) pa_nil)))))))))
  · rintro xs n Kx ⟨f, s, es, sn, rfl, hf, hs, hel, hr, hsn, k⟩
    have hrl := hf.rl
    have hws := walk_ok hf es s 16 hs
    refine bl_seq ?_
    walk_at "wps"
    refine ⟨f, s, es, 16, rfl, hf, hs, by omega, hr, ?_⟩
    walk_at "wps"
    refine ⟨f, walk f s es, _, rfl, hf, hws, by omega, fun p ds h1 h2 h3 => ?_⟩
    walk_at "wps"
    refine wMulL (by omega) (by omega) (by rw [List.length_map]; show 2 * ds.length ≤ 100000; omega) fun p2 => ?_
    walk_at "wps"
    refine ev_lcF (fun i : Nat => T.int (i : Nat)) (fun i => decide (sn[i]? = some none)) (fun i => eW (.bg i)) (ei_rngN ?_)
    walk_at "wp"
    rw [List.length_map]
    refine ⟨by omega, List.range f.rules.length, rfl, fun i hi => ?_, fun c => ?_⟩
    · have hi' := List.mem_range.mp hi
      obtain ⟨p, hp⟩ := sn_get (show i < sn.length by omega)
      walk_at "wp"
      refine ⟨?_, fun _ => ?_⟩
      · walk_at "wp"
        refine wIxT (atI_map hp) ?_
        walk_at "wp"
        refine ⟨?_, rfl⟩
        rw [hp]
        cases p <;> simp [eP, T.isNon]
      · walk_at "wp"
        exact ⟨rfl, rfl⟩
    have e1 : (List.replicate (2 : Int).toNat (ds.map eD)).flatten ++ ((List.range f.rules.length).filter fun i => decide (sn[i]? = some none)).map (fun i => eW (.bg i)) = (ds.map Wd.dd ++ ds.map Wd.dd ++ ((List.range f.rules.length).filter fun i => decide (sn[i]? = some none)).map Wd.bg).map eW := by
      rw [List.map_append, List.map_append, List.map_map, List.map_map]
      simp [List.replicate]
      rfl
    have hfl := List.length_filter_le (fun i => decide (sn[i]? = some none)) (List.range f.rules.length)
    rw [List.length_range] at hfl
    have hlen : (ds.map Wd.dd ++ ds.map Wd.dd ++ ((List.range f.rules.length).filter fun i => decide (sn[i]? = some none)).map Wd.bg).length ≤ 70000 := by
      rw [List.length_append, List.length_append, List.length_map, List.length_map]; omega
    refine wAddL ?_ fun c2 => ?_
    · rw [e1, List.length_map]; show _ ≤ 100000; omega
    rw [e1]
    refine k c2 _ (fun z => ?_) hlen fun w hw => ?_
    · have := congrArg List.length z
      simp at this
      exact h1 this.1
    · rcases List.mem_append.mp hw with hw | hw
      · have hw2 : w ∈ ds.map Wd.dd := by rcases List.mem_append.mp hw with h | h <;> exact h
        obtain ⟨d, hd, rfl⟩ := List.mem_map.mp hw2
        exact h3 d hd
      · obtain ⟨i, hi, rfl⟩ := List.mem_map.mp hw
        have := List.mem_filter.mp hi
        exact ⟨List.mem_range.mp this.1, of_decide_eq_true this.2⟩
end CK
/-! part M10 -/
set_option Elab.async false
set_option linter.all false
set_option maxRecDepth 100000
set_option maxHeartbeats 1000000
/-! The plain law: a right taking's way leads to it; what is reached is right. -/
namespace CK
open PySem PySem.Spec PyProof.Rows L2
abbrev Tk := List Dd × List (Option Int)
def aft (f : Fm) (s : Sd) (b : Tk) (w : Wd) : Tk := (aftE b.1 w, aftS f s b.1 b.2 w)
/-- the law's walk along a way -/
def Goes (f : Fm) (s : Sd) : Tk → List Wd → Tk → Prop
  | b, [], b' => b = b'
  | b, w :: ws, b' => wOk f s b.1 b.2 w ∧ Goes f s (aft f s b w) ws b'
theorem Goes.trans {f : Fm} {s : Sd} : ∀ {ws : List Wd} {b b1 b2 : Tk} {vs : List Wd}, Goes f s b ws b1 → Goes f s b1 vs b2 → Goes f s b (ws ++ vs) b2
  | [], b, b1, b2, vs, h, g => by
    have e : b = b1 := h
    rw [e]; exact g
  | w :: ws, b, b1, b2, vs, h, g => ⟨h.1, Goes.trans h.2 g⟩
theorem sentAt_take {f : Fm} {s : Sd} {es : List Dd} {i k r : Nat} (h : k ≤ i) : sentAt f s (es.take i) k r = sentAt f s es k r := by
  unfold sentAt
  rw [List.take_take, Nat.min_eq_left h]
theorem snd_take {f : Fm} (F : FOk f) {s : Sd} {es : List Dd} {i r k : Nat} {n : Int} (hr : r < s.ld.length) (h : snd f s (es.take i) r n = some k) : snd f s es r n = some k ∧ k < i := by
  obtain ⟨h1, h2, h3⟩ := snd_some F hr h
  rw [List.length_take] at h1
  rw [sentAt_take (by omega)] at h2 h3
  exact ⟨snd_at F hr (by omega) h2 h3, by omega⟩
theorem evs_take_get {f : Fm} {es : List Dd} {i k : Nat} (h : k < i) : (evs f (es.take i))[k]? = (evs f es)[k]? := by
  cases hd : es[k]? with
  | none =>
    have hk := List.getElem?_eq_none_iff.mp hd
    rw [List.getElem?_eq_none (by rw [evs_len, List.length_take]; omega), List.getElem?_eq_none (by rw [evs_len]; omega)]
  | some d =>
    have hd2 : (es.take i)[k]? = some d := by rw [List.getElem?_take_of_lt h]; exact hd
    rw [evs_get hd, evs_get hd2, List.take_take, Nat.min_eq_left (by omega)]
/-- what is dark in a part is dark in the whole -/
theorem dark_mono {f : Fm} (F : FOk f) {s : Sd} {es : List Dd} {sn tn : List (Option Int)} {i r : Nat} {n : Int} (hr : r < s.ld.length) (ht : ∀ (m : Nat) p, tn[m]? = some (some p) → sn[m]? = some (some p)) (h : dark f s (es.take i) tn r n = true) : dark f s es sn r n = true := by
  unfold dark at h ⊢
  cases hq : f.roads[r]? with
  | none => rw [hq] at h; cases h
  | some q =>
    rw [hq] at h
    dsimp only at h ⊢
    cases hp : tn[q.src]? with
    | none => rw [hp] at h; cases h
    | some p =>
      rw [hp] at h
      cases p with
      | none => cases h
      | some p =>
        rw [ht _ _ hp]
        dsimp only at h ⊢
        cases hk : snd f s (es.take i) r n with
        | none => rw [hk] at h; cases h
        | some k =>
          rw [hk] at h
          obtain ⟨h1, h2⟩ := snd_take F hr hk
          rw [h1]
          dsimp only at h ⊢
          rw [evs_take_get h2] at h
          exact h
def snAt (f : Fm) (es : List Dd) (sn : List (Option Int)) : List (Option Int) := (List.range f.rules.length).map fun m => match sn[m]? with
  | some (some p) => if p < ((cnt f es m : Nat) : Int) then some p else none
  | _ => none
theorem snAt_get {f : Fm} {es : List Dd} {sn : List (Option Int)} {m : Nat} (h : m < f.rules.length) : (snAt f es sn)[m]? = some (match sn[m]? with | some (some p) => if p < ((cnt f es m : Nat) : Int) then some p else none | _ => none) := by
  unfold snAt
  rw [List.getElem?_map, List.getElem?_range h]
  rfl
theorem snAt_len {f : Fm} {es : List Dd} {sn : List (Option Int)} : (snAt f es sn).length = f.rules.length := by simp [snAt]
theorem list_get_ext {α : Type} {xs ys : List α} {k : Nat} (hx : xs.length = k) (hy : ys.length = k) (h : ∀ m, m < k → xs[m]? = ys[m]?) : xs = ys := by
  apply List.ext_getElem?
  intro m
  by_cases hm : m < k
  · exact h m hm
  · rw [List.getElem?_eq_none (by omega), List.getElem?_eq_none (by omega)]
theorem newSn_come {f : Fm} {s : Sd} {es : List Dd} {sn : List (Option Int)} {r : Nat} {n : Int} : newSn f s es sn (.come r n) = if sn[mach f (.come r n)]? = some none ∧ dark f s es sn r n = true then sn.set (mach f (.come r n)) (some ((cnt f es (mach f (.come r n)) : Nat) : Int)) else sn := rfl
theorem way_step {f : Fm} (F : FOk f) {s : Sd} {b : Nat} (S : SOk f s b) {es : List Dd} {sn : List (Option Int)} (R : Right f s es sn) {i : Nat} {d : Dd} (hd : es[i]? = some d) :
    Goes f s (es.take i, snAt f (es.take i) sn) (bgIf f sn (es.take i) (mach f d) ++ [.dd d]) (es.take (i + 1), snAt f (es.take (i + 1)) sn) := by
  have hi := (List.getElem?_eq_some_iff.mp hd).1
  have hr := runs_take es s i d R.run hd
  have hm := mach_lt F hr.1
  have et : es.take (i + 1) = es.take i ++ [d] := by rw [List.take_add_one, hd]; rfl
  obtain ⟨p, hp⟩ := sn_get (show mach f d < sn.length by rw [R.len]; exact hm)
  -- the state ahead of the deed
  have key : ∃ tn : List (Option Int), Goes f s (es.take i, snAt f (es.take i) sn) (bgIf f sn (es.take i) (mach f d)) (es.take i, tn) ∧ tn = snAt f (es.take (i + 1)) sn := by
    unfold bgIf
    by_cases hb : sn[mach f d]? = some (some ((cnt f (es.take i) (mach f d) : Nat) : Int))
    · rw [if_pos hb]
      refine ⟨(snAt f (es.take i) sn).set (mach f d) (some ((cnt f (es.take i) (mach f d) : Nat) : Int)), ⟨⟨hm, ?_⟩, rfl⟩, ?_⟩
      · rw [snAt_get hm, hb]
        simp
      · refine list_get_ext (k := f.rules.length) (by rw [List.length_set, snAt_len]) snAt_len fun m hmm => ?_
        by_cases e : mach f d = m
        · subst e
          rw [List.getElem?_set_self (by rw [snAt_len]; exact hm), snAt_get hm, hb, et, cnt_snoc]
          simp
          omega
        · rw [List.getElem?_set_ne e, snAt_get hmm, snAt_get hmm, et, cnt_snoc, if_neg e]
          simp
    · rw [if_neg hb]
      refine ⟨_, rfl, ?_⟩
      refine list_get_ext (k := f.rules.length) snAt_len snAt_len fun m hmm => ?_
      rw [snAt_get hmm, snAt_get hmm, et, cnt_snoc]
      by_cases e : mach f d = m
      · subst e
        rw [if_pos rfl, hp]
        cases p with
        | none => rfl
        | some p =>
          have hne : p ≠ ((cnt f (es.take i) (mach f d) : Nat) : Int) := fun z => hb (by rw [hp, z])
          simp only [Option.some.injEq]
          by_cases hlt : p < ((cnt f (es.take i) (mach f d) : Nat) : Int)
          · rw [if_pos hlt, if_pos (by omega)]
          · rw [if_neg hlt, if_neg (by omega)]
      · rw [if_neg e]
        simp
  obtain ⟨tn, h1, h2⟩ := key
  subst h2
  refine h1.trans ⟨hr, ?_⟩
  show (es.take i ++ [d], newSn f s (es.take i) (snAt f (es.take (i + 1)) sn) d) = _
  rw [← et]
  congr 1
  cases d with
  | come r n =>
    rw [newSn_come, if_neg]
    rintro ⟨a, c⟩
    have hrr : r < s.ld.length := by rw [S.ld]; exact hr.1
    have hdk : dark f s es sn r n = true := dark_mono F hrr (fun m q e => by
      have hml : m < f.rules.length := by
        have := (List.getElem?_eq_some_iff.mp e).1
        rwa [snAt_len] at this
      rw [snAt_get hml] at e
      cases hq : sn[m]? with
      | none => rw [hq] at e; cases e
      | some q2 =>
        rw [hq] at e
        cases q2 with
        | none => cases e
        | some q2 =>
          simp only [Option.some.injEq] at e
          split at e
          · rw [e]
          · cases e) c
    obtain ⟨p', e1, e2⟩ := R.dark i r n hd hdk
    rw [snAt_get hm, e1, et, cnt_snoc] at a
    simp at a
    omega
  | _ => rfl
theorem way_goes {f : Fm} (F : FOk f) {s : Sd} {b : Nat} (S : SOk f s b) {es : List Dd} {sn : List (Option Int)} (R : Right f s es sn) : ∀ i, i ≤ es.length → Goes f s ([], snAt f [] sn) (wayFrom f sn [] (es.take i)) (es.take i, snAt f (es.take i) sn) := by
  intro i
  induction i with
  | zero => intro _; exact rfl
  | succ i ih =>
    intro hi
    have hd := List.getElem?_eq_getElem (show i < es.length by omega)
    rw [wayFrom_take f sn es i _ hd]
    exact (ih (by omega)).trans (way_step F S R hd)
theorem goes_bgs {f : Fm} {s : Sd} {es : List Dd} : ∀ (ms : List Nat) (tn : List (Option Int)), ms.Nodup → (∀ m ∈ ms, m < f.rules.length ∧ tn[m]? = some none) →
    ∃ tn', Goes f s (es, tn) (ms.map .bg) (es, tn') ∧ tn'.length = tn.length ∧ (∀ m, m ∈ ms → tn'[m]? = some (some ((cnt f es m : Nat) : Int))) ∧ ∀ m, m ∉ ms → tn'[m]? = tn[m]?
  | [], tn, _, _ => ⟨tn, rfl, rfl, by simp, by simp⟩
  | a :: ms, tn, hn, h => by
    rw [List.nodup_cons] at hn
    have ha := h a List.mem_cons_self
    have hal : a < tn.length := (List.getElem?_eq_some_iff.mp ha.2).1
    obtain ⟨tn', h1, h2, h3, h4⟩ := goes_bgs (s := s) (es := es) ms (tn.set a (some ((cnt f es a : Nat) : Int))) hn.2 fun m hm => by
      have := h m (List.mem_cons_of_mem _ hm)
      refine ⟨this.1, ?_⟩
      rw [List.getElem?_set_ne (fun e => hn.1 (by rw [e]; exact hm))]
      exact this.2
    refine ⟨tn', ⟨ha, h1⟩, by rw [h2, List.length_set], fun m hm => ?_, fun m hm => ?_⟩
    · rcases List.mem_cons.mp hm with e | hm
      · rw [e, h4 a hn.1, List.getElem?_set_self hal]
      · exact h3 m hm
    · have hm2 : m ∉ ms := fun z => hm (List.mem_cons_of_mem _ z)
      rw [h4 m hm2, List.getElem?_set_ne (fun e => hm (by rw [← e]; exact List.mem_cons_self))]
/-- (A) the way leads to the taking -/
theorem way_leads {f : Fm} (F : FOk f) {s : Sd} {b : Nat} (S : SOk f s b) {es : List Dd} {sn : List (Option Int)} (R : Right f s es sn) : Goes f s ([], List.replicate f.rules.length none) (way f es sn) (es, sn) := by
  have h0 : snAt f [] sn = List.replicate f.rules.length none := by
    refine list_get_ext (k := f.rules.length) snAt_len (by simp) fun m hm => ?_
    rw [snAt_get hm, List.getElem?_replicate, if_pos hm]
    cases hq : sn[m]? with
    | none => rfl
    | some q =>
      cases q with
      | none => rfl
      | some q =>
        have := (R.seen m q hq).1
        have hno : ¬ q < ((cnt f [] m : Nat) : Int) := by rw [cnt_nil]; omega
        simp only [if_neg hno]
  have h1 := way_goes F S R es.length (Nat.le_refl _)
  rw [List.take_length, h0] at h1
  unfold way
  refine h1.trans ?_
  unfold wayEnd
  have hnd : ((List.range sn.length).filter fun m => decide (sn[m]? = some (some ((cnt f es m : Nat) : Int)))).Nodup := List.Nodup.sublist List.filter_sublist List.nodup_range
  obtain ⟨tn', g1, g2, g3, g4⟩ := goes_bgs (f := f) (s := s) (es := es) _ (snAt f es sn) hnd fun m hm => by
    have := List.mem_filter.mp hm
    have hm2 : m < f.rules.length := by rw [← R.len]; exact List.mem_range.mp this.1
    refine ⟨hm2, ?_⟩
    rw [snAt_get hm2, of_decide_eq_true this.2]
    simp
  have e : tn' = sn := by
    refine list_get_ext (k := f.rules.length) (by rw [g2, snAt_len]) R.len fun m hm => ?_
    by_cases hmem : m ∈ (List.range sn.length).filter fun m => decide (sn[m]? = some (some ((cnt f es m : Nat) : Int)))
    · rw [g3 m hmem, of_decide_eq_true (List.mem_filter.mp hmem).2]
    · rw [g4 m hmem, snAt_get hm]
      obtain ⟨q, hq⟩ := sn_get (show m < sn.length by rw [R.len]; exact hm)
      rw [hq]
      cases q with
      | none => rfl
      | some q =>
        have hs := R.seen m q hq
        have hne : q ≠ ((cnt f es m : Nat) : Int) := fun z => hmem (List.mem_filter.mpr ⟨List.mem_range.mpr (by rw [R.len]; exact hm), decide_eq_true (by rw [hq, z])⟩)
        simp only
        rw [if_pos (by omega)]
  rw [e] at g1
  exact g1
end CK
/-! part M11 -/
set_option Elab.async false
set_option linter.all false
set_option maxRecDepth 100000
set_option maxHeartbeats 1000000
/-! The plain law, part 2: what is reached is right. -/
namespace CK
open PySem PySem.Spec PyProof.Rows L2
theorem dark_dec {f : Fm} {s : Sd} {es : List Dd} {sn : List (Option Int)} {r : Nat} {n : Int} (h : dark f s es sn r n = true) : ∃ q p k ev, f.roads[r]? = some q ∧ sn[q.src]? = some (some p) ∧ snd f s es r n = some k ∧ (evs f es)[k]? = some ev ∧ p ≤ ((ev.2 : Nat) : Int) := by
  unfold dark at h
  cases hq : f.roads[r]? with
  | none => rw [hq] at h; cases h
  | some q =>
    rw [hq] at h
    dsimp only at h
    cases hp : sn[q.src]? with
    | none => rw [hp] at h; cases h
    | some p =>
      rw [hp] at h
      cases p with
      | none => cases h
      | some p =>
        dsimp only at h
        cases hk : snd f s es r n with
        | none => rw [hk] at h; cases h
        | some k =>
          rw [hk] at h
          dsimp only at h
          cases he : (evs f es)[k]? with
          | none => rw [he] at h; cases h
          | some ev =>
            rw [he] at h
            exact ⟨q, p, k, ev, rfl, hp, rfl, he, of_decide_eq_true h⟩
theorem dark_of {f : Fm} {s : Sd} {es : List Dd} {sn : List (Option Int)} {r : Nat} {n : Int} {q : Rd} {p : Int} {k : Nat} {ev : Nat × Nat} (h1 : f.roads[r]? = some q) (h2 : sn[q.src]? = some (some p)) (h3 : snd f s es r n = some k) (h4 : (evs f es)[k]? = some ev) (h5 : p ≤ ((ev.2 : Nat) : Int)) : dark f s es sn r n = true := by
  simp only [dark, h1, h2, h3, h4]
  exact decide_eq_true h5
theorem dark_prefix {f : Fm} (F : FOk f) {s : Sd} {es : List Dd} {sn : List (Option Int)} {i r : Nat} {n : Int} (hr : r < s.ld.length) (hi : i ≤ es.length) (hn : n < sentAt f s es i r) (h : dark f s es sn r n = true) : dark f s (es.take i) sn r n = true := by
  obtain ⟨q, p, k, ev, h1, h2, h3, h4, h5⟩ := dark_dec h
  obtain ⟨a, b, c⟩ := snd_some F hr h3
  have hk : k < i := by
    refine Nat.lt_of_not_le fun z => ?_
    have := sentAt_mono F s es hr z
    omega
  have hs : snd f s (es.take i) r n = some k := snd_at F hr (by rw [List.length_take]; omega) (by rw [sentAt_take (by omega)]; exact b) (by rw [sentAt_take (by omega)]; exact c)
  exact dark_of h1 h2 hs (by rw [evs_take_get hk]; exact h4) h5
theorem dark_set {f : Fm} (F : FOk f) {s : Sd} {es : List Dd} {sn : List (Option Int)} {r m : Nat} {n : Int} (hr : r < s.ld.length) (h : dark f s es (sn.set m (some ((cnt f es m : Nat) : Int))) r n = true) : dark f s es sn r n = true := by
  obtain ⟨q, p, k, ev, h1, h2, h3, h4, h5⟩ := dark_dec h
  by_cases e : m = q.src
  · exfalso
    subst e
    obtain ⟨a, b, c⟩ := snd_some F hr h3
    have hd := List.getElem?_eq_getElem a
    generalize es[k]'a = d at hd
    obtain ⟨_, _, hg⟩ := sentAt_step F s es hd hr
    obtain ⟨q', hq', hm⟩ := hg (by omega)
    rw [h1] at hq'
    cases hq'
    rw [evs_get hd] at h4
    cases h4
    have hml : q.src < sn.length := by
      have := (List.getElem?_eq_some_iff.mp h2).1
      rwa [List.length_set] at this
    rw [List.getElem?_set_self hml] at h2
    cases h2
    have e2 : es.take (k + 1) = es.take k ++ [d] := by rw [List.take_add_one, hd]; rfl
    have := cnt_take_mono f es q.src (k + 1)
    rw [e2, cnt_snoc, if_pos hm.symm] at this
    rw [← hm] at h5
    dsimp only at h5
    omega
  · rw [List.getElem?_set_ne e] at h2
    exact dark_of h1 h2 h3 h4 h5
theorem newSn_cases (f : Fm) (s : Sd) (es : List Dd) (sn : List (Option Int)) (d : Dd) : newSn f s es sn d = sn ∨ (sn[mach f d]? = some none ∧ newSn f s es sn d = sn.set (mach f d) (some ((cnt f es (mach f d) : Nat) : Int))) := by
  cases d with
  | come r n =>
    rw [newSn_come]
    split
    · rename_i h; exact .inr ⟨h.1, rfl⟩
    · exact .inl rfl
  | _ => exact .inl rfl
theorem cnt_snoc_le (f : Fm) (es : List Dd) (d : Dd) (m : Nat) : cnt f es m ≤ cnt f (es ++ [d]) m := by rw [cnt_snoc]; omega
theorem seen_set {f : Fm} {es : List Dd} {sn : List (Option Int)} {m : Nat} (h : SeenOk f es sn) : SeenOk f es (sn.set m (some ((cnt f es m : Nat) : Int))) := fun k p e => by
  by_cases hk : m = k
  · subst hk
    have hl := (List.getElem?_eq_some_iff.mp e).1
    rw [List.length_set] at hl
    rw [List.getElem?_set_self hl] at e
    cases e
    omega
  · rw [List.getElem?_set_ne hk] at e
    exact h k p e
theorem keep_set {sn : List (Option Int)} {m k : Nat} {p : Int} {y : Option Int} (h : sn[m]? = some none) (e : sn[k]? = some (some p)) : (sn.set m y)[k]? = some (some p) := by
  rw [List.getElem?_set_ne]
  · exact e
  · intro z
    rw [z, e] at h
    cases h
/-- (B) a step keeps a taking right -/
theorem right_aft {f : Fm} (F : FOk f) {s : Sd} {b : Nat} (S : SOk f s b) {es : List Dd} {sn : List (Option Int)} (R : Right f s es sn) (w : Wd) (hw : wOk f s es sn w) : Right f s (aftE es w) (aftS f s es sn w) := by
  have hroad : ∀ {i r : Nat} {n : Int}, es[i]? = some (.come r n) → r < s.ld.length := fun {i r n} h => by
    rw [S.ld]
    exact (runs_take es s i _ R.run h).1
  cases w with
  | bg m =>
    obtain ⟨hm, hp⟩ := hw
    refine ⟨R.base, by show (sn.set _ _).length = _; rw [List.length_set]; exact R.len, R.run, seen_set R.seen, fun i r n hi hd => ?_⟩
    obtain ⟨p, e1, e2⟩ := R.dark i r n hi (dark_set F (hroad hi) hd)
    exact ⟨p, keep_set hp e1, e2⟩
  | dd d =>
    obtain ⟨hd, hc⟩ := hw
    have hrun : Runs f s (es ++ [d]) := runs_snoc.mpr ⟨R.run, hd, hc⟩
    have hm := mach_lt F hd
    have hseen : SeenOk f es (newSn f s es sn d) := by
      rcases newSn_cases f s es sn d with e | ⟨_, e⟩
      · rw [e]; exact R.seen
      · rw [e]; exact seen_set R.seen
    have hback : ∀ {r : Nat} {n : Int}, r < s.ld.length → dark f s es (newSn f s es sn d) r n = true → dark f s es sn r n = true := fun {r n} hr h => by
      rcases newSn_cases f s es sn d with e | ⟨_, e⟩
      · rw [e] at h; exact h
      · rw [e] at h; exact dark_set F hr h
    have hkeep : ∀ {k : Nat} {p : Int}, sn[k]? = some (some p) → (newSn f s es sn d)[k]? = some (some p) := fun {k p} h => by
      rcases newSn_cases f s es sn d with e | ⟨h0, e⟩
      · rw [e]; exact h
      · rw [e]; exact keep_set h0 h
    have etk : (es ++ [d]).take es.length = es := by simp
    refine ⟨R.base, ?_, hrun, fun m p e => ?_, fun i r n hi hdk => ?_⟩
    · show (newSn f s es sn d).length = _
      rcases newSn_cases f s es sn d with e | ⟨_, e⟩
      · rw [e]; exact R.len
      · rw [e, List.length_set]; exact R.len
    · have h1 := hseen m p e
      have h2 := cnt_snoc_le f es d m
      exact ⟨h1.1, by show p ≤ ((cnt f (es ++ [d]) m : Nat) : Int); omega⟩
    · have hi' : (es ++ [d])[i]? = some (.come r n) := hi
      have hrr : r < s.ld.length := by rw [S.ld]; exact (runs_take _ s i _ hrun hi').1
      have hil : i ≤ es.length := by
        have := (List.getElem?_eq_some_iff.mp hi').1
        simp at this
        omega
      have hti : (es ++ [d]).take i = es.take i := by rw [List.take_append_of_le_length hil]
      -- the letter was known ahead of the deed
      have hcan := runs_take _ s i _ hrun hi'
      obtain ⟨v0, l0, a0, hlt, _⟩ := come_known (es := es ++ [d]) F S hcan.1 hcan.2
      have hmono := sentAt_mono F s (es ++ [d]) hrr hil
      have hdk2 : dark f s es (newSn f s es sn d) r n = true := by
        have := dark_prefix F hrr (show es.length ≤ (es ++ [d]).length by simp) (by omega) hdk
        rw [etk] at this
        exact this
      have hdk3 := hback hrr hdk2
      by_cases he : i = es.length
      · subst he
        have ed : d = .come r n := by simpa using hi'
        show ∃ p, (newSn f s es sn d)[mach f (.come r n)]? = some (some p) ∧ p ≤ ((cnt f ((es ++ [d]).take es.length) (mach f (.come r n)) : Nat) : Int)
        rw [etk]
        subst ed
        obtain ⟨p, hp⟩ := sn_get (show mach f (.come r n) < sn.length by rw [R.len]; exact hm)
        cases p with
        | some p => exact ⟨p, hkeep hp, (R.seen _ _ hp).2⟩
        | none =>
          refine ⟨_, ?_, Int.le_refl _⟩
          rw [newSn_come, if_pos ⟨hp, hdk3⟩, List.getElem?_set_self (by rw [R.len]; exact hm)]
      · have hi2 : es[i]? = some (.come r n) := by rw [List.getElem?_append_left (by omega)] at hi'; exact hi'
        obtain ⟨p, e1, e2⟩ := R.dark i r n hi2 hdk3
        refine ⟨p, hkeep e1, ?_⟩
        show p ≤ ((cnt f ((es ++ [d]).take i) (mach f (.come r n)) : Nat) : Int)
        rw [hti]
        exact e2
end CK
/-! part D15 -/
set_option Elab.async false
set_option linter.all false
set_option maxRecDepth 100000
set_option maxHeartbeats 2000000
/-! The law's own defs, part 6: _law_same, _law_leads. -/
namespace CK
open PySem PySem.Spec PyProof.Rows L2
local macro_rules | `(tactic| walk_at "wp0") => `(tactic| first
  | ((with_reducible refine bl_retL (a := ?va) (ds := ?vd) ?vh ?_); (case vh => exact rfl))
  | ((with_reducible refine bl_retD (a := ?va) (ds := ?vd) ?vh ?_); (case vh => exact rfl))
  | (with_reducible refine bl_ret ?_)
  | (with_reducible refine bl_if ?_)
  | (with_reducible refine bl_asg ?_)
  | (with_reducible refine bl_asgP ?_)
  | (with_reducible refine bl_next ?_)
  | (with_reducible refine et_test ?_)
  | (with_reducible refine et_B ?_)
  | (with_reducible refine et_and ?_)
  | (with_reducible refine et_or ?_)
  | (with_reducible refine et_not ?_)
  | (with_reducible refine et_yes ?_)
  | ((with_reducible refine ev_varT (d := ?vd) ?vh ?_); (case vh => exact rfl))
  | ((with_reducible refine ev_varL (a := ?va) (ds := ?vd) (o := ?vo) ?vh ?_); (case vh => exact rfl))
  | ((with_reducible refine ev_varD (a := ?va) (kvs := ?vd) (o := ?vo) ?vh ?_); (case vh => exact rfl))
  | ((with_reducible refine ev_varP ?vh ?_); (case vh => exact rfl))
  | (with_reducible refine ev_int ?_)
  | (with_reducible refine ev_str ?_)
  | (with_reducible refine ev_bl ?_)
  | (with_reducible refine ev_non ?_)
  | (with_reducible refine ev_ty ?_)
  | (with_reducible refine ev_op ro_ix ?_)
  | (with_reducible refine ev_op ro_eq ?_)
  | (with_reducible refine ev_op ro_is ?_)
  | (with_reducible refine ev_op ro_cmp ?_)
  | (with_reducible refine ev_op ro_add ?_)
  | (with_reducible refine ev_op ro_sub ?_)
  | (with_reducible refine ev_op ro_mul ?_)
  | (with_reducible refine ev_op ro_mod ?_)
  | (with_reducible refine ev_op ro_div ?_)
  | (with_reducible refine ev_op ro_pow ?_)
  | (with_reducible refine ev_op ro_in ?_)
  | (with_reducible refine ev_neg ?_)
  | (with_reducible refine ev_cb rc_len ?_)
  | (with_reducible refine ev_cb rc_isi ?_)
  | (with_reducible refine ev_cb rc_all ?_)
  | (with_reducible refine ev_cb rc_list ?_)
  | (with_reducible refine ev_cb rc_tuple ?_)
  | (with_reducible refine ev_cb rc_int ?_)
  | (with_reducible refine ev_cb rc_max ?_)
  | (with_reducible refine ea_cons ?_)
  | (with_reducible refine ea_nil ?_)
  | (with_reducible refine ev_tup ?_)
  | (with_reducible refine ev_lst ?_)
  | (with_reducible refine ev_sl ?_)
  | (with_reducible refine eo_none ?_)
  | (with_reducible refine eo_some ?_)
  | (with_reducible refine ev_dget ?_)
  | (with_reducible refine ev_dnew ?_)
  | (with_reducible refine ev_if ?_)
  | (with_reducible refine ev_and ?_)
  | (with_reducible refine ev_or ?_)
  | (with_reducible refine ev_not ?_)
  | (with_reducible refine ev_chain ro_cmp ro_cmp ?_)
  | (with_reducible refine ev_call ?_)
  | (with_reducible refine ev_lrg2 ?_)
  | (with_reducible refine wAddI ?_)
  | (with_reducible refine wSub ?_)
  | (with_reducible refine wEqI ?_)
  | (with_reducible refine wEqS ?_)
  | (with_reducible refine wNeI ?_)
  | (with_reducible refine wNeS ?_)
  | (with_reducible refine wCmp ?_)
  | (with_reducible refine wLenT ?_)
  | (with_reducible refine wLenL ?_)
  | (with_reducible refine wTupT ?_)
  | (with_reducible refine wTupL ?_)
  | (with_reducible refine wIsN ?_)
  | (with_reducible refine wNotN ?_)
  | (with_reducible refine wIsB ?_)
  | (with_reducible refine wInt ?_)
  | (with_reducible refine wMax ?_)
  | (with_reducible refine wListT ?_; intro _)
  | (with_reducible refine wListL ?_; intro _)
  | (with_reducible refine wSlT ?_)
  | ((with_reducible refine wIxT (d := ?vd) ?vh ?_); (case vh => exact rfl))
  | (refine wIxT atI_c0 ?_)
  | (refine wIxT atI_c1 ?_)
  | (refine wIxT atI_c2 ?_)
  | ((with_reducible refine wIxL (d := ?vd) ?vh ?_); (case vh => exact rfl))
  | ((with_reducible refine wIsi (b := ?vd) ?vh ?_); (case vh => exact rfl))
  | ((with_reducible refine wIsiL (b := ?vd) ?vh ?_); (case vh => exact rfl))
  | (with_reducible refine tg_tup rfl ?_)
  | (with_reducible refine tgs_cons ?_)
  | (with_reducible refine tgs_nil ?_)
  | ((with_reducible refine tg_name ?vh ?_); (case vh => decide))
  | (with_reducible refine ⟨_, rfl, ?_⟩)
  | (with_reducible refine ⟨_, _, rfl, ?_⟩)
  | (with_reducible refine ⟨_, _, rfl, rfl, ?_⟩)
  | (with_reducible refine ⟨_, _, _, rfl, ?_⟩)
  | (refine And.intro (show List.length _ ≤ lim from Nat.le_of_ble_eq_true rfl) ?_)
  | (with_reducible refine seqK_nx ?_)
  | (with_reducible refine seqK_rt ?_)
  | (with_reducible refine seqK_ex ?_)
  | fail "wp0: no step")
local macro_rules | `(tactic| walk_at "wp1") => `(tactic| first | (with_reducible refine bl_seq ?_) | walk_at "wp0")
local macro_rules | `(tactic| walk_at "wps") => `(tactic| repeat (walk_at "wp0"))
local macro_rules | `(tactic| walk_at "wp") => `(tactic| repeat (walk_at "wp1"))
/-- data of a depth, without bools or lists -/
def Flat : Nat → T → Prop
  | _, .non => True
  | _, .int _ => True
  | _, .str _ => True
  | 0, .tup _ => False
  | k + 1, .tup xs => ∀ x ∈ xs, Flat k x
  | _, _ => False
abbrev F_same (k : Nat) : PF := fun xs n K => ∃ d, xs = [.t d, .t d] ∧ Flat k d ∧ K (.t (.bl true)) n
theorem len_same (k : Nat) : ∀ xs n K, F_same k xs n K → xs.length = 2 := fun _ _ _ ⟨_, e, _⟩ => by rw [e]; rfl
theorem wNeB {a b : Bool} {K : X → Prop} (k : K (.t (.bl (!(a == b))))) : EqW true (.t (.bl a)) (.t (.bl b)) K := ⟨_, _, rfl, rfl, by simp [PyData.depth], by
  have e : PyData.eqv (.bool a) (.bool b) = (a == b) := by cases a <;> cases b <;> simp [PyData.eqv]
  show K (.t (.bl (!PyData.eqv (.bool a) (.bool b))))
  rw [e]; exact k⟩
theorem wEqB {a b : Bool} {K : X → Prop} (k : K (.t (.bl (a == b)))) : EqW false (.t (.bl a)) (.t (.bl b)) K := ⟨_, _, rfl, rfl, by simp [PyData.depth], by
  have e : PyData.eqv (.bool a) (.bool b) = (a == b) := by cases a <;> cases b <;> simp [PyData.eqv]
  show K (.t (.bl (PyData.eqv (.bool a) (.bool b))))
  rw [e]; exact k⟩
theorem wEqN0 {K : X → Prop} (k : K (.t (.bl true))) : EqW false (.t .non) (.t .non) K := ⟨_, _, rfl, rfl, by simp [PyData.depth], by
  have e : PyData.eqv .none .none = true := by simp [PyData.eqv]
  show K (.t (.bl (PyData.eqv .none .none)))
  rw [e]; exact k⟩
abbrev N__law_same : List Str := ["_law_found", "_law_due", "_law_one", "_law_other"]
theorem sc__law_same : FnScope N__law_same ["_law_found", "_law_due"] (defScope s__law_same) := ⟨rfl, rfl, rfl, by decide +kernel, rfl, by decide +kernel, by decide +kernel⟩
theorem cal_same_step {P : Program} {w : World} {K : PySem.W.Frag} {mg : Str → Option Value} {base : Heap} {f : Addr} {fd : FuncData} {j lv : Nat} {G : PF} (B : Bi mg)
    (c__law_same : Cal P w K mg base "_law_same" lv ["_law_found", "_law_due"] (spU G)) (hg : ∀ ds, Flat j (.tup ds) → ∀ e ∈ ds, ∀ (n : Nat) (Kx : X → Nat → Prop), Kx (.t (.bl true)) n → G [.t e, .t e] n Kx) (F : Fun K "_law_same" "_law_same" s__law_same f fd) (gm : mg "_law_same" = some (.ref f)) : Cal P w K mg base "_law_same" (lv + 1) ["_law_found", "_law_due"] (spU (F_same j)) := by
  have bn : Binds K fd ["_law_found", "_law_due"] [] := F.binds fun _ _ _ _ _ _ us hl => match us, hl with | [_, _], _ => rfl
  refine mk_cal (k := lv) F gm bn sc__law_same rfl (len_same _) fun cdv A outer s H E hr => ?_
  have nd := (sc__law_same).nd
  apply Exists.intro
  apply And.intro
  · exact (pss_cons (ps_if (PW.pt (pw_or (pt_val (pe_callB (call_isiK (K := K)) (by rfl) B.isinstance bt_isinstance (pa_cons (pv 1) (pa_cons (pe_bltn (v := .ty "list") (by rfl) B.list bt_list rfl) pa_nil)))) (pw_or1 (pt_val (pe_callB (call_isiK (K := K)) (by rfl) B.isinstance bt_isinstance (pa_cons (pv 1) (pa_cons (pe_bltn (v := .ty "tuple") (by rfl) B.tuple bt_tuple rfl) pa_nil))))))) (pss_cons (ps_if (PW.pt (pw_or (pt_cmpR (op_neK (K := K) hr.units) (pe_callB (call_isiK (K := K)) (by rfl) B.isinstance bt_isinstance (pa_cons (pv 0) (pa_cons (pe_bltn (v := .ty "list") (by rfl) B.list bt_list rfl) pa_nil))) (pe_callB (call_isiK (K := K)) (by rfl) B.isinstance bt_isinstance (pa_cons (pv 1) (pa_cons (pe_bltn (v := .ty "list") (by rfl) B.list bt_list rfl) pa_nil))) (nomark _)) (pw_or1 (pt_cmpR (op_neK (K := K) hr.units) (pe_callB (call_isiK (K := K)) (by rfl) B.isinstance bt_isinstance (pa_cons (pv 0) (pa_cons (pe_bltn (v := .ty "tuple") (by rfl) B.tuple bt_tuple rfl) pa_nil))) (pe_callB (call_isiK (K := K)) (by rfl) B.isinstance bt_isinstance (pa_cons (pv 1) (pa_cons (pe_bltn (v := .ty "tuple") (by rfl) B.tuple bt_tuple rfl) pa_nil))) (nomark _))))) (pss_one (ps_ret pe_bl)) pss_nil)
    (pss_one (ps_ret (pe_and (pe_cmpR (op_eqK (K := K) hr.units) (pe_callB (call_lenK (K := K)) (by rfl) B.len bt_len (pa_cons (pv 0) pa_nil)) (pe_callB (call_lenK (K := K)) (by rfl) B.len bt_len (pa_cons (pv 1) pa_nil)) (nomark _)) (pe_one (pe_callB (call_allK (K := K) rfl) (by rfl) B.all bt_all (pa_cons (pe_lc (own := [("_law_one", 2), ("_law_other", 3)]) (g := (gTup K 2 (gCons (gName 2) (gCons (gName 3) gNil)))) (tt := tYes) rfl nd (pi_zipK (by rfl) B.zip (pa_cons (pv 0) (pa_cons (pv 1) pa_nil))) (blkOk_by (own := [("_law_one", 2), ("_law_other", 3)]) (N := N__law_same) (sc := (defScope s__law_same)) (by decide +kernel)) (fun _ _ _ _ _ => (pg_tup rfl (pgs_cons (pg_name (i := 2) nd rfl (Or.inl rfl)) (pgs_cons (pg_name (i := 3) nd rfl (Or.inl rfl)) pgs_nil)))) (fun _ _ _ _ _ => pts_nil) (fun _ _ _ _ _ => (pe_cal c__law_same hr (by rfl) (pa_cons (pv 2) (pa_cons (pv 3) pa_nil)) (hk := Nat.le_refl _)))) pa_nil))))))) pss_nil)
    (pss_one (ps_ret (pe_and (pe_cmpR (op_eqK (K := K) hr.units) (pe_callB (call_isiK (K := K)) (by rfl) B.isinstance bt_isinstance (pa_cons (pv 0) (pa_cons (pe_bltn (v := .ty "bool") (by rfl) B.bool bt_bool rfl) pa_nil))) (pe_callB (call_isiK (K := K)) (by rfl) B.isinstance bt_isinstance (pa_cons (pv 1) (pa_cons (pe_bltn (v := .ty "bool") (by rfl) B.bool bt_bool rfl) pa_nil))) (nomark _)) (pe_one (pe_cmpR (op_eqK (K := K) hr.units) (pv 0) (pv 1) (nomark _)))))))
  · rintro xs n Kx ⟨d, rfl, fl, k⟩
    cases d with
    | tup ds =>
      walk_at "wp"
      refine ⟨fun z => (by cases z), fun _ => ?_⟩
      walk_at "wp"
      refine ⟨fun _ => ?_, fun z => (by cases z)⟩
      walk_at "wp"
      refine wNeB ?_
      walk_at "wp"
      refine ⟨fun z => (by cases z), fun _ => ?_⟩
      walk_at "wp"
      refine wNeB ?_
      walk_at "wp"
      refine ⟨fun z => (by cases z), fun _ => ?_⟩
      walk_at "wp"
      refine ⟨fun _ => ?_, fun z => absurd z (by simp)⟩
      walk_at "wp"
      refine ev_lcM (fun d : T => T.tup [d, d]) (fun _ => .bl true) (ei_zip ?_)
      walk_at "wp"
      refine ⟨ds, ds, .inl rfl, .inl rfl, fun g g' => ⟨ds, ?_, fun x hx => ?_, fun p => ?_⟩⟩
      · have z := zipT_map (fun d : T => d) (fun d : T => d) ds ds
        rw [List.map_id'] at z
        rw [z]
        have hzz : ∀ (l : List T), (l.zip l).map (fun p => T.tup [p.1, p.2]) = l.map fun d => T.tup [d, d] := by
          intro l
          induction l with
          | nil => rfl
          | cons a l ih => simp only [List.zip_cons_cons, List.map_cons, ih]
        exact hzz ds
      · walk_at "wp"
        refine hg ds fl x hx _ _ ?_
        exact ⟨rfl, rfl⟩
      · walk_at "wp"
        refine wAll (bs := ds.map fun _ => true) (by rw [List.map_map]; rfl) ?_
        have e : ((ds.map fun _ => true).all id) = true := by rw [List.all_map]; simp
        rw [e]
        exact k
    | non =>
      walk_at "wp"
      refine ⟨fun z => (by cases z), fun _ => ?_⟩
      walk_at "wp"
      refine ⟨fun z => (by cases z), fun _ => ?_⟩
      walk_at "wp"
      refine wEqB ?_
      walk_at "wp"
      refine ⟨fun _ => ?_, fun z => (by cases z)⟩
      walk_at "wp"
      refine wEqN0 ?_
      exact k
    | int i =>
      walk_at "wp"
      refine ⟨fun z => (by cases z), fun _ => ?_⟩
      walk_at "wp"
      refine ⟨fun z => (by cases z), fun _ => ?_⟩
      walk_at "wp"
      refine wEqB ?_
      walk_at "wp"
      refine ⟨fun _ => ?_, fun z => (by cases z)⟩
      walk_at "wp"
      have e : decide (i = i) = true := by simp
      rw [e]
      exact k
    | str i =>
      walk_at "wp"
      refine ⟨fun z => (by cases z), fun _ => ?_⟩
      walk_at "wp"
      refine ⟨fun z => (by cases z), fun _ => ?_⟩
      walk_at "wp"
      refine wEqB ?_
      walk_at "wp"
      refine ⟨fun _ => ?_, fun z => (by cases z)⟩
      walk_at "wp"
      have e : decide (i = i) = true := by simp
      rw [e]
      exact k
    | bl b => cases j <;> cases fl
    | lst => cases j <;> cases fl
theorem cal_same_zero {P : Program} {w : World} {K : PySem.W.Frag} {mg : Str → Option Value} {base : Heap} {f : Addr} {fd : FuncData} (F : Fun K "_law_same" "_law_same" s__law_same f fd) (gm : mg "_law_same" = some (.ref f)) : Cal P w K mg base "_law_same" 0 ["_law_found", "_law_due"] (spU fun _ _ _ => False) := by
  have bn : Binds K fd ["_law_found", "_law_due"] [] := F.binds fun _ _ _ _ _ _ us hl => match us, hl with | [_, _], _ => rfl
  refine ⟨f, fd, ⟨fun vs H Q E h => ?_, fun A outer s H args us vs Q E hr he hb hv h => ?_⟩, gm, F.kp, bn⟩
  · obtain ⟨_, _, _, _, _, _, z, _⟩ := h
    exact z.elim
  · obtain ⟨_, _, _, _, _, _, z, _⟩ := h
    exact z.elim
theorem cal_same_all {P : Program} {w : World} {K : PySem.W.Frag} {mg : Str → Option Value} {base : Heap} {f : Addr} {fd : FuncData} (B : Bi mg) (F : Fun K "_law_same" "_law_same" s__law_same f fd) (gm : mg "_law_same" = some (.ref f)) : ∀ k, Cal P w K mg base "_law_same" (k + 1) ["_law_found", "_law_due"] (spU (F_same k))
  | 0 => cal_same_step (j := 0) B (cal_same_zero F gm) (fun ds h => absurd h (by simp [Flat])) F gm
  | k + 1 => cal_same_step (j := k + 1) B (cal_same_all B F gm k) (fun ds h e he n Kx hk => ⟨e, rfl, h e he, hk⟩) F gm
abbrev F__law_same : PF := F_same 8
theorem flat_mono : ∀ (k : Nat) (d : T), Flat k d → Flat (k + 1) d
  | 0, .non, _ | 0, .int _, _ | 0, .str _, _ => by trivial
  | k + 1, .non, _ | k + 1, .int _, _ | k + 1, .str _, _ => by trivial
  | k + 1, .tup xs, h => fun x hx => flat_mono k x (h x hx)
theorem flat_map {α : Type} {k : Nat} {g : α → T} (h : ∀ x, Flat k (g x)) (xs : List α) : Flat (k + 1) (.tup (xs.map g)) := fun x hx => by
  obtain ⟨y, _, rfl⟩ := List.mem_map.mp hx
  exact h y
theorem flat_lt (x : Int × Str) : Flat 1 (eLt x) := fun y hy => by
  rcases List.mem_cons.mp hy with rfl | hy
  · trivial
  · rw [List.mem_singleton.mp hy]; trivial
theorem flat_d (d : Dd) : Flat 1 (eD d) := by
  cases d <;> (intro y hy; simp [eD] at hy)
  · rcases hy with rfl | rfl <;> trivial
  · rcases hy with rfl | rfl | rfl <;> trivial
  · rcases hy with rfl | rfl | rfl <;> trivial
theorem flat_ld (l : Ld) : Flat 3 (eLd l) := fun y hy => by
  rcases List.mem_cons.mp hy with rfl | hy
  · trivial
  · rw [List.mem_singleton.mp hy]
    exact flat_map flat_lt l.w
theorem flat_s (s : Sd) : Flat 5 (eS s) := fun y hy => by
  rcases List.mem_cons.mp hy with rfl | hy
  · exact flat_map (k := 3) (g := T.int) (fun _ => by trivial) s.st
  · rw [List.mem_singleton.mp hy]
    exact flat_map flat_ld s.ld
theorem flat_p (p : Option Int) : Flat 0 (eP p) := by cases p <;> trivial
theorem flat_tk (s : Sd) (es : List Dd) (sn : List (Option Int)) : Flat 8 (eTk s es sn) := by
  have h6 : Flat 6 (eTk s es sn) := fun y hy => by
    rcases List.mem_cons.mp hy with rfl | hy
    · exact flat_s s
    · rcases List.mem_cons.mp hy with rfl | hy
      · exact flat_mono 4 _ (flat_mono 3 _ (flat_mono 2 _ (flat_map flat_d es)))
      · rw [List.mem_singleton.mp hy]
        exact flat_mono 4 _ (flat_mono 3 _ (flat_mono 2 _ (flat_mono 1 _ (flat_map flat_p sn))))
  exact flat_mono 7 _ (flat_mono 6 _ h6)
/-- the takings on the way: they stay short -/
theorem goes_inv {f : Fm} {s : Sd} : ∀ {ws : List Wd} {b b' : Tk}, Goes f s b ws b' → Runs f s b.1 → b.2.length = f.rules.length → (b.1.length ≤ b'.1.length)
  | [], b, b', h, _, _ => by
    have e : b = b' := h
    rw [e]; exact Nat.le_refl _
  | w :: ws, b, b', h, hr, hl => by
    have h2 : b.1.length ≤ (aft f s b w).1.length := by
      cases w with
      | bg m => exact Nat.le_refl _
      | dd d => show b.1.length ≤ (b.1 ++ [d]).length; simp
    have h3 : Runs f s (aft f s b w).1 := by
      cases w with
      | bg m => exact hr
      | dd d => exact runs_snoc.mpr ⟨hr, h.1⟩
    have h4 : (aft f s b w).2.length = f.rules.length := by
      cases w with
      | bg m => show (b.2.set _ _).length = _; rw [List.length_set]; exact hl
      | dd d =>
        show (newSn f s b.1 b.2 d).length = _
        rcases newSn_cases f s b.1 b.2 d with e | ⟨_, e⟩
        · rw [e]; exact hl
        · rw [e, List.length_set]; exact hl
    exact Nat.le_trans h2 (goes_inv h.2 h3 h4)
theorem aft_inv {f : Fm} {s : Sd} {b : Tk} {w : Wd} (h : wOk f s b.1 b.2 w) (hr : Runs f s b.1) (hl : b.2.length = f.rules.length) : Runs f s (aft f s b w).1 ∧ (aft f s b w).2.length = f.rules.length := by
  cases w with
  | bg m => exact ⟨hr, by show (b.2.set _ _).length = _; rw [List.length_set]; exact hl⟩
  | dd d =>
    refine ⟨runs_snoc.mpr ⟨hr, h⟩, ?_⟩
    show (newSn f s b.1 b.2 d).length = _
    rcases newSn_cases f s b.1 b.2 d with e | ⟨_, e⟩
    · rw [e]; exact hl
    · rw [e, List.length_set]; exact hl
abbrev F__law_leads : PF := fun xs n K => ∃ (f : Fm) (s : Sd) (es : List Dd) (sn : List (Option Int)) (a : Addr), xs = [.t (eF f), .t (eTk s es sn), .l a ((way f es sn).map eW) false] ∧ FOk f ∧ SOk f s 16 ∧ es.length ≤ 20 ∧ Right f s es sn ∧ K (.t (.bl true)) n
theorem len__law_leads : ∀ xs n K, F__law_leads xs n K → xs.length = 3 := fun _ _ _ ⟨_, _, _, _, _, e, _⟩ => by rw [e]; rfl
abbrev N__law_leads : List Str := ["_law_form", "_law_taking", "_law_way", "_law_here", "_law_deed"]
theorem sc__law_leads : FnScope N__law_leads ["_law_form", "_law_taking", "_law_way"] (defScope s__law_leads) := ⟨rfl, rfl, rfl, by decide +kernel, rfl, by decide +kernel, by decide +kernel⟩
theorem cal__law_leads {P : Program} {w : World} {K : PySem.W.Frag} {mg : Str → Option Value} {base : Heap} {f : Addr} {fd : FuncData} (B : Bi mg) (c__law_same : Cal P w K mg base "_law_same" 9 ["_law_found", "_law_due"] (spU F__law_same)) (c__law_colours_after : Cal P w K mg base "_law_colours_after" 6 ["_law_form", "_law_taking", "_law_deed"] (spU F__law_colours_after)) (F : Fun K "_law_leads" "_law_leads" s__law_leads f fd) (gm : mg "_law_leads" = some (.ref f)) : Cal P w K mg base "_law_leads" 10 ["_law_form", "_law_taking", "_law_way"] (spU F__law_leads) := by
  have bn : Binds K fd ["_law_form", "_law_taking", "_law_way"] [] := F.binds fun _ _ _ _ _ _ us hl => match us, hl with | [_, _, _], _ => rfl
  refine mk_cal (k := 9) F gm bn sc__law_leads rfl len__law_leads fun cdv A outer s H E hr => ?_
  have nd := (sc__law_leads).nd
  apply Exists.intro
  apply And.intro
  · exact (pss_cons (ps_if (pt_not (pt_val (pe_callB (call_isiK (K := K)) (by rfl) B.isinstance bt_isinstance (pa_cons (pv 2) (pa_cons (pe_bltn (v := .ty "list") (by rfl) B.list bt_list rfl) pa_nil))))) (pss_one (ps_ret pe_bl)) pss_nil)
    (pss_cons (ps_set (i := 3) nd rfl (Or.inl rfl) (pe_tup (pa_cons (pe_ix (ix_K (K := K)) (pv 1) pe_int (fun _ _ => rfl)) (pa_cons (pe_tup pa_nil) (pa_cons (pe_op (op_mulK (K := K)) (pe_tup (pa_cons pe_non pa_nil)) (pe_callB (call_lenK (K := K)) (by rfl) B.len bt_len (pa_cons (pe_ix (ix_K (K := K)) (pv 0) pe_int (fun _ _ => rfl)) pa_nil))) pa_nil)))))
    (pss_cons (ps_for PassesOwn.never rfl (pi_seqU (pv 2)) (pg_name (i := 4) nd rfl (Or.inl rfl))
      (pss_cons (ps_set (i := 3) nd rfl (Or.inl rfl) (pe_cal c__law_colours_after hr (by rfl) (pa_cons (pv 0) (pa_cons (pv 3) (pa_cons (pv 4) pa_nil)))))
    (pss_one (ps_if (pt_not (pt_val (pe_callB (call_isiK (K := K)) (by rfl) B.isinstance bt_isinstance (pa_cons (pv 3) (pa_cons (pe_bltn (v := .ty "tuple") (by rfl) B.tuple bt_tuple rfl) pa_nil))))) (pss_one (ps_ret pe_bl)) pss_nil))))
    (pss_one (ps_ret (pe_cal c__law_same hr (by rfl) (pa_cons (pv 3) (pa_cons (pv 1) pa_nil))))))))
  · rintro xs n Kx ⟨f, s, es, sn, a, rfl, hf, hs, hel, R, k⟩
    have hrl := hf.rl
    have G := way_leads hf hs R
    have h0 : 0 < f.rules.length := List.length_pos_iff.mpr hf.ne
    generalize way f es sn = ws at G
    walk_at "wps"
    refine bl_seqC (fun ρ m => m = n ∧ ρ = env0 N__law_leads [.t (eF f), .t (eTk s es sn), .l a (ws.map eW) false]) ?_ ?_
    · walk_at "wp"
      exact ⟨fun z => (by cases z), fun _ => bl_next ⟨rfl, rfl⟩⟩
    rintro ρ m ⟨em, rfl⟩
    subst em
    refine bl_seq ?_
    walk_at "wps"
    rw [List.length_map]
    refine wMulT (by simp) (by omega) (by omega) (by decide) ?_
    walk_at "wps"
    have e0 : (List.replicate ((f.rules.length : Nat) : Int).toNat [T.non]).flatten = (List.replicate f.rules.length (none : Option Int)).map eP := by
      rw [Int.toNat_natCast]
      generalize f.rules.length = k
      induction k with
      | zero => rfl
      | succ k ih => simp only [List.replicate_succ, List.flatten_cons, ih, List.map_cons]; rfl
    rw [e0]
    refine bl_seq (bl_forS (α := Wd) [4] eW (fun b : Tk => [some (.t (eF f)), some (.t (eTk s es sn)), some (.l a (ws.map eW) false), some (.t (eTk s b.1 b.2)), none]) (fun i b m' => m' = m ∧ Goes f s b (ws.drop i) (es, sn) ∧ Runs f s b.1 ∧ b.2.length = f.rules.length) (ei_ro (j := 2) rfl fun g => ?_))
    refine ⟨ws, ([], List.replicate f.rules.length none), rfl, rfl, ⟨rfl, G, trivial, by simp⟩, fun p hp => List.mem_cons_of_mem _ hp, fun i w b m' hv ⟨em, g1, g2, g3⟩ => ?_, fun b m' ⟨em, g1, g2, g3⟩ => ?_⟩
    · subst em
      have hi := (List.getElem?_eq_some_iff.mp hv).1
      have ed : ws.drop i = w :: ws.drop (i + 1) := by rw [List.drop_eq_getElem_cons hi, (List.getElem?_eq_some_iff.mp hv).2]
      rw [ed] at g1
      have hlen := goes_inv (f := f) (s := s) (ws := w :: ws.drop (i + 1)) g1 g2 g3
      dsimp only at hlen
      have hai := aft_inv g1.1 g2 g3
      walk_at "wps"
      refine bl_seq ?_
      walk_at "wps"
      refine ⟨f, s, b.1, b.2, w, rfl, hf, hs, by omega, g2, g3, g1.1, ?_⟩
      walk_at "wp"
      refine ⟨fun z => (by cases z), fun _ => bl_next ?_⟩
      exact ⟨rfl, aft f s b w, rfl, rfl, g1.2, hai.1, hai.2⟩
    · subst em
      rw [List.drop_length] at g1
      have e : b = (es, sn) := g1
      rw [e]
      walk_at "wp"
      exact ⟨flat_tk s es sn, k⟩
end CK
/-! part D16 -/
set_option Elab.async false
set_option linter.all false
set_option maxRecDepth 100000
set_option maxHeartbeats 2000000
/-! The tape: draws. -/
namespace CK
open PySem PySem.Spec PyProof.Rows L2
local macro_rules | `(tactic| walk_at "wp0") => `(tactic| first
  | ((with_reducible refine bl_retL (a := ?va) (ds := ?vd) ?vh ?_); (case vh => exact rfl))
  | ((with_reducible refine bl_retD (a := ?va) (ds := ?vd) ?vh ?_); (case vh => exact rfl))
  | (with_reducible refine bl_ret ?_)
  | (with_reducible refine bl_if ?_)
  | (with_reducible refine bl_asg ?_)
  | (with_reducible refine bl_asgP ?_)
  | (with_reducible refine bl_next ?_)
  | (with_reducible refine et_test ?_)
  | (with_reducible refine et_B ?_)
  | (with_reducible refine et_and ?_)
  | (with_reducible refine et_or ?_)
  | (with_reducible refine et_not ?_)
  | (with_reducible refine et_yes ?_)
  | ((with_reducible refine ev_varT (d := ?vd) ?vh ?_); (case vh => exact rfl))
  | ((with_reducible refine ev_varL (a := ?va) (ds := ?vd) (o := ?vo) ?vh ?_); (case vh => exact rfl))
  | ((with_reducible refine ev_varD (a := ?va) (kvs := ?vd) (o := ?vo) ?vh ?_); (case vh => exact rfl))
  | ((with_reducible refine ev_varP ?vh ?_); (case vh => exact rfl))
  | (with_reducible refine ev_int ?_)
  | (with_reducible refine ev_str ?_)
  | (with_reducible refine ev_bl ?_)
  | (with_reducible refine ev_non ?_)
  | (with_reducible refine ev_ty ?_)
  | (with_reducible refine ev_op ro_ix ?_)
  | (with_reducible refine ev_op ro_eq ?_)
  | (with_reducible refine ev_op ro_is ?_)
  | (with_reducible refine ev_op ro_cmp ?_)
  | (with_reducible refine ev_op ro_add ?_)
  | (with_reducible refine ev_op ro_sub ?_)
  | (with_reducible refine ev_op ro_mul ?_)
  | (with_reducible refine ev_op ro_mod ?_)
  | (with_reducible refine ev_op ro_div ?_)
  | (with_reducible refine ev_op ro_pow ?_)
  | (with_reducible refine ev_op ro_in ?_)
  | (with_reducible refine ev_neg ?_)
  | (with_reducible refine ev_cb rc_len ?_)
  | (with_reducible refine ev_cb rc_isi ?_)
  | (with_reducible refine ev_cb rc_all ?_)
  | (with_reducible refine ev_cb rc_list ?_)
  | (with_reducible refine ev_cb rc_tuple ?_)
  | (with_reducible refine ev_cb rc_int ?_)
  | (with_reducible refine ev_cb rc_max ?_)
  | (with_reducible refine ea_cons ?_)
  | (with_reducible refine ea_nil ?_)
  | (with_reducible refine ev_tup ?_)
  | (with_reducible refine ev_lst ?_)
  | (with_reducible refine ev_sl ?_)
  | (with_reducible refine eo_none ?_)
  | (with_reducible refine eo_some ?_)
  | (with_reducible refine ev_dget ?_)
  | (with_reducible refine ev_dnew ?_)
  | (with_reducible refine ev_if ?_)
  | (with_reducible refine ev_and ?_)
  | (with_reducible refine ev_or ?_)
  | (with_reducible refine ev_not ?_)
  | (with_reducible refine ev_chain ro_cmp ro_cmp ?_)
  | (with_reducible refine ev_call ?_)
  | (with_reducible refine ev_lrg2 ?_)
  | (with_reducible refine wAddI ?_)
  | (with_reducible refine wSub ?_)
  | (with_reducible refine wEqI ?_)
  | (with_reducible refine wEqS ?_)
  | (with_reducible refine wNeI ?_)
  | (with_reducible refine wNeS ?_)
  | (with_reducible refine wCmp ?_)
  | (with_reducible refine wLenT ?_)
  | (with_reducible refine wLenL ?_)
  | (with_reducible refine wTupT ?_)
  | (with_reducible refine wTupL ?_)
  | (with_reducible refine wIsN ?_)
  | (with_reducible refine wNotN ?_)
  | (with_reducible refine wIsB ?_)
  | (with_reducible refine wInt ?_)
  | (with_reducible refine wMax ?_)
  | (with_reducible refine wListT ?_; intro _)
  | (with_reducible refine wListL ?_; intro _)
  | (with_reducible refine wSlT ?_)
  | ((with_reducible refine wIxT (d := ?vd) ?vh ?_); (case vh => exact rfl))
  | (refine wIxT atI_c0 ?_)
  | (refine wIxT atI_c1 ?_)
  | (refine wIxT atI_c2 ?_)
  | ((with_reducible refine wIxL (d := ?vd) ?vh ?_); (case vh => exact rfl))
  | ((with_reducible refine wIsi (b := ?vd) ?vh ?_); (case vh => exact rfl))
  | ((with_reducible refine wIsiL (b := ?vd) ?vh ?_); (case vh => exact rfl))
  | (with_reducible refine tg_tup rfl ?_)
  | (with_reducible refine tgs_cons ?_)
  | (with_reducible refine tgs_nil ?_)
  | ((with_reducible refine tg_name ?vh ?_); (case vh => decide))
  | (with_reducible refine ⟨_, rfl, ?_⟩)
  | (with_reducible refine ⟨_, _, rfl, ?_⟩)
  | (with_reducible refine ⟨_, _, rfl, rfl, ?_⟩)
  | (with_reducible refine ⟨_, _, _, rfl, ?_⟩)
  | (refine And.intro (show List.length _ ≤ lim from Nat.le_of_ble_eq_true rfl) ?_)
  | (with_reducible refine seqK_nx ?_)
  | (with_reducible refine seqK_rt ?_)
  | (with_reducible refine seqK_ex ?_)
  | fail "wp0: no step")
local macro_rules | `(tactic| walk_at "wp1") => `(tactic| first | (with_reducible refine bl_seq ?_) | walk_at "wp0")
local macro_rules | `(tactic| walk_at "wps") => `(tactic| repeat (walk_at "wp0"))
local macro_rules | `(tactic| walk_at "wp") => `(tactic| repeat (walk_at "wp1"))
abbrev F__law_draw : PF := fun xs n K => ∃ k : Int, xs = [.tape, .t (.int k)] ∧ 0 < k ∧ k ≤ 100000 ∧ n ≤ 1000000 ∧ ∀ r : Int, 0 ≤ r → r < k → K (.t (.int r)) (n + 1)
theorem len__law_draw : ∀ xs n K, F__law_draw xs n K → xs.length = 2 := fun _ _ _ ⟨_, e, _⟩ => by rw [e]; rfl
def spNew (K : PySem.W.Frag) : Sp := fun vs H Q _ => ∃ (a : Addr) (ns : List Int), vs = [.ref a] ∧ SqL K H a (ns.map V.int) ∧ ∀ c t, H c = none → upd H c (.lst ((ns.take 63).map V.int)) t = none → Q (.ref t) (upd (upd H c (.lst ((ns.take 63).map V.int))) t (.lst [.ref c, .int 0, .int 0]))
abbrev N__law_new_tape : List Str := ["_law_script"]
theorem sc__law_new_tape : FnScope N__law_new_tape ["_law_script"] (defScope s__law_new_tape) := ⟨rfl, rfl, rfl, by decide +kernel, rfl, by decide +kernel, by decide +kernel⟩
abbrev N__law_draw : List Str := ["_law_tape", "_law_many", "_law_found", "_law_spot", "_law_cell", "_law_seed"]
theorem sc__law_draw : FnScope N__law_draw ["_law_tape", "_law_many"] (defScope s__law_draw) := ⟨rfl, rfl, rfl, by decide +kernel, rfl, by decide +kernel, by decide +kernel⟩
section
variable {K : PySem.W.Frag} {σ : L2.St} {H : Hp} {t c : Addr} {x y : V} {xs : List V} {Q : VK}
theorem rd_list {i : Nat} {k : Int} (h0 : σ[i]? = some (some (.ref t))) (hL : H t = some (.lst xs)) (e : atI xs k = some x) (q : Q x H) : tOp (rIx K) (tVar i) (tC (.int k)) σ H Q := ⟨_, h0, .inl ⟨t, xs, k, x, rfl, rfl, .of hL, e, q⟩⟩
theorem ln_list {te : TE} {cells : List Int} (h : ∀ Q : VK, Q (.ref c) H → te σ H Q) (hC : H c = some (.lst (cells.map V.int))) (q : Q (.int cells.length) H) : tCB (rLenU K) (tCons te tNil) σ H Q := by
  refine h _ ?_
  refine .inl ⟨c, _, rfl, .inl (.of hC), ?_⟩
  rw [List.length_map]
  exact q
/-- an expression that gives an int -/
def EI (te : TE) (σ : L2.St) (H : Hp) (i : Int) : Prop := ∀ Q : VK, Q (.int i) H → te σ H Q
variable {ta tb : TE} {i j : Int}
theorem EI.var {n : Nat} (h : σ[n]? = some (some (.int i))) : EI (tVar n) σ H i := fun Q q => ⟨_, h, q⟩
theorem EI.k : EI (tC (.int i)) σ H i := fun Q q => q
theorem EI.add (a : EI ta σ H i) (b : EI tb σ H j) : EI (tOp (rAddU K) ta tb) σ H (i + j) := fun Q q => a _ (b _ (.inl ⟨_, _, rfl, rfl, q⟩))
theorem EI.mul (a : EI ta σ H i) (b : EI tb σ H j) (h : CMul i j) : EI (tOp (rMulU K) ta tb) σ H (i * j) := fun Q q => a _ (b _ (.inl ⟨_, _, rfl, rfl, h, q⟩))
theorem EI.mod (a : EI ta σ H i) (b : EI tb σ H j) (h : 0 < j) : EI (tOp (rI (fun _ j => 0 < j) fun i j => .int (i % j)) ta tb) σ H (i % j) := fun Q q => a _ (b _ ⟨_, _, rfl, rfl, h, q⟩)
theorem EI.div (a : EI ta σ H i) (b : EI tb σ H j) (h : CDiv i j) : EI (tOp (rI CDiv fun i j => .int (i / j)) ta tb) σ H (i / j) := fun Q q => a _ (b _ ⟨_, _, rfl, rfl, h, q⟩)
theorem EI.pow (a : EI ta σ H i) (b : EI tb σ H j) (h : CPow i j) : EI (tOp (rI CPow fun i j => .int (i ^ j.toNat)) ta tb) σ H (i ^ j.toNat) := fun Q q => a _ (b _ ⟨_, _, rfl, rfl, h, q⟩)
theorem EI.len {cells : List Int} (h : ∀ Q : VK, Q (.ref c) H → ta σ H Q) (hC : H c = some (.lst (cells.map V.int))) : EI (tCB (rLenU K) (tCons ta tNil)) σ H cells.length := fun Q q => ln_list h hC q
def ET (tt : TT) (σ : L2.St) (H : Hp) (b : Bool) : Prop := ∀ Q : Bool → Hp → Prop, Q b H → tt σ H Q
theorem ET.test {f : Int → Int → Bool} (a : EI ta σ H i) (b : EI tb σ H j) : ET (tTest (tOp (rI0 fun i j => .bl (f i j)) ta tb)) σ H (f i j) := fun Q q => a _ (b _ ⟨_, _, rfl, rfl, _, rfl, q⟩)
theorem ET.and {tt tu : TT} {a b : Bool} (h : ET tt σ H a) (g : ET tu σ H b) : ET (tAnd tt tu) σ H (a && b) := fun Q q => by
  refine h _ ?_
  cases a with
  | true => exact g Q q
  | false => exact q
theorem ts_if {tt : TT} {t1 t2 : TS} {D : Ends} {b : Bool} (h : ET tt σ H b) (h1 : b = true → t1 D σ H) (h2 : b = false → t2 D σ H) : tIfS tt t1 t2 D σ H := by
  refine h _ ?_
  cases b with
  | true => exact h1 rfl
  | false => exact h2 rfl
theorem EI.rd {n : Nat} {m : Int} {xs : List V} (h0 : σ[n]? = some (some (.ref t))) (hL : H t = some (.lst xs)) (e : atI xs m = some (.int i)) : EI (tOp (rIx K) (tVar n) (tC (.int m))) σ H i := fun Q q => rd_list h0 hL e q
end
theorem cal__law_new_tape {P : Program} {w : World} {K : PySem.W.Frag} {mg : Str → Option Value} {base : Heap} {f : Addr} {fd : FuncData} (B : Bi mg) (F : Fun K "_law_new_tape" "_law_new_tape" s__law_new_tape f fd) (gm : mg "_law_new_tape" = some (.ref f)) : Cal P w K mg base "_law_new_tape" 1 ["_law_script"] (spNew K) := by
  have bn : Binds K fd ["_law_script"] [] := F.binds fun _ _ _ _ _ _ us hl => match us, hl with | [_], _ => rfl
  refine ⟨f, fd, F.ok (k := 0) sc__law_new_tape (fun vs H Q E ⟨a, ns, e, _⟩ => by rw [e]; rfl) fun cdv A outer s H vs Q E hr h => ?_, gm, F.kp, bn⟩
  have nd := (sc__law_new_tape).nd
  apply Exists.intro
  apply And.intro
  · exact (pss_one (ps_ret (pe_lst (pa_cons (pe_slice (sl_K (K := K)) (pv 0) po_none (po_some pe_int)) (pa_cons pe_int (pa_cons pe_int pa_nil))))))
  · obtain ⟨a, ns, rfl, hs, q⟩ := h
    refine ⟨_, rfl, 63, rfl, .inl ⟨a, _, rfl, hs, fun c hc => ?_⟩⟩
    have e : cutV (ns.map V.int) none (some 63) = (ns.take 63).map V.int := by
      have := cutA_take (ns.map V.int) 63
      rw [← List.map_take] at this
      exact this
    rw [e]
    exact ⟨by show 3 ≤ sizeLine; decide, fun t ht => q c t hc ht⟩
theorem cal__law_draw {P : Program} {w : World} {K : PySem.W.Frag} {mg : Str → Option Value} {base : Heap} {f : Addr} {fd : FuncData} (B : Bi mg) (F : Fun K "_law_draw" "_law_draw" s__law_draw f fd) (gm : mg "_law_draw" = some (.ref f)) : Cal P w K mg base "_law_draw" 1 ["_law_tape", "_law_many"] (spU F__law_draw) := by
  have bn : Binds K fd ["_law_tape", "_law_many"] [] := F.binds fun _ _ _ _ _ _ us hl => match us, hl with | [_, _], _ => rfl
  refine ⟨f, fd, F.ok (k := 0) sc__law_draw (len_U len__law_draw) fun cdv A outer s H vs Q E hr h => ?_, gm, F.kp, bn⟩
  have nd := (sc__law_draw).nd
  apply Exists.intro
  apply And.intro
  · exact (pss_cons (ps_if (pt_cmpR op_gt (pe_ix (ix_K (K := K)) (pv 0) pe_int (fun _ _ => rfl)) pe_int (nomark _)) (pss_cons (ps_set (i := 2) nd rfl (Or.inl rfl) (pe_op op_mod (pe_ix (ix_K (K := K)) (pv 0) pe_int (fun _ _ => rfl)) (pv 1)))
    (pss_cons (ps_asg (pe_op op_fdiv (pe_ix (ix_K (K := K)) (pv 0) pe_int (fun _ _ => rfl)) (pv 1)) (pg_sub (pv 0) pe_int set_list))
    (pss_one (ps_ret (pv 2))))) pss_nil)
    (pss_cons (ps_set (i := 3) nd rfl (Or.inl rfl) (pe_ix (ix_K (K := K)) (pv 0) pe_int (fun _ _ => rfl)))
    (pss_cons (ps_asg (pe_op (op_addK (K := K)) (pv 3) pe_int) (pg_sub (pv 0) pe_int set_list))
    (pss_cons (ps_set (i := 4) nd rfl (Or.inl rfl) pe_int)
    (pss_cons (ps_if (pt_cmpR op_gt (pe_callB (call_lenK (K := K)) (by rfl) B.len bt_len (pa_cons (pe_ix (ix_K (K := K)) (pv 0) pe_int (fun _ _ => rfl)) pa_nil)) pe_int (nomark _)) (pss_one (ps_set (i := 4) nd rfl (Or.inl rfl) (pe_ix (ix_K (K := K)) (pe_ix (ix_K (K := K)) (pv 0) pe_int (fun _ _ => rfl)) (pe_op op_mod (pv 3) (pe_callB (call_lenK (K := K)) (by rfl) B.len bt_len (pa_cons (pe_ix (ix_K (K := K)) (pv 0) pe_int (fun _ _ => rfl)) pa_nil))) (fun _ _ => rfl)))) pss_nil)
    (pss_cons (ps_if (PW.pt (pw_and (pt_cmpR op_ge (pv 4) (pe_op op_pow pe_int pe_int) (nomark _)) (pw_and1 (pt_cmpR op_lt (pv 3) (pe_callB (call_lenK (K := K)) (by rfl) B.len bt_len (pa_cons (pe_ix (ix_K (K := K)) (pv 0) pe_int (fun _ _ => rfl)) pa_nil)) (nomark _))))) (pss_cons (ps_asg (pe_op op_fdiv (pv 4) (pv 1)) (pg_sub (pv 0) pe_int set_list))
    (pss_one (ps_ret (pe_op op_mod (pv 4) (pv 1))))) pss_nil)
    (pss_cons (ps_set (i := 5) nd rfl (Or.inl rfl) (pe_op op_mod (pe_op (op_mulK (K := K)) (pe_op (op_addK (K := K)) (pe_op (op_addK (K := K)) (pe_op op_mod (pv 4) pe_int) (pe_op (op_mulK (K := K)) (pe_op (op_mulK (K := K)) pe_int (pv 3)) (pv 3))) pe_int) pe_int) pe_int))
    (pss_one (ps_ret (pe_op op_mod (pe_op op_mod (pe_op (op_mulK (K := K)) (pe_op op_mod (pe_op (op_addK (K := K)) (pe_op (op_mulK (K := K)) (pv 5) pe_int) (pe_op (op_mulK (K := K)) (pv 3) pe_int)) pe_int) pe_int) pe_int) (pv 1)))))))))))
  · obtain ⟨tp, xs, n, Kx, hk, rs, ⟨k, rfl, k0, k1, hn, kk⟩, q⟩ := h
    obtain ⟨v, u, rfl, rx, ry⟩ := rs.two
    rw [ry.int]
    obtain ⟨t0, ht, rfl⟩ := rx
    cases tp with
    | none => cases ht
    | some p =>
    obtain ⟨t, c⟩ := p
    cases ht
    obtain ⟨cells, spot, big, hL, hC, s0, s1, b0, cl⟩ := hk t c rfl
    have hct : c ≠ t := fun e => by
      rw [e, hL] at hC
      have h1 := HO.lst.inj (Option.some.inj hC)
      cases cells with
      | nil => cases h1
      | cons a l => cases h1
    have fin : ∀ (H' : Hp) (r spot' big' : Int), 0 ≤ r → r < k → (∀ a o, a ≠ t → H a = some o → H' a = some o) → H' t = some (.lst [.ref c, .int spot', .int big']) → 0 ≤ spot' → spot' ≤ ((n + 1 : Nat) : Int) → 0 ≤ big' → Q (.int r) H' := fun H' r spot' big' r0 r1 hs hL' p0 p1 g0 => by
      refine q (.int r) H' (.t (.int r)) (n + 1) (fun a o hn ho => hs a o (fun e => hn (by rw [e]; rfl)) ho) (fun t2 c2 e => ?_) rInt (kk r r0 r1)
      cases e
      exact ⟨cells, spot', big', hL', hs c _ hct hC, p0, p1, g0, cl⟩
    have hmod : ∀ x : Int, 0 ≤ x % k ∧ x % k < k := fun x => ⟨Int.emod_nonneg x (by omega), Int.emod_lt_of_pos x k0⟩
    have cu : ∀ (H' : Hp), (∀ a o, a ≠ t → H a = some o → H' a = some o) → ∀ xs, ∀ a o, a ≠ t → H a = some o → upd H' t (.lst xs) a = some o := fun H' h xs a o hn ho => by rw [upd_ne hn]; exact h a o hn ho
    have s00 : ∀ a o, a ≠ t → H a = some o → H a = some o := fun _ _ _ h => h
    -- a number that is being used up
    have e2 : atI [V.ref c, V.int spot, V.int big] 2 = some (.int big) := rfl
    refine ts_if (.test (EI.rd (K := K) rfl hL e2) .k) (fun hb => ?_) (fun hb => ?_)
    · refine rd_list rfl hL (x := .int big) rfl ⟨_, rfl, _, _, rfl, rfl, k0, ?_⟩
      refine rd_list rfl hL (x := .int big) rfl ⟨_, rfl, _, _, rfl, rfl, ⟨k0, by omega⟩, ?_⟩
      refine ⟨_, rfl, t, _, 2, 2, rfl, rfl, hL, rfl, ?_⟩
      exact ⟨_, rfl, fin _ _ spot (big / k) (hmod big).1 (hmod big).2 (cu H s00 _) upd_same s0 (by omega) (Int.ediv_nonneg b0 (by omega))⟩
    -- a cell
    · refine rd_list rfl hL (x := .int spot) rfl ?_
      refine ⟨_, rfl, .inl ⟨_, _, rfl, rfl, ?_⟩⟩
      refine ⟨_, rfl, t, _, 1, 1, rfl, rfl, hL, rfl, ?_⟩
      have hL1 : upd H t (.lst ([V.ref c, .int spot, .int big].set 1 (.int (spot + 1)))) t = some (.lst [.ref c, .int (spot + 1), .int big]) := upd_same
      have hC1 : upd H t (.lst ([V.ref c, .int spot, .int big].set 1 (.int (spot + 1)))) c = some (.lst (cells.map V.int)) := by rw [upd_ne hct]; exact hC
      have s1' := cu H s00 ([V.ref c, .int spot, .int big].set 1 (.int (spot + 1)))
      generalize upd H t (.lst ([V.ref c, .int spot, .int big].set 1 (.int (spot + 1)))) = H1 at hL1 hC1 s1'
      have rd0 : ∀ (σ : L2.St) (Q : VK), σ[0]? = some (some (.ref t)) → Q (.ref c) H1 → tOp (rIx K) (tVar 0) (tC (.int 0)) σ H1 Q := fun σ Q h0 q => rd_list h0 hL1 rfl q
      have hln : ∀ (σ : L2.St), σ[0]? = some (some (.ref t)) → EI (tCB (rLenU K) (tCons (tOp (rIx K) (tVar 0) (tC (V.int 0))) tNil)) σ H1 cells.length := fun σ h0 => EI.len (fun Q z => rd0 σ Q h0 z) hC1
      refine ts_if (.test (hln _ rfl) .k) (fun hb2 => ?_) (fun hb2 => ?_)
      · have hlen' : 0 < (cells.length : Int) := of_decide_eq_true hb2
        obtain ⟨cv, hcv⟩ : ∃ cv : Int, atI (cells.map V.int) (spot % (cells.length : Int)) = some (.int cv) := by
          have h1 : 0 ≤ spot % (cells.length : Int) := Int.emod_nonneg _ (by omega)
          have h2 : spot % (cells.length : Int) < cells.length := Int.emod_lt_of_pos _ hlen'
          obtain ⟨j, hj⟩ : ∃ j : Nat, spot % (cells.length : Int) = (j : Int) := ⟨(spot % (cells.length : Int)).toNat, by omega⟩
          rw [hj] at h2 ⊢
          have hjl : j < cells.length := by omega
          exact ⟨cells[j], atI_nat (by rw [List.getElem?_map, List.getElem?_eq_getElem hjl]; rfl)⟩
        refine rd0 _ _ rfl ((EI.mod (EI.var rfl) (hln _ rfl) hlen') _ (.inl ⟨c, _, _, _, rfl, rfl, .of hC1, hcv, ?_⟩))
        generalize cv = cell
        refine ts_if (.and (.test (EI.var rfl) (.pow .k .k ⟨by decide, by decide, by decide⟩)) (.test (EI.var rfl) (hln _ rfl))) (fun hb3 => ?_) (fun hb3 => ?_)
        · rw [Bool.and_eq_true] at hb3
          have hcell : (10 : Int) ^ (18 : Int).toNat ≤ cell := of_decide_eq_true hb3.1
          have hc0 : 0 ≤ cell := Int.le_trans (by decide) hcell
          refine EI.div (EI.var rfl) (EI.var rfl) ⟨k0, by omega⟩ _ ?_
          refine ⟨_, rfl, t, _, 2, 2, rfl, rfl, hL1, rfl, ?_⟩
          exact EI.mod (EI.var rfl) (EI.var rfl) k0 _ (fin _ _ (spot + 1) (cell / k) (hmod cell).1 (hmod cell).2 (cu H1 s1' _) upd_same (by omega) (by omega) (Int.ediv_nonneg hc0 (by omega)))
        · refine EI.mod (EI.mul (EI.add (EI.add (EI.mod (EI.var rfl) .k (by decide)) (EI.mul (EI.mul .k (EI.var rfl) (.inl (by decide))) (EI.var rfl) (.inr ⟨by omega, by omega⟩))) .k) .k (.inr (by decide))) .k (by decide) _ ?_
          exact EI.mod (EI.mod (EI.mul (EI.mod (EI.add (EI.mul (EI.var rfl) .k (.inr (by decide))) (EI.mul (EI.var rfl) .k (.inr (by decide)))) .k (by decide)) .k (.inr (by decide))) .k (by decide)) (EI.var rfl) k0 _ (fin _ _ (spot + 1) big (hmod _).1 (hmod _).2 s1' hL1 (by omega) (by omega) b0)
      · change tSeq _ _ _ _ _
        refine ts_if (.and (.test (EI.var rfl) (.pow .k .k ⟨by decide, by decide, by decide⟩)) (.test (EI.var rfl) (hln _ rfl))) (fun hb3 => ?_) (fun hb3 => ?_)
        · rw [Bool.and_eq_true] at hb3
          have hcell : (10 : Int) ^ (18 : Int).toNat ≤ (0 : Int) := of_decide_eq_true hb3.1
          have hc0 : 0 ≤ (0 : Int) := Int.le_trans (by decide) hcell
          refine EI.div (EI.var rfl) (EI.var rfl) ⟨k0, by omega⟩ _ ?_
          refine ⟨_, rfl, t, _, 2, 2, rfl, rfl, hL1, rfl, ?_⟩
          exact EI.mod (EI.var rfl) (EI.var rfl) k0 _ (fin _ _ (spot + 1) (0 / k) (hmod 0).1 (hmod 0).2 (cu H1 s1' _) upd_same (by omega) (by omega) (Int.ediv_nonneg hc0 (by omega)))
        · refine EI.mod (EI.mul (EI.add (EI.add (EI.mod (EI.var rfl) .k (by decide)) (EI.mul (EI.mul .k (EI.var rfl) (.inl (by decide))) (EI.var rfl) (.inr ⟨by omega, by omega⟩))) .k) .k (.inr (by decide))) .k (by decide) _ ?_
          exact EI.mod (EI.mod (EI.mul (EI.mod (EI.add (EI.mul (EI.var rfl) .k (.inr (by decide))) (EI.mul (EI.var rfl) .k (.inr (by decide)))) .k (by decide)) .k (.inr (by decide))) .k (by decide)) (EI.var rfl) k0 _ (fin _ _ (spot + 1) big (hmod _).1 (hmod _).2 s1' hL1 (by omega) (by omega) b0)
end CK
/-! part M12 -/
set_option Elab.async false
set_option linter.all false
set_option maxRecDepth 100000
set_option maxHeartbeats 1000000
/-! Helps for what is drawn. -/
namespace CK
open PySem PySem.Spec PyProof.Rows L2
theorem atI_ex {α : Type} {xs : List α} {i : Int} (h0 : 0 ≤ i) (h1 : i < xs.length) : ∃ (j : Nat) (x : α), i = (j : Nat) ∧ xs[j]? = some x ∧ atI xs i = some x := by
  obtain ⟨j, rfl⟩ : ∃ j : Nat, i = (j : Nat) := ⟨i.toNat, by omega⟩
  have hj : j < xs.length := by omega
  exact ⟨j, xs[j], rfl, List.getElem?_eq_getElem hj, atI_nat (List.getElem?_eq_getElem hj)⟩
theorem wIxD {p : Addr} {o : Bool} {a : List T} {i : Int} {K : X → Prop} (h0 : 0 ≤ i) (h1 : i < a.length) (k : ∀ d ∈ a, K (.t d)) : IxW (.l p a o) (.t (.int i)) K := by
  obtain ⟨j, x, _, h2, h3⟩ := atI_ex h0 h1
  exact wIxL h3 (k x (List.mem_of_getElem? h2))
theorem wIxC {x : Str} {i : Int} {K : X → Prop} (hl : x.length ≤ lim) (h0 : 0 ≤ i) (h1 : i < x.cps.toList.length) (k : ∀ c ∈ x.cps.toList, K (.t (.str ⟨#[c]⟩))) : IxW (.t (.str x)) (.t (.int i)) K := by
  obtain ⟨j, c, _, h2, h3⟩ := atI_ex h0 h1
  exact wIxS hl h3 (k c (List.mem_of_getElem? h2))
theorem wNeNil {p q : Addr} {o o2 : Bool} {ds : List T} {K : X → Prop} (h : noBs ds = true) (k : K (.t (.bl (!ds.isEmpty)))) : EqW true (.l p ds o) (.l q [] o2) K := by
  obtain ⟨ps, hp⟩ := pdsN ds h
  refine ⟨.list ps, .list [], by simp only [X.pd, hp], rfl, by simp [PyData.depth, PyData.depthAll], ?_⟩
  have e : PyData.eqv (.list ps) (.list []) = ds.isEmpty := by
    rw [PyData.eqv]
    cases ds with
    | nil => cases hp; rfl
    | cons d ds =>
      unfold pds at hp
      split at hp
      · cases hp; rfl
      · cases hp
  show K (.t (.bl (!PyData.eqv (.list ps) (.list []))))
  rw [e]; exact k
/-- a form that the law makes -/
structure FMk (f : Fm) : Prop where
  ok : FOk f
  st : ∀ r ∈ f.rules, 0 ≤ r.start ∧ r.start ≤ 99
/-- the moves made so far, each at its place -/
def MvP (f : Fm) (m : Nat) (st : List Int) (k : Nat) (mvs : List Mv) : Prop := ∃ ks : List Nat, ks.length = mvs.length ∧ ks.Nodup ∧ (∀ x ∈ ks, x < k) ∧
  (∀ (i : Nat) v x, mvs[i]? = some v → ks[i]? = some x → st[x / 3]? = some v.st ∧ ([("own" : Str), "a", "b"] : List Str)[x % 3]? = some v.cause) ∧
  ∀ v ∈ mvs, v.sends.length ≤ 3 ∧ ∀ s ∈ v.sends, ∃ q, f.roads[s.1]? = some q ∧ q.src = m
theorem nodup_get {α : Type} {xs : List α} (h : xs.Nodup) {i j : Nat} {x : α} (hi : xs[i]? = some x) (hj : xs[j]? = some x) : i = j := by
  obtain ⟨a, b⟩ := List.getElem?_eq_some_iff.mp hi
  obtain ⟨c, d⟩ := List.getElem?_eq_some_iff.mp hj
  exact (List.getElem_inj h).mp (b.trans d.symm)
theorem MvP.distinct {f : Fm} {m : Nat} {st : List Int} {k : Nat} {mvs : List Mv} (h : MvP f m st k mvs) (hst : st.Nodup) : ∀ (i j : Nat) v u, mvs[i]? = some v → mvs[j]? = some u → v.st = u.st → v.cause = u.cause → i = j := by
  obtain ⟨ks, h1, h2, h3, h4, _⟩ := h
  intro i j v u hi hj e1 e2
  have hil := (List.getElem?_eq_some_iff.mp hi).1
  have hjl := (List.getElem?_eq_some_iff.mp hj).1
  have ki := List.getElem?_eq_getElem (show i < ks.length by omega)
  have kj := List.getElem?_eq_getElem (show j < ks.length by omega)
  obtain ⟨a, b⟩ := h4 i v _ hi ki
  obtain ⟨c, d⟩ := h4 j u _ hj kj
  rw [e1] at a
  rw [e2] at b
  have q1 := nodup_get hst a c
  have q2 := nodup_get (xs := ([("own" : Str), "a", "b"] : List Str)) (by decide +kernel) b d
  have e : ks[i]'(by omega) = ks[j]'(by omega) := by omega
  rw [e] at ki
  exact nodup_get h2 ki kj
theorem MvP.add {f : Fm} {m : Nat} {st : List Int} {k : Nat} {mvs : List Mv} (h : MvP f m st k mvs) {v : Mv} (h1 : st[k / 3]? = some v.st) (h2 : ([("own" : Str), "a", "b"] : List Str)[k % 3]? = some v.cause) (h3 : v.sends.length ≤ 3) (h4 : ∀ s ∈ v.sends, ∃ q, f.roads[s.1]? = some q ∧ q.src = m) : MvP f m st (k + 1) (mvs ++ [v]) := by
  obtain ⟨ks, a, b, c, d, e⟩ := h
  refine ⟨ks ++ [k], by simp [a], ?_, fun x hx => ?_, fun i u x hi hk => ?_, fun u hu => ?_⟩
  · rw [List.nodup_append]
    refine ⟨b, by simp, fun x hx y hy => ?_⟩
    simp at hy
    have := c x hx
    omega
  · rcases List.mem_append.mp hx with hx | hx
    · have := c x hx; omega
    · rw [List.mem_singleton.mp hx]; omega
  · by_cases hl : i < mvs.length
    · rw [List.getElem?_append_left hl] at hi
      rw [List.getElem?_append_left (by omega)] at hk
      exact d i u x hi hk
    · have hl2 : i = mvs.length := by
        have := (List.getElem?_eq_some_iff.mp hi).1
        simp at this
        omega
      rw [List.getElem?_append_right (by omega), hl2] at hi
      rw [List.getElem?_append_right (by omega), hl2, ← a] at hk
      simp at hi hk
      subst hi hk
      exact ⟨h1, h2⟩
  · rcases List.mem_append.mp hu with hu | hu
    · exact e u hu
    · rw [List.mem_singleton.mp hu]; exact ⟨h3, h4⟩
theorem MvP.skip {f : Fm} {m : Nat} {st : List Int} {k : Nat} {mvs : List Mv} (h : MvP f m st k mvs) : MvP f m st (k + 1) mvs := by
  obtain ⟨ks, a, b, c, d, e⟩ := h
  exact ⟨ks, a, b, fun x hx => by have := c x hx; omega, d, e⟩
end CK
/-! part D17 -/
set_option Elab.async false
set_option linter.all false
set_option maxRecDepth 100000
set_option maxHeartbeats 2000000
/-! The law's forms. -/
namespace CK
open PySem PySem.Spec PyProof.Rows L2
local macro_rules | `(tactic| walk_at "wp0") => `(tactic| first
  | ((with_reducible refine bl_retL (a := ?va) (ds := ?vd) ?vh ?_); (case vh => exact rfl))
  | ((with_reducible refine bl_retD (a := ?va) (ds := ?vd) ?vh ?_); (case vh => exact rfl))
  | (with_reducible refine bl_ret ?_)
  | (with_reducible refine bl_if ?_)
  | (with_reducible refine bl_asg ?_)
  | (with_reducible refine bl_asgP ?_)
  | (with_reducible refine bl_next ?_)
  | (with_reducible refine et_test ?_)
  | (with_reducible refine et_B ?_)
  | (with_reducible refine et_and ?_)
  | (with_reducible refine et_or ?_)
  | (with_reducible refine et_not ?_)
  | (with_reducible refine et_yes ?_)
  | ((with_reducible refine ev_varT (d := ?vd) ?vh ?_); (case vh => exact rfl))
  | ((with_reducible refine ev_varL (a := ?va) (ds := ?vd) (o := ?vo) ?vh ?_); (case vh => exact rfl))
  | ((with_reducible refine ev_varD (a := ?va) (kvs := ?vd) (o := ?vo) ?vh ?_); (case vh => exact rfl))
  | ((with_reducible refine ev_varP ?vh ?_); (case vh => exact rfl))
  | (with_reducible refine ev_int ?_)
  | (with_reducible refine ev_str ?_)
  | (with_reducible refine ev_bl ?_)
  | (with_reducible refine ev_non ?_)
  | (with_reducible refine ev_ty ?_)
  | (with_reducible refine ev_op ro_ix ?_)
  | (with_reducible refine ev_op ro_eq ?_)
  | (with_reducible refine ev_op ro_is ?_)
  | (with_reducible refine ev_op ro_cmp ?_)
  | (with_reducible refine ev_op ro_add ?_)
  | (with_reducible refine ev_op ro_sub ?_)
  | (with_reducible refine ev_op ro_mul ?_)
  | (with_reducible refine ev_op ro_mod ?_)
  | (with_reducible refine ev_op ro_div ?_)
  | (with_reducible refine ev_op ro_pow ?_)
  | (with_reducible refine ev_op ro_in ?_)
  | (with_reducible refine ev_neg ?_)
  | (with_reducible refine ev_cb rc_len ?_)
  | (with_reducible refine ev_cb rc_isi ?_)
  | (with_reducible refine ev_cb rc_all ?_)
  | (with_reducible refine ev_cb rc_list ?_)
  | (with_reducible refine ev_cb rc_tuple ?_)
  | (with_reducible refine ev_cb rc_int ?_)
  | (with_reducible refine ev_cb rc_max ?_)
  | (with_reducible refine ea_cons ?_)
  | (with_reducible refine ea_nil ?_)
  | (with_reducible refine ev_tup ?_)
  | (with_reducible refine ev_lst ?_)
  | (with_reducible refine ev_sl ?_)
  | (with_reducible refine eo_none ?_)
  | (with_reducible refine eo_some ?_)
  | (with_reducible refine ev_dget ?_)
  | (with_reducible refine ev_dnew ?_)
  | (with_reducible refine ev_if ?_)
  | (with_reducible refine ev_and ?_)
  | (with_reducible refine ev_or ?_)
  | (with_reducible refine ev_not ?_)
  | (with_reducible refine ev_chain ro_cmp ro_cmp ?_)
  | (with_reducible refine ev_call ?_)
  | (with_reducible refine ev_lrg2 ?_)
  | (with_reducible refine wAddI ?_)
  | (with_reducible refine wSub ?_)
  | (with_reducible refine wEqI ?_)
  | (with_reducible refine wEqS ?_)
  | (with_reducible refine wNeI ?_)
  | (with_reducible refine wNeS ?_)
  | (with_reducible refine wCmp ?_)
  | (with_reducible refine wLenT ?_)
  | (with_reducible refine wLenL ?_)
  | (with_reducible refine wTupT ?_)
  | (with_reducible refine wTupL ?_)
  | (with_reducible refine wIsN ?_)
  | (with_reducible refine wNotN ?_)
  | (with_reducible refine wIsB ?_)
  | (with_reducible refine wInt ?_)
  | (with_reducible refine wMax ?_)
  | (with_reducible refine wListT ?_; intro _)
  | (with_reducible refine wListL ?_; intro _)
  | (with_reducible refine wSlT ?_)
  | ((with_reducible refine wIxT (d := ?vd) ?vh ?_); (case vh => exact rfl))
  | (refine wIxT atI_c0 ?_)
  | (refine wIxT atI_c1 ?_)
  | (refine wIxT atI_c2 ?_)
  | ((with_reducible refine wIxL (d := ?vd) ?vh ?_); (case vh => exact rfl))
  | ((with_reducible refine wIsi (b := ?vd) ?vh ?_); (case vh => exact rfl))
  | ((with_reducible refine wIsiL (b := ?vd) ?vh ?_); (case vh => exact rfl))
  | (with_reducible refine tg_tup rfl ?_)
  | (with_reducible refine tgs_cons ?_)
  | (with_reducible refine tgs_nil ?_)
  | ((with_reducible refine tg_name ?vh ?_); (case vh => decide))
  | (with_reducible refine ⟨_, rfl, ?_⟩)
  | (with_reducible refine ⟨_, _, rfl, ?_⟩)
  | (with_reducible refine ⟨_, _, rfl, rfl, ?_⟩)
  | (with_reducible refine ⟨_, _, _, rfl, ?_⟩)
  | (refine And.intro (show List.length _ ≤ lim from Nat.le_of_ble_eq_true rfl) ?_)
  | (with_reducible refine seqK_nx ?_)
  | (with_reducible refine seqK_rt ?_)
  | (with_reducible refine seqK_ex ?_)
  | fail "wp0: no step")
local macro_rules | `(tactic| walk_at "wp1") => `(tactic| first | (with_reducible refine bl_seq ?_) | walk_at "wp0")
local macro_rules | `(tactic| walk_at "wps") => `(tactic| repeat (walk_at "wp0"))
local macro_rules | `(tactic| walk_at "wp") => `(tactic| repeat (walk_at "wp1"))
abbrev ords : List T := [.str "row", .str "heap"]
abbrev F__law_a_form : PF := fun xs n K => ∃ a : Addr, xs = [.tape, .l a ords false] ∧ n ≤ 900000 ∧ ∀ (f : Fm) (m : Nat), FMk f → m ≤ n + 10000 → K (.t (eF f)) m
theorem len__law_a_form : ∀ xs n K, F__law_a_form xs n K → xs.length = 2 := fun _ _ _ ⟨_, e, _⟩ => by rw [e]; rfl
theorem cutA_ints (l : List Int) (k : Nat) : cutA (l.map T.int) none (some (1 + (k : Int))) = (l.take (1 + k)).map T.int := by
  rw [show (1 + (k : Int)) = ((1 + k : Nat) : Int) by omega, cutA_take, List.map_take]
abbrev N__law_a_form : List Str := ["_law_tape", "_law_orders", "_law_many", "_law_roads", "_law_k", "_law_one", "_law_rules", "_law_m", "_law_mine", "_law_states", "_law_moves", "_law_sends", "_law_j", "_law_word", "_law_state", "_law_road"]
theorem sc__law_a_form : FnScope N__law_a_form ["_law_tape", "_law_orders"] (defScope s__law_a_form) := ⟨rfl, rfl, rfl, by decide +kernel, rfl, by decide +kernel, by decide +kernel⟩
theorem cal__law_a_form {P : Program} {w : World} {K : PySem.W.Frag} {mg : Str → Option Value} {base : Heap} {f : Addr} {fd : FuncData} (B : Bi mg) (c__law_draw : Cal P w K mg base "_law_draw" 1 ["_law_tape", "_law_many"] (spU F__law_draw)) (F : Fun K "_law_a_form" "_law_a_form" s__law_a_form f fd) (gm : mg "_law_a_form" = some (.ref f)) : Cal P w K mg base "_law_a_form" 2 ["_law_tape", "_law_orders"] (spU F__law_a_form) := by
  have bn : Binds K fd ["_law_tape", "_law_orders"] [] := F.binds fun _ _ _ _ _ _ us hl => match us, hl with | [_, _], _ => rfl
  refine mk_cal (k := 1) F gm bn sc__law_a_form rfl len__law_a_form fun cdv A outer s H E hr => ?_
  have nd := (sc__law_a_form).nd
  apply Exists.intro
  apply And.intro
  · exact (pss_cons (ps_set (i := 2) nd rfl (Or.inl rfl) (pe_ix (ix_K (K := K)) (pe_lst (pa_cons pe_int (pa_cons pe_int (pa_cons pe_int (pa_cons pe_int (pa_cons pe_int (pa_cons pe_int pa_nil))))))) (pe_cal c__law_draw hr (by rfl) (pa_cons (pv 0) (pa_cons pe_int pa_nil))) (fun _ _ => rfl)))
    (pss_cons (ps_set (i := 3) nd rfl (Or.inr rfl) (pe_lst pa_nil))
    (pss_cons (ps_for PassesOwn.never rfl (pi_range1 (by rfl) B.range (pa_cons (pe_op (op_mulK (K := K)) (pe_ix (ix_K (K := K)) (pe_lst (pa_cons pe_int (pa_cons pe_int (pa_cons pe_int (pa_cons pe_int (pa_cons pe_int (pa_cons pe_int (pa_cons pe_int pa_nil)))))))) (pe_cal c__law_draw hr (by rfl) (pa_cons (pv 0) (pa_cons pe_int pa_nil))) (fun _ _ => rfl)) (pe_callTy call_intK (by rfl) B.int bt_int (pa_cons (pe_cmpR op_gt (pv 2) pe_int (nomark _)) pa_nil))) pa_nil)) (pg_name (i := 4) nd rfl (Or.inl rfl))
      (pss_cons (ps_set (i := 5) nd rfl (Or.inl rfl) (pe_cal c__law_draw hr (by rfl) (pa_cons (pv 0) (pa_cons (pv 2) pa_nil))))
    (pss_one (ps_expr (pe_bm PySem.F.plainAttrs_list PySem.F.slot_list_append PySem.F.type_list_append mt_append (pv 3) (pa_cons (pe_tup (pa_cons (pv 5) (pa_cons (pe_op op_mod (pe_op (op_addK (K := K)) (pe_op (op_addK (K := K)) (pv 5) pe_int) (pe_cal c__law_draw hr (by rfl) (pa_cons (pv 0) (pa_cons (pe_op op_sub (pv 2) pe_int) pa_nil)))) (pv 2)) (pa_cons (pe_ix (ix_K (K := K)) (pv 1) (pe_cal c__law_draw hr (by rfl) (pa_cons (pv 0) (pa_cons (pe_callB (call_lenK (K := K)) (by rfl) B.len bt_len (pa_cons (pv 1) pa_nil)) pa_nil))) (fun _ _ => rfl)) pa_nil)))) pa_nil))))))
    (pss_cons (ps_set (i := 6) nd rfl (Or.inl rfl) (pe_lst pa_nil))
    (pss_cons (ps_for PassesOwn.never rfl (pi_range1 (by rfl) B.range (pa_cons (pv 2) pa_nil)) (pg_name (i := 7) nd rfl (Or.inr rfl))
      (pss_cons (ps_setLc (i := 8) (own := [("_law_road", 15)]) (g := (gName 15)) rfl nd rfl rfl (sw_true rfl rfl rfl (by decide +kernel)) (pi_range1 (by rfl) B.range (pa_cons (pe_callB (call_lenK (K := K)) (by rfl) B.len bt_len (pa_cons (pv 3) pa_nil)) pa_nil)) (blkOk_by (own := [("_law_road", 15)]) (N := N__law_a_form) (sc := (defScope s__law_a_form)) (by decide +kernel)) (fun _ _ _ _ _ => (pg_name (i := 15) nd rfl (Or.inl rfl))) (fun _ _ _ _ _ => (pts_one (pt_cmpR (op_eqK (K := K) hr.units) (pe_ix (ix_K (K := K)) (pe_ix (ix_K (K := K)) (pv 3) (pv 15) (fun _ _ => rfl)) pe_int (fun _ _ => rfl)) (pv 7) (nomark _)))) (fun _ _ _ _ _ => (pv 15)))
    (pss_cons (ps_set (i := 9) nd rfl (Or.inl rfl) (pe_slice (sl_K (K := K)) (pe_lst (pa_cons pe_int (pa_cons pe_int (pa_cons pe_int (pa_cons pe_int (pa_cons pe_int pa_nil)))))) po_none (po_some (pe_op (op_addK (K := K)) pe_int (pe_cal c__law_draw hr (by rfl) (pa_cons (pv 0) (pa_cons pe_int pa_nil)))))))
    (pss_cons (ps_set (i := 10) nd rfl (Or.inl rfl) (pe_lst pa_nil))
    (pss_cons (ps_for PassesOwn.never rfl (pi_range1 (by rfl) B.range (pa_cons (pe_op (op_mulK (K := K)) pe_int (pe_callB (call_lenK (K := K)) (by rfl) B.len bt_len (pa_cons (pv 9) pa_nil))) pa_nil)) (pg_name (i := 4) nd rfl (Or.inl rfl))
      (pss_cons (ps_set (i := 11) nd rfl (Or.inl rfl) (pe_lst pa_nil))
    (pss_cons (ps_for PassesOwn.never rfl (pi_range1 (by rfl) B.range (pa_cons (pe_op (op_mulK (K := K)) (pe_ix (ix_K (K := K)) (pe_lst (pa_cons pe_int (pa_cons pe_int (pa_cons pe_int (pa_cons pe_int (pa_cons pe_int pa_nil)))))) (pe_cal c__law_draw hr (by rfl) (pa_cons (pv 0) (pa_cons pe_int pa_nil))) (fun _ _ => rfl)) (pe_callTy call_intK (by rfl) B.int bt_int (pa_cons (pe_cmpR (op_neK (K := K) hr.units) (pv 8) (pe_lst pa_nil) (nomark _)) pa_nil))) pa_nil)) (pg_name (i := 12) nd rfl (Or.inl rfl))
      (pss_one (ps_expr (pe_bm PySem.F.plainAttrs_list PySem.F.slot_list_append PySem.F.type_list_append mt_append (pv 11) (pa_cons (pe_tup (pa_cons (pe_ix (ix_K (K := K)) (pv 8) (pe_cal c__law_draw hr (by rfl) (pa_cons (pv 0) (pa_cons (pe_callB (call_lenK (K := K)) (by rfl) B.len bt_len (pa_cons (pv 8) pa_nil)) pa_nil))) (fun _ _ => rfl)) (pa_cons (pe_ix (ix_K (K := K)) pe_str (pe_cal c__law_draw hr (by rfl) (pa_cons (pv 0) (pa_cons pe_int pa_nil))) (fun _ _ => rfl)) pa_nil))) pa_nil)))))
    (pss_cons (ps_set (i := 13) nd rfl (Or.inl rfl) (pe_ix (ix_K (K := K)) (pe_lst (pa_cons pe_non (pa_cons pe_non (pa_cons pe_str (pa_cons pe_str (pa_cons pe_str pa_nil)))))) (pe_cal c__law_draw hr (by rfl) (pa_cons (pv 0) (pa_cons pe_int pa_nil))) (fun _ _ => rfl)))
    (pss_cons (ps_set (i := 14) nd rfl (Or.inl rfl) (pe_ix (ix_K (K := K)) (pv 9) (pe_cal c__law_draw hr (by rfl) (pa_cons (pv 0) (pa_cons (pe_callB (call_lenK (K := K)) (by rfl) B.len bt_len (pa_cons (pv 9) pa_nil)) pa_nil))) (fun _ _ => rfl)))
    (pss_one (ps_if (pt_cmpR op_gt (pe_cal c__law_draw hr (by rfl) (pa_cons (pv 0) (pa_cons pe_int pa_nil))) pe_int (nomark _)) (pss_one (ps_expr (pe_bm PySem.F.plainAttrs_list PySem.F.slot_list_append PySem.F.type_list_append mt_append (pv 10) (pa_cons (pe_tup (pa_cons (pe_ix (ix_K (K := K)) (pv 9) (pe_op op_fdiv (pv 4) pe_int) (fun _ _ => rfl)) (pa_cons (pe_ix (ix_K (K := K)) (pe_lst (pa_cons pe_str (pa_cons pe_str (pa_cons pe_str pa_nil)))) (pe_op op_mod (pv 4) pe_int) (fun _ _ => rfl)) (pa_cons (pv 14) (pa_cons (pe_callTy (call_tupleK (K := K)) (by rfl) B.tuple bt_tuple (pa_cons (pv 11) pa_nil)) (pa_cons (pv 13) pa_nil)))))) pa_nil)))) pss_nil)))))))
    (pss_one (ps_expr (pe_bm PySem.F.plainAttrs_list PySem.F.slot_list_append PySem.F.type_list_append mt_append (pv 6) (pa_cons (pe_tup (pa_cons (pe_ix (ix_K (K := K)) (pv 9) (pe_cal c__law_draw hr (by rfl) (pa_cons (pv 0) (pa_cons (pe_callB (call_lenK (K := K)) (by rfl) B.len bt_len (pa_cons (pv 9) pa_nil)) pa_nil))) (fun _ _ => rfl)) (pa_cons (pe_callTy (call_tupleK (K := K)) (by rfl) B.tuple bt_tuple (pa_cons (pv 10) pa_nil)) pa_nil))) pa_nil)))))))))
    (pss_one (ps_ret (pe_tup (pa_cons (pe_callTy (call_tupleK (K := K)) (by rfl) B.tuple bt_tuple (pa_cons (pv 6) pa_nil)) (pa_cons (pe_callTy (call_tupleK (K := K)) (by rfl) B.tuple bt_tuple (pa_cons (pv 3) pa_nil)) pa_nil))))))))))
  · rintro xs n Kx ⟨a0, rfl, hn, k⟩
    have hol : ords.length = 2 := rfl
    have habc : (("abc" : Str).cps.toList.length : Int) = 3 := by decide +kernel
    refine bl_seq ?_
    walk_at "wps"
    intro p0
    walk_at "wps"
    refine ⟨by omega, by omega, by omega, fun r0 r1 r2 => ?_⟩
    walk_at "wps"
    refine wIxD r1 r2 fun d hd => ?_
    obtain ⟨many, rfl, hm1, hm4⟩ : ∃ many : Nat, d = .int (many : Nat) ∧ 1 ≤ many ∧ many ≤ 4 := by
      simp only [List.mem_cons, List.not_mem_nil, or_false] at hd
      rcases hd with h | h | h | h | h | h
      · exact ⟨2, h, by omega, by omega⟩
      · exact ⟨3, h, by omega, by omega⟩
      · exact ⟨2, h, by omega, by omega⟩
      · exact ⟨3, h, by omega, by omega⟩
      · exact ⟨4, h, by omega, by omega⟩
      · exact ⟨1, h, by omega, by omega⟩
    walk_at "wps"
    refine bl_seq ?_
    walk_at "wps"
    intro p1
    walk_at "wps"
    refine bl_seq (bl_forS (α := Nat) [4, 5] (fun i => T.int (i : Nat)) (fun rs : List Rd => [some .tape, some (.l a0 ords false), some (.t (.int (many : Nat))), some (.l p1 (rs.map eRd) true), none, none, none, none, none, none, none, none, none, none, none, none]) (fun i rs m' => m' ≤ n + 2 + 3 * i ∧ rs.length ≤ i ∧ ∀ r ∈ rs, r.src < many ∧ r.dst < many) (ei_rngN ?_))
    walk_at "wp"
    intro p2
    walk_at "wp"
    refine ⟨by omega, by omega, by omega, fun r3 r4 r5 => ?_⟩
    walk_at "wp"
    refine wIxD r4 r5 fun d hd => ?_
    obtain ⟨c, rfl, hc8⟩ : ∃ c : Nat, d = .int (c : Nat) ∧ c ≤ 8 := by
      simp at hd
      rcases hd with h | h | h | h | h | h | h
      · exact ⟨1, h, by omega⟩
      · exact ⟨2, h, by omega⟩
      · exact ⟨3, h, by omega⟩
      · exact ⟨4, h, by omega⟩
      · exact ⟨5, h, by omega⟩
      · exact ⟨8, h, by omega⟩
      · exact ⟨0, h, by omega⟩
    walk_at "wp"
    refine wMulI (.inl ⟨by omega, by omega⟩) ?_
    obtain ⟨cn, hcn, hcn8, hcn1⟩ : ∃ cn : Nat, (c : Int) * (if decide (((1 : Int)) < ((many : Nat) : Int)) then 1 else 0) = (cn : Nat) ∧ cn ≤ 8 ∧ (0 < cn → 1 < many) := by
      by_cases h : (1 : Int) < ((many : Nat) : Int)
      · exact ⟨c, by simp [h], hc8, fun _ => by omega⟩
      · exact ⟨0, by simp [h], by omega, fun z => absurd z (by omega)⟩
    refine ⟨cn, by rw [← hcn], by omega, List.range cn, [], rfl, rfl, ⟨by omega, by simp, by simp⟩, fun p hp => hp, fun i x rs m' hv ⟨h1, h2, h3⟩ => ?_, fun rs m' ⟨h1, h2, h3⟩ => ?_⟩
    · have hi : i < cn := by have := (List.getElem?_eq_some_iff.mp hv).1; rwa [List.length_range] at this
      have hmany := hcn1 (by omega)
      walk_at "wps"
      refine bl_seq ?_
      walk_at "wps"
      refine ⟨by omega, by omega, by omega, fun o o1 o2 => ?_⟩
      obtain ⟨on, rfl⟩ : ∃ on : Nat, o = (on : Nat) := ⟨o.toNat, by omega⟩
      walk_at "wps"
      refine bl_append (j := 3) rfl (by rw [List.length_map]; show rs.length < 100000; omega) ?_
      walk_at "wp"
      refine ⟨by omega, by omega, by omega, fun q q1 q2 => ?_⟩
      walk_at "wp"
      refine wMod (by omega) ?_
      walk_at "wp"
      refine ⟨by omega, by omega, by omega, fun z z1 z2 => ?_⟩
      walk_at "wp"
      refine wIxD z1 z2 fun d hd => ?_
      obtain ⟨kd, rfl⟩ : ∃ kd : Str, d = .str kd := by
        simp at hd
        rcases hd with h | h
        · exact ⟨_, h⟩
        · exact ⟨_, h⟩
      walk_at "wp"
      obtain ⟨dn, hdn, hdn2⟩ : ∃ dn : Nat, ((on : Nat) + 1 + q) % ((many : Nat) : Int) = (dn : Nat) ∧ dn < many := by
        have h1 : 0 ≤ ((on : Nat) + 1 + q) % ((many : Nat) : Int) := Int.emod_nonneg _ (by omega)
        have h2 : ((on : Nat) + 1 + q) % ((many : Nat) : Int) < many := Int.emod_lt_of_pos _ (by omega)
        exact ⟨(((on : Nat) + 1 + q) % ((many : Nat) : Int)).toNat, by omega, by omega⟩
      rw [hdn]
      refine ⟨rfl, rs ++ [⟨on, dn, kd⟩], ?_, by omega, by simp; omega, fun r hr => ?_⟩
      · rw [List.map_append]; rfl
      · rcases List.mem_append.mp hr with hr | hr
        · exact h3 r hr
        · rw [List.mem_singleton.mp hr]; exact ⟨by show on < many; omega, hdn2⟩
    rw [List.length_range] at h1 h2
    walk_at "wps"
    refine bl_seq ?_
    walk_at "wps"
    intro p3
    walk_at "wps"
    have hrs : ∀ (i : Nat) q, rs[i]? = some q → q.src < many ∧ q.dst < many := fun i q e => h3 q (List.mem_of_getElem? e)
    refine bl_seq (bl_forS (α := Nat) [4, 5, 7, 8, 9, 10, 11, 12, 13, 14] (fun i => T.int (i : Nat)) (fun rl : List Rl => [some .tape, some (.l a0 ords false), some (.t (.int (many : Nat))), some (.l p1 (rs.map eRd) true), none, none, some (.l p3 (rl.map eRl) true), none, none, none, none, none, none, none, none, none]) (fun i rl m2 => m2 ≤ m' + 200 * i ∧ rl.length = i ∧ ∀ (j : Nat) r, rl[j]? = some r → (0 ≤ r.start ∧ r.start ≤ 99) ∧ r.mv.length ≤ 100 ∧ (∀ (i j : Nat) v u, r.mv[i]? = some v → r.mv[j]? = some u → v.st = u.st → v.cause = u.cause → i = j) ∧ ∀ v ∈ r.mv, v.sends.length ≤ 3 ∧ ∀ s ∈ v.sends, ∃ q, rs[s.1]? = some q ∧ q.src = j) (ei_rngN ?_))
    walk_at "wp"
    refine ⟨by omega, List.range many, [], rfl, rfl, ⟨by omega, rfl, by simp⟩, fun p hp => hp, fun m mm rl m2 hv ⟨g1, g2, g3⟩ => ?_, fun rl m2 ⟨g1, g2, g3⟩ => ?_⟩
    · have hmm : m < many := by have := (List.getElem?_eq_some_iff.mp hv).1; rwa [List.length_range] at this
      rw [List.getElem?_range hmm] at hv
      cases hv
      walk_at "wps"
      refine bl_seq (bl_asg (ev_lcF (fun i : Nat => T.int (i : Nat)) (fun i => decide ((rs[i]?.map (·.src)) = some m)) (fun i => T.int (i : Nat)) (ei_rngN ?_)))
      walk_at "wp"
      rw [List.length_map]
      refine ⟨by omega, List.range rs.length, rfl, fun x hx => ?_, fun p4 => ?_⟩
      · have hx' := List.mem_range.mp hx
        have hq := List.getElem?_eq_getElem hx'
        generalize rs[x]'hx' = q at hq
        walk_at "wp"
        refine ⟨?_, fun _ => ?_⟩
        · walk_at "wp"
          refine wIxL (atI_map hq) ?_
          walk_at "wp"
          refine ⟨?_, rfl⟩
          rw [hq, Bool.eq_iff_iff]
          simp
          omega
        · walk_at "wp"
          exact ⟨rfl, rfl⟩
      have hmine : ∀ i ∈ (List.range rs.length).filter (fun i => decide ((rs[i]?.map (·.src)) = some m)), ∃ q, rs[i]? = some q ∧ q.src = m := fun i hi => by
        have := of_decide_eq_true (List.mem_filter.mp hi).2
        cases hq : rs[i]? with
        | none => rw [hq] at this; cases this
        | some q => rw [hq] at this; exact ⟨q, rfl, Option.some.inj this⟩
      have hminel := List.length_filter_le (fun i => decide ((rs[i]?.map (·.src)) = some m)) (List.range rs.length)
      rw [List.length_range] at hminel
      generalize (List.range rs.length).filter (fun i => decide ((rs[i]?.map (·.src)) = some m)) = mine at hmine hminel
      walk_at "wps"
      refine bl_seq ?_
      walk_at "wps"
      intro p5
      walk_at "wps"
      refine ⟨by omega, by omega, by omega, fun y y1 y2 => ?_⟩
      obtain ⟨yn, rfl⟩ : ∃ yn : Nat, y = (yn : Nat) := ⟨y.toNat, by omega⟩
      walk_at "wps"
      refine wSlL fun p6 => ?_
      have est : cutA [T.int 0, T.int 1, T.int 2, T.int 7, T.int 99] none (some (1 + (yn : Int))) = (([0, 1, 2, 7, 99] : List Int).take (1 + yn)).map T.int := cutA_ints [0, 1, 2, 7, 99] yn
      rw [est]
      obtain ⟨st, hst, hst1, hst2, hst3, hst4⟩ : ∃ st : List Int, st = ([0, 1, 2, 7, 99] : List Int).take (1 + yn) ∧ st ≠ [] ∧ st.length ≤ 5 ∧ st.Nodup ∧ ∀ x ∈ st, 0 ≤ x ∧ x ≤ 99 := by
        refine ⟨_, rfl, ?_, ?_, ?_, fun x hx => ?_⟩
        · rw [show 1 + yn = yn + 1 by omega]; simp
        · rw [List.length_take]; simp; omega
        · exact List.Nodup.sublist (List.take_sublist _ _) (by decide)
        · have hx' := List.mem_of_mem_take hx
          simp at hx'
          omega
      rw [← hst]
      have hstl : 0 < st.length := List.length_pos_iff.mpr hst1
      walk_at "wps"
      refine bl_seq ?_
      walk_at "wps"
      intro p7
      walk_at "wps"
      refine bl_seq (bl_forS (α := Nat) [4, 11, 12, 13, 14] (fun i => T.int (i : Nat)) (fun mvs : List Mv => [some .tape, some (.l a0 ords false), some (.t (.int (many : Nat))), some (.l p1 (rs.map eRd) true), none, none, some (.l p3 (rl.map eRl) true), some (.t (.int (m : Nat))), some (.l p4 (mine.map fun i => T.int (i : Nat)) true), some (.l p6 (st.map T.int) true), some (.l p7 (mvs.map eMv) true), none, none, none, none, none]) (fun i mvs m3 => m3 ≤ m2 + 1 + 10 * i ∧ mvs.length ≤ i ∧ MvP ⟨[], rs⟩ m st i mvs) (ei_rngN ?_))
      walk_at "wp"
      refine wMulI (.inl ⟨by omega, by omega⟩) ?_
      rw [List.length_map]
      refine ⟨3 * st.length, by rw [show (3 * (st.length : Int)) = ((3 * st.length : Nat) : Int) by omega], by omega, List.range (3 * st.length), [], rfl, rfl, ⟨by omega, by simp, [], rfl, by simp, by simp, by simp, by simp⟩, fun p hp => hp, fun i ii mvs m3 hv ⟨q1, q2, q3⟩ => ?_, fun mvs m3 ⟨q1, q2, q3⟩ => ?_⟩
      · have hi : i < 3 * st.length := by have := (List.getElem?_eq_some_iff.mp hv).1; rwa [List.length_range] at this
        rw [List.getElem?_range hi] at hv
        cases hv
        walk_at "wps"
        refine bl_seq ?_
        walk_at "wps"
        intro p8
        walk_at "wps"
        refine bl_seq (bl_forS (α := Nat) [12] (fun i => T.int (i : Nat)) (fun ss : List (Nat × Str) => [some .tape, some (.l a0 ords false), some (.t (.int (many : Nat))), some (.l p1 (rs.map eRd) true), some (.t (.int (i : Nat))), none, some (.l p3 (rl.map eRl) true), some (.t (.int (m : Nat))), some (.l p4 (mine.map fun i => T.int (i : Nat)) true), some (.l p6 (st.map T.int) true), some (.l p7 (mvs.map eMv) true), some (.l p8 (ss.map eSend) true), none, none, none, none]) (fun j ss m4 => m4 ≤ m3 + 1 + 2 * j ∧ ss.length ≤ j ∧ ∀ s ∈ ss, ∃ q, rs[s.1]? = some q ∧ q.src = m) (ei_rngN ?_))
        walk_at "wp"
        intro p9
        walk_at "wp"
        refine ⟨by omega, by omega, by omega, fun y y1 y2 => ?_⟩
        walk_at "wp"
        refine wIxD y1 y2 fun d hd => ?_
        obtain ⟨c, rfl, hc3⟩ : ∃ c : Nat, d = .int (c : Nat) ∧ c ≤ 3 := by
          simp only [List.mem_cons, List.not_mem_nil, or_false] at hd
          rcases hd with h | h | h | h | h
          · exact ⟨1, h, by omega⟩
          · exact ⟨1, h, by omega⟩
          · exact ⟨2, h, by omega⟩
          · exact ⟨0, h, by omega⟩
          · exact ⟨3, h, by omega⟩
        walk_at "wp"
        intro p10
        refine wNeNil (noBs_map _ (fun _ => rfl) _) ?_
        walk_at "wp"
        refine wMulI (.inl ⟨by omega, by omega⟩) ?_
        obtain ⟨cn, hcn, hcn3, hcn1⟩ : ∃ cn : Nat, (c : Int) * (if (!(mine.map fun i : Nat => T.int (i : Nat)).isEmpty) then 1 else 0) = (cn : Nat) ∧ cn ≤ 3 ∧ (0 < cn → mine ≠ []) := by
          cases mine with
          | nil => exact ⟨0, by simp, by omega, fun z => absurd z (by omega)⟩
          | cons a l => exact ⟨c, by simp, hc3, fun _ => by simp⟩
        refine ⟨cn, by rw [← hcn], by omega, List.range cn, [], rfl, rfl, ⟨by omega, by simp, by simp⟩, fun p hp => hp, fun j jj ss m4 hv ⟨s1, s2, s3⟩ => ?_, fun ss m4 ⟨s1, s2, s3⟩ => ?_⟩
        · have hj : j < cn := by have := (List.getElem?_eq_some_iff.mp hv).1; rwa [List.length_range] at this
          have hne := hcn1 (by omega)
          have hml : 0 < mine.length := List.length_pos_iff.mpr hne
          walk_at "wps"
          refine bl_append (j := 11) rfl (by rw [List.length_map]; show ss.length < 100000; omega) ?_
          walk_at "wp"
          rw [List.length_map]
          refine ⟨by omega, by omega, by omega, fun z z1 z2 => ?_⟩
          obtain ⟨zn, zx, rfl, e1, e2⟩ := atI_ex z1 z2
          walk_at "wp"
          refine wIxL (atI_map e1) ?_
          walk_at "wp"
          refine ⟨by omega, by omega, by omega, fun y y1 y2 => ?_⟩
          walk_at "wp"
          obtain ⟨jn, c, _, _, ec⟩ := atI_ex (xs := ("abc" : Str).cps.toList) y1 (by omega)
          refine ⟨c, ec, ?_⟩
          walk_at "wp"
          refine ⟨rfl, ss ++ [(zx, ⟨#[c]⟩)], ?_, by omega, by simp; omega, fun s hs => ?_⟩
          · rw [List.map_append]; rfl
          · rcases List.mem_append.mp hs with hs | hs
            · exact s3 s hs
            · rw [List.mem_singleton.mp hs]; exact hmine zx (List.mem_of_getElem? e1)
        rw [List.length_range] at s1 s2
        walk_at "wps"
        refine bl_seq ?_
        walk_at "wps"
        intro p11
        walk_at "wps"
        refine ⟨by omega, by omega, by omega, fun y y1 y2 => ?_⟩
        walk_at "wps"
        refine wIxD y1 y2 fun d hd => ?_
        obtain ⟨wd, rfl⟩ : ∃ wd : Option Str, d = eO wd := by
          simp only [List.mem_cons, List.not_mem_nil, or_false] at hd
          rcases hd with h | h | h | h | h
          · exact ⟨none, h⟩
          · exact ⟨none, h⟩
          · exact ⟨some _, h⟩
          · exact ⟨some _, h⟩
          · exact ⟨some _, h⟩
        walk_at "wps"
        refine bl_seq ?_
        walk_at "wps"
        rw [List.length_map]
        refine ⟨by omega, by omega, by omega, fun u u1 u2 => ?_⟩
        obtain ⟨un, ux, rfl, e3, e4⟩ := atI_ex u1 u2
        walk_at "wps"
        refine wIxL (atI_map e3) ?_
        walk_at "wps"
        refine ⟨by omega, by omega, by omega, fun v v1 v2 => ?_⟩
        walk_at "wps"
        refine ⟨fun _ => ?_, fun _ => ?_⟩
        · refine bl_append (j := 10) rfl (by rw [List.length_map]; show mvs.length < 100000; omega) ?_
          walk_at "wp"
          refine wDiv (by omega) (by omega) ?_
          have e5 : ((i : Nat) : Int) / 3 = ((i / 3 : Nat) : Int) := by omega
          have hi3 : i / 3 < st.length := by omega
          have e6 := List.getElem?_eq_getElem hi3
          generalize st[i / 3]'hi3 = sx at e6
          rw [e5]
          refine wIxL (atI_map e6) ?_
          walk_at "wp"
          intro p12
          walk_at "wp"
          refine wMod (by omega) ?_
          have e7 : ((i : Nat) : Int) % 3 = ((i % 3 : Nat) : Int) := by omega
          have hi4 : i % 3 < ([("own" : Str), "a", "b"] : List Str).length := by show i % 3 < 3; omega
          have e8 := List.getElem?_eq_getElem hi4
          generalize ([("own" : Str), "a", "b"] : List Str)[i % 3]'hi4 = cx at e8
          rw [e7]
          refine wIxL (atI_map (xs := ([("own" : Str), "a", "b"] : List Str)) (f := T.str) e8) ?_
          walk_at "wp"
          refine ⟨rfl, mvs ++ [⟨sx, cx, ux, ss, wd⟩], ?_, by omega, by simp; omega, q3.add e6 e8 (by show ss.length ≤ 3; omega) s3⟩
          rw [List.map_append]; rfl
        · refine bl_next ?_
          exact ⟨rfl, mvs, rfl, by omega, by omega, q3.skip⟩
      rw [List.length_range] at q1 q2 q3
      walk_at "wps"
      refine bl_append (j := 6) rfl (by rw [List.length_map]; show rl.length < 100000; omega) ?_
      walk_at "wp"
      rw [List.length_map]
      refine ⟨by omega, by omega, by omega, fun u u1 u2 => ?_⟩
      obtain ⟨un, ux, rfl, e3, e4⟩ := atI_ex u1 u2
      walk_at "wp"
      refine wIxL (atI_map e3) ?_
      walk_at "wp"
      refine ⟨rfl, rl ++ [⟨ux, mvs⟩], ?_, by omega, by simp; omega, fun j r hj => ?_⟩
      · rw [List.map_append]; rfl
      · by_cases hl : j < rl.length
        · rw [List.getElem?_append_left hl] at hj
          exact g3 j r hj
        · have hl2 : j = rl.length := by
            have := (List.getElem?_eq_some_iff.mp hj).1
            simp at this
            omega
          rw [List.getElem?_append_right (by omega), hl2] at hj
          simp at hj
          subst hj
          refine ⟨hst4 ux (List.mem_of_getElem? e3), by show mvs.length ≤ 100; omega, q3.distinct hst3, ?_⟩
          rw [hl2, g2]
          obtain ⟨_, _, _, _, _, q5⟩ := q3
          exact q5
    rw [List.length_range] at g1 g2
    walk_at "wp"
    refine k ⟨rl, rs⟩ _ ⟨⟨?_, by show rl.length ≤ 10; omega, by show rs.length ≤ 10; omega, fun i r e => ?_, fun m r e => (g3 m r e).2.1, fun m r e => (g3 m r e).2.2.1, fun m r e => (g3 m r e).2.2.2⟩, fun r hr => ?_⟩ (by omega)
    · intro z
      have z' : rl = [] := z
      rw [z'] at g2
      simp at g2
      omega
    · have := hrs i r e
      show r.src < rl.length ∧ r.dst < rl.length
      omega
    · obtain ⟨j, hj, rfl⟩ := List.mem_iff_getElem.mp hr
      exact (g3 j _ (List.getElem?_eq_getElem hj)).1
end CK
/-! part M13 -/
set_option Elab.async false
set_option linter.all false
set_option maxRecDepth 100000
set_option maxHeartbeats 1000000
/-! The law's stands. -/
namespace CK
open PySem PySem.Spec PyProof.Rows L2
/-- .. each item drawn -/
theorem ev_lcD2 {wi : TI} {g : TG} {te : TE} {vs : List Nat} {ρ : En} {n : Nat} {α : Type} (enc : α → T) (P : α → T → Prop) {K : X → Nat → Prop} (h : EvI wi ρ n fun ds ρ1 m => ∃ xs : List α, ds = xs.map enc ∧
    (∀ x m', x ∈ xs → m' < m + xs.length → Tgt vs g (enc x) (ρ1.wipe vs) fun ρ2 => Ev te ρ2 m' fun y m3 => ∃ e, y.dat = some e ∧ P x e ∧ m3 = m' + 1) ∧ ∀ a es, es.length = xs.length → (∀ (i : Nat) x e, xs[i]? = some x → es[i]? = some e → P x e) → K (.l a es true) (m + xs.length)) : Ev (tLc wi g tYes te vs) ρ n K := by
  refine ev_lc fun tp H0 H σ e R q => h tp H0 H σ e R fun J H2 ds ρ1 m G s e1 hG W l ⟨xs, ed, hs, hd⟩ => q J H2 ds ρ1 m G s e1 hG W l ?_
  subst ed
  refine ⟨fun i acc m' => m' = m + i ∧ acc.length = i ∧ ∀ (j : Nat) x e, xs[j]? = some x → acc[j]? = some e → P x e, ⟨rfl, rfl, fun j x e _ z => by simp at z⟩, ?_, ?_⟩
  · rintro i d acc m' hd' _ ⟨rfl, hl, hP⟩
    rw [List.getElem?_map] at hd'
    cases hx : xs[i]? with
    | none => rw [hx] at hd'; cases hd'
    | some x =>
      rw [hx] at hd'
      cases hd'
      have hm : x ∈ xs := List.mem_of_getElem? hx
      intro tp H0 H σ n v e r Q q
      refine hs x (m + i) hm (by have := (List.getElem?_eq_some_iff.mp hx).1; omega) tp H0 H σ n v e r Q fun σ' ρ2 e2 w2 k2 => q σ' ρ2 e2 w2 (et_yes ⟨fun _ => k2.mono ?_, fun z => by cases z⟩)
      rintro y m3 ⟨e, hy, hp, rfl⟩
      refine ⟨_, hy, by omega, by simp [hl], fun j x' e' h1 h2 => ?_⟩
      by_cases hj : j < acc.length
      · rw [List.getElem?_append_left hj] at h2
        exact hP j x' e' h1 h2
      · rw [List.getElem?_append_right (by omega)] at h2
        have hj' : j = i := by
          have := (List.getElem?_eq_some_iff.mp h2).1
          simp at this
          omega
        subst hj'
        rw [hx] at h1
        cases h1
        rw [hl] at h2
        simp at h2
        subst h2
        exact hp
  · rintro acc m' _ ⟨rfl, hl, hP⟩ a
    rw [List.length_map] at hl ⊢
    exact hd a acc hl hP
theorem upI_of : ∀ {l : List Int}, l.Pairwise (· < ·) → upI l = true
  | [], _ => rfl
  | [a], _ => rfl
  | a :: b :: l, h => by
    unfold upI
    rw [List.pairwise_cons] at h
    rw [Bool.and_eq_true]
    exact ⟨decide_eq_true (h.1 b List.mem_cons_self), upI_of h.2⟩
theorem rgI_up (a b : Int) : (rgI a b).Pairwise (· < ·) := by
  unfold rgI
  refine List.Pairwise.map _ (fun x y h => ?_) List.pairwise_lt_range
  omega
theorem rgI_mem {a b x : Int} (h : x ∈ rgI a b) : a ≤ x ∧ x < b := by
  obtain ⟨i, hi, rfl⟩ := List.mem_map.mp h
  have := List.mem_range.mp hi
  omega
theorem rgI_len (a b : Int) : (rgI a b).length = (b - a).toNat := by simp [rgI]
theorem rgI_len_eq {x s : Int} (h : x ≤ s) : rgI x s = rgI (s - ((rgI x s).length : Nat)) s := by
  rw [rgI_len]
  congr 1
  omega
theorem lts_of : ∀ (ks : List Int) (es : List T), es.length = ks.length → (∀ (i : Nat) k e, ks[i]? = some k → es[i]? = some e → ∃ c : Str, e = .tup [.int k, .str c] ∧ isSign (.str c) = true) → ∃ w : List (Int × Str), es = w.map eLt ∧ w.map (·.1) = ks ∧ ∀ x ∈ w, isSign (.str x.2) = true
  | [], [], _, _ => ⟨[], rfl, rfl, by simp⟩
  | k :: ks, e :: es, hl, h => by
    obtain ⟨c, rfl, hc⟩ := h 0 k e rfl rfl
    obtain ⟨w, rfl, rfl, hw⟩ := lts_of ks es (by simpa using hl) fun i k' e' h1 h2 => h (i + 1) k' e' (by simpa using h1) (by simpa using h2)
    refine ⟨(k, c) :: w, rfl, rfl, fun x hx => ?_⟩
    rcases List.mem_cons.mp hx with rfl | hx
    · exact hc
    · exact hw x hx
theorem isLetter_mk {x : Int × Str} {s : Int} (h0 : 0 ≤ x.1) (h1 : x.1 < s) (h2 : isSign (.str x.2) = true) : isLetter (eLt x) s = true := by
  show (isWithin (.int x.1) 0 (s - 1) && isSign (.str x.2)) = true
  rw [h2, Bool.and_true]
  simp only [isWithin, Bool.and_eq_true, decide_eq_true_eq]
  omega
theorem isLoad_mk {s : Int} {w : List (Int × Str)} {o : Str} (h0 : 0 ≤ s) (h1 : ∀ x ∈ w, 0 ≤ x.1 ∧ x.1 < s ∧ isSign (.str x.2) = true) (h2 : if o = "row" then w.map (·.1) = rgI (s - (w.length : Nat)) s else upI (w.map (·.1)) = true) : isLoad (eLd ⟨s, w⟩) o = true := by
  show isLoad (.tup [.int s, .tup (w.map eLt)]) o = true
  rw [isLoad_w h0, Bool.and_eq_true]
  refine ⟨?_, ?_⟩
  · rw [List.all_eq_true]
    intro d hd
    obtain ⟨x, hx, rfl⟩ := List.mem_map.mp hd
    obtain ⟨a, b, c⟩ := h1 x hx
    exact isLetter_mk a b c
  · have e : (w.map eLt).map numOf = w.map (·.1) := by rw [List.map_map]; rfl
    rw [e, List.length_map]
    split
    · rename_i ho
      rw [if_pos ho] at h2
      exact decide_eq_true h2
    · rename_i ho
      rw [if_neg ho] at h2
      exact h2
/-- a stand that the law makes -/
structure BOk (f : Fm) (s : Sd) : Prop where
  rs : rightStand f (eS s) = true
  ok : SOk f s 16
  w : ∀ l ∈ s.ld, l.w.length ≤ 3 ∧ l.sent ≤ 100000000 ∧ ∀ x ∈ l.w, isSign (.str x.2) = true
  st : ∀ x ∈ s.st, 0 ≤ x ∧ x ≤ 99
theorem lt_mild {x : Int × Str} (h : isSign (.str x.2) = true) : (eLt x).mild := by
  have := sign_len h
  simp [T.mild, milds, this]
theorem tup_mild {ds : List T} (h : ∀ d ∈ ds, d.mild) (hl : ds.length ≤ 16) : (T.tup ds).mild := by
  unfold T.mild
  exact ⟨milds_of h, hl⟩
theorem ld_mild {l : Ld} (h1 : l.w.length ≤ 4) (h2 : ∀ x ∈ l.w, isSign (.str x.2) = true) : (eLd l).mild := by
  refine tup_mild (fun d hd => ?_) (by simp)
  rcases List.mem_cons.mp hd with rfl | hd
  · simp [T.mild]
  · rw [List.mem_singleton.mp hd]
    refine tup_mild (fun d hd => ?_) (by rw [List.length_map]; omega)
    obtain ⟨x, hx, rfl⟩ := List.mem_map.mp hd
    exact lt_mild (h2 x hx)
theorem ints_mild {l : List Int} (h : l.length ≤ 16) : (T.tup (l.map T.int)).mild := tup_mild (fun d hd => by
  obtain ⟨x, _, rfl⟩ := List.mem_map.mp hd
  simp [T.mild]) (by rw [List.length_map]; exact h)
theorem BOk.mild {f : Fm} (F : FOk f) {s : Sd} (h : BOk f s) : (eS s).mild := by
  have h1 := F.rl
  have h2 := F.rd
  have h3 := h.ok.st
  have h4 := h.ok.ld
  refine tup_mild (fun d hd => ?_) (by simp)
  rcases List.mem_cons.mp hd with rfl | hd
  · exact ints_mild (by omega)
  · rw [List.mem_singleton.mp hd]
    refine tup_mild (fun d hd => ?_) (by rw [List.length_map]; omega)
    obtain ⟨l, hl, rfl⟩ := List.mem_map.mp hd
    have := h.w l hl
    exact ld_mild (by omega) this.2.2
theorem ld_nb {l : Ld} (h : l.sent ≤ 1000000000) : (eLd l).nb := fun s w e => by
  simp only [T.tup.injEq, List.cons.injEq, T.int.injEq, and_true] at e
  have := e.1
  omega
theorem BOk.sb {f : Fm} {s : Sd} (h : BOk f s) : (eS s).sb := fun a ls e l hl => by
  simp only [T.tup.injEq, List.cons.injEq, and_true] at e
  obtain ⟨_, e2⟩ := e
  rw [← e2] at hl
  obtain ⟨x, hx, rfl⟩ := List.mem_map.mp hl
  exact ld_nb (by have := (h.w x hx).2.1; omega)
theorem mk_BOk {f : Fm} (F : FOk f) {s : Sd} (h1 : s.st.length = f.rules.length) (h2 : s.ld.length = f.roads.length) (h3 : ∀ x ∈ s.st, 0 ≤ x ∧ x ≤ 99) (h4 : ∀ l ∈ s.ld, l.w.length ≤ 3 ∧ l.sent ≤ 100000000 ∧ ∀ x ∈ l.w, isSign (.str x.2) = true)
    (h5 : ∀ (i : Nat) l q, s.ld[i]? = some l → f.roads[i]? = some q → isLoad (eLd l) q.kind = true) : BOk f s := by
  have hr : rightStand f (eS s) = true := by
    show (decide ((s.st.map T.int).length = f.rules.length) && (decide ((s.ld.map eLd).length = f.roads.length) && (((s.st.map T.int).all fun d => isWithin d 0 99) && ((s.ld.map eLd).zip f.roads).all fun p => isLoad p.1 p.2.kind))) = true
    rw [List.length_map, List.length_map, decide_eq_true h1, decide_eq_true h2, Bool.true_and, Bool.true_and, Bool.and_eq_true, List.all_eq_true, List.all_eq_true]
    refine ⟨fun d hd => ?_, fun p hp => ?_⟩
    · obtain ⟨x, hx, rfl⟩ := List.mem_map.mp hd
      have := h3 x hx
      simp only [isWithin, Bool.and_eq_true, decide_eq_true_eq]
      exact this
    · obtain ⟨i, hi, e⟩ := List.mem_iff_getElem.mp hp
      have e1 : ((s.ld.map eLd).zip f.roads)[i]? = some (p.1, p.2) := by rw [List.getElem?_eq_getElem hi, e]
      rw [List.getElem?_zip_eq_some, List.getElem?_map] at e1
      obtain ⟨a, b⟩ := e1
      obtain ⟨l, hl, e2⟩ := Option.map_eq_some_iff.mp a
      rw [← e2]
      exact h5 i l p.2 hl b
  have hmild : (eS s).mild := by
    have h1' := F.rl
    have h2' := F.rd
    refine tup_mild (fun d hd => ?_) (by simp)
    rcases List.mem_cons.mp hd with rfl | hd
    · exact ints_mild (by omega)
    · rw [List.mem_singleton.mp hd]
      refine tup_mild (fun d hd => ?_) (by rw [List.length_map]; omega)
      obtain ⟨l, hl, rfl⟩ := List.mem_map.mp hd
      have := h4 l hl
      exact ld_mild (by omega) this.2.2
  have hsb : (eS s).sb := fun a ls e l hl => by
    simp only [T.tup.injEq, List.cons.injEq, and_true] at e
    obtain ⟨_, e2⟩ := e
    rw [← e2] at hl
    obtain ⟨x, hx, rfl⟩ := List.mem_map.mp hl
    exact ld_nb (by have := (h4 x hx).2.1; omega)
  obtain ⟨s', e, ok⟩ := rightStand_dec hr hmild hsb
  rw [← eS_inj e] at ok
  exact ⟨hr, ok, h4, h3⟩
end CK
/-! part D18 -/
set_option Elab.async false
set_option linter.all false
set_option maxRecDepth 100000
set_option maxHeartbeats 2000000
/-! The law's stands, runs, takings. -/
namespace CK
open PySem PySem.Spec PyProof.Rows L2
local macro_rules | `(tactic| walk_at "wp0") => `(tactic| first
  | ((with_reducible refine bl_retL (a := ?va) (ds := ?vd) ?vh ?_); (case vh => exact rfl))
  | ((with_reducible refine bl_retD (a := ?va) (ds := ?vd) ?vh ?_); (case vh => exact rfl))
  | (with_reducible refine bl_ret ?_)
  | (with_reducible refine bl_if ?_)
  | (with_reducible refine bl_asg ?_)
  | (with_reducible refine bl_asgP ?_)
  | (with_reducible refine bl_next ?_)
  | (with_reducible refine et_test ?_)
  | (with_reducible refine et_B ?_)
  | (with_reducible refine et_and ?_)
  | (with_reducible refine et_or ?_)
  | (with_reducible refine et_not ?_)
  | (with_reducible refine et_yes ?_)
  | ((with_reducible refine ev_varT (d := ?vd) ?vh ?_); (case vh => exact rfl))
  | ((with_reducible refine ev_varL (a := ?va) (ds := ?vd) (o := ?vo) ?vh ?_); (case vh => exact rfl))
  | ((with_reducible refine ev_varD (a := ?va) (kvs := ?vd) (o := ?vo) ?vh ?_); (case vh => exact rfl))
  | ((with_reducible refine ev_varP ?vh ?_); (case vh => exact rfl))
  | (with_reducible refine ev_int ?_)
  | (with_reducible refine ev_str ?_)
  | (with_reducible refine ev_bl ?_)
  | (with_reducible refine ev_non ?_)
  | (with_reducible refine ev_ty ?_)
  | (with_reducible refine ev_op ro_ix ?_)
  | (with_reducible refine ev_op ro_eq ?_)
  | (with_reducible refine ev_op ro_is ?_)
  | (with_reducible refine ev_op ro_cmp ?_)
  | (with_reducible refine ev_op ro_add ?_)
  | (with_reducible refine ev_op ro_sub ?_)
  | (with_reducible refine ev_op ro_mul ?_)
  | (with_reducible refine ev_op ro_mod ?_)
  | (with_reducible refine ev_op ro_div ?_)
  | (with_reducible refine ev_op ro_pow ?_)
  | (with_reducible refine ev_op ro_in ?_)
  | (with_reducible refine ev_neg ?_)
  | (with_reducible refine ev_cb rc_len ?_)
  | (with_reducible refine ev_cb rc_isi ?_)
  | (with_reducible refine ev_cb rc_all ?_)
  | (with_reducible refine ev_cb rc_list ?_)
  | (with_reducible refine ev_cb rc_tuple ?_)
  | (with_reducible refine ev_cb rc_int ?_)
  | (with_reducible refine ev_cb rc_max ?_)
  | (with_reducible refine ea_cons ?_)
  | (with_reducible refine ea_nil ?_)
  | (with_reducible refine ev_tup ?_)
  | (with_reducible refine ev_lst ?_)
  | (with_reducible refine ev_sl ?_)
  | (with_reducible refine eo_none ?_)
  | (with_reducible refine eo_some ?_)
  | (with_reducible refine ev_dget ?_)
  | (with_reducible refine ev_dnew ?_)
  | (with_reducible refine ev_if ?_)
  | (with_reducible refine ev_and ?_)
  | (with_reducible refine ev_or ?_)
  | (with_reducible refine ev_not ?_)
  | (with_reducible refine ev_chain ro_cmp ro_cmp ?_)
  | (with_reducible refine ev_call ?_)
  | (with_reducible refine ev_lrg2 ?_)
  | (with_reducible refine wAddI ?_)
  | (with_reducible refine wSub ?_)
  | (with_reducible refine wEqI ?_)
  | (with_reducible refine wEqS ?_)
  | (with_reducible refine wNeI ?_)
  | (with_reducible refine wNeS ?_)
  | (with_reducible refine wCmp ?_)
  | (with_reducible refine wLenT ?_)
  | (with_reducible refine wLenL ?_)
  | (with_reducible refine wTupT ?_)
  | (with_reducible refine wTupL ?_)
  | (with_reducible refine wIsN ?_)
  | (with_reducible refine wNotN ?_)
  | (with_reducible refine wIsB ?_)
  | (with_reducible refine wInt ?_)
  | (with_reducible refine wMax ?_)
  | (with_reducible refine wListT ?_; intro _)
  | (with_reducible refine wListL ?_; intro _)
  | (with_reducible refine wSlT ?_)
  | ((with_reducible refine wIxT (d := ?vd) ?vh ?_); (case vh => exact rfl))
  | (refine wIxT atI_c0 ?_)
  | (refine wIxT atI_c1 ?_)
  | (refine wIxT atI_c2 ?_)
  | ((with_reducible refine wIxL (d := ?vd) ?vh ?_); (case vh => exact rfl))
  | ((with_reducible refine wIsi (b := ?vd) ?vh ?_); (case vh => exact rfl))
  | ((with_reducible refine wIsiL (b := ?vd) ?vh ?_); (case vh => exact rfl))
  | (with_reducible refine tg_tup rfl ?_)
  | (with_reducible refine tgs_cons ?_)
  | (with_reducible refine tgs_nil ?_)
  | ((with_reducible refine tg_name ?vh ?_); (case vh => decide))
  | (with_reducible refine ⟨_, rfl, ?_⟩)
  | (with_reducible refine ⟨_, _, rfl, ?_⟩)
  | (with_reducible refine ⟨_, _, rfl, rfl, ?_⟩)
  | (with_reducible refine ⟨_, _, _, rfl, ?_⟩)
  | (refine And.intro (show List.length _ ≤ lim from Nat.le_of_ble_eq_true rfl) ?_)
  | (with_reducible refine seqK_nx ?_)
  | (with_reducible refine seqK_rt ?_)
  | (with_reducible refine seqK_ex ?_)
  | fail "wp0: no step")
local macro_rules | `(tactic| walk_at "wp1") => `(tactic| first | (with_reducible refine bl_seq ?_) | walk_at "wp0")
local macro_rules | `(tactic| walk_at "wps") => `(tactic| repeat (walk_at "wp0"))
local macro_rules | `(tactic| walk_at "wp") => `(tactic| repeat (walk_at "wp1"))
abbrev F__law_a_base : PF := fun xs n K => ∃ f : Fm, xs = [.tape, .t (eF f)] ∧ FMk f ∧ n ≤ 950000 ∧ ∀ (s : Sd) (m : Nat), BOk f s → m ≤ n + 1000 → K (.t (eS s)) m
theorem len__law_a_base : ∀ xs n K, F__law_a_base xs n K → xs.length = 2 := fun _ _ _ ⟨_, e, _⟩ => by rw [e]; rfl
theorem abc_sign : ∀ c ∈ ("abc" : Str).cps.toList, isSign (.str ⟨#[c]⟩) = true := by decide +kernel
abbrev N__law_a_base : List Str := ["_law_tape", "_law_form", "_law_roads", "_law_road", "_law_sent", "_law_some", "_law_k", "_law_rule"]
theorem sc__law_a_base : FnScope N__law_a_base ["_law_tape", "_law_form"] (defScope s__law_a_base) := ⟨rfl, rfl, rfl, by decide +kernel, rfl, by decide +kernel, by decide +kernel⟩
theorem cal__law_a_base {P : Program} {w : World} {K : PySem.W.Frag} {mg : Str → Option Value} {base : Heap} {f : Addr} {fd : FuncData} (B : Bi mg) (c__law_draw : Cal P w K mg base "_law_draw" 1 ["_law_tape", "_law_many"] (spU F__law_draw)) (F : Fun K "_law_a_base" "_law_a_base" s__law_a_base f fd) (gm : mg "_law_a_base" = some (.ref f)) : Cal P w K mg base "_law_a_base" 2 ["_law_tape", "_law_form"] (spU F__law_a_base) := by
  have bn : Binds K fd ["_law_tape", "_law_form"] [] := F.binds fun _ _ _ _ _ _ us hl => match us, hl with | [_, _], _ => rfl
  refine mk_cal (k := 1) F gm bn sc__law_a_base rfl len__law_a_base fun cdv A outer s H E hr => ?_
  have nd := (sc__law_a_base).nd
  apply Exists.intro
  apply And.intro
  · exact (pss_cons (ps_set (i := 2) nd rfl (Or.inl rfl) (pe_lst pa_nil))
    (pss_cons (ps_for PassesOwn.never rfl (pi_seqU (pe_ix (ix_K (K := K)) (pv 1) pe_int (fun _ _ => rfl))) (pg_name (i := 3) nd rfl (Or.inl rfl))
      (pss_cons (ps_set (i := 4) nd rfl (Or.inl rfl) (pe_ix (ix_K (K := K)) (pe_lst (pa_cons pe_int (pa_cons pe_int (pa_cons pe_int (pa_cons pe_int (pa_cons pe_int (pa_cons (pe_op op_pow pe_int pe_int) pa_nil))))))) (pe_cal c__law_draw hr (by rfl) (pa_cons (pv 0) (pa_cons pe_int pa_nil))) (fun _ _ => rfl)))
    (pss_cons (ps_setLc (i := 5) (own := [("_law_k", 6)]) (g := (gName 6)) rfl nd rfl rfl (sw_true rfl rfl rfl (by decide +kernel)) (pi_range2 (by rfl) B.range (pa_cons (pe_callB (call_maxK rfl) (by rfl) B.max bt_max (pa_cons pe_int (pa_cons (pe_op op_sub (pv 4) pe_int) pa_nil))) (pa_cons (pv 4) pa_nil))) (blkOk_by (own := [("_law_k", 6)]) (N := N__law_a_base) (sc := (defScope s__law_a_base)) (by decide +kernel)) (fun _ _ _ _ _ => (pg_name (i := 6) nd rfl (Or.inl rfl))) (fun _ _ _ _ _ => (pts_one (pt_cmpR (op_eqK (K := K) hr.units) (pe_cal c__law_draw hr (by rfl) (pa_cons (pv 0) (pa_cons pe_int pa_nil))) pe_int (nomark _)))) (fun _ _ _ _ _ => (pv 6)))
    (pss_cons (ps_if (PW.pt (pw_and (pt_cmpR (op_eqK (K := K) hr.units) (pe_ix (ix_K (K := K)) (pv 3) pe_int (fun _ _ => rfl)) pe_str (nomark _)) (pw_and1 (pt_cmpR (op_neK (K := K) hr.units) (pv 5) (pe_lst pa_nil) (nomark _))))) (pss_one (ps_set (i := 5) nd rfl (Or.inl rfl) (pe_listRg rfl (by rfl) B.list (prg_2 (by rfl) B.range (pe_ix (ix_K (K := K)) (pv 5) pe_int (fun _ _ => rfl)) (pv 4))))) pss_nil)
    (pss_one (ps_expr (pe_bm PySem.F.plainAttrs_list PySem.F.slot_list_append PySem.F.type_list_append mt_append (pv 2) (pa_cons (pe_tup (pa_cons (pv 4) (pa_cons (pe_callTy (call_tupleK (K := K)) (by rfl) B.tuple bt_tuple (pa_cons (pe_lc (own := [("_law_k", 6)]) (g := (gName 6)) (tt := tYes) rfl nd (pi_seqU (pv 5)) (blkOk_by (own := [("_law_k", 6)]) (N := N__law_a_base) (sc := (defScope s__law_a_base)) (by decide +kernel)) (fun _ _ _ _ _ => (pg_name (i := 6) nd rfl (Or.inl rfl))) (fun _ _ _ _ _ => pts_nil) (fun _ _ _ _ _ => (pe_tup (pa_cons (pv 6) (pa_cons (pe_ix (ix_K (K := K)) pe_str (pe_cal c__law_draw hr (by rfl) (pa_cons (pv 0) (pa_cons pe_int pa_nil))) (fun _ _ => rfl)) pa_nil))))) pa_nil)) pa_nil))) pa_nil))))))))
    (pss_one (ps_ret (pe_tup (pa_cons (pe_callTy (call_tupleK (K := K)) (by rfl) B.tuple bt_tuple (pa_cons (pe_lc (own := [("_law_rule", 7)]) (g := (gName 7)) (tt := tYes) rfl nd (pi_seqU (pe_ix (ix_K (K := K)) (pv 1) pe_int (fun _ _ => rfl))) (blkOk_by (own := [("_law_rule", 7)]) (N := N__law_a_base) (sc := (defScope s__law_a_base)) (by decide +kernel)) (fun _ _ _ _ _ => (pg_name (i := 7) nd rfl (Or.inl rfl))) (fun _ _ _ _ _ => pts_nil) (fun _ _ _ _ _ => (pe_ix (ix_K (K := K)) (pv 7) pe_int (fun _ _ => rfl)))) pa_nil)) (pa_cons (pe_callTy (call_tupleK (K := K)) (by rfl) B.tuple bt_tuple (pa_cons (pv 2) pa_nil)) pa_nil)))))))
  · rintro xs n Kx ⟨f, rfl, fm, hn, k⟩
    have hf := fm.ok
    have hrl := hf.rl
    have hrd := hf.rd
    have habc : (("abc" : Str).cps.toList.length : Int) = 3 := by decide +kernel
    refine bl_seq ?_
    walk_at "wps"
    intro p1
    walk_at "wps"
    refine bl_seq (bl_forS (α := Rd) [3, 4, 5, 6] eRd (fun ls : List Ld => [some .tape, some (.t (eF f)), some (.l p1 (ls.map eLd) true), none, none, none, none, none]) (fun i ls m' => m' ≤ n + 10 * i ∧ ls.length = i ∧ (∀ l ∈ ls, l.w.length ≤ 3 ∧ l.sent ≤ 100000000 ∧ ∀ x ∈ l.w, isSign (.str x.2) = true) ∧ ∀ (j : Nat) l q, ls[j]? = some l → f.roads[j]? = some q → isLoad (eLd l) q.kind = true) (ei_tup ?_))
    walk_at "wp"
    intro g
    refine ⟨f.roads, [], rfl, rfl, ⟨by omega, rfl, by simp, by simp⟩, fun p hp => List.mem_cons_of_mem _ hp, fun i q ls m' hv ⟨h1, h2, h3, h4⟩ => ?_, fun ls m' ⟨h1, h2, h3, h4⟩ => ?_⟩
    · have hi := (List.getElem?_eq_some_iff.mp hv).1
      walk_at "wps"
      refine bl_seq ?_
      walk_at "wps"
      refine wPow ⟨by decide, by decide, by decide⟩ ?_
      walk_at "wps"
      intro p2
      walk_at "wps"
      refine ⟨by omega, by omega, by omega, fun y y1 y2 => ?_⟩
      walk_at "wps"
      refine wIxD y1 y2 fun d hd => ?_
      obtain ⟨sent, rfl, hs0, hs1⟩ : ∃ sent : Int, d = .int sent ∧ 0 ≤ sent ∧ sent ≤ 100000000 := by
        simp only [List.mem_cons, List.not_mem_nil, or_false] at hd
        rcases hd with h | h | h | h | h | h
        · exact ⟨_, h, by decide, by decide⟩
        · exact ⟨_, h, by decide, by decide⟩
        · exact ⟨_, h, by decide, by decide⟩
        · exact ⟨_, h, by decide, by decide⟩
        · exact ⟨_, h, by decide, by decide⟩
        · exact ⟨_, h, by decide, by decide⟩
      walk_at "wps"
      refine bl_seq (bl_asg (ev_lc (ei_rng2 ?_)))
      walk_at "wp"
      have hlo : 0 ≤ (if sent - 3 > 0 then sent - 3 else 0) ∧ sent - 3 ≤ (if sent - 3 > 0 then sent - 3 else 0) ∧ (if sent - 3 > 0 then sent - 3 else 0) ≤ sent := by split <;> omega
      generalize (if sent - 3 > 0 then sent - 3 else 0) = lo at hlo
      obtain ⟨l0, l1, l2⟩ := hlo
      refine ⟨by omega, by omega, by omega, by omega, by show _ ≤ 100000; omega, fun i acc m2 => m2 = m' + 1 + i ∧ ∃ l : List Int, acc = l.map T.int ∧ l.Sublist ((rgI lo sent).take i), ⟨rfl, [], rfl, by simp⟩, fun i d acc m2 hd hal ⟨e1, l, e2, e3⟩ => ?_, fun acc m2 hal ⟨e1, l, e2, e3⟩ p3 => ?_⟩
      · rw [rgT_I, List.getElem?_map] at hd
        obtain ⟨x, hx, rfl⟩ := Option.map_eq_some_iff.mp hd
        have hil : i < (rgI lo sent).length := (List.getElem?_eq_some_iff.mp hx).1
        rw [rgI_len] at hil
        have et : (rgI lo sent).take (i + 1) = (rgI lo sent).take i ++ [x] := by rw [List.take_add_one, hx]; rfl
        walk_at "wp"
        refine ⟨by omega, by omega, by omega, fun z z1 z2 => ?_⟩
        walk_at "wp"
        refine ⟨fun _ => ?_, fun _ => ?_⟩
        · walk_at "wp"
          refine ⟨by omega, l ++ [x], ?_, ?_⟩
          · rw [List.map_append, e2]; rfl
          · rw [et]; exact List.Sublist.append e3 (List.Sublist.refl _)
        · refine ⟨by omega, l, e2, ?_⟩
          rw [et]; exact e3.trans (List.sublist_append_left _ _)
      rw [rgT_len] at e1 e3 hal
      rw [← rgI_len, List.take_length] at e3
      subst e2
      have hlm : ∀ x ∈ l, lo ≤ x ∧ x < sent := fun x hx => rgI_mem (e3.subset hx)
      have hup := upI_of ((rgI_up lo sent).sublist e3)
      have hll : l.length ≤ 3 := by
        have := e3.length_le
        rw [rgI_len] at this
        omega
      walk_at "wps"
      refine bl_seqC (fun ρ m3 => m3 = m2 ∧ ∃ p4 l', ρ = ⟨[some .tape, some (.t (eF f)), some (.l p1 (ls.map eLd) true), some (.t (eRd q)), some (.t (.int sent)), some (.l p4 (List.map T.int l') true), none, none], [g]⟩ ∧ (∀ x ∈ l', 0 ≤ x ∧ x < sent) ∧ l'.length ≤ 3 ∧ (if q.kind = "row" then l' = rgI (sent - (l'.length : Nat)) sent else upI l' = true)) ?_ ?_
      · walk_at "wp"
        refine ⟨fun z => ?_, fun z => ?_⟩
        · have hk := of_decide_eq_true z
          walk_at "wp"
          intro p5
          refine wNeNil (noBs_map _ (fun _ => rfl) _) ?_
          walk_at "wp"
          cases l with
          | nil =>
            refine ⟨fun z => (by cases z), fun _ => bl_next ?_⟩
            refine ⟨rfl, p3, [], rfl, by simp, by simp, ?_⟩
            rw [if_pos hk]
            simp [rgI]
          | cons x l =>
            refine ⟨fun _ => ?_, fun z => (by cases z)⟩
            have hx := hlm x List.mem_cons_self
            refine bl_asg (ev_lrg2 (ev_op ro_ix (ev_varL rfl (ev_int (wIxL (d := .int x) atI_c0 ?_)))))
            walk_at "wp"
            refine ⟨by omega, by omega, by omega, by omega, by show _ ≤ 100000; omega, fun p6 => ?_⟩
            rw [rgT_I]
            refine ⟨rfl, p6, rgI x sent, rfl, fun y hy => ?_, by rw [rgI_len]; omega, ?_⟩
            · have := rgI_mem hy
              omega
            · rw [if_pos hk]
              exact rgI_len_eq (by omega)
        · have hk := of_decide_eq_false z
          refine ⟨fun z => (by cases z), fun _ => bl_next ?_⟩
          refine ⟨rfl, p3, l, rfl, fun x hx => ?_, hll, ?_⟩
          · have := hlm x hx
            omega
          · rw [if_neg hk]; exact hup
      rintro ρ m3 ⟨em, p4, l', rfl, g1, g2, g3⟩
      subst em
      refine bl_append (j := 2) rfl (by rw [List.length_map]; show ls.length < 100000; omega) ?_
      walk_at "wp"
      refine ev_lcD2 T.int (fun (k : Int) e => ∃ c : Str, e = .tup [.int k, .str c] ∧ isSign (.str c) = true) (ei_own (j := 5) rfl fun g5 => ?_)
      refine ⟨l', rfl, fun x m4 hx hm4 => ?_, fun p7 es hel hes => ?_⟩
      · walk_at "wp"
        refine ⟨by omega, by omega, by omega, fun z z1 z2 => ?_⟩
        obtain ⟨jn, c, _, ec0, ec⟩ := atI_ex (xs := ("abc" : Str).cps.toList) z1 (by omega)
        walk_at "wp"
        refine ⟨c, ec, ?_⟩
        walk_at "wp"
        exact ⟨⟨⟨#[c]⟩, rfl, abc_sign c (List.mem_of_getElem? ec0)⟩, rfl⟩
      · obtain ⟨w, rfl, e5, e6⟩ := lts_of l' es hel hes
        walk_at "wp"
        have hwl : w.length = l'.length := by rw [← e5, List.length_map]
        refine ⟨rfl, ls ++ [⟨sent, w⟩], by rw [List.map_append]; rfl, by omega, by simp; omega, fun l hl => ?_, fun j l q' hj hq' => ?_⟩
        · rcases List.mem_append.mp hl with hl | hl
          · exact h3 l hl
          · rw [List.mem_singleton.mp hl]
            exact ⟨by show w.length ≤ 3; omega, hs1, e6⟩
        · by_cases hjl : j < ls.length
          · rw [List.getElem?_append_left hjl] at hj
            exact h4 j l q' hj hq'
          · have hj2 : j = ls.length := by
              have := (List.getElem?_eq_some_iff.mp hj).1
              simp at this
              omega
            rw [List.getElem?_append_right (by omega), hj2] at hj
            simp at hj
            subst hj
            rw [hj2, h2, hv] at hq'
            cases hq'
            refine isLoad_mk hs0 (fun x hx => ?_) ?_
            · have : x.1 ∈ l' := by rw [← e5]; exact List.mem_map_of_mem hx
              have := g1 _ this
              exact ⟨this.1, this.2, e6 x hx⟩
            · rw [hwl, e5]; exact g3
    · walk_at "wp"
      refine ev_lcM eRl (fun r => .int r.start) (ei_tup ?_)
      walk_at "wp"
      intro g2
      refine ⟨f.rules, rfl, fun r hr => ?_, fun p8 => ?_⟩
      · walk_at "wp"
        exact ⟨rfl, rfl⟩
      walk_at "wp"
      have e : f.rules.map (fun r => T.int r.start) = (f.rules.map (·.start)).map T.int := by rw [List.map_map]; rfl
      rw [e]
      refine k ⟨f.rules.map (·.start), ls⟩ m' (mk_BOk hf (by simp) h2 (fun x hx => ?_) h3 h4) (by omega)
      obtain ⟨r, hr, rfl⟩ := List.mem_map.mp hx
      exact fm.st r hr
abbrev F__law_a_run : PF := fun xs n K => ∃ (f : Fm) (s : Sd) (b many : Nat), xs = [.tape, .t (eF f), .t (eS s), .t (.int (many : Nat))] ∧ FOk f ∧ SOk f s b ∧ b + 3 * many ≤ 1000 ∧ n ≤ 990000 ∧ ∀ p (es : List Dd) m, Runs f s es → es.length = many → m ≤ n + many → K (.l p (es.map eD) true) m
theorem len__law_a_run : ∀ xs n K, F__law_a_run xs n K → xs.length = 4 := fun _ _ _ ⟨_, _, _, _, e, _⟩ => by rw [e]; rfl
abbrev N__law_a_run : List Str := ["_law_tape", "_law_form", "_law_stand", "_law_many", "_law_deeds", "_law_k", "_law_some"]
theorem sc__law_a_run : FnScope N__law_a_run ["_law_tape", "_law_form", "_law_stand", "_law_many"] (defScope s__law_a_run) := ⟨rfl, rfl, rfl, by decide +kernel, rfl, by decide +kernel, by decide +kernel⟩
theorem cal__law_a_run {P : Program} {w : World} {K : PySem.W.Frag} {mg : Str → Option Value} {base : Heap} {f : Addr} {fd : FuncData} (B : Bi mg) (c__law_may : Cal P w K mg base "_law_may" 3 ["_law_form", "_law_stand"] (spU F__law_may)) (c__law_after : Cal P w K mg base "_law_after" 2 ["_law_form", "_law_stand", "_law_deed"] (spU F__law_after)) (c__law_draw : Cal P w K mg base "_law_draw" 1 ["_law_tape", "_law_many"] (spU F__law_draw)) (F : Fun K "_law_a_run" "_law_a_run" s__law_a_run f fd) (gm : mg "_law_a_run" = some (.ref f)) : Cal P w K mg base "_law_a_run" 4 ["_law_tape", "_law_form", "_law_stand", "_law_many"] (spU F__law_a_run) := by
  have bn : Binds K fd ["_law_tape", "_law_form", "_law_stand", "_law_many"] [] := F.binds fun _ _ _ _ _ _ us hl => match us, hl with | [_, _, _, _], _ => rfl
  refine mk_cal (k := 3) F gm bn sc__law_a_run rfl len__law_a_run fun cdv A outer s H E hr => ?_
  have nd := (sc__law_a_run).nd
  apply Exists.intro
  apply And.intro
  · exact (pss_cons (ps_set (i := 4) nd rfl (Or.inl rfl) (pe_lst pa_nil))
    (pss_cons (ps_for PassesOwn.never rfl (pi_range1 (by rfl) B.range (pa_cons (pv 3) pa_nil)) (pg_name (i := 5) nd rfl (Or.inl rfl))
      (pss_cons (ps_set (i := 6) nd rfl (Or.inl rfl) (pe_cal c__law_may hr (by rfl) (pa_cons (pv 1) (pa_cons (pv 2) pa_nil))))
    (pss_cons (ps_expr (pe_bm PySem.F.plainAttrs_list PySem.F.slot_list_append PySem.F.type_list_append mt_append (pv 4) (pa_cons (pe_ix (ix_K (K := K)) (pv 6) (pe_cal c__law_draw hr (by rfl) (pa_cons (pv 0) (pa_cons (pe_callB (call_lenK (K := K)) (by rfl) B.len bt_len (pa_cons (pv 6) pa_nil)) pa_nil))) (fun _ _ => rfl)) pa_nil)))
    (pss_one (ps_set (i := 2) nd rfl (Or.inl rfl) (pe_cal c__law_after hr (by rfl) (pa_cons (pv 1) (pa_cons (pv 2) (pa_cons (pe_ix (ix_K (K := K)) (pv 4) (pv 5) (fun _ _ => rfl)) pa_nil)))))))))
    (pss_one (ps_ret (pv 4)))))
  · rintro xs n Kx ⟨f, s, b, many, rfl, hf, hs, hb, hn, k⟩
    refine bl_seq ?_
    walk_at "wps"
    intro p0
    walk_at "wps"
    refine bl_seq (bl_forS (α := Nat) [5, 6] (fun i => T.int (i : Nat)) (fun q : List Dd => [some .tape, some (.t (eF f)), some (.t (eS (walk f s q))), some (.t (.int (many : Nat))), some (.l p0 (q.map eD) true), none, none]) (fun i q m' => m' ≤ n + i ∧ q.length = i ∧ Runs f s q) (ei_rngN ?_))
    walk_at "wp"
    refine ⟨by omega, List.range many, [], rfl, rfl, ⟨by omega, rfl, trivial⟩, fun p hp => hp, fun i ii q m' hv ⟨h1, h2, h3⟩ => ?_, fun q m' ⟨h1, h2, h3⟩ => ?_⟩
    · have hi : i < many := by have := (List.getElem?_eq_some_iff.mp hv).1; rwa [List.length_range] at this
      rw [List.getElem?_range hi] at hv
      cases hv
      have hws := walk_ok hf q s b hs
      walk_at "wps"
      refine bl_seq ?_
      walk_at "wps"
      refine ⟨f, walk f s q, _, rfl, hf, hws, by omega, fun p2 ds d1 d2 d3 => ?_⟩
      have hdl : 0 < ds.length := List.length_pos_iff.mpr d1
      walk_at "wps"
      refine bl_seq (bl_append (j := 4) rfl (by rw [List.length_map]; show q.length < 100000; omega) ?_)
      walk_at "wp"
      rw [List.length_map]
      refine ⟨by omega, by omega, by omega, fun z z1 z2 => ?_⟩
      obtain ⟨zn, d, rfl, e1, e2⟩ := atI_ex z1 z2
      have hd := d3 d (List.mem_of_getElem? e1)
      walk_at "wp"
      refine wIxL (atI_map e1) ?_
      walk_at "wp"
      have e3 : q.map eD ++ [eD d] = (q ++ [d]).map eD := by rw [List.map_append]; rfl
      rw [e3]
      refine wIxL (atI_map (x := d) (by rw [List.getElem?_append_right (by omega), h2]; simp)) ?_
      walk_at "wp"
      refine ⟨f, walk f s q, d, _, rfl, hf, hws, by omega, hd.1, ?_⟩
      rw [eStep_yes hd.2]
      have ew : walk f s (q ++ [d]) = step f (walk f s q) d := by
        show List.foldl (step f) s (q ++ [d]) = _
        rw [List.foldl_append]
        rfl
      refine ⟨rfl, q ++ [d], by rw [ew]; rfl, by omega, by simp; omega, runs_snoc.mpr ⟨h3, hd.1, hd.2⟩⟩
    · rw [List.length_range] at h1 h2
      walk_at "wp"
      exact k _ q _ h3 h2 h1
abbrev F__law_some_cut : PF := fun xs n K => ∃ (f : Fm) (es : List Dd) (x : X), xs = [.tape, .t (eF f), x] ∧ DsX x (es.map eD) ∧ FOk f ∧ (∀ e ∈ es, DOk f e) ∧ es.length ≤ 5000 ∧ n ≤ 990000 ∧ ∀ (cut : List Int) m, cut.length = f.rules.length → (∀ c ∈ cut, 0 ≤ c ∧ c ≤ 5000) → m ≤ n + 10 → K (.t (.tup (cut.map T.int))) m
theorem len__law_some_cut : ∀ xs n K, F__law_some_cut xs n K → xs.length = 3 := fun _ _ _ ⟨_, _, _, e, _⟩ => by rw [e]; rfl
theorem ints_of : ∀ (ks : List Int) (es : List T), es.length = ks.length → (∀ (i : Nat) k e, ks[i]? = some k → es[i]? = some e → ∃ c : Int, e = .int c ∧ 0 ≤ c ∧ c ≤ k) → ∃ w : List Int, es = w.map T.int ∧ w.length = ks.length ∧ ∀ (i : Nat) x k, w[i]? = some x → ks[i]? = some k → 0 ≤ x ∧ x ≤ k
  | [], [], _, _ => ⟨[], rfl, rfl, by simp⟩
  | k :: ks, e :: es, hl, h => by
    obtain ⟨c, rfl, hc⟩ := h 0 k e rfl rfl
    obtain ⟨w, rfl, hl2, hw⟩ := ints_of ks es (by simpa using hl) fun i k' e' h1 h2 => h (i + 1) k' e' (by simpa using h1) (by simpa using h2)
    refine ⟨c :: w, rfl, by simp [hl2], fun i x k' h1 h2 => ?_⟩
    cases i with
    | zero => simp at h1 h2; subst h1 h2; exact hc
    | succ i => exact hw i x k' (by simpa using h1) (by simpa using h2)
abbrev N__law_some_cut : List Str := ["_law_tape", "_law_form", "_law_deeds", "_law_end"]
theorem sc__law_some_cut : FnScope N__law_some_cut ["_law_tape", "_law_form", "_law_deeds"] (defScope s__law_some_cut) := ⟨rfl, rfl, rfl, by decide +kernel, rfl, by decide +kernel, by decide +kernel⟩
theorem cal__law_some_cut {P : Program} {w : World} {K : PySem.W.Frag} {mg : Str → Option Value} {base : Heap} {f : Addr} {fd : FuncData} (B : Bi mg) (c__law_draw : Cal P w K mg base "_law_draw" 1 ["_law_tape", "_law_many"] (spU F__law_draw)) (c__law_all_ends : Cal P w K mg base "_law_all_ends" 2 ["_law_form", "_law_deeds"] (spU F__law_all_ends)) (F : Fun K "_law_some_cut" "_law_some_cut" s__law_some_cut f fd) (gm : mg "_law_some_cut" = some (.ref f)) : Cal P w K mg base "_law_some_cut" 3 ["_law_tape", "_law_form", "_law_deeds"] (spU F__law_some_cut) := by
  have bn : Binds K fd ["_law_tape", "_law_form", "_law_deeds"] [] := F.binds fun _ _ _ _ _ _ us hl => match us, hl with | [_, _, _], _ => rfl
  refine mk_cal (k := 2) F gm bn sc__law_some_cut rfl len__law_some_cut fun cdv A outer s H E hr => ?_
  have nd := (sc__law_some_cut).nd
  apply Exists.intro
  apply And.intro
  · exact (pss_one (ps_ret (pe_callTy (call_tupleK (K := K)) (by rfl) B.tuple bt_tuple (pa_cons (pe_lc (own := [("_law_end", 3)]) (g := (gName 3)) (tt := tYes) rfl nd (pi_seqU (pe_cal c__law_all_ends hr (by rfl) (pa_cons (pv 1) (pa_cons (pv 2) pa_nil)))) (blkOk_by (own := [("_law_end", 3)]) (N := N__law_some_cut) (sc := (defScope s__law_some_cut)) (by decide +kernel)) (fun _ _ _ _ _ => (pg_name (i := 3) nd rfl (Or.inl rfl))) (fun _ _ _ _ _ => pts_nil) (fun _ _ _ _ _ => (pe_cal c__law_draw hr (by rfl) (pa_cons (pv 0) (pa_cons (pe_op (op_addK (K := K)) (pv 3) pe_int) pa_nil))))) pa_nil))))
  · rintro xs n Kx ⟨f, es, x, rfl, hx, hf, hok, hel, hn, k⟩
    have hrl := hf.rl
    walk_at "wp"
    refine ev_lcD2 T.int (fun (k : Int) e => ∃ c : Int, e = .int c ∧ 0 ≤ c ∧ c ≤ k) (ei_tup ?_)
    refine ev_call (ea_cons (ev_varT (d := eF f) rfl (ea_cons (ev_var (x := x) rfl hx.arg.2 (ea_nil ?_)))))
    refine ⟨f, es, x, by show [_, x.rd.arg] = _; rw [hx.arg.1]; rfl, hx, hf, hok, hel, ?_⟩
    refine ⟨_, rfl, fun g => ⟨cnts f es, rfl, fun c m' hc hm' => ?_, fun p ds hdl hds => ?_⟩⟩
    · rw [cnts_len] at hm'
      have hc0 : 0 ≤ c ∧ c ≤ 5000 := by
        obtain ⟨m, hm, rfl⟩ := List.mem_map.mp hc
        have := cnt_le f es m
        omega
      walk_at "wp"
      refine ⟨by omega, by omega, by omega, fun z z1 z2 => ?_⟩
      exact ⟨_, rfl, ⟨z, rfl, z1, by omega⟩, rfl⟩
    · obtain ⟨w, rfl, h1, h2⟩ := ints_of (cnts f es) ds hdl hds
      rw [cnts_len] at h1
      walk_at "wp"
      refine k w _ h1 (fun c hc => ?_) (by rw [cnts_len]; omega)
      obtain ⟨i, hi, rfl⟩ := List.mem_iff_getElem.mp hc
      have hi2 : i < f.rules.length := by omega
      have := h2 i _ _ (List.getElem?_eq_getElem hi) (cnts_get hi2)
      have := cnt_le f es i
      omega
theorem right_nil {f : Fm} {s : Sd} (h : BOk f s) : Right f s [] (List.replicate f.rules.length none) := by
  refine ⟨h.rs, by simp, trivial, fun m p e => ?_, fun i r n e => absurd e (by simp)⟩
  rw [List.getElem?_replicate] at e
  split at e <;> cases e
abbrev F__law_reached : PF := fun xs n K => ∃ (f : Fm) (s : Sd) (many : Nat), xs = [.tape, .t (eF f), .t (eS s), .t (.int (many : Nat))] ∧ FOk f ∧ BOk f s ∧ many ≤ 12 ∧ n ≤ 990000 ∧ ∀ (es : List Dd) sn m, Right f s es sn → es.length ≤ 12 → m ≤ n + 12 → K (.t (eTk s es sn)) m
theorem len__law_reached : ∀ xs n K, F__law_reached xs n K → xs.length = 4 := fun _ _ _ ⟨_, _, _, e, _⟩ => by rw [e]; rfl
abbrev N__law_reached : List Str := ["_law_tape", "_law_form", "_law_base", "_law_many", "_law_taking", "_law_k", "_law_some"]
theorem sc__law_reached : FnScope N__law_reached ["_law_tape", "_law_form", "_law_base", "_law_many"] (defScope s__law_reached) := ⟨rfl, rfl, rfl, by decide +kernel, rfl, by decide +kernel, by decide +kernel⟩
theorem cal__law_reached {P : Program} {w : World} {K : PySem.W.Frag} {mg : Str → Option Value} {base : Heap} {f : Addr} {fd : FuncData} (B : Bi mg) (c__law_colours_may : Cal P w K mg base "_law_colours_may" 4 ["_law_form", "_law_taking"] (spU F__law_colours_may)) (c__law_colours_after : Cal P w K mg base "_law_colours_after" 6 ["_law_form", "_law_taking", "_law_deed"] (spU F__law_colours_after)) (c__law_draw : Cal P w K mg base "_law_draw" 1 ["_law_tape", "_law_many"] (spU F__law_draw)) (F : Fun K "_law_reached" "_law_reached" s__law_reached f fd) (gm : mg "_law_reached" = some (.ref f)) : Cal P w K mg base "_law_reached" 7 ["_law_tape", "_law_form", "_law_base", "_law_many"] (spU F__law_reached) := by
  have bn : Binds K fd ["_law_tape", "_law_form", "_law_base", "_law_many"] [] := F.binds fun _ _ _ _ _ _ us hl => match us, hl with | [_, _, _, _], _ => rfl
  refine mk_cal (k := 6) F gm bn sc__law_reached rfl len__law_reached fun cdv A outer s H E hr => ?_
  have nd := (sc__law_reached).nd
  apply Exists.intro
  apply And.intro
  · exact (pss_cons (ps_set (i := 4) nd rfl (Or.inl rfl) (pe_tup (pa_cons (pv 2) (pa_cons (pe_tup pa_nil) (pa_cons (pe_op (op_mulK (K := K)) (pe_tup (pa_cons pe_non pa_nil)) (pe_callB (call_lenK (K := K)) (by rfl) B.len bt_len (pa_cons (pe_ix (ix_K (K := K)) (pv 1) pe_int (fun _ _ => rfl)) pa_nil))) pa_nil)))))
    (pss_cons (ps_for PassesOwn.never rfl (pi_range1 (by rfl) B.range (pa_cons (pv 3) pa_nil)) (pg_name (i := 5) nd rfl (Or.inl rfl))
      (pss_cons (ps_set (i := 6) nd rfl (Or.inl rfl) (pe_cal c__law_colours_may hr (by rfl) (pa_cons (pv 1) (pa_cons (pv 4) pa_nil))))
    (pss_one (ps_set (i := 4) nd rfl (Or.inl rfl) (pe_cal c__law_colours_after hr (by rfl) (pa_cons (pv 1) (pa_cons (pv 4) (pa_cons (pe_ix (ix_K (K := K)) (pv 6) (pe_cal c__law_draw hr (by rfl) (pa_cons (pv 0) (pa_cons (pe_callB (call_lenK (K := K)) (by rfl) B.len bt_len (pa_cons (pv 6) pa_nil)) pa_nil))) (fun _ _ => rfl)) pa_nil))))))))
    (pss_one (ps_ret (pv 4)))))
  · rintro xs n Kx ⟨f, s, many, rfl, hf, hs, hm, hn, k⟩
    have hrl := hf.rl
    have h0 : 0 < f.rules.length := List.length_pos_iff.mpr hf.ne
    refine bl_seq ?_
    walk_at "wps"
    rw [List.length_map]
    refine wMulT (by simp) (by omega) (by omega) (by decide) ?_
    walk_at "wps"
    have e0 : (List.replicate ((f.rules.length : Nat) : Int).toNat [T.non]).flatten = (List.replicate f.rules.length (none : Option Int)).map eP := by
      rw [Int.toNat_natCast]
      generalize f.rules.length = k
      induction k with
      | zero => rfl
      | succ k ih => simp only [List.replicate_succ, List.flatten_cons, ih, List.map_cons]; rfl
    rw [e0]
    refine bl_seq (bl_forS (α := Nat) [5, 6] (fun i => T.int (i : Nat)) (fun q : Tk => [some .tape, some (.t (eF f)), some (.t (eS s)), some (.t (.int (many : Nat))), some (.t (eTk s q.1 q.2)), none, none]) (fun i q m' => m' ≤ n + i ∧ q.1.length ≤ i ∧ Right f s q.1 q.2) (ei_rngN ?_))
    walk_at "wp"
    refine ⟨by omega, List.range many, ([], List.replicate f.rules.length none), rfl, rfl, ⟨by omega, Nat.le_refl _, right_nil hs⟩, fun p hp => hp, fun i ii q m' hv ⟨h1, h2, h3⟩ => ?_, fun q m' ⟨h1, h2, h3⟩ => ?_⟩
    · have hi : i < many := by have := (List.getElem?_eq_some_iff.mp hv).1; rwa [List.length_range] at this
      rw [List.getElem?_range hi] at hv
      cases hv
      obtain ⟨es, sn⟩ := q
      dsimp only at h2 h3
      walk_at "wps"
      refine bl_seq ?_
      walk_at "wps"
      refine ⟨f, s, es, sn, rfl, hf, hs.ok, by omega, h3.run, h3.len, fun p2 ws w1 w2 w3 => ?_⟩
      have hwl : 0 < ws.length := List.length_pos_iff.mpr w1
      walk_at "wps"
      rw [List.length_map]
      refine ⟨by omega, by omega, by omega, fun z z1 z2 => ?_⟩
      obtain ⟨zn, w, rfl, e1, e2⟩ := atI_ex z1 z2
      have hw := w3 w (List.mem_of_getElem? e1)
      walk_at "wps"
      refine wIxL (atI_map e1) ?_
      walk_at "wps"
      refine ⟨f, s, es, sn, w, rfl, hf, hs.ok, by omega, h3.run, h3.len, hw, ?_⟩
      walk_at "wps"
      refine ⟨rfl, aft f s (es, sn) w, rfl, by omega, ?_, right_aft hf hs.ok h3 w hw⟩
      cases w with
      | bg m => show es.length ≤ i + 1; omega
      | dd d => show (es ++ [d]).length ≤ i + 1; simp; omega
    · rw [List.length_range] at h1 h2
      walk_at "wp"
      exact k _ _ _ h3 (by omega) (by omega)
end CK
/-! part M14 -/
set_option Elab.async false
set_option linter.all false
set_option maxRecDepth 100000
set_option maxHeartbeats 1000000
/-! Bent things: their shapes. -/
namespace CK
open PySem PySem.Spec PyProof.Rows L2
def odds : List T := [.bl true, .bl false, .non, .str "1", .int (-1), .int 99, .int 10000000000000000000, .tup [], .lst, .tup [.int 1]]
def Bent (ds : List T) (d : T) : Prop := d = .lst ∨ d = .non ∨ d = .tup [.tup ds] ∨ ∃ i, i ≤ ds.length ∧ (d = .tup (ds.take i ++ ds.drop (i + 1)) ∨ ∃ o ∈ odds, d = .tup (ds.take i ++ [o] ++ ds.drop i) ∨ d = .tup (ds.take i ++ [o] ++ ds.drop (i + 1)))
theorem odd_mild {o : T} (h : o ∈ odds) : o.mild ∧ o.nb ∧ o.sb := by
  unfold odds at h
  simp only [List.mem_cons, List.not_mem_nil, or_false] at h
  refine ⟨?_, fun s w e => ?_, fun a ls e => ?_⟩
  · rcases h with rfl | rfl | rfl | rfl | rfl | rfl | rfl | rfl | rfl | rfl <;> first
      | (simp [T.mild, milds]; done)
      | (simp [T.mild, milds]; decide)
  · rcases h with rfl | rfl | rfl | rfl | rfl | rfl | rfl | rfl | rfl | rfl <;> cases e
  · rcases h with rfl | rfl | rfl | rfl | rfl | rfl | rfl | rfl | rfl | rfl <;> cases e
theorem Bent.mild {ds : List T} {d : T} (h : Bent ds d) (md : ∀ x ∈ ds, x.mild) (hl : ds.length ≤ 15) : d.mild := by
  rcases h with rfl | rfl | rfl | ⟨i, hi, rfl | ⟨o, ho, rfl | rfl⟩⟩
  · simp [T.mild]
  · simp [T.mild]
  · refine tup_mild (fun x hx => ?_) (by simp)
    rw [List.mem_singleton.mp hx]
    exact tup_mild md (by omega)
  · refine tup_mild (fun x hx => ?_) (by simp; omega)
    rcases List.mem_append.mp hx with hx | hx
    · exact md x (List.mem_of_mem_take hx)
    · exact md x (List.mem_of_mem_drop hx)
  · refine tup_mild (fun x hx => ?_) (by simp; omega)
    rcases List.mem_append.mp hx with hx | hx
    · rcases List.mem_append.mp hx with hx | hx
      · exact md x (List.mem_of_mem_take hx)
      · rw [List.mem_singleton.mp hx]; exact (odd_mild ho).1
    · exact md x (List.mem_of_mem_drop hx)
  · refine tup_mild (fun x hx => ?_) (by simp; omega)
    rcases List.mem_append.mp hx with hx | hx
    · rcases List.mem_append.mp hx with hx | hx
      · exact md x (List.mem_of_mem_take hx)
      · rw [List.mem_singleton.mp hx]; exact (odd_mild ho).1
    · exact md x (List.mem_of_mem_drop hx)
/-- the items of a bent row -/
theorem Bent.items {ds xs : List T} (h : Bent ds (.tup xs)) : xs = [.tup ds] ∨ ∀ x ∈ xs, x ∈ ds ∨ x ∈ odds := by
  rcases h with h | h | h | ⟨i, hi, h | ⟨o, ho, h | h⟩⟩
  · cases h
  · cases h
  · exact .inl (T.tup.inj h)
  · refine .inr fun x hx => ?_
    rw [T.tup.inj h] at hx
    rcases List.mem_append.mp hx with hx | hx
    · exact .inl (List.mem_of_mem_take hx)
    · exact .inl (List.mem_of_mem_drop hx)
  · refine .inr fun x hx => ?_
    rw [T.tup.inj h] at hx
    rcases List.mem_append.mp hx with hx | hx
    · rcases List.mem_append.mp hx with hx | hx
      · exact .inl (List.mem_of_mem_take hx)
      · rw [List.mem_singleton.mp hx]; exact .inr ho
    · exact .inl (List.mem_of_mem_drop hx)
  · refine .inr fun x hx => ?_
    rw [T.tup.inj h] at hx
    rcases List.mem_append.mp hx with hx | hx
    · rcases List.mem_append.mp hx with hx | hx
      · exact .inl (List.mem_of_mem_take hx)
      · rw [List.mem_singleton.mp hx]; exact .inr ho
    · exact .inl (List.mem_of_mem_drop hx)
theorem sb_of {a : T} {ls : List T} (h : ∀ l ∈ ls, l.nb) : (T.tup [a, .tup ls]).sb := fun a' ls' e l hl => by
  simp only [T.tup.injEq, List.cons.injEq, and_true] at e
  rw [← e.2] at hl
  exact h l hl
theorem sb_no {a b : T} (h : ∀ ls, b ≠ .tup ls) : (T.tup [a, b]).sb := fun a' ls' e => by
  simp only [T.tup.injEq, List.cons.injEq, and_true] at e
  exact absurd e.2 (h ls')
theorem kb_of {a b c : T} (h : a.sb) : (T.tup [a, b, c]).kb := fun a' b' c' e => by
  simp only [T.tup.injEq, List.cons.injEq, and_true] at e
  rw [← e.1]; exact h
theorem wNeTup {ds : List T} {K : X → Prop} (h : noBs ds = true) (k : K (.t (.bl (!ds.isEmpty)))) : EqW true (.t (.tup ds)) (.t (.tup [])) K := by
  obtain ⟨ps, hp⟩ := pdsN ds h
  refine ⟨.tuple ps, .tuple [], by show (T.tup ds).pd = _; unfold T.pd; rw [hp], rfl, by simp [PyData.depth, PyData.depthAll], ?_⟩
  have e : PyData.eqv (.tuple ps) (.tuple []) = ds.isEmpty := by
    rw [PyData.eqv]
    cases ds with
    | nil => cases hp; rfl
    | cons d ds =>
      unfold pds at hp
      split at hp
      · cases hp; rfl
      · cases hp
  show K (.t (.bl (!PyData.eqv (.tuple ps) (.tuple []))))
  rw [e]; exact k
theorem noB_ld (l : Ld) : (eLd l).noB = true := by
  show ((T.int l.sent).noB && (noBs (l.w.map eLt) && true)) = true
  rw [noBs_map eLt noB_lt]
  rfl
end CK
/-! part D19 -/
set_option Elab.async false
set_option linter.all false
set_option maxRecDepth 100000
set_option maxHeartbeats 2000000
/-! Bent things. -/
namespace CK
open PySem PySem.Spec PyProof.Rows L2
local macro_rules | `(tactic| walk_at "wp0") => `(tactic| first
  | ((with_reducible refine bl_retL (a := ?va) (ds := ?vd) ?vh ?_); (case vh => exact rfl))
  | ((with_reducible refine bl_retD (a := ?va) (ds := ?vd) ?vh ?_); (case vh => exact rfl))
  | (with_reducible refine bl_ret ?_)
  | (with_reducible refine bl_if ?_)
  | (with_reducible refine bl_asg ?_)
  | (with_reducible refine bl_asgP ?_)
  | (with_reducible refine bl_next ?_)
  | (with_reducible refine et_test ?_)
  | (with_reducible refine et_B ?_)
  | (with_reducible refine et_and ?_)
  | (with_reducible refine et_or ?_)
  | (with_reducible refine et_not ?_)
  | (with_reducible refine et_yes ?_)
  | ((with_reducible refine ev_varT (d := ?vd) ?vh ?_); (case vh => exact rfl))
  | ((with_reducible refine ev_varL (a := ?va) (ds := ?vd) (o := ?vo) ?vh ?_); (case vh => exact rfl))
  | ((with_reducible refine ev_varD (a := ?va) (kvs := ?vd) (o := ?vo) ?vh ?_); (case vh => exact rfl))
  | ((with_reducible refine ev_varP ?vh ?_); (case vh => exact rfl))
  | (with_reducible refine ev_int ?_)
  | (with_reducible refine ev_str ?_)
  | (with_reducible refine ev_bl ?_)
  | (with_reducible refine ev_non ?_)
  | (with_reducible refine ev_ty ?_)
  | (with_reducible refine ev_op ro_ix ?_)
  | (with_reducible refine ev_op ro_eq ?_)
  | (with_reducible refine ev_op ro_is ?_)
  | (with_reducible refine ev_op ro_cmp ?_)
  | (with_reducible refine ev_op ro_add ?_)
  | (with_reducible refine ev_op ro_sub ?_)
  | (with_reducible refine ev_op ro_mul ?_)
  | (with_reducible refine ev_op ro_mod ?_)
  | (with_reducible refine ev_op ro_div ?_)
  | (with_reducible refine ev_op ro_pow ?_)
  | (with_reducible refine ev_op ro_in ?_)
  | (with_reducible refine ev_neg ?_)
  | (with_reducible refine ev_cb rc_len ?_)
  | (with_reducible refine ev_cb rc_isi ?_)
  | (with_reducible refine ev_cb rc_all ?_)
  | (with_reducible refine ev_cb rc_list ?_)
  | (with_reducible refine ev_cb rc_tuple ?_)
  | (with_reducible refine ev_cb rc_int ?_)
  | (with_reducible refine ev_cb rc_max ?_)
  | (with_reducible refine ea_cons ?_)
  | (with_reducible refine ea_nil ?_)
  | (with_reducible refine ev_tup ?_)
  | (with_reducible refine ev_lst ?_)
  | (with_reducible refine ev_sl ?_)
  | (with_reducible refine eo_none ?_)
  | (with_reducible refine eo_some ?_)
  | (with_reducible refine ev_dget ?_)
  | (with_reducible refine ev_dnew ?_)
  | (with_reducible refine ev_if ?_)
  | (with_reducible refine ev_and ?_)
  | (with_reducible refine ev_or ?_)
  | (with_reducible refine ev_not ?_)
  | (with_reducible refine ev_chain ro_cmp ro_cmp ?_)
  | (with_reducible refine ev_call ?_)
  | (with_reducible refine ev_lrg2 ?_)
  | (with_reducible refine wAddI ?_)
  | (with_reducible refine wSub ?_)
  | (with_reducible refine wEqI ?_)
  | (with_reducible refine wEqS ?_)
  | (with_reducible refine wNeI ?_)
  | (with_reducible refine wNeS ?_)
  | (with_reducible refine wCmp ?_)
  | (with_reducible refine wLenT ?_)
  | (with_reducible refine wLenL ?_)
  | (with_reducible refine wTupT ?_)
  | (with_reducible refine wTupL ?_)
  | (with_reducible refine wIsN ?_)
  | (with_reducible refine wNotN ?_)
  | (with_reducible refine wIsB ?_)
  | (with_reducible refine wInt ?_)
  | (with_reducible refine wMax ?_)
  | (with_reducible refine wListT ?_; intro _)
  | (with_reducible refine wListL ?_; intro _)
  | (with_reducible refine wSlT ?_)
  | ((with_reducible refine wIxT (d := ?vd) ?vh ?_); (case vh => exact rfl))
  | (refine wIxT atI_c0 ?_)
  | (refine wIxT atI_c1 ?_)
  | (refine wIxT atI_c2 ?_)
  | ((with_reducible refine wIxL (d := ?vd) ?vh ?_); (case vh => exact rfl))
  | ((with_reducible refine wIsi (b := ?vd) ?vh ?_); (case vh => exact rfl))
  | ((with_reducible refine wIsiL (b := ?vd) ?vh ?_); (case vh => exact rfl))
  | (with_reducible refine tg_tup rfl ?_)
  | (with_reducible refine tgs_cons ?_)
  | (with_reducible refine tgs_nil ?_)
  | ((with_reducible refine tg_name ?vh ?_); (case vh => decide))
  | (with_reducible refine ⟨_, rfl, ?_⟩)
  | (with_reducible refine ⟨_, _, rfl, ?_⟩)
  | (with_reducible refine ⟨_, _, rfl, rfl, ?_⟩)
  | (with_reducible refine ⟨_, _, _, rfl, ?_⟩)
  | (refine And.intro (show List.length _ ≤ lim from Nat.le_of_ble_eq_true rfl) ?_)
  | (with_reducible refine seqK_nx ?_)
  | (with_reducible refine seqK_rt ?_)
  | (with_reducible refine seqK_ex ?_)
  | fail "wp0: no step")
local macro_rules | `(tactic| walk_at "wp1") => `(tactic| first | (with_reducible refine bl_seq ?_) | walk_at "wp0")
local macro_rules | `(tactic| walk_at "wps") => `(tactic| repeat (walk_at "wp0"))
local macro_rules | `(tactic| walk_at "wp") => `(tactic| repeat (walk_at "wp1"))
abbrev F__law_bent_row : PF := fun xs n K => ∃ ds : List T, xs = [.tape, .t (.tup ds)] ∧ ds.length ≤ 16 ∧ n ≤ 990000 ∧ ∀ d m, Bent ds d → m ≤ n + 3 → K (.t d) m
theorem len__law_bent_row : ∀ xs n K, F__law_bent_row xs n K → xs.length = 2 := fun _ _ _ ⟨_, e, _⟩ => by rw [e]; rfl
theorem cut_succ {ds : List T} (j : Nat) : cutA ds (some ((j : Int) + 1)) none = ds.drop (j + 1) := cutA_drop ds (j + 1)
abbrev N__law_bent_row : List Str := ["_law_tape", "_law_row", "_law_at", "_law_odd", "_law_some"]
theorem sc__law_bent_row : FnScope N__law_bent_row ["_law_tape", "_law_row"] (defScope s__law_bent_row) := ⟨rfl, rfl, rfl, by decide +kernel, rfl, by decide +kernel, by decide +kernel⟩
theorem cal__law_bent_row {P : Program} {w : World} {K : PySem.W.Frag} {mg : Str → Option Value} {base : Heap} {f : Addr} {fd : FuncData} (B : Bi mg) (c__law_draw : Cal P w K mg base "_law_draw" 1 ["_law_tape", "_law_many"] (spU F__law_draw)) (F : Fun K "_law_bent_row" "_law_bent_row" s__law_bent_row f fd) (gm : mg "_law_bent_row" = some (.ref f)) : Cal P w K mg base "_law_bent_row" 2 ["_law_tape", "_law_row"] (spU F__law_bent_row) := by
  have bn : Binds K fd ["_law_tape", "_law_row"] [] := F.binds fun _ _ _ _ _ _ us hl => match us, hl with | [_, _], _ => rfl
  refine mk_cal (k := 1) F gm bn sc__law_bent_row rfl len__law_bent_row fun cdv A outer s H E hr => ?_
  have nd := (sc__law_bent_row).nd
  apply Exists.intro
  apply And.intro
  · exact (pss_cons (ps_set (i := 2) nd rfl (Or.inl rfl) (pe_cal c__law_draw hr (by rfl) (pa_cons (pv 0) (pa_cons (pe_op (op_addK (K := K)) (pe_callB (call_lenK (K := K)) (by rfl) B.len bt_len (pa_cons (pv 1) pa_nil)) pe_int) pa_nil))))
    (pss_cons (ps_set (i := 3) nd rfl (Or.inl rfl) (pe_ix (ix_K (K := K)) (pe_lst (pa_cons pe_bl (pa_cons pe_bl (pa_cons pe_non (pa_cons pe_str (pa_cons (pe_un un_neg pe_int) (pa_cons pe_int (pa_cons (pe_op op_pow pe_int pe_int) (pa_cons (pe_tup pa_nil) (pa_cons (pe_lst (pa_cons pe_int pa_nil)) (pa_cons (pe_tup (pa_cons pe_int pa_nil)) pa_nil))))))))))) (pe_cal c__law_draw hr (by rfl) (pa_cons (pv 0) (pa_cons pe_int pa_nil))) (fun _ _ => rfl)))
    (pss_cons (ps_set (i := 4) nd rfl (Or.inl rfl) (pe_lst (pa_cons (pe_callTy (call_listK (K := K)) (by rfl) B.list bt_list (pa_cons (pv 1) pa_nil)) (pa_cons (pe_op (op_addK (K := K)) (pe_slice (sl_K (K := K)) (pv 1) po_none (po_some (pv 2))) (pe_slice (sl_K (K := K)) (pv 1) (po_some (pe_op (op_addK (K := K)) (pv 2) pe_int)) po_none)) (pa_cons (pe_op (op_addK (K := K)) (pe_op (op_addK (K := K)) (pe_slice (sl_K (K := K)) (pv 1) po_none (po_some (pv 2))) (pe_tup (pa_cons (pv 3) pa_nil))) (pe_slice (sl_K (K := K)) (pv 1) (po_some (pv 2)) po_none)) (pa_cons pe_non (pa_cons (pe_tup (pa_cons (pv 1) pa_nil)) pa_nil)))))))
    (pss_one (ps_ret (pe_ix (ix_K (K := K)) (pe_op (op_addK (K := K)) (pv 4) (pe_op (op_mulK (K := K)) (pe_lst (pa_cons (pe_op (op_addK (K := K)) (pe_op (op_addK (K := K)) (pe_slice (sl_K (K := K)) (pv 1) po_none (po_some (pv 2))) (pe_tup (pa_cons (pv 3) pa_nil))) (pe_slice (sl_K (K := K)) (pv 1) (po_some (pe_op (op_addK (K := K)) (pv 2) pe_int)) po_none)) pa_nil)) pe_int)) (pe_cal c__law_draw hr (by rfl) (pa_cons (pv 0) (pa_cons pe_int pa_nil))) (fun _ _ => rfl)))))))
  · rintro xs n Kx ⟨ds, rfl, hl, hn, k⟩
    refine bl_seq ?_
    walk_at "wps"
    refine ⟨by omega, by omega, by omega, fun y y1 y2 => ?_⟩
    obtain ⟨j, rfl⟩ : ∃ j : Nat, y = (j : Nat) := ⟨y.toNat, by omega⟩
    have hj : j ≤ ds.length := by omega
    walk_at "wps"
    refine bl_seq ?_
    walk_at "wps"
    refine wPow ⟨by decide, by decide, by decide⟩ ?_
    walk_at "wps"
    intro p0
    walk_at "wps"
    intro p1
    walk_at "wps"
    refine ⟨by omega, by omega, by omega, fun z z1 z2 => ?_⟩
    walk_at "wps"
    refine wIxD z1 z2 fun o ho => ?_
    have ho' : o ∈ odds := by
      have e : (10 : Int) ^ Int.toNat 19 = 10000000000000000000 := by decide
      rw [e] at ho
      exact ho
    clear ho
    have c1 : (ds.take j ++ ds.drop (j + 1)).length ≤ 40 := by simp; omega
    have c2 : (ds.take j ++ [o]).length ≤ 40 := by simp; omega
    have c3 : (ds.take j ++ [o] ++ ds.drop j).length ≤ 40 := by simp; omega
    have c4 : (ds.take j ++ [o] ++ ds.drop (j + 1)).length ≤ 40 := by simp; omega
    walk_at "wps"
    refine bl_seq ?_
    walk_at "wps"
    rw [cutA_take, cut_succ]
    refine wAddT (Nat.le_trans c1 (by decide)) ?_
    walk_at "wps"
    rw [cutA_take]
    refine wAddT (Nat.le_trans c2 (by decide)) ?_
    walk_at "wps"
    rw [cutA_drop]
    refine wAddT (Nat.le_trans c3 (by decide)) ?_
    walk_at "wps"
    intro p3
    walk_at "wp"
    rw [cutA_take]
    refine wAddT (Nat.le_trans c2 (by decide)) ?_
    walk_at "wp"
    rw [cut_succ]
    refine wAddT (Nat.le_trans c4 (by decide)) ?_
    walk_at "wp"
    intro p4
    walk_at "wp"
    refine wMulL (by omega) (by omega) (Nat.le_of_ble_eq_true rfl) fun p5 => ?_
    refine wAddL (by show _ ≤ lim; exact Nat.le_of_ble_eq_true rfl) fun p6 => ?_
    walk_at "wp"
    refine ⟨by omega, by omega, by omega, fun u u1 u2 => ?_⟩
    refine wIxD u1 u2 fun d hd => ?_
    refine k d _ ?_ (by omega)
    simp only [List.replicate, List.flatten, List.mem_append, List.mem_cons, List.not_mem_nil, or_false] at hd
    have hd' : (d = .lst ∨ d = .tup (ds.take j ++ ds.drop (j + 1)) ∨ d = .tup (ds.take j ++ [o] ++ ds.drop j) ∨ d = .non ∨ d = .tup [.tup ds]) ∨ d = .tup (ds.take j ++ [o] ++ ds.drop (j + 1)) := by
      rcases hd with h | h
      · exact .inl h
      · have h' : d ∈ [T.tup (ds.take j ++ [o] ++ ds.drop (j + 1)), T.tup (ds.take j ++ [o] ++ ds.drop (j + 1)), T.tup (ds.take j ++ [o] ++ ds.drop (j + 1))] := h
        simp only [List.mem_cons, List.not_mem_nil, or_false, or_self] at h'
        exact .inr h'
    rcases hd' with (h | h | h | h | h) | h
    · exact .inl h
    · exact .inr (.inr (.inr ⟨j, hj, .inl h⟩))
    · exact .inr (.inr (.inr ⟨j, hj, .inr ⟨o, ho', .inl h⟩⟩))
    · exact .inr (.inl h)
    · exact .inr (.inr (.inl h))
    · exact .inr (.inr (.inr ⟨j, hj, .inr ⟨o, ho', .inr h⟩⟩))
theorem ints_nb {l : List Int} : ∀ x ∈ l.map T.int, x.nb := fun x hx => by
  obtain ⟨i, _, rfl⟩ := List.mem_map.mp hx
  exact fun s w e => by cases e
abbrev F__law_bent_stand : PF := fun xs n K => ∃ (f : Fm) (s : Sd), xs = [.tape, .t (eS s)] ∧ FOk f ∧ BOk f s ∧ n ≤ 980000 ∧ ∀ (d : T) m, d.mild → d.sb → m ≤ n + 20 → K (.t d) m
theorem len__law_bent_stand : ∀ xs n K, F__law_bent_stand xs n K → xs.length = 2 := fun _ _ _ ⟨_, _, e, _⟩ => by rw [e]; rfl
theorem bent_sb {a : T} {ls : List Ld} {d : T} (h : Bent (ls.map eLd) d) (hl : ∀ l ∈ ls, l.sent ≤ 1000000000) : (T.tup [a, d]).sb := by
  cases d with
  | tup xs =>
    refine sb_of fun x hx => ?_
    rcases h.items with e | e
    · rw [e] at hx
      rw [List.mem_singleton.mp hx]
      intro s w e2
      cases ls with
      | nil => cases e2
      | cons l ls => cases e2
    · rcases e x hx with h1 | h1
      · obtain ⟨l, hl2, rfl⟩ := List.mem_map.mp h1
        exact ld_nb (hl l hl2)
      · exact (odd_mild h1).2.1
  | _ => exact sb_no fun ls e => by cases e
abbrev N__law_bent_stand : List Str := ["_law_tape", "_law_stand", "_law_states", "_law_roads", "_law_at", "_law_some", "_law_state", "_law_sent", "_law_waiting", "_law_load"]
theorem sc__law_bent_stand : FnScope N__law_bent_stand ["_law_tape", "_law_stand"] (defScope s__law_bent_stand) := ⟨rfl, rfl, rfl, by decide +kernel, rfl, by decide +kernel, by decide +kernel⟩
theorem cal__law_bent_stand {P : Program} {w : World} {K : PySem.W.Frag} {mg : Str → Option Value} {base : Heap} {f : Addr} {fd : FuncData} (B : Bi mg) (c__law_draw : Cal P w K mg base "_law_draw" 1 ["_law_tape", "_law_many"] (spU F__law_draw)) (c__law_bent_row : Cal P w K mg base "_law_bent_row" 2 ["_law_tape", "_law_row"] (spU F__law_bent_row)) (F : Fun K "_law_bent_stand" "_law_bent_stand" s__law_bent_stand f fd) (gm : mg "_law_bent_stand" = some (.ref f)) : Cal P w K mg base "_law_bent_stand" 3 ["_law_tape", "_law_stand"] (spU F__law_bent_stand) := by
  have bn : Binds K fd ["_law_tape", "_law_stand"] [] := F.binds fun _ _ _ _ _ _ us hl => match us, hl with | [_, _], _ => rfl
  refine mk_cal (k := 2) F gm bn sc__law_bent_stand rfl len__law_bent_stand fun cdv A outer s H E hr => ?_
  have nd := (sc__law_bent_stand).nd
  apply Exists.intro
  apply And.intro
  · exact (pss_cons (ps_asg (pv 1) (pg_tup rfl (pgs_cons (pg_name (i := 2) nd rfl (Or.inl rfl)) (pgs_cons (pg_name (i := 3) nd rfl (Or.inl rfl)) pgs_nil))))
    (pss_cons (ps_set (i := 4) nd rfl (Or.inl rfl) (pe_cal c__law_draw hr (by rfl) (pa_cons (pv 0) (pa_cons (pe_callB (call_lenK (K := K)) (by rfl) B.len bt_len (pa_cons (pv 2) pa_nil)) pa_nil))))
    (pss_cons (ps_set (i := 5) nd rfl (Or.inl rfl) (pe_lst (pa_cons (pe_tup (pa_cons (pe_cal c__law_bent_row hr (by rfl) (pa_cons (pv 0) (pa_cons (pv 2) pa_nil))) (pa_cons (pv 3) pa_nil))) (pa_cons (pe_tup (pa_cons (pv 2) (pa_cons (pe_cal c__law_bent_row hr (by rfl) (pa_cons (pv 0) (pa_cons (pv 3) pa_nil))) pa_nil))) pa_nil))))
    (pss_cons (ps_for PassesOwn.never rfl (pi_seqU (pe_lst (pa_cons (pe_op (op_addK (K := K)) (pe_ix (ix_K (K := K)) (pv 2) (pv 4) (fun _ _ => rfl)) pe_int) (pa_cons (pe_cmpR (op_eqK (K := K) hr.units) (pe_ix (ix_K (K := K)) (pv 2) (pv 4) (fun _ _ => rfl)) pe_int (nomark _)) pa_nil)))) (pg_name (i := 6) nd rfl (Or.inl rfl))
      (pss_one (ps_expr (pe_bm PySem.F.plainAttrs_list PySem.F.slot_list_append PySem.F.type_list_append mt_append (pv 5) (pa_cons (pe_tup (pa_cons (pe_op (op_addK (K := K)) (pe_op (op_addK (K := K)) (pe_slice (sl_K (K := K)) (pv 2) po_none (po_some (pv 4))) (pe_tup (pa_cons (pv 6) pa_nil))) (pe_slice (sl_K (K := K)) (pv 2) (po_some (pe_op (op_addK (K := K)) (pv 4) pe_int)) po_none)) (pa_cons (pv 3) pa_nil))) pa_nil)))))
    (pss_cons (ps_if (pt_cmpR (op_neK (K := K) hr.units) (pv 3) (pe_tup pa_nil) (nomark _)) (pss_cons (ps_set (i := 4) nd rfl (Or.inl rfl) (pe_cal c__law_draw hr (by rfl) (pa_cons (pv 0) (pa_cons (pe_callB (call_lenK (K := K)) (by rfl) B.len bt_len (pa_cons (pv 3) pa_nil)) pa_nil))))
    (pss_cons (ps_asg (pe_ix (ix_K (K := K)) (pv 3) (pv 4) (fun _ _ => rfl)) (pg_tup rfl (pgs_cons (pg_name (i := 7) nd rfl (Or.inl rfl)) (pgs_cons (pg_name (i := 8) nd rfl (Or.inl rfl)) pgs_nil))))
    (pss_one (ps_for PassesOwn.never rfl (pi_seqU (pe_lst (pa_cons (pe_tup (pa_cons (pv 7) (pa_cons (pe_op (op_addK (K := K)) (pv 8) (pe_tup (pa_cons (pe_tup (pa_cons (pv 7) (pa_cons pe_str pa_nil))) pa_nil))) pa_nil))) (pa_cons (pe_tup (pa_cons (pv 7) (pa_cons (pe_slice (sl_K (K := K)) (pv 8) (po_some pe_int) po_none) pa_nil))) (pa_cons (pe_tup (pa_cons (pe_op (op_addK (K := K)) (pv 7) pe_int) (pa_cons (pv 8) pa_nil))) pa_nil))))) (pg_name (i := 9) nd rfl (Or.inl rfl))
      (pss_one (ps_expr (pe_bm PySem.F.plainAttrs_list PySem.F.slot_list_append PySem.F.type_list_append mt_append (pv 5) (pa_cons (pe_tup (pa_cons (pv 2) (pa_cons (pe_op (op_addK (K := K)) (pe_op (op_addK (K := K)) (pe_slice (sl_K (K := K)) (pv 3) po_none (po_some (pv 4))) (pe_tup (pa_cons (pv 9) pa_nil))) (pe_slice (sl_K (K := K)) (pv 3) (po_some (pe_op (op_addK (K := K)) (pv 4) pe_int)) po_none)) pa_nil))) pa_nil)))))))) pss_nil)
    (pss_one (ps_ret (pe_ix (ix_K (K := K)) (pv 5) (pe_cal c__law_draw hr (by rfl) (pa_cons (pv 0) (pa_cons (pe_callB (call_lenK (K := K)) (by rfl) B.len bt_len (pa_cons (pv 5) pa_nil)) pa_nil))) (fun _ _ => rfl)))))))))
  · rintro xs n Kx ⟨f, s, rfl, hf, hb, hn, k⟩
    have hrl := hf.rl
    have hrd := hf.rd
    have hst := hb.ok.st
    have hld := hb.ok.ld
    have h0 : 0 < f.rules.length := List.length_pos_iff.mpr hf.ne
    have mst : ∀ x ∈ s.st.map T.int, x.mild := fun x hx => by
      obtain ⟨i, _, rfl⟩ := List.mem_map.mp hx
      simp [T.mild]
    have mld : ∀ x ∈ s.ld.map eLd, x.mild := fun x hx => by
      obtain ⟨l, hl, rfl⟩ := List.mem_map.mp hx
      have := hb.w l hl
      exact ld_mild (by omega) this.2.2
    have nld : ∀ l ∈ s.ld, l.sent ≤ 1000000000 := fun l hl => by have := (hb.w l hl).2.1; omega
    have sld : ∀ {a : T}, (T.tup [a, .tup (s.ld.map eLd)]).sb := fun {a} => sb_of fun x hx => by
      obtain ⟨l, hl, rfl⟩ := List.mem_map.mp hx
      exact ld_nb (nld l hl)
    have two : ∀ {a b : T}, a.mild → b.mild → (T.tup [a, b]).mild := fun {a b} ha hb => tup_mild (fun x hx => by
      rcases List.mem_cons.mp hx with rfl | hx
      · exact ha
      · rw [List.mem_singleton.mp hx]; exact hb) (by simp)
    have mS := tup_mild mst (by rw [List.length_map]; omega)
    have mL := tup_mild mld (by rw [List.length_map]; omega)
    refine bl_seq ?_
    walk_at "wps"
    refine bl_seq ?_
    walk_at "wps"
    rw [List.length_map]
    refine ⟨by omega, by omega, by omega, fun y y1 y2 => ?_⟩
    obtain ⟨j, x, rfl, e1, e2⟩ := atI_ex y1 y2
    have hj := (List.getElem?_eq_some_iff.mp e1).1
    walk_at "wps"
    refine bl_seq ?_
    walk_at "wps"
    refine ⟨by rw [List.length_map]; omega, by omega, fun d1 m1 hd1 hm1 => ?_⟩
    walk_at "wps"
    refine ⟨by rw [List.length_map]; omega, by omega, fun d2 m2 hd2 hm2 => ?_⟩
    walk_at "wps"
    intro p0
    walk_at "wps"
    have good1 : (T.tup [d1, .tup (s.ld.map eLd)]).mild ∧ (T.tup [d1, .tup (s.ld.map eLd)]).sb := ⟨two (hd1.mild mst (by rw [List.length_map]; omega)) mL, sld⟩
    have good2 : (T.tup [.tup (s.st.map T.int), d2]).mild ∧ (T.tup [.tup (s.st.map T.int), d2]).sb := ⟨two mS (hd2.mild mld (by rw [List.length_map]; omega)), bent_sb hd2 nld⟩
    refine bl_seq (bl_forS (α := T) [6] (fun d => d) (fun q : List T => [some .tape, some (.t (eS s)), some (.t (.tup (s.st.map T.int))), some (.t (.tup (s.ld.map eLd))), some (.t (.int (j : Nat))), some (.l p0 q true), none, none, none, none]) (fun i q m' => m' = m2 ∧ q.length = 2 + i ∧ ∀ d ∈ q, d.mild ∧ d.sb) (ei_new ?_))
    walk_at "wp"
    refine wIxT (atI_map e1) ?_
    walk_at "wp"
    refine wIxT (atI_map e1) ?_
    walk_at "wp"
    intro p1
    walk_at "wp"
    intro g
    refine ⟨_, [_, _], (List.map_id' _).symm, rfl, ⟨rfl, rfl, fun d hd => ?_⟩, fun p hp => List.mem_cons_of_mem _ hp, fun i d q m' hv ⟨em, h1, h2⟩ => ?_, fun q m' ⟨em, h1, h2⟩ => ?_⟩
    · rcases List.mem_cons.mp hd with rfl | hd
      · exact good1
      · rw [List.mem_singleton.mp hd]; exact good2
    · subst em
      have hi := (List.getElem?_eq_some_iff.mp hv).1
      have hi2 : i < 2 := hi
      have md : d.mild := by
        have := List.mem_of_getElem? hv
        rcases List.mem_cons.mp this with rfl | this
        · simp [T.mild]
        · rw [List.mem_singleton.mp this]; simp [T.mild]
      walk_at "wp"
      refine bl_append (j := 5) rfl (by show q.length < 100000; omega) ?_
      walk_at "wp"
      rw [cutA_take]
      refine wAddT (by simp; show _ ≤ 100000; omega) ?_
      walk_at "wp"
      rw [cut_succ]
      refine wAddT (by simp; show _ ≤ 100000; omega) ?_
      walk_at "wp"
      refine ⟨rfl, q ++ [_], rfl, rfl, by simp; omega, fun d' hd' => ?_⟩
      rcases List.mem_append.mp hd' with hd' | hd'
      · exact h2 d' hd'
      · rw [List.mem_singleton.mp hd']
        refine ⟨two (tup_mild (fun x hx => ?_) (by simp; omega)) mL, sld⟩
        rcases List.mem_append.mp hx with hx | hx
        · rcases List.mem_append.mp hx with hx | hx
          · exact mst x (List.mem_of_mem_take hx)
          · rw [List.mem_singleton.mp hx]; exact md
        · exact mst x (List.mem_of_mem_drop hx)
    subst em
    have h1' : q.length = 4 := h1
    walk_at "wps"
    refine bl_seqC (fun ρ m3 => m3 ≤ m' + 1 ∧ ρ.g = [] ∧ ∃ q', wipeL ρ.s [4, 7, 8, 9] = [some .tape, some (.t (eS s)), some (.t (.tup (s.st.map T.int))), some (.t (.tup (s.ld.map eLd))), none, some (.l p0 q' true), none, none, none, none] ∧ q'.length ≤ 7 ∧ q' ≠ [] ∧ ∀ d ∈ q', d.mild ∧ d.sb) ?_ ?_
    · walk_at "wp"
      refine wNeTup (noBs_map eLd noB_ld _) ?_
      walk_at "wp"
      cases hls : s.ld with
      | nil =>
        refine ⟨fun z => (by cases z), fun _ => bl_next ?_⟩
        exact ⟨by omega, rfl, q, by rfl, by omega, (fun z => by rw [z] at h1'; cases h1'), h2⟩
      | cons l0 lr =>
        rw [← hls]
        refine ⟨fun _ => ?_, fun z => absurd z (by simp [hls])⟩
        refine bl_seq ?_
        walk_at "wps"
        rw [List.length_map]
        have hls2 : 0 < s.ld.length := by rw [hls]; simp
        refine ⟨by omega, by omega, by omega, fun z z1 z2 => ?_⟩
        obtain ⟨i, l, rfl, e3, e4⟩ := atI_ex z1 z2
        have hl := hb.w l (List.mem_of_getElem? e3)
        walk_at "wps"
        refine bl_seq ?_
        walk_at "wps"
        refine wIxT (atI_map e3) ?_
        walk_at "wps"
        refine bl_forS (α := Ld) [9] eLd (fun q' : List T => [some .tape, some (.t (eS s)), some (.t (.tup (s.st.map T.int))), some (.t (.tup (s.ld.map eLd))), some (.t (.int (i : Nat))), some (.l p0 q' true), none, some (.t (.int l.sent)), some (.t (.tup (l.w.map eLt))), none]) (fun k q' m3 => m3 = m' + 1 ∧ q'.length = 4 + k ∧ ∀ d ∈ q', d.mild ∧ d.sb) (ei_new ?_)
        walk_at "wp"
        refine wAddT (by simp; show _ ≤ 100000; omega) ?_
        walk_at "wp"
        intro p2
        walk_at "wp"
        intro g2
        have hil := (List.getElem?_eq_some_iff.mp e3).1
        refine ⟨[⟨l.sent, l.w ++ [(l.sent, ("a" : Str))]⟩, ⟨l.sent, l.w.drop 1⟩, ⟨l.sent + 1, l.w⟩], q, ?_, rfl, ⟨rfl, h1', h2⟩, fun p hp => List.mem_cons_of_mem _ hp, fun k ld q' m3 hv ⟨em, g1, g2⟩ => ?_, fun q' m3 ⟨em, g1, g2⟩ => ?_⟩
        · have e5 : cutA (l.w.map eLt) (some 1) none = (l.w.drop 1).map eLt := by rw [List.map_drop]; exact cutA_drop _ 1
          rw [e5]
          simp
        · subst em
          have hk : k < 3 := (List.getElem?_eq_some_iff.mp hv).1
          have hld2 : (eLd ld).mild ∧ (eLd ld).nb := by
            have := List.mem_of_getElem? hv
            simp only [List.mem_cons, List.not_mem_nil, or_false] at this
            rcases this with rfl | rfl | rfl
            · refine ⟨ld_mild (by simp; omega) fun x hx => ?_, ld_nb (by show l.sent ≤ _; omega)⟩
              rcases List.mem_append.mp hx with hx | hx
              · exact hl.2.2 x hx
              · rw [List.mem_singleton.mp hx]
                show isSign (.str "a") = true
                decide +kernel
            · exact ⟨ld_mild (by show (l.w.drop 1).length ≤ 4; simp; omega) fun x hx => hl.2.2 x (List.mem_of_mem_drop hx), ld_nb (by show l.sent ≤ _; omega)⟩
            · exact ⟨ld_mild (by show l.w.length ≤ 4; omega) hl.2.2, ld_nb (by show l.sent + 1 ≤ _; omega)⟩
          walk_at "wp"
          refine bl_append (j := 5) rfl (by show q'.length < 100000; omega) ?_
          walk_at "wp"
          rw [cutA_take]
          refine wAddT (by simp; show _ ≤ 100000; omega) ?_
          walk_at "wp"
          rw [cut_succ]
          refine wAddT (by simp; show _ ≤ 100000; omega) ?_
          walk_at "wp"
          refine ⟨rfl, q' ++ [_], rfl, rfl, by simp; omega, fun d' hd' => ?_⟩
          rcases List.mem_append.mp hd' with hd' | hd'
          · exact g2 d' hd'
          · rw [List.mem_singleton.mp hd']
            have items : ∀ x ∈ (s.ld.map eLd).take i ++ [eLd ld] ++ (s.ld.map eLd).drop (i + 1), x.mild ∧ x.nb := fun x hx => by
              have old : ∀ y ∈ s.ld.map eLd, y.mild ∧ y.nb := fun y hy => by
                refine ⟨mld y hy, ?_⟩
                obtain ⟨l', hl', rfl⟩ := List.mem_map.mp hy
                exact ld_nb (nld l' hl')
              rcases List.mem_append.mp hx with hx | hx
              · rcases List.mem_append.mp hx with hx | hx
                · exact old x (List.mem_of_mem_take hx)
                · rw [List.mem_singleton.mp hx]; exact hld2
              · exact old x (List.mem_of_mem_drop hx)
            exact ⟨two mS (tup_mild (fun x hx => (items x hx).1) (by simp; omega)), sb_of fun x hx => (items x hx).2⟩
        · subst em
          have g1' : q'.length = 7 := g1
          exact ⟨by omega, rfl, q', rfl, by omega, (fun z => by rw [z] at g1'; simp at g1'), g2⟩
    rintro ⟨σ, gg⟩ m3 ⟨hm3, e1', q', e2', g1, g2, g3⟩
    dsimp only at e1' e2'
    subst e1'
    refine Blk.fget [4, 7, 8, 9] ?_
    show Blk _ _ _ ⟨wipeL σ [4, 7, 8, 9], []⟩ _ _
    rw [e2']
    have hq : 0 < q'.length := List.length_pos_iff.mpr g2
    walk_at "wp"
    refine ⟨by omega, by omega, by omega, fun z z1 z2 => ?_⟩
    refine wIxD z1 z2 fun d hd => ?_
    exact k d _ (g3 d hd).1 (g3 d hd).2 (by omega)
end CK
/-! part D20 -/
set_option Elab.async false
set_option linter.all false
set_option maxRecDepth 100000
set_option maxHeartbeats 2000000
/-! Free and bent takings. -/
namespace CK
open PySem PySem.Spec PyProof.Rows L2
local macro_rules | `(tactic| walk_at "wp0") => `(tactic| first
  | ((with_reducible refine bl_retL (a := ?va) (ds := ?vd) ?vh ?_); (case vh => exact rfl))
  | ((with_reducible refine bl_retD (a := ?va) (ds := ?vd) ?vh ?_); (case vh => exact rfl))
  | (with_reducible refine bl_ret ?_)
  | (with_reducible refine bl_if ?_)
  | (with_reducible refine bl_asg ?_)
  | (with_reducible refine bl_asgP ?_)
  | (with_reducible refine bl_next ?_)
  | (with_reducible refine et_test ?_)
  | (with_reducible refine et_B ?_)
  | (with_reducible refine et_and ?_)
  | (with_reducible refine et_or ?_)
  | (with_reducible refine et_not ?_)
  | (with_reducible refine et_yes ?_)
  | ((with_reducible refine ev_varT (d := ?vd) ?vh ?_); (case vh => exact rfl))
  | ((with_reducible refine ev_varL (a := ?va) (ds := ?vd) (o := ?vo) ?vh ?_); (case vh => exact rfl))
  | ((with_reducible refine ev_varD (a := ?va) (kvs := ?vd) (o := ?vo) ?vh ?_); (case vh => exact rfl))
  | ((with_reducible refine ev_varP ?vh ?_); (case vh => exact rfl))
  | (with_reducible refine ev_int ?_)
  | (with_reducible refine ev_str ?_)
  | (with_reducible refine ev_bl ?_)
  | (with_reducible refine ev_non ?_)
  | (with_reducible refine ev_ty ?_)
  | (with_reducible refine ev_op ro_ix ?_)
  | (with_reducible refine ev_op ro_eq ?_)
  | (with_reducible refine ev_op ro_is ?_)
  | (with_reducible refine ev_op ro_cmp ?_)
  | (with_reducible refine ev_op ro_add ?_)
  | (with_reducible refine ev_op ro_sub ?_)
  | (with_reducible refine ev_op ro_mul ?_)
  | (with_reducible refine ev_op ro_mod ?_)
  | (with_reducible refine ev_op ro_div ?_)
  | (with_reducible refine ev_op ro_pow ?_)
  | (with_reducible refine ev_op ro_in ?_)
  | (with_reducible refine ev_neg ?_)
  | (with_reducible refine ev_cb rc_len ?_)
  | (with_reducible refine ev_cb rc_isi ?_)
  | (with_reducible refine ev_cb rc_all ?_)
  | (with_reducible refine ev_cb rc_list ?_)
  | (with_reducible refine ev_cb rc_tuple ?_)
  | (with_reducible refine ev_cb rc_int ?_)
  | (with_reducible refine ev_cb rc_max ?_)
  | (with_reducible refine ea_cons ?_)
  | (with_reducible refine ea_nil ?_)
  | (with_reducible refine ev_tup ?_)
  | (with_reducible refine ev_lst ?_)
  | (with_reducible refine ev_sl ?_)
  | (with_reducible refine eo_none ?_)
  | (with_reducible refine eo_some ?_)
  | (with_reducible refine ev_dget ?_)
  | (with_reducible refine ev_dnew ?_)
  | (with_reducible refine ev_if ?_)
  | (with_reducible refine ev_and ?_)
  | (with_reducible refine ev_or ?_)
  | (with_reducible refine ev_not ?_)
  | (with_reducible refine ev_chain ro_cmp ro_cmp ?_)
  | (with_reducible refine ev_call ?_)
  | (with_reducible refine ev_lrg2 ?_)
  | (with_reducible refine wAddI ?_)
  | (with_reducible refine wSub ?_)
  | (with_reducible refine wEqI ?_)
  | (with_reducible refine wEqS ?_)
  | (with_reducible refine wNeI ?_)
  | (with_reducible refine wNeS ?_)
  | (with_reducible refine wCmp ?_)
  | (with_reducible refine wLenT ?_)
  | (with_reducible refine wLenL ?_)
  | (with_reducible refine wTupT ?_)
  | (with_reducible refine wTupL ?_)
  | (with_reducible refine wIsN ?_)
  | (with_reducible refine wNotN ?_)
  | (with_reducible refine wIsB ?_)
  | (with_reducible refine wInt ?_)
  | (with_reducible refine wMax ?_)
  | (with_reducible refine wListT ?_; intro _)
  | (with_reducible refine wListL ?_; intro _)
  | (with_reducible refine wSlT ?_)
  | ((with_reducible refine wIxT (d := ?vd) ?vh ?_); (case vh => exact rfl))
  | (refine wIxT atI_c0 ?_)
  | (refine wIxT atI_c1 ?_)
  | (refine wIxT atI_c2 ?_)
  | ((with_reducible refine wIxL (d := ?vd) ?vh ?_); (case vh => exact rfl))
  | ((with_reducible refine wIsi (b := ?vd) ?vh ?_); (case vh => exact rfl))
  | ((with_reducible refine wIsiL (b := ?vd) ?vh ?_); (case vh => exact rfl))
  | (with_reducible refine tg_tup rfl ?_)
  | (with_reducible refine tgs_cons ?_)
  | (with_reducible refine tgs_nil ?_)
  | ((with_reducible refine tg_name ?vh ?_); (case vh => decide))
  | (with_reducible refine ⟨_, rfl, ?_⟩)
  | (with_reducible refine ⟨_, _, rfl, ?_⟩)
  | (with_reducible refine ⟨_, _, rfl, rfl, ?_⟩)
  | (with_reducible refine ⟨_, _, _, rfl, ?_⟩)
  | (refine And.intro (show List.length _ ≤ lim from Nat.le_of_ble_eq_true rfl) ?_)
  | (with_reducible refine seqK_nx ?_)
  | (with_reducible refine seqK_rt ?_)
  | (with_reducible refine seqK_ex ?_)
  | fail "wp0: no step")
local macro_rules | `(tactic| walk_at "wp1") => `(tactic| first | (with_reducible refine bl_seq ?_) | walk_at "wp0")
local macro_rules | `(tactic| walk_at "wps") => `(tactic| repeat (walk_at "wp0"))
local macro_rules | `(tactic| walk_at "wp") => `(tactic| repeat (walk_at "wp1"))
abbrev F__law_free_colours : PF := fun xs n K => ∃ (f : Fm) (s : Sd) (es : List Dd) (a : Addr), xs = [.tape, .t (eF f), .t (eS s), .l a (es.map eD) false] ∧ FOk f ∧ SOk f s 16 ∧ Runs f s es ∧ es.length ≤ 12 ∧ n ≤ 980000 ∧ ∀ (sn : List (Option Int)) m, sn.length = f.rules.length → m ≤ n + 40 → K (.t (eTk s es sn)) m
theorem len__law_free_colours : ∀ xs n K, F__law_free_colours xs n K → xs.length = 4 := fun _ _ _ ⟨_, _, _, _, e, _⟩ => by rw [e]; rfl
theorem ps_of : ∀ (es : List T), (∀ e ∈ es, ∃ p : Option Int, e = eP p) → ∃ sn : List (Option Int), es = sn.map eP ∧ sn.length = es.length
  | [], _ => ⟨[], rfl, rfl⟩
  | e :: es, h => by
    obtain ⟨p, rfl⟩ := h e List.mem_cons_self
    obtain ⟨sn, rfl, hl⟩ := ps_of es fun e he => h e (List.mem_cons_of_mem _ he)
    exact ⟨p :: sn, rfl, by simp⟩
abbrev N__law_free_colours : List Str := ["_law_tape", "_law_form", "_law_base", "_law_deeds", "_law_seen", "_law_position"]
theorem sc__law_free_colours : FnScope N__law_free_colours ["_law_tape", "_law_form", "_law_base", "_law_deeds"] (defScope s__law_free_colours) := ⟨rfl, rfl, rfl, by decide +kernel, rfl, by decide +kernel, by decide +kernel⟩
theorem cal__law_free_colours {P : Program} {w : World} {K : PySem.W.Frag} {mg : Str → Option Value} {base : Heap} {f : Addr} {fd : FuncData} (B : Bi mg) (c__law_closed : Cal P w K mg base "_law_closed" 1 ["_law_letters", "_law_cut"] (spU F__law_closed)) (c__law_all_letters : Cal P w K mg base "_law_all_letters" 3 ["_law_form", "_law_stand", "_law_deeds"] (spU F__law_all_letters)) (c__law_some_cut : Cal P w K mg base "_law_some_cut" 3 ["_law_tape", "_law_form", "_law_deeds"] (spU F__law_some_cut)) (c__law_draw : Cal P w K mg base "_law_draw" 1 ["_law_tape", "_law_many"] (spU F__law_draw)) (F : Fun K "_law_free_colours" "_law_free_colours" s__law_free_colours f fd) (gm : mg "_law_free_colours" = some (.ref f)) : Cal P w K mg base "_law_free_colours" 4 ["_law_tape", "_law_form", "_law_base", "_law_deeds"] (spU F__law_free_colours) := by
  have bn : Binds K fd ["_law_tape", "_law_form", "_law_base", "_law_deeds"] [] := F.binds fun _ _ _ _ _ _ us hl => match us, hl with | [_, _, _, _], _ => rfl
  refine mk_cal (k := 3) F gm bn sc__law_free_colours rfl len__law_free_colours fun cdv A outer s H E hr => ?_
  have nd := (sc__law_free_colours).nd
  apply Exists.intro
  apply And.intro
  · exact (pss_cons (ps_set (i := 4) nd rfl (Or.inl rfl) (pe_cal c__law_closed hr (by rfl) (pa_cons (pe_cal c__law_all_letters hr (by rfl) (pa_cons (pv 1) (pa_cons (pv 2) (pa_cons (pv 3) pa_nil)))) (pa_cons (pe_cal c__law_some_cut hr (by rfl) (pa_cons (pv 0) (pa_cons (pv 1) (pa_cons (pv 3) pa_nil)))) pa_nil))))
    (pss_cons (ps_if (pt_cmpR (op_eqK (K := K) hr.units) (pe_cal c__law_draw hr (by rfl) (pa_cons (pv 0) (pa_cons pe_int pa_nil))) pe_int (nomark _)) (pss_one (ps_set (i := 4) nd rfl (Or.inl rfl) (pe_callTy (call_tupleK (K := K)) (by rfl) B.tuple bt_tuple (pa_cons (pe_lc (own := [("_law_position", 5)]) (g := (gName 5)) (tt := tYes) rfl nd (pi_seqU (pv 4)) (blkOk_by (own := [("_law_position", 5)]) (N := N__law_free_colours) (sc := (defScope s__law_free_colours)) (by decide +kernel)) (fun _ _ _ _ _ => (pg_name (i := 5) nd rfl (Or.inl rfl))) (fun _ _ _ _ _ => pts_nil) (fun _ _ _ _ _ => (pe_ifExp (pt_cmpR (op_eqK (K := K) hr.units) (pe_cal c__law_draw hr (by rfl) (pa_cons (pv 0) (pa_cons pe_int pa_nil))) pe_int (nomark _)) pe_non (pv 5)))) pa_nil)))) pss_nil)
    (pss_one (ps_ret (pe_tup (pa_cons (pv 2) (pa_cons (pe_callTy (call_tupleK (K := K)) (by rfl) B.tuple bt_tuple (pa_cons (pv 3) pa_nil)) (pa_cons (pv 4) pa_nil))))))))
  · rintro xs n Kx ⟨f, s, es, a, rfl, hf, hs, hr, hel, hn, k⟩
    have hrl := hf.rl
    have hok := runs_ok hr
    refine bl_seq ?_
    walk_at "wps"
    refine ⟨f, s, es, .l a (es.map eD) false, rfl, .inr ⟨a, rfl⟩, hf, hs, by omega, hr, fun p kvs h1 h2 h3 => ?_⟩
    walk_at "wps"
    refine ⟨f, es, .l a (es.map eD) false, rfl, .inr ⟨a, rfl⟩, hf, hok, by omega, by omega, fun cut m hc1 hc2 hm => ?_⟩
    walk_at "wps"
    refine ⟨f, p, kvs, cut, rfl, hf, h2, hc1, fun c hc => (hc2 c hc).1, fun cut' hc' => ?_⟩
    walk_at "wps"
    have hcl : cut'.length = f.rules.length := by omega
    refine bl_seqC (fun ρ m2 => m2 ≤ m + 12 ∧ ∃ sn : List (Option Int), sn.length = f.rules.length ∧ ρ = ⟨[some .tape, some (.t (eF f)), some (.t (eS s)), some (.l a (es.map eD) false), some (.t (.tup (sn.map eP))), none], []⟩) ?_ ?_
    · walk_at "wp"
      refine ⟨by omega, by omega, by omega, fun y y1 y2 => ?_⟩
      walk_at "wp"
      refine ⟨fun _ => ?_, fun _ => ?_⟩
      · walk_at "wp"
        refine ev_lcD2 T.int (fun (c : Int) e => ∃ p : Option Int, e = eP p) (ei_tup ?_)
        walk_at "wp"
        intro g
        refine ⟨cut', rfl, fun c m4 hc hm4 => ?_, fun p2 ds hdl hds => ?_⟩
        · walk_at "wp"
          refine ⟨by omega, by omega, by omega, fun z z1 z2 => ?_⟩
          walk_at "wp"
          refine ⟨fun _ => ?_, fun _ => ?_⟩
          · walk_at "wp"
            exact ⟨⟨none, rfl⟩, rfl⟩
          · walk_at "wp"
            exact ⟨⟨some c, rfl⟩, rfl⟩
        · obtain ⟨sn, rfl, hsl⟩ := ps_of ds fun e he => by
            obtain ⟨i, hi, rfl⟩ := List.mem_iff_getElem.mp he
            have hi2 : i < cut'.length := by omega
            exact hds i _ _ (List.getElem?_eq_getElem hi2) (List.getElem?_eq_getElem hi)
          rw [List.length_map] at hdl
          walk_at "wp"
          exact ⟨by omega, sn, by omega, rfl⟩
      · refine bl_next ⟨by omega, cut'.map some, by simp [hcl], ?_⟩
        have e : cut'.map T.int = (cut'.map some).map eP := by rw [List.map_map]; rfl
        rw [e]
        rfl
    rintro ρ m2 ⟨hm2, sn, hsn, rfl⟩
    walk_at "wp"
    exact k sn _ hsn (by omega)
abbrev F__law_bent_colours : PF := fun xs n K => ∃ (f : Fm) (s : Sd) (es : List Dd) (sn : List (Option Int)), xs = [.tape, .t (eTk s es sn)] ∧ FOk f ∧ BOk f s ∧ (∀ e ∈ es, DOk f e) ∧ es.length ≤ 12 ∧ sn.length = f.rules.length ∧ n ≤ 970000 ∧ ∀ (d : T) m, d.mild → d.kb → m ≤ n + 50 → K (.t d) m
theorem len__law_bent_colours : ∀ xs n K, F__law_bent_colours xs n K → xs.length = 2 := fun _ _ _ ⟨_, _, _, _, e, _⟩ => by rw [e]; rfl
theorem eP_mild (p : Option Int) : (eP p).mild := by cases p <;> simp [eP, T.mild]
abbrev N__law_bent_colours : List Str := ["_law_tape", "_law_taking", "_law_base", "_law_deeds", "_law_seen", "_law_at", "_law_turned", "_law_some", "_law_other", "_law_m", "_law_position"]
theorem sc__law_bent_colours : FnScope N__law_bent_colours ["_law_tape", "_law_taking"] (defScope s__law_bent_colours) := ⟨rfl, rfl, rfl, by decide +kernel, rfl, by decide +kernel, by decide +kernel⟩
theorem cal__law_bent_colours {P : Program} {w : World} {K : PySem.W.Frag} {mg : Str → Option Value} {base : Heap} {f : Addr} {fd : FuncData} (B : Bi mg) (c__law_draw : Cal P w K mg base "_law_draw" 1 ["_law_tape", "_law_many"] (spU F__law_draw)) (c__law_bent_row : Cal P w K mg base "_law_bent_row" 2 ["_law_tape", "_law_row"] (spU F__law_bent_row)) (c__law_bent_stand : Cal P w K mg base "_law_bent_stand" 3 ["_law_tape", "_law_stand"] (spU F__law_bent_stand)) (c__law_put : Cal P w K mg base "_law_put" 1 ["_law_row", "_law_place", "_law_thing"] (spU F__law_put)) (F : Fun K "_law_bent_colours" "_law_bent_colours" s__law_bent_colours f fd) (gm : mg "_law_bent_colours" = some (.ref f)) : Cal P w K mg base "_law_bent_colours" 4 ["_law_tape", "_law_taking"] (spU F__law_bent_colours) := by
  have bn : Binds K fd ["_law_tape", "_law_taking"] [] := F.binds fun _ _ _ _ _ _ us hl => match us, hl with | [_, _], _ => rfl
  refine mk_cal (k := 3) F gm bn sc__law_bent_colours rfl len__law_bent_colours fun cdv A outer s H E hr => ?_
  have nd := (sc__law_bent_colours).nd
  apply Exists.intro
  apply And.intro
  · exact (pss_cons (ps_asg (pv 1) (pg_tup rfl (pgs_cons (pg_name (i := 2) nd rfl (Or.inl rfl)) (pgs_cons (pg_name (i := 3) nd rfl (Or.inl rfl)) (pgs_cons (pg_name (i := 4) nd rfl (Or.inl rfl)) pgs_nil)))))
    (pss_cons (ps_set (i := 5) nd rfl (Or.inl rfl) (pe_cal c__law_draw hr (by rfl) (pa_cons (pv 0) (pa_cons (pe_op (op_addK (K := K)) (pe_callB (call_lenK (K := K)) (by rfl) B.len bt_len (pa_cons (pv 3) pa_nil)) pe_int) pa_nil))))
    (pss_cons (ps_set (i := 6) nd rfl (Or.inl rfl) (pe_op (op_addK (K := K)) (pe_slice (sl_K (K := K)) (pv 3) po_none (po_some (pv 5))) (pe_slice (sl_K (K := K)) (pv 3) (po_some (pe_op (op_addK (K := K)) (pv 5) pe_int)) (po_some (pe_op (op_addK (K := K)) (pv 5) pe_int)))))
    (pss_cons (ps_set (i := 6) nd rfl (Or.inl rfl) (pe_op (op_addK (K := K)) (pe_op (op_addK (K := K)) (pv 6) (pe_slice (sl_K (K := K)) (pv 3) (po_some (pv 5)) (po_some (pe_op (op_addK (K := K)) (pv 5) pe_int)))) (pe_slice (sl_K (K := K)) (pv 3) (po_some (pe_op (op_addK (K := K)) (pv 5) pe_int)) po_none)))
    (pss_cons (ps_set (i := 7) nd rfl (Or.inl rfl) (pe_lst (pa_cons (pe_cal c__law_bent_row hr (by rfl) (pa_cons (pv 0) (pa_cons (pv 1) pa_nil))) (pa_cons (pe_tup (pa_cons (pe_cal c__law_bent_stand hr (by rfl) (pa_cons (pv 0) (pa_cons (pv 2) pa_nil))) (pa_cons (pv 3) (pa_cons (pv 4) pa_nil)))) pa_nil))))
    (pss_cons (ps_for PassesOwn.never rfl (pi_seqU (pe_lst (pa_cons (pe_op (op_addK (K := K)) (pe_slice (sl_K (K := K)) (pv 3) po_none (po_some (pv 5))) (pe_slice (sl_K (K := K)) (pv 3) (po_some (pe_op (op_addK (K := K)) (pv 5) pe_int)) po_none)) (pa_cons (pv 6) (pa_cons (pe_op (op_addK (K := K)) (pe_op (op_addK (K := K)) (pe_slice (sl_K (K := K)) (pv 3) po_none (po_some (pv 5))) (pe_tup (pa_cons pe_non pa_nil))) (pe_slice (sl_K (K := K)) (pv 3) (po_some (pv 5)) po_none)) (pa_cons (pe_callTy (call_listK (K := K)) (by rfl) B.list bt_list (pa_cons (pv 3) pa_nil)) pa_nil)))))) (pg_name (i := 8) nd rfl (Or.inl rfl))
      (pss_one (ps_expr (pe_bm PySem.F.plainAttrs_list PySem.F.slot_list_append PySem.F.type_list_append mt_append (pv 7) (pa_cons (pe_tup (pa_cons (pv 2) (pa_cons (pv 8) (pa_cons (pv 4) pa_nil)))) pa_nil)))))
    (pss_cons (ps_expr (pe_bm PySem.F.plainAttrs_list PySem.F.slot_list_append PySem.F.type_list_append mt_append (pv 7) (pa_cons (pe_tup (pa_cons (pv 2) (pa_cons (pv 3) (pa_cons (pe_cal c__law_bent_row hr (by rfl) (pa_cons (pv 0) (pa_cons (pv 4) pa_nil))) pa_nil)))) pa_nil)))
    (pss_cons (ps_set (i := 9) nd rfl (Or.inl rfl) (pe_cal c__law_draw hr (by rfl) (pa_cons (pv 0) (pa_cons (pe_callB (call_lenK (K := K)) (by rfl) B.len bt_len (pa_cons (pv 4) pa_nil)) pa_nil))))
    (pss_cons (ps_set (i := 10) nd rfl (Or.inl rfl) (pe_ifExp (pt_cmpR op_isP (pe_ix (ix_K (K := K)) (pv 4) (pv 9) (fun _ _ => rfl)) pe_non (nomark _)) pe_int (pe_ix (ix_K (K := K)) (pv 4) (pv 9) (fun _ _ => rfl))))
    (pss_cons (ps_for PassesOwn.never rfl (pi_seqU (pe_lst (pa_cons pe_non (pa_cons pe_int (pa_cons (pe_op (op_addK (K := K)) (pv 10) pe_int) (pa_cons (pe_op op_sub (pv 10) pe_int) (pa_cons (pe_callB (call_lenK (K := K)) (by rfl) B.len bt_len (pa_cons (pv 3) pa_nil)) (pa_cons (pe_cmpR op_gt (pv 10) pe_int (nomark _)) pa_nil)))))))) (pg_name (i := 8) nd rfl (Or.inl rfl))
      (pss_one (ps_expr (pe_bm PySem.F.plainAttrs_list PySem.F.slot_list_append PySem.F.type_list_append mt_append (pv 7) (pa_cons (pe_tup (pa_cons (pv 2) (pa_cons (pv 3) (pa_cons (pe_cal c__law_put hr (by rfl) (pa_cons (pv 4) (pa_cons (pv 9) (pa_cons (pv 8) pa_nil)))) pa_nil)))) pa_nil)))))
    (pss_one (ps_ret (pe_ix (ix_K (K := K)) (pv 7) (pe_cal c__law_draw hr (by rfl) (pa_cons (pv 0) (pa_cons (pe_callB (call_lenK (K := K)) (by rfl) B.len bt_len (pa_cons (pv 7) pa_nil)) pa_nil))) (fun _ _ => rfl))))))))))))))
  · rintro xs n Kx ⟨f, s, es, sn, rfl, hf, hb, hok, hel, hsn, hn, k⟩
    have hrl := hf.rl
    have h0 : 0 < f.rules.length := List.length_pos_iff.mpr hf.ne
    have mD : ∀ x ∈ es.map eD, x.mild := fun x hx => by
      obtain ⟨d, hd, rfl⟩ := List.mem_map.mp hx
      exact eD_mild (hok d hd)
    have mN : ∀ x ∈ sn.map eP, x.mild := fun x hx => by
      obtain ⟨d, hd, rfl⟩ := List.mem_map.mp hx
      exact eP_mild d
    have mS := hb.mild hf
    have mE := tup_mild mD (by rw [List.length_map]; omega)
    have mP := tup_mild mN (by rw [List.length_map]; omega)
    have three : ∀ {a b c : T}, a.mild → b.mild → c.mild → a.sb → (T.tup [a, b, c]).mild ∧ (T.tup [a, b, c]).kb := fun {a b c} ha hb hc hk => ⟨tup_mild (fun x hx => by
      rcases List.mem_cons.mp hx with rfl | hx
      · exact ha
      · rcases List.mem_cons.mp hx with rfl | hx
        · exact hb
        · rw [List.mem_singleton.mp hx]; exact hc) (by simp), kb_of hk⟩
    refine bl_seq ?_
    walk_at "wps"
    refine bl_seq ?_
    walk_at "wps"
    rw [List.length_map]
    refine ⟨by omega, by omega, by omega, fun y y1 y2 => ?_⟩
    obtain ⟨j, rfl⟩ : ∃ j : Nat, y = (j : Nat) := ⟨y.toNat, by omega⟩
    walk_at "wps"
    refine bl_seq ?_
    walk_at "wps"
    have hj : j ≤ es.length := by omega
    obtain ⟨D, hD⟩ : ∃ D : List T, D = es.map eD := ⟨_, rfl⟩
    have hDl : D.length = es.length := by rw [hD, List.length_map]
    rw [← hD] at mD mE ⊢
    have q1 : ((j : Int) + 1) = ((j + 1 : Nat) : Int) := rfl
    have q2 : ((j : Int) + 2) = ((j + 2 : Nat) : Int) := rfl
    have md1 : (D.take j ++ (D.take (j + 2)).drop (j + 1)).length ≤ 30 := by simp; omega
    rw [q1, q2, cutA_take, cutA_mid]
    refine wAddT (Nat.le_trans md1 (by decide)) ?_
    walk_at "wps"
    refine bl_seq ?_
    walk_at "wps"
    rw [q1, cutA_mid]
    refine wAddT (by simp; show _ ≤ 100000; omega) ?_
    walk_at "wps"
    rw [q2, cutA_drop]
    refine wAddT (by simp; show _ ≤ 100000; omega) ?_
    obtain ⟨tn, htn⟩ : ∃ tn : List T, tn = D.take j ++ (D.take (j + 2)).drop (j + 1) ++ (D.take (j + 1)).drop j ++ D.drop (j + 2) := ⟨_, rfl⟩
    rw [← htn]
    have mT : (T.tup tn).mild := by
      refine tup_mild (fun x hx => ?_) (by rw [htn]; simp; omega)
      rw [htn] at hx
      rcases List.mem_append.mp hx with hx | hx
      · rcases List.mem_append.mp hx with hx | hx
        · rcases List.mem_append.mp hx with hx | hx
          · exact mD x (List.mem_of_mem_take hx)
          · exact mD x (List.mem_of_mem_take (List.mem_of_mem_drop hx))
        · exact mD x (List.mem_of_mem_take (List.mem_of_mem_drop hx))
      · exact mD x (List.mem_of_mem_drop hx)
    walk_at "wps"
    refine bl_seq ?_
    walk_at "wps"
    refine ⟨by show 3 ≤ 16; omega, by omega, fun d1 m1 hd1 hm1 => ?_⟩
    have good1 : d1.mild ∧ d1.kb := by
      have hkb : d1.kb := by
        intro a b c e
        subst e
        rcases hd1.items with e | e
        · have := congrArg List.length e
          simp at this
        · rcases e a (by simp) with h1 | h1
          · rcases List.mem_cons.mp h1 with rfl | h1
            · exact hb.sb
            · have nosb : ∀ l : List T, (∀ x ∈ l, ∀ ls, x ≠ .tup ls) → (T.tup l).sb := fun l hl a' ls e l2 hl2 => by
                have := T.tup.inj e
                exact absurd rfl (hl (.tup ls) (by rw [this]; simp) ls)
              rcases List.mem_cons.mp h1 with rfl | h1
              · intro a' ls e2 l2 hl2
                have e3 := T.tup.inj e2
                have : T.tup ls ∈ es.map eD := by rw [e3]; simp
                obtain ⟨d, _, hd⟩ := List.mem_map.mp this
                rw [← T.tup.inj (show T.tup ls = T.tup ls from rfl)] at hl2
                cases d with
                | own m => cases hd; simp at hl2; rcases hl2 with rfl | rfl <;> (intro s w e; cases e)
                | hear m c => cases hd; simp at hl2; rcases hl2 with rfl | rfl | rfl <;> (intro s w e; cases e)
                | come r m => cases hd; simp at hl2; rcases hl2 with rfl | rfl | rfl <;> (intro s w e; cases e)
              · rw [List.mem_singleton.mp h1]
                refine nosb _ fun x hx ls e2 => ?_
                obtain ⟨p, _, rfl⟩ := List.mem_map.mp hx
                cases p <;> cases e2
          · exact (odd_mild h1).2.2
      refine ⟨hd1.mild (fun x hx => ?_) (by simp), hkb⟩
      rcases List.mem_cons.mp hx with rfl | hx
      · exact mS
      · rcases List.mem_cons.mp hx with rfl | hx
        · exact hD ▸ mE
        · rw [List.mem_singleton.mp hx]; exact mP
    walk_at "wps"
    refine ⟨f, s, rfl, hf, hb, by omega, fun d2 m2 hs2 hsb2 hm2 => ?_⟩
    walk_at "wps"
    intro p0
    walk_at "wps"
    have good2 := three hs2 mE mP (c := .tup (sn.map eP)) hsb2
    refine bl_seq (bl_forS (α := T) [8] (fun d => d) (fun q : List T => [some .tape, some (.t (eTk s es sn)), some (.t (eS s)), some (.t (.tup D)), some (.t (.tup (sn.map eP))), some (.t (.int (j : Nat))), some (.t (.tup tn)), some (.l p0 q true), none, none, none]) (fun i q m' => m' = m2 ∧ q.length = 2 + i ∧ ∀ d ∈ q, d.mild ∧ d.kb) (ei_new ?_))
    walk_at "wp"
    rw [q1, cutA_take, cutA_drop]
    refine wAddT (by simp; show _ ≤ 100000; omega) ?_
    walk_at "wp"
    rw [cutA_take]
    refine wAddT (by simp; show _ ≤ 100000; omega) ?_
    walk_at "wp"
    rw [cutA_drop]
    refine wAddT (by simp; show _ ≤ 100000; omega) ?_
    walk_at "wp"
    intro p1
    walk_at "wp"
    intro g
    have cutm : ∀ {l : List T}, l.length ≤ 16 → (∀ x ∈ l, x ∈ D ∨ x = .non) → (T.tup l).mild := fun {l} hl h => tup_mild (fun x hx => by
      rcases h x hx with h | h
      · exact mD x h
      · rw [h]; simp [T.mild]) hl
    refine ⟨_, [_, _], (List.map_id' _).symm, rfl, ⟨rfl, rfl, fun d hd => ?_⟩, fun p hp => List.mem_cons_of_mem _ hp, fun i d q m' hv ⟨em, h1, h2⟩ => ?_, fun q m' ⟨em, h1, h2⟩ => ?_⟩
    · rcases List.mem_cons.mp hd with rfl | hd
      · exact good1
      · rw [List.mem_singleton.mp hd]; exact good2
    · subst em
      have hi : i < 4 := (List.getElem?_eq_some_iff.mp hv).1
      have md : d.mild := by
        have := List.mem_of_getElem? hv
        simp only [List.mem_cons, List.not_mem_nil, or_false] at this
        rcases this with rfl | rfl | rfl | rfl
        · refine cutm (by simp; omega) fun x hx => ?_
          rcases List.mem_append.mp hx with hx | hx
          · exact .inl (List.mem_of_mem_take hx)
          · exact .inl (List.mem_of_mem_drop hx)
        · exact mT
        · refine cutm (by simp; omega) fun x hx => ?_
          rcases List.mem_append.mp hx with hx | hx
          · rcases List.mem_append.mp hx with hx | hx
            · exact .inl (List.mem_of_mem_take hx)
            · exact .inr (List.mem_singleton.mp hx)
          · exact .inl (List.mem_of_mem_drop hx)
        · simp [T.mild]
      walk_at "wp"
      refine bl_append (j := 7) rfl (by show q.length < 100000; omega) ?_
      walk_at "wp"
      refine ⟨rfl, q ++ [_], rfl, rfl, by simp; omega, fun d' hd' => ?_⟩
      rcases List.mem_append.mp hd' with hd' | hd'
      · exact h2 d' hd'
      · rw [List.mem_singleton.mp hd']
        exact three mS md mP hb.sb
    subst em
    have h1' : q.length = 6 := h1
    walk_at "wps"
    refine bl_seq (bl_append (j := 7) rfl (by show q.length < 100000; omega) ?_)
    walk_at "wp"
    refine ⟨by rw [List.length_map]; omega, by omega, fun d3 m3 hd3 hm3 => ?_⟩
    have md3 := hd3.mild mN (by rw [List.length_map]; omega)
    have good3 := three mS mE md3 hb.sb
    walk_at "wps"
    refine bl_seq ?_
    walk_at "wps"
    rw [List.length_map]
    refine ⟨by omega, by omega, by omega, fun z z1 z2 => ?_⟩
    obtain ⟨mi, pz, rfl, e1, e2⟩ := atI_ex z1 z2
    have hmi := (List.getElem?_eq_some_iff.mp e1).1
    walk_at "wps"
    refine bl_seqC (fun ρ m4 => m4 = m3 + 1 ∧ ρ.g = [] ∧ ∃ pi : Int, wipeL ρ.s [8] = [some .tape, some (.t (eTk s es sn)), some (.t (eS s)), some (.t (.tup D)), some (.t (.tup (sn.map eP))), some (.t (.int (j : Nat))), some (.t (.tup tn)), some (.l p0 (q ++ [T.tup [eS s, .tup D, d3]]) true), none, some (.t (.int (mi : Nat))), some (.t (.int pi))]) ?_ ?_
    · walk_at "wp"
      refine wIxT (atI_map e1) ?_
      walk_at "wp"
      cases pz with
      | none =>
        refine ⟨fun _ => ?_, fun z => (by cases z)⟩
        walk_at "wp"
        exact ⟨rfl, rfl, 0, rfl⟩
      | some pi =>
        refine ⟨fun z => (by cases z), fun _ => ?_⟩
        walk_at "wp"
        refine wIxT (atI_map e1) ?_
        exact ⟨rfl, rfl, pi, rfl⟩
    rintro ⟨σ, gg⟩ m4 ⟨em, eg, pi, es2⟩
    subst em
    dsimp only at eg es2
    subst eg
    refine Blk.fget [8] ?_
    show Blk _ _ _ ⟨wipeL σ [8], []⟩ _ _
    rw [es2]
    have h2' : ∀ d ∈ q ++ [T.tup [eS s, .tup D, d3]], d.mild ∧ d.kb := fun d hd => by
      rcases List.mem_append.mp hd with hd | hd
      · exact h2 d hd
      · rw [List.mem_singleton.mp hd]; exact good3
    refine bl_seq (bl_forS (α := T) [8] (fun d => d) (fun q : List T => [some .tape, some (.t (eTk s es sn)), some (.t (eS s)), some (.t (.tup D)), some (.t (.tup (sn.map eP))), some (.t (.int (j : Nat))), some (.t (.tup tn)), some (.l p0 q true), none, some (.t (.int (mi : Nat))), some (.t (.int pi))]) (fun i q m' => m' = m3 + 1 ∧ q.length = 7 + i ∧ ∀ d ∈ q, d.mild ∧ d.kb) (ei_new ?_))
    walk_at "wp"
    intro p2
    walk_at "wp"
    intro g2
    refine ⟨_, q ++ [T.tup [eS s, .tup D, d3]], (List.map_id' _).symm, rfl, ⟨rfl, by simp [h1'], h2'⟩, fun p hp => List.mem_cons_of_mem _ hp, fun i d q' m' hv ⟨em, h3, h4⟩ => ?_, fun q' m' ⟨em, h3, h4⟩ => ?_⟩
    · subst em
      have hi : i < 6 := (List.getElem?_eq_some_iff.mp hv).1
      have md : d.mild := by
        have := List.mem_of_getElem? hv
        simp only [List.mem_cons, List.not_mem_nil, or_false] at this
        rcases this with rfl | rfl | rfl | rfl | rfl | rfl <;> simp [T.mild]
      walk_at "wp"
      refine bl_append (j := 7) rfl (by show q'.length < 100000; omega) ?_
      walk_at "wp"
      refine ⟨by rw [List.length_map]; exact hmi, by rw [List.length_map]; omega, ?_⟩
      walk_at "wp"
      refine ⟨rfl, q' ++ [_], rfl, rfl, by simp; omega, fun d' hd' => ?_⟩
      rcases List.mem_append.mp hd' with hd' | hd'
      · exact h4 d' hd'
      · rw [List.mem_singleton.mp hd']
        refine three mS mE (tup_mild (fun x hx => ?_) (by rw [List.length_set, List.length_map]; omega)) hb.sb
        rcases List.mem_or_eq_of_mem_set hx with hx | hx
        · exact mN x hx
        · rw [hx]; exact md
    subst em
    have h3' : q'.length = 13 := h3
    walk_at "wp"
    refine ⟨by omega, by omega, by omega, fun u u1 u2 => ?_⟩
    refine wIxD u1 u2 fun d hd => ?_
    exact k d _ (h4 d hd).1 (h4 d hd).2 (by omega)
end CK
/-! part CkZ -/
set_option Elab.async false
set_option linter.all false
set_option maxRecDepth 100000
set_option maxHeartbeats 4000000
/-! The layer CK, part Z: the caught exception (its dict stands) within the def that the suite calls. -/
namespace PySem.W
open PySem PySem.Spec PySem.Calls PyProof.Rows
section
variable {prog : Program} {w : World} {A : Around} {E : Value → Shared → Prop} {s : Shared} {K : Frag} {x D : Addr} {ox : Obj} {od : Option Obj}
theorem ck_findObj {C : Addr} {nm : Str} {a g : Value} (q0 : (clsIn K C).isSome = true) (q1 : findIn K (.ref C) nm = some (some a)) (q2 : specialIn K a "__get__" = some (some g)) (q3 : takesIn K a = some true) : findObj K C od nm = some (.bind g a) := by
  obtain ⟨c0, e0⟩ := Option.isSome_iff_exists.mp q0
  unfold findObj
  rw [e0, Option.bind_some, q1, Option.bind_some]
  simp [q2, q3]
theorem ck_class {Q : Option Value → Shared → Prop} (T : L2.ExcC K D) (kin : K.In s.heap) (inst : InstAt s.heap x ox D od) (fin : Q (some (.ref D)) { s with toks := s.toks + 1 }) : wpAny (model prog w) A (getAttr? (.ref x) "__class__") Q E s := by
  have q0 : findObj K D od "__class__" = some (.bind (.builtin "getset_descriptor.__get__") (.builtin "object.__class__")) := ck_findObj (by obtain ⟨c0, e0, _⟩ := any_some T.hd; rw [e0]; rfl) T.ha T.hn T.ht
  obtain ⟨h0, g0, d0, t0, o0⟩ := s
  have k0 := inst.type (M := model prog w)
  have k1 := looks_findIn (M := model prog w) kin T.hg
  have k2 := looks_findIn (M := model prog w) kin T.hk
  have k3 := looks_find (M := model prog w) kin inst q0
  have isb : Looks (model prog w) h0 (isInstance (.ref x) (.type "BaseException")) true := k0.andThen (looks_subIn kin T.hs)
  have n0 : (false && onTheHeap (Value.builtin "BaseException.__getattribute__")) = false := Bool.false_and _
  have n2 : (Value.builtin "BaseException.__getattribute__" == Value.builtin "object.__getattribute__") = false := by decide +kernel
  have n1 : (onTheHeap (Value.ref D) && Value.builtin "BaseException.__getattribute__" == Value.builtin "object.__getattribute__") = false := by rw [n2, Bool.and_false]
  unfold getAttr? getAttrBy? getAttrBy
  refine wpAny_bind (wpAny_mkText (wpAny_bind (wpAny_attempt (wpAny_holding (wpAny_bind (k0.at (wpAny_bind (k1.at ?_))))))))
  change wpAny _ _ (if (onTheHeap (Value.ref D) && Value.builtin "BaseException.__getattribute__" == Value.builtin "object.__getattribute__") = true then _ else _) _ _ _
  rw [if_neg (by rw [n1]; exact Bool.false_ne_true)]
  unfold getAttrByItsOwn hookBefore
  refine wpAny_bind ?_
  rw [if_pos (by rfl : onTheHeap (Value.ref D) = true)]
  refine k2.at (wpAny_bind (wpAny_attempt (wpAny_holding ?_)))
  unfold callGetattribute
  rw [if_neg (by rw [n0]; exact Bool.false_ne_true)]
  unfold boundAndCalled
  rw [PySem.F.excAttr_ValueError.ga.bind (Value.ref x)]
  refine wpAny_bind (wpAny_pure ?_)
  change wpAny _ _ (call (.builtin "BaseException.__getattribute__") [.ref x, .str "__class__" t0]) _ _ _
  refine wpAny_call (codeAny_call_builtin PySem.F.excAttr_ValueError.ga.plain PySem.F.entry_bexc_ga ?_)
  refine @check_slot (model prog w) _ _ ⟨h0, g0, d0, t0 + 1, o0⟩ "BaseException.__getattribute__" "BaseException" "__getattribute__" (.ref x) [.str "__class__" t0] [] _ (by decide +kernel) (by decide +kernel) isb (PySem.F.args_bexc_ga (.ref x) (.str "__class__" t0)) ?_
  unfold Builtin.«object.__getattribute__»
  refine wpAny_bind (wpAny_of_eq (a := ((Value.ref x : Value), [Value.str "__class__" t0])) (by first | rfl | (simp only [slotArgs]; rfl)) ?_)
  refine wpAny_bind (wpAny_pure (wpAny_bind (k0.at (wpAny_bind (k3.at ?_)))))
  change wpAny _ _ (holding [Value.builtin "object.__class__"] (call (.builtin "getset_descriptor.__get__") [.builtin "object.__class__", .ref x, .ref D]) >>= ret) _ _ _
  refine wpAny_bind (wpAny_holding (wpAny_call (class_get (s := ⟨h0, g0, d0, t0 + 1, o0⟩) (ox := ox) (od := od) kin inst T.hm ?_)))
  refine wpAny_pure ?_
  change wpAny _ _ (handedOut (.ref D)) _ _ _
  rw [handedOut_of (v := Value.ref D) rfl]
  first
    | exact wpAny_pure (wpAny_pure fin)
    | exact wpAny_pure fin
    | exact wpAny_pure (wpAny_bind (wpAny_pure (wpAny_pure fin)))
theorem ck_kitx (T : L2.ExcC K D) : KitX K (.ref x) (.ref D) (fun h => InstAt h x ox D od) where
  ty := fun _ _ _ i => i.type
  it := fun _ _ kin _ => by
    obtain ⟨c0, e0, _⟩ := any_some T.hd
    unfold clsIn at e0
    split at e0
    · rename_i _ _ _ _ ho
      intro A' Q' E' s' k q
      unfold isType loadHead
      exact wpAny_bind (wpAny_loadPart (k _ _ (kin _ _ ho)) (wpAny_pure q))
    · cases e0
  ne := fun h tp dd its n sl kin htp => by
    obtain ⟨c0, e0, _⟩ := any_some T.hd
    refine Bool.eq_false_iff.mpr fun q => ?_
    have e : D = tp := Value.ref.inj (beq_iff_eq.mp q)
    subst e
    unfold clsIn at e0
    split at e0
    · rename_i _ _ _ _ ho
      have z := (kin _ _ ho).symm.trans htp
      cases z
    · cases e0
  ca := fun kin i k => ck_class T kin i k
end
end PySem.W
/-! part CkW -/
set_option Elab.async false
set_option linter.all false
set_option maxRecDepth 100000
set_option maxHeartbeats 4000000
/-! The layer CK, part W: _law_word_of, called within the except suite. -/
namespace CK
open PySem PySem.Spec PyProof.Rows L2
/-- isinstance(e, c) or isinstance(e, (c, ..)) of the pinned exception -/
def rIsW (K : PySem.W.Frag) (D a dd : Addr) : List V → Hp → VK → Prop := fun xs H Q => (∃ fs, H dd = some (.xd fs)) ∧
  ((∃ (tp : Addr) (cs : List V) (b : Bool), xs = [.ref a, .ref tp] ∧ H tp = some (.tup cs) ∧ (∀ its, Vals cs its → PySem.W.kitAny K (.ref D) its = some b) ∧ Q (.bl b) H) ∨
  ∃ (c : V) (cv : Value) (b : Bool), xs = [.ref a, c] ∧ (∀ u, RelV c u → u = cv) ∧ PySem.W.kitOne K (.ref D) cv = some b ∧ Q (.bl b) H)
section
variable {X : Cx} {a D : Addr} {oe : Obj} {dd : Addr}
/-- the pinned exception, its dict told -/
theorem pin_inst {pins : List (Addr × Obj)} {σ : L2.St} {H : Hp} {s : Shared} (I : Inv X pins σ H s) (hp : (a, oe) ∈ X.pn) (hz : Zc (.ref D) (some dd) oe) (hf : ∃ vs, oe.data = .fields vs) {fs : List (Str × V)} (hd : H dd = some (.xd fs)) :
    ∃ od, PySem.W.InstAt s.heap a oe D (some od) ∧ s.heap.get? dd = some od ∧ ∃ mA, s.heap.Ns1 dd mA ∧ ∀ f, RelO (fs.lookup f) (mA f) := by
  obtain ⟨h1, _⟩ := I.pin (a, oe) (List.mem_append_left _ hp)
  have hx : ObjOk X.prog X.w H s.heap dd (.xd fs) := I.hok dd _ hd
  obtain ⟨mA, hns, hr⟩ := hx
  obtain ⟨od, ho, hl⟩ := lookIn_ns hns
  obtain ⟨vs, hv⟩ := hf
  exact ⟨od, ⟨h1, hz.1, by unfold PySem.W.notCls; rw [hv] <;> rfl, by rw [hz.2]; exact ho⟩, ho, mA, hns, hr⟩
theorem call_isW (T : ExcC X.K D) (hp : (a, oe) ∈ X.pn) (hz : Zc (.ref D) (some dd) oe) (hf : ∃ vs, oe.data = .fields vs) : CallR X (.builtin "isinstance") (rIsW X.K D a dd) := by
  intro pins s σ H xs us Q I r h
  obtain ⟨⟨fs, hd⟩, h⟩ := h
  obtain ⟨od, J, _, _⟩ := pin_inst I hp hz hf hd
  rcases h with ⟨tp, cs, b, rfl, hT, e, q⟩ | ⟨c, cv, b, rfl, hcv, e, q⟩
  · cases r with
    | cons rx rr =>
      cases rr with
      | cons rt rr =>
        cases rr
        cases rx
        cases rt
        obtain ⟨its, rv, ⟨⟨cls, d0, data, sl⟩, ho, hc, n, hdt⟩, hs⟩ := I.tuple (.of hT)
        simp only at hc hdt
        subst hc hdt
        exact PySem.W.kia_tup (PySem.W.ck_kitx T) I.kIn J ho (e its rv) (fun z => nomatch z) fun tk => ⟨.bl b, H, I.kept (t' := tk) fun _ _ z => z, rfl, q⟩
  · cases r with
    | cons rx rr =>
      cases rr with
      | cons rt rr =>
        cases rr
        cases rx
        have ec := hcv _ rt
        subst ec
        exact PySem.W.kia_one (PySem.W.ck_kitx T) I.kIn J e (fun z => nomatch z) fun tk => ⟨.bl b, H, I.kept (t' := tk) fun _ _ z => z, rfl, q⟩
/-- e.f of the pinned exception -/
def tFdW (a dd : Addr) (f : Str) (te : TE) : TE := fun σ H Q => te σ H fun x H1 => x = .ref a ∧ ∃ (fs : List (Str × V)) (v : V), H1 dd = some (.xd fs) ∧ fs.lookup f = some v ∧ Q v H1
theorem pe_fdW {e : Expr} {te : TE} {pos : Pos} {nm : Str} (T : XfC X.K D) (hno : PySem.W.findIn X.K (.ref D) nm = some none) (hp : (a, oe) ∈ X.pn) (hz : Zc (.ref D) (some dd) oe) (hf : ∃ vs, oe.data = .fields vs) (he : PE X e te)
    (hb : attributeBase e nm X.env (eval e X.env) = eval e X.env := by rfl) : PE X (.Attribute e nm pos) (tFdW a dd nm te) := by
  refine ⟨fun pins s σ H Q I h => attr_of hb (thn (he.run pins s σ H _ I h) fun u s1 hh => ?_)⟩
  obtain ⟨x, H1, I1, rx, ex, fs, v, ea, l, q⟩ := hh
  subst ex
  obtain rfl : u = Value.ref a := rx
  obtain ⟨od, J, ho, mA, hns, hr⟩ := pin_inst I1 hp hz hf ea
  obtain ⟨od2, ho2, hl⟩ := lookIn_ns hns
  rw [ho] at ho2
  cases ho2
  obtain ⟨u, hu, ru⟩ := RelO.some_of (v := v) (o := mA nm) (by rw [← l]; exact hr nm)
  exact HandSPX.exc_get I1.kIn J T.ga T.gg T.exC (PySem.W.findObj_own T.hdC hno rfl (by rw [hl, hu])) (handed_of ru) ⟨v, H1, I1.tok _, ru, q⟩
end
/-- a def's body, run within the suite: the pinned exception told -/
theorem word_run {P : Program} {w : World} {K : PySem.W.Frag} {mg : Str → Option Value} {base : Heap} {k : Nat} {f : Addr} {fd : FuncData} {x qual : Str} {st : Stmt} {N ps : List Str} {A : Around} {outer : List Env} {s : Shared} {H : Hp} {args : Args} {us : List Value} {vs : List V} {Q : VK} {p : Addr × Obj}
    (F : Fun K x qual st f fd) (S : FnScope N ps (defScope st)) (hr : L2H.RoomH (k + 1) A) (hpin : L2H.PinOk outer H s p) (e0 : Env0 P w K mg base A outer s H) (hb : BindsTo s fd args (ps.zip us)) (r : Vals vs us) (hl : vs.length = ps.length)
    (hbody : ∀ cdv : Value, ∃ t, PSs (L2H.cxH CX0 P w K mg base N qual (defScope st) f cdv A outer s H E0 p) (defBody st) t ∧ t { nx := fun _ H' => Q .non H', rt := Q } (L2.start N vs) H) :
    codeAny (model P w) A (.call (.ref f) args) (CR CX0 outer P w H s Q E0) s := by
  obtain ⟨oc, od, kV, doc, pm, an, cdv, ct, osl, rfl, lk, hcd⟩ := F.ex
  have kin : K.In s.heap := e0.mod.kin.keeps fun b o e => (e0.bs b o e).1
  have nl : s.heap.NoLimit := e0.mod.nolimit.keeps fun b o e => (e0.bs b o e).1
  have kinds : ∀ y ∈ ps.zip us, (defScope st).names.lookup y.1 = some .local ∨ ((defScope st).names.lookup y.1 = some .cell ∧ ((cellsFrom (s.heap.objs.size + 1) (defScope st).names []).lookup y.1).isSome = true) := fun ⟨n, v⟩ hy => by
    rcases S.par n (List.of_mem_zip hy).1 with q | q
    · exact .inl q
    · exact .inr ⟨q, PySem.W.cellsFrom_some _ _ _ (.inl q)⟩
  refine codeAny_call_function hr.depth (kin _ _ lk) rfl S.co S.gen rfl (PySem.W.codeRec_of kin hcd) (hb _ _ _ _ ?_)
  refine wpAny_newFunctionEnv_cells S.kind kinds fun env he s1 nw => ?_
  subst he
  refine ⟨nl.keeps nw.toInCall.keep, codeAny_func ?_⟩
  obtain ⟨t, ht, hq⟩ := hbody cdv
  have J : Inv (L2H.cxH CX0 P w K mg base N qual (defScope st) f cdv A outer s H E0 p) [] (L2.start N vs) H s1 := L2H.inv_startH S hpin e0 hl r nw
  refine wpAny_mono (ht.run [] s1 (L2.start N vs) H _ J hq) (fun fl s' hs => ?_) fun e s' hs => hs
  cases fl with
  | ret u =>
    obtain ⟨v, σ', H', J', rv, q⟩ := hs
    exact ⟨v, H', J'.os, J'.bare, J'.base, J'.hok, rv, q⟩
  | next =>
    obtain ⟨σ', H', J', q⟩ := hs
    exact ⟨V.non, H', J'.os, J'.bare, J'.base, J'.hok, rfl, q⟩
  | brk =>
    obtain ⟨_, _, _, q⟩ := hs
    exact False.elim q
  | cont =>
    obtain ⟨_, _, _, q⟩ := hs
    exact False.elim q
/-- what the written part says of the classes that _law_word_of asks for -/
structure NwF (K : PySem.W.Frag) (mg : Str → Option Value) (C : Addr) : Prop where
  T : ExcC K C
  X : XfC K C
  fw : PySem.W.findIn K (.ref C) "word" = some none
  fn : PySem.W.findIn K (.ref C) "number" = some none
  six : ∃ c1 c2 c3 c4 c5 c6, mg "NoForm" = some (.ref c1) ∧ mg "NoDeed" = some (.ref c2) ∧ mg "NoCut" = some (.ref c3) ∧ mg "NoNumbers" = some (.ref c4) ∧ mg "NoLine" = some (.ref c5) ∧ mg "NoZigzag" = some (.ref c6) ∧ PySem.W.kitAny K (.ref C) [.ref c1, .ref c2, .ref c3, .ref c4, .ref c5, .ref c6] = some false
  four : ∃ c1 c2 c3 c4, mg "NoWorld" = some (.ref c1) ∧ mg "NoRun" = some (.ref c2) ∧ mg "NoText" = some (.ref c3) ∧ mg "NoRow" = some (.ref c4) ∧ PySem.W.kitAny K (.ref C) [.ref c1, .ref c2, .ref c3, .ref c4] = some false
  ve : mg "ValueError" = none
  kv : PySem.W.kitOne K (.ref C) (.type "ValueError") = some true
abbrev N__law_word_of : List Str := ["_law_e"]
theorem sc__law_word_of : FnScope N__law_word_of ["_law_e"] (defScope s__law_word_of) := ⟨rfl, rfl, rfl, by decide +kernel, rfl, by decide +kernel, by decide +kernel⟩
theorem bt_VE : bootBuiltins ("ValueError" : Str) = some (.type "ValueError") := by decide +kernel
theorem vals_refs : ∀ (cs : List Addr) (its : List Value), Vals (cs.map V.ref) its → its = cs.map Value.ref
  | [], _, h => by cases h; rfl
  | c :: cs, _, h => by
    cases h with
    | cons a b =>
      cases a
      rw [vals_refs cs _ b]
      rfl
theorem word_body {P : Program} {w : World} {K : PySem.W.Frag} {mg : Str → Option Value} {base : Heap} {f C dd : Addr} {cdv : Value} {A : Around} {outer : List Env} {s : Shared} {H : Hp} {a : Addr} {oe : Obj} {fs : List (Str × V)} {wd nb : V} {Q : VK} (B : Bi mg) (W : NwF K mg C) (hz : Zc (.ref C) (some dd) oe) (hf : ∃ vs, oe.data = .fields vs) (hd : H dd = some (.xd fs)) (l1 : fs.lookup ("word" : Str) = some wd) (l2 : fs.lookup ("number" : Str) = some nb)
    (q : ∀ (H' : Hp) p, Same H H' → H' p = none → Q (.ref p) (upd H' p (.tup [wd, nb]))) : ∃ t, PSs (L2H.cxH CX0 P w K mg base N__law_word_of "_law_word_of" (defScope s__law_word_of) f cdv A outer s H E0 (a, oe)) (defBody s__law_word_of) t ∧ t { nx := fun _ H' => Q .non H', rt := Q } (L2.start N__law_word_of [.ref a]) H := by
  obtain ⟨c1, c2, c3, c4, c5, c6, g1, g2, g3, g4, g5, g6, k6⟩ := W.six
  obtain ⟨b1, b2, b3, b4, h1, h2, h3, h4, k4⟩ := W.four
  have nd := sc__law_word_of.nd
  have hp : (a, oe) ∈ (L2H.cxH CX0 P w K mg base N__law_word_of "_law_word_of" (defScope s__law_word_of) f cdv A outer s H E0 (a, oe)).pn := List.mem_cons_self
  have isW := call_isW (X := L2H.cxH CX0 P w K mg base N__law_word_of "_law_word_of" (defScope s__law_word_of) f cdv A outer s H E0 (a, oe)) W.T hp hz hf
  apply Exists.intro
  apply And.intro
  · exact (pss_cons (ps_if (pt_val (pe_callB isW (by rfl) B.isinstance bt_isinstance (pa_cons (pv 0) (pa_cons (pe_tup (pa_cons (pe_glob (v := .ref c1) (by rfl) g1 rfl) (pa_cons (pe_glob (v := .ref c2) (by rfl) g2 rfl) (pa_cons (pe_glob (v := .ref c3) (by rfl) g3 rfl) (pa_cons (pe_glob (v := .ref c4) (by rfl) g4 rfl) (pa_cons (pe_glob (v := .ref c5) (by rfl) g5 rfl) (pa_cons (pe_glob (v := .ref c6) (by rfl) g6 rfl) pa_nil))))))) pa_nil)))) (pss_one (ps_ret pe_non)) pss_nil)
      (pss_cons (ps_if (PW.pt (pw_or (pt_val (pe_callB isW (by rfl) B.isinstance bt_isinstance (pa_cons (pv 0) (pa_cons (pe_tup (pa_cons (pe_glob (v := .ref b1) (by rfl) h1 rfl) (pa_cons (pe_glob (v := .ref b2) (by rfl) h2 rfl) (pa_cons (pe_glob (v := .ref b3) (by rfl) h3 rfl) (pa_cons (pe_glob (v := .ref b4) (by rfl) h4 rfl) pa_nil))))) pa_nil)))) (pw_or1 (pt_not (pt_val (pe_callB isW (by rfl) B.isinstance bt_isinstance (pa_cons (pv 0) (pa_cons (pe_bltn (v := .ty "ValueError") (by rfl) W.ve bt_VE rfl) pa_nil)))))))) (pss_one (ps_ret pe_non)) pss_nil)
        (pss_one (ps_ret (pe_tup (pa_cons (pe_fdW W.X W.fw hp hz hf (pv 0)) (pa_cons (pe_fdW W.X W.fn hp hz hf (pv 0)) pa_nil)))))))
  · refine ⟨_, rfl, by show 6 ≤ sizeLine; decide, fun p1 hp1 => ?_⟩
    have hd1 : upd H p1 (.tup [V.ref c1, .ref c2, .ref c3, .ref c4, .ref c5, .ref c6]) dd = some (.xd fs) := by rw [upd_ne (ne_of_none hd hp1)]; exact hd
    refine ⟨⟨fs, hd1⟩, .inl ⟨p1, _, false, rfl, upd_same, fun its r => ?_, ?_⟩⟩
    · rw [vals_refs [c1, c2, c3, c4, c5, c6] its r]; exact k6
    have sm1 : Same H (upd H p1 (.tup [V.ref c1, .ref c2, .ref c3, .ref c4, .ref c5, .ref c6])) := same_new hp1
    generalize upd H p1 (.tup [V.ref c1, .ref c2, .ref c3, .ref c4, .ref c5, .ref c6]) = H1 at hd1 sm1
    refine ⟨false, rfl, ?_⟩
    refine (if_neg Bool.false_ne_true).mpr ?_
    refine ⟨_, rfl, by show 4 ≤ sizeLine; decide, fun p2 hp2 => ?_⟩
    have hd2 : upd H1 p2 (.tup [V.ref b1, .ref b2, .ref b3, .ref b4]) dd = some (.xd fs) := by rw [upd_ne (ne_of_none hd1 hp2)]; exact hd1
    refine ⟨⟨fs, hd2⟩, .inl ⟨p2, _, false, rfl, upd_same, fun its r => ?_, ?_⟩⟩
    · rw [vals_refs [b1, b2, b3, b4] its r]; exact k4
    have sm2 : Same H (upd H1 p2 (.tup [V.ref b1, .ref b2, .ref b3, .ref b4])) := fun x o e => same_new hp2 x o (sm1 x o e)
    generalize upd H1 p2 (.tup [V.ref b1, .ref b2, .ref b3, .ref b4]) = H2 at hd2 sm2
    refine ⟨false, rfl, ?_⟩
    refine (if_neg Bool.false_ne_true).mpr ?_
    refine ⟨_, rfl, ⟨fs, hd2⟩, .inr ⟨_, _, true, rfl, fun u e => e, W.kv, ?_⟩⟩
    refine ⟨true, rfl, ?_⟩
    refine (if_neg (by decide : ¬ ((!true) = true))).mpr ?_
    refine ⟨_, rfl, rfl, fs, wd, hd2, l1, ?_⟩
    refine ⟨_, rfl, rfl, fs, nb, hd2, l2, ?_⟩
    exact ⟨by show 2 ≤ sizeLine; decide, fun p3 hp3 => q H2 p3 sm2 hp3⟩
end CK
/-! part CkV -/
set_option Elab.async false
set_option linter.all false
set_option maxRecDepth 100000
set_option maxHeartbeats 4000000
/-! The layer CK, part V: the call in the except suite. -/
namespace CK
open PySem PySem.Spec PyProof.Rows L2
def tWordS (a : Addr) (cls : Value) (d : Option Addr) (C : Addr) (te : TA) : TE := fun σ H Q => te σ H fun vs H1 => vs = [.ref a] ∧ cls = .ref C ∧ ∃ (dd : Addr) (fs : List (Str × V)) (wd nb : V), d = some dd ∧ H1 dd = some (.xd fs) ∧ fs.lookup ("word" : Str) = some wd ∧ fs.lookup ("number" : Str) = some nb ∧
  ∀ (H' : Hp) p, Same H1 H' → H' p = none → Q (.ref p) (upd H' p (.tup [wd, nb]))
theorem pe_word {X : Cx} {a C f : Addr} {oe : Obj} {cls : Value} {d : Option Addr} {pn : List (Addr × Obj)} {fd : FuncData} {k : Nat} {e : Expr} {ta : TA} {q pos : Pos} (B : Bi X.mg) (W : NwF X.K X.mg C) (F : Fun X.K "_law_word_of" "_law_word_of" s__law_word_of f fd) (gm : X.mg "_law_word_of" = some (.ref f)) (hr : Room k X.A) (hz : Zc cls d oe) (hf : ∃ vs, oe.data = .fields vs)
    (ha : PA (X.suite a ((a, oe) :: pn)) [e] ta) (hg : Gl (X.suite a ((a, oe) :: pn)) "_law_word_of") (hk : 1 ≤ k := by decide) (he : starEach [e] X.env = (false, eval e X.env) :: starEach [] X.env := by rfl) :
    PE (X.suite a ((a, oe) :: pn)) (.Call (.Name "_law_word_of" q) [e] [] pos) (tWordS a cls d C ta) := by
  refine ⟨fun pins s σ H Q I h => ?_⟩
  refine wpAny_Call_Name_kw (ld_glob I hg gm ?_ (by decide))
  refine PySem.W.callWith_K (h₀ := X.base) I.ok.mod.kin F.kp (thn (ha.run pos pins s σ H _ I h) fun us s1 ⟨vs, H1, I1, r, hq⟩ => ⟨I1.kIn, ?_⟩) he (by rfl)
  obtain ⟨rfl, rfl, dd, fs, wd, nb, rfl, hd, l1, l2, q⟩ := hq
  have bn : Binds X.K fd N__law_word_of [] := F.binds fun _ _ _ _ _ _ us hl => match us, hl with | [_], _ => rfl
  have P1 := I1.pin (a, oe) (List.mem_append_left _ List.mem_cons_self)
  have hpin : L2H.PinOk (X.suite a ((a, oe) :: pn)).stack H1 s1 (a, oe) := ⟨P1.1, P1.2.1, fun hm => (List.mem_cons.mp (I1.stkSub a hm)).elim P1.2.2.1 P1.2.2.2.1, P1.2.2.2.2⟩
  have hrH : L2H.RoomH (0 + 1) (X.suite a ((a, oe) :: pn)).A := by
    have z := hr.mono hk
    exact ⟨z.dp, z.un⟩
  have hl : us.length = N__law_word_of.length := by rw [← r.length]; rfl
  have b := bn s1 us I1.kIn (by rw [List.append_nil]; exact hl)
  rw [List.append_nil] at b
  refine wpAny_call (codeAny_mono (word_run F sc__law_word_of hrH hpin I1.env0 b r rfl fun cdv => word_body B W hz hf hd l1 l2 q) fun rr s' hq => ?_)
  cases rr with
  | error er => exact False.elim hq
  | ok fl =>
    cases fl with
    | ret u => exact I1.after hq
    | next => exact False.elim hq
    | brk => exact False.elim hq
    | cont => exact False.elim hq
end CK
/-! part D21 -/
set_option Elab.async false
set_option linter.all false
set_option maxRecDepth 100000
set_option maxHeartbeats 4000000
/-! _law_colours_told. -/
namespace CK
open PySem PySem.Spec PyProof.Rows L2
abbrev F__law_colours_told : PF := fun xs n K => ∃ (f : Fm) (d : T), xs = [.t (eF f), .t d] ∧ FOk f ∧ d.mild ∧ d.kb ∧ (∀ s es sn, d = eTk s es sn → Right f s es sn → SOk f s 16 → es.length ≤ 16 → K (.t (.bl true)) n) ∧ ((¬ ∃ s es sn, d = eTk s es sn ∧ Right f s es sn) → ∀ (w : Str) (k : Int), K (.t (.tup [.str w, .int k])) n)
theorem len__law_colours_told : ∀ xs n K, F__law_colours_told xs n K → xs.length = 2 := fun _ _ _ ⟨_, _, e, _⟩ => by rw [e]; rfl
abbrev N__law_colours_told : List Str := ["_law_form", "_law_thing", "_law_told", "_law_e"]
theorem sc__law_colours_told : FnScope N__law_colours_told ["_law_form", "_law_thing"] (defScope s__law_colours_told) := ⟨rfl, rfl, rfl, by decide +kernel, rfl, by decide +kernel, by decide +kernel⟩
theorem cal__law_colours_told {P : Program} {w : World} {K : PySem.W.Frag} {mg : Str → Option Value} {base : Heap} {f fW C : Addr} {fd fdW : FuncData} (B : Bi mg) (W : NwF K mg C) (gC : mg "NoTaking" = some (.ref C)) (xC : PySem.W.exmOne K (.ref C) (.ref C) = some true)
    (c_right_colours : CalX P w K mg base "right_colours" 10 ["form", "thing"] (spX C F_right_colours)) (FW : Fun K "_law_word_of" "_law_word_of" s__law_word_of fW fdW) (gW : mg "_law_word_of" = some (.ref fW))
    (F : Fun K "_law_colours_told" "_law_colours_told" s__law_colours_told f fd) (gm : mg "_law_colours_told" = some (.ref f)) : Cal P w K mg base "_law_colours_told" 11 ["_law_form", "_law_thing"] (spU F__law_colours_told) := by
  have bn : Binds K fd ["_law_form", "_law_thing"] [] := F.binds fun _ _ _ _ _ _ us hl => match us, hl with | [_, _], _ => rfl
  obtain ⟨fr, fdr, Fr, gr, kr, br⟩ := c_right_colours
  refine mk_cal (k := 10) F gm bn sc__law_colours_told rfl len__law_colours_told fun cdv A outer s H E hr => ?_
  have nd := (sc__law_colours_told).nd
  apply Exists.intro
  apply And.intro
  · exact (pss_cons (ps_set (i := 2) nd rfl (Or.inl rfl) pe_non)
      (pss_cons (ps_try_as rfl rfl nd rfl rfl ⟨by rfl, by decide, .inl gC⟩ takes0 (i := 3)
        (fun W2 pn xe tk hp => pss_one (ps_set (i := 2) nd rfl (Or.inl rfl) (pe_callS (E := WE W2) Fr (hr.mono (by decide)) (by rfl) gr kr br (passAt tk) (pa_cons (pv 0) (pa_cons (pv 1) pa_nil)))))
        (fun a oe cls d pn hz hf => pss_one (ps_set (i := 2) nd rfl (Or.inl rfl) (pe_word B W FW gW hr hz hf (pa_cons (pv 3) pa_nil) (by rfl)))))
        (pss_one (ps_ret (pv 2)))))
  · rintro xs n Kx ⟨fo, d, rfl, hf, md, kb, k1, k2⟩
    refine bl_seq (bl_asg (ev_non ?_))
    refine seqK_nx (bl_seqC (fun ρ m => m = n ∧ ∃ x : T, ρ.s[2]? = some (some (.t x)) ∧ Kx (.t x) n) ?_ ?_)
    · intro tp H0 H1 σ e D d1 d2 d3
      obtain ⟨v0, s0, r0⟩ := e.slot 0 (.t (eF fo)) rfl
      obtain ⟨v1, s1, r1⟩ := e.slot 1 (.t d) rfl
      refine ⟨v0, s0, v1, s1, ?_⟩
      refine ⟨tp, [.t (eF fo), .t d], n, fun x m => m = n ∧ x = .t (.bl true) ∧ Kx (.t (.bl true)) n, fun m => m = n ∧ ∀ (w : Str) (k : Int), Kx (.t (.tup [.str w, .int k])) n, e.tape, .cons r0 (.cons r1 .nil), ⟨fo, d, rfl, hf, md, kb, fun s es sn e1 e2 e3 e4 => ⟨rfl, rfl, k1 s es sn e1 e2 e3 e4⟩, fun h => ⟨rfl, k2 h⟩⟩, fun v H2 x m st tk rx ⟨em, ex, kk⟩ => ?_, fun dx H2 m st tk ex ⟨em, kk⟩ => ?_⟩
      · subst em ex
        exact d1 _ H2 _ m ((e.stp st tk).set (i := 2) (x := .t (.bl true)) rx (fun a z => by cases z) (fun a z => by cases z)) ⟨rfl, .bl true, rfl, kk⟩
      · subst em
        obtain ⟨fs, w, k, hfs, l1, l2⟩ := ex
        refine ⟨true, xC, fun _ a ha => ?_, fun z => by cases z⟩
        have e2 := (e.stp st tk).clr (i := 3) (o := some (V.ref a))
        have hlen : 3 < σ.length := by rw [e.len]; exact Nat.le_refl _
        refine ⟨.ref a, List.getElem?_set_self hlen, rfl, rfl, dx, fs, .str w, .int k, rfl, hfs, l1, l2, fun H' p sm hp => ?_⟩
        have e3 := e2.stp (stpS sm) (tk.same sm)
        have tk3 := tk.same sm
        have e4 := e3.stp (stpS (same_new (o := .tup [V.str w, .int k]) hp)) (tk3.same (same_new hp))
        have rp : RS tp H0 (upd H' p (.tup [V.str w, .int k])) (.ref p) (.t (.tup [.str w, .int k])) := rp_pair hp (.str w) (.int k)
        have e5 := (e4.set (i := 2) (x := .t (.tup [.str w, .int k])) rp (fun a z => by cases z) (fun a z => by cases z)).clr (i := 3) (o := none)
        exact d1 _ _ _ m e5 ⟨rfl, .tup [.str w, .int k], rfl, kk w k⟩
    · rintro ρ m ⟨em, x, hx, kk⟩
      subst em
      exact bl_ret (ev_varT hx kk)
end CK
/-! part D22 -/
set_option Elab.async false
set_option linter.all false
set_option maxRecDepth 100000
set_option maxHeartbeats 4000000
/-! law. -/
namespace CK
open PySem PySem.Spec PyProof.Rows L2
local macro_rules | `(tactic| walk_at "wp0") => `(tactic| first
  | ((with_reducible refine bl_retL (a := ?va) (ds := ?vd) ?vh ?_); (case vh => exact rfl))
  | ((with_reducible refine bl_retD (a := ?va) (ds := ?vd) ?vh ?_); (case vh => exact rfl))
  | (with_reducible refine bl_ret ?_)
  | (with_reducible refine bl_if ?_)
  | (with_reducible refine bl_asg ?_)
  | (with_reducible refine bl_asgP ?_)
  | (with_reducible refine bl_next ?_)
  | (with_reducible refine et_test ?_)
  | (with_reducible refine et_B ?_)
  | (with_reducible refine et_and ?_)
  | (with_reducible refine et_or ?_)
  | (with_reducible refine et_not ?_)
  | (with_reducible refine et_yes ?_)
  | ((with_reducible refine ev_varT (d := ?vd) ?vh ?_); (case vh => exact rfl))
  | ((with_reducible refine ev_varL (a := ?va) (ds := ?vd) (o := ?vo) ?vh ?_); (case vh => exact rfl))
  | ((with_reducible refine ev_varD (a := ?va) (kvs := ?vd) (o := ?vo) ?vh ?_); (case vh => exact rfl))
  | ((with_reducible refine ev_varP ?vh ?_); (case vh => exact rfl))
  | (with_reducible refine ev_int ?_)
  | (with_reducible refine ev_str ?_)
  | (with_reducible refine ev_bl ?_)
  | (with_reducible refine ev_non ?_)
  | (with_reducible refine ev_ty ?_)
  | (with_reducible refine ev_op ro_ix ?_)
  | (with_reducible refine ev_op ro_eq ?_)
  | (with_reducible refine ev_op ro_is ?_)
  | (with_reducible refine ev_op ro_cmp ?_)
  | (with_reducible refine ev_op ro_add ?_)
  | (with_reducible refine ev_op ro_sub ?_)
  | (with_reducible refine ev_op ro_mul ?_)
  | (with_reducible refine ev_op ro_mod ?_)
  | (with_reducible refine ev_op ro_div ?_)
  | (with_reducible refine ev_op ro_pow ?_)
  | (with_reducible refine ev_op ro_in ?_)
  | (with_reducible refine ev_neg ?_)
  | (with_reducible refine ev_cb rc_len ?_)
  | (with_reducible refine ev_cb rc_isi ?_)
  | (with_reducible refine ev_cb rc_all ?_)
  | (with_reducible refine ev_cb rc_list ?_)
  | (with_reducible refine ev_cb rc_tuple ?_)
  | (with_reducible refine ev_cb rc_int ?_)
  | (with_reducible refine ev_cb rc_max ?_)
  | (with_reducible refine ea_cons ?_)
  | (with_reducible refine ea_nil ?_)
  | (with_reducible refine ev_tup ?_)
  | (with_reducible refine ev_lst ?_)
  | (with_reducible refine ev_sl ?_)
  | (with_reducible refine eo_none ?_)
  | (with_reducible refine eo_some ?_)
  | (with_reducible refine ev_dget ?_)
  | (with_reducible refine ev_dnew ?_)
  | (with_reducible refine ev_if ?_)
  | (with_reducible refine ev_and ?_)
  | (with_reducible refine ev_or ?_)
  | (with_reducible refine ev_not ?_)
  | (with_reducible refine ev_chain ro_cmp ro_cmp ?_)
  | (with_reducible refine ev_call ?_)
  | (with_reducible refine ev_lrg2 ?_)
  | (with_reducible refine wAddI ?_)
  | (with_reducible refine wSub ?_)
  | (with_reducible refine wEqI ?_)
  | (with_reducible refine wEqS ?_)
  | (with_reducible refine wNeI ?_)
  | (with_reducible refine wNeS ?_)
  | (with_reducible refine wCmp ?_)
  | (with_reducible refine wLenT ?_)
  | (with_reducible refine wLenL ?_)
  | (with_reducible refine wTupT ?_)
  | (with_reducible refine wTupL ?_)
  | (with_reducible refine wIsN ?_)
  | (with_reducible refine wNotN ?_)
  | (with_reducible refine wIsB ?_)
  | (with_reducible refine wInt ?_)
  | (with_reducible refine wMax ?_)
  | (with_reducible refine wListT ?_; intro _)
  | (with_reducible refine wListL ?_; intro _)
  | (with_reducible refine wSlT ?_)
  | ((with_reducible refine wIxT (d := ?vd) ?vh ?_); (case vh => exact rfl))
  | (refine wIxT atI_c0 ?_)
  | (refine wIxT atI_c1 ?_)
  | (refine wIxT atI_c2 ?_)
  | ((with_reducible refine wIxL (d := ?vd) ?vh ?_); (case vh => exact rfl))
  | ((with_reducible refine wIsi (b := ?vd) ?vh ?_); (case vh => exact rfl))
  | ((with_reducible refine wIsiL (b := ?vd) ?vh ?_); (case vh => exact rfl))
  | (with_reducible refine tg_tup rfl ?_)
  | (with_reducible refine tgs_cons ?_)
  | (with_reducible refine tgs_nil ?_)
  | ((with_reducible refine tg_name ?vh ?_); (case vh => decide))
  | (with_reducible refine ⟨_, rfl, ?_⟩)
  | (with_reducible refine ⟨_, _, rfl, ?_⟩)
  | (with_reducible refine ⟨_, _, rfl, rfl, ?_⟩)
  | (with_reducible refine ⟨_, _, _, rfl, ?_⟩)
  | (refine And.intro (show List.length _ ≤ lim from Nat.le_of_ble_eq_true rfl) ?_)
  | (with_reducible refine seqK_nx ?_)
  | (with_reducible refine seqK_rt ?_)
  | (with_reducible refine seqK_ex ?_)
  | fail "wp0: no step")
local macro_rules | `(tactic| walk_at "wp1") => `(tactic| first | (with_reducible refine bl_seq ?_) | walk_at "wp0")
local macro_rules | `(tactic| walk_at "wps") => `(tactic| repeat (walk_at "wp0"))
local macro_rules | `(tactic| walk_at "wp") => `(tactic| repeat (walk_at "wp1"))
theorem wNotT {b : Bool} {K : X → Prop} (k : K (.t (.bl (!b)))) : IsW true (.t (.bl b)) (.t (.bl true)) K := ⟨b == true, rfl, by cases b <;> exact k⟩
theorem wIsTup {ds : List T} {K : X → Prop} (k : K (.t (.bl false))) : IsW false (.t (.tup ds)) (.t (.bl true)) K := ⟨false, rfl, k⟩
theorem mild_tk {f : Fm} (F : FOk f) {s : Sd} (h : BOk f s) {es : List Dd} {sn : List (Option Int)} (h1 : ∀ e ∈ es, DOk f e) (h2 : es.length ≤ 12) (h3 : sn.length = f.rules.length) : (eTk s es sn).mild := by
  have hrl := F.rl
  refine tup_mild (fun x hx => ?_) (by simp)
  rcases List.mem_cons.mp hx with rfl | hx
  · exact h.mild F
  · rcases List.mem_cons.mp hx with rfl | hx
    · refine tup_mild (fun y hy => ?_) (by rw [List.length_map]; omega)
      obtain ⟨d, hd, rfl⟩ := List.mem_map.mp hy
      exact eD_mild (h1 d hd)
    · rw [List.mem_singleton.mp hx]
      refine tup_mild (fun y hy => ?_) (by rw [List.length_map]; omega)
      obtain ⟨d, hd, rfl⟩ := List.mem_map.mp hy
      exact eP_mild d
def spLaw (K : PySem.W.Frag) : Sp := fun vs H Q _ => ∃ (a : Addr) (ns : List Int), vs = [.ref a] ∧ SqL K H a (ns.map V.int) ∧ ∀ H', Q (.bl true) H'
theorem eok_tape {H : Hp} {t c : Addr} {ns : List Int} {σ : L2.St} {k : Nat} (hσ : σ.length = k + 2) (h1 : σ[1]? = some (some (.ref t))) (ht : H t = some (.lst [.ref c, .int 0, .int 0])) (hc : H c = some (.lst ((ns.take 63).map V.int))) : EOk (some (t, c)) H H σ ⟨none :: some .tape :: List.replicate k none, []⟩ 0 := by
  refine ⟨by simp [hσ], Stp.refl H, fun t' c' e => ?_, fun t' c' e => ?_, fun i x e => ?_, fun p hp => absurd hp (by simp), fun i j x y a e1 e2 o1 o2 => ?_, fun p hp => absurd hp (by simp)⟩
  · cases e
    exact ⟨⟨_, ht⟩, ⟨_, hc⟩⟩
  · cases e
    exact ⟨ns.take 63, 0, 0, ht, hc, by decide, by decide, by decide, by rw [List.length_take]; omega⟩
  · match i, e with
    | 1, e =>
      simp at e
      subst e
      exact ⟨_, h1, t, rfl, rfl⟩
    | i + 2, e =>
      simp [List.getElem?_replicate] at e
  · match i, e1 with
    | 1, e1 =>
      simp at e1
      subst e1
      cases o1
    | i + 2, e1 =>
      simp [List.getElem?_replicate] at e1
abbrev N_law : List Str := ["_law_script", "_law_tape", "_law_form", "_law_stand", "_law_k", "_law_taking", "_law_way"]
theorem sc_law : FnScope N_law ["_law_script"] (defScope s_law) := ⟨rfl, rfl, rfl, by decide +kernel, rfl, by decide +kernel, by decide +kernel⟩
theorem fn_law {P : Program} {w : World} {K : PySem.W.Frag} {mg : Str → Option Value} {base : Heap} {f : Addr} {fd : FuncData} (B : Bi mg) (c__law_new_tape : Cal P w K mg base "_law_new_tape" 1 ["_law_script"] (spNew K)) (c__law_a_form : Cal P w K mg base "_law_a_form" 2 ["_law_tape", "_law_orders"] (spU F__law_a_form)) (c__law_a_base : Cal P w K mg base "_law_a_base" 2 ["_law_tape", "_law_form"] (spU F__law_a_base)) (c__law_reached : Cal P w K mg base "_law_reached" 7 ["_law_tape", "_law_form", "_law_base", "_law_many"] (spU F__law_reached)) (c__law_draw : Cal P w K mg base "_law_draw" 1 ["_law_tape", "_law_many"] (spU F__law_draw)) (c__law_colours_told : Cal P w K mg base "_law_colours_told" 11 ["_law_form", "_law_thing"] (spU F__law_colours_told)) (c__law_free_colours : Cal P w K mg base "_law_free_colours" 4 ["_law_tape", "_law_form", "_law_base", "_law_deeds"] (spU F__law_free_colours)) (c__law_bent_colours : Cal P w K mg base "_law_bent_colours" 4 ["_law_tape", "_law_taking"] (spU F__law_bent_colours)) (c_colours_way : Cal P w K mg base "colours_way" 2 ["form", "taking"] (spU F_colours_way)) (c__law_a_run : Cal P w K mg base "_law_a_run" 4 ["_law_tape", "_law_form", "_law_stand", "_law_many"] (spU F__law_a_run)) (c__law_leads : Cal P w K mg base "_law_leads" 10 ["_law_form", "_law_taking", "_law_way"] (spU F__law_leads)) (F : Fun K "law" "law" s_law f fd) : FnOk P w K mg base CX0 12 f fd ["_law_script"] (spLaw K) := by
  refine F.ok (k := 11) sc_law (fun vs H Q E ⟨a, ns, e, _⟩ => by rw [e]; rfl) fun cdv A outer s H vs Q E hr h => ?_
  have nd := (sc_law).nd
  apply Exists.intro
  apply And.intro
  · exact (pss_cons (ps_set (i := 1) nd rfl (Or.inl rfl) (pe_cal c__law_new_tape hr (by rfl) (pa_cons (pv 0) pa_nil)))
    (pss_cons (ps_set (i := 2) nd rfl (Or.inl rfl) (pe_cal c__law_a_form hr (by rfl) (pa_cons (pv 1) (pa_cons (pe_lst (pa_cons pe_str (pa_cons pe_str pa_nil))) pa_nil))))
    (pss_cons (ps_set (i := 3) nd rfl (Or.inl rfl) (pe_cal c__law_a_base hr (by rfl) (pa_cons (pv 1) (pa_cons (pv 2) pa_nil))))
    (pss_cons (ps_for PassesOwn.never rfl (pi_range1 (by rfl) B.range (pa_cons pe_int pa_nil)) (pg_name (i := 4) nd rfl (Or.inl rfl))
      (pss_cons (ps_set (i := 5) nd rfl (Or.inl rfl) (pe_cal c__law_reached hr (by rfl) (pa_cons (pv 1) (pa_cons (pv 2) (pa_cons (pv 3) (pa_cons (pe_cal c__law_draw hr (by rfl) (pa_cons (pv 1) (pa_cons pe_int pa_nil))) pa_nil))))))
    (pss_cons (ps_if (pt_cmpR op_isnotP (pe_cal c__law_colours_told hr (by rfl) (pa_cons (pv 2) (pa_cons (pv 5) pa_nil))) pe_bl (nomark _)) (pss_one (ps_ret pe_bl)) pss_nil)
    (pss_cons (ps_if (pt_cmpR (op_eqK (K := K) hr.units) (pe_cal c__law_draw hr (by rfl) (pa_cons (pv 1) (pa_cons pe_int pa_nil))) pe_int (nomark _)) (pss_one (ps_set (i := 5) nd rfl (Or.inl rfl) (pe_cal c__law_free_colours hr (by rfl) (pa_cons (pv 1) (pa_cons (pv 2) (pa_cons (pv 3) (pa_cons (pe_cal c__law_a_run hr (by rfl) (pa_cons (pv 1) (pa_cons (pv 2) (pa_cons (pv 3) (pa_cons (pe_cal c__law_draw hr (by rfl) (pa_cons (pv 1) (pa_cons pe_int pa_nil))) pa_nil))))) pa_nil))))))) pss_nil)
    (pss_cons (ps_if (pt_cmpR (op_eqK (K := K) hr.units) (pe_cal c__law_draw hr (by rfl) (pa_cons (pv 1) (pa_cons pe_int pa_nil))) pe_int (nomark _)) (pss_one (ps_set (i := 5) nd rfl (Or.inl rfl) (pe_cal c__law_bent_colours hr (by rfl) (pa_cons (pv 1) (pa_cons (pv 5) pa_nil))))) pss_nil)
    (pss_one (ps_if (pt_cmpR op_isP (pe_cal c__law_colours_told hr (by rfl) (pa_cons (pv 2) (pa_cons (pv 5) pa_nil))) pe_bl (nomark _)) (pss_cons (ps_set (i := 6) nd rfl (Or.inl rfl) (pe_cal c_colours_way hr (by rfl) (pa_cons (pv 2) (pa_cons (pv 5) pa_nil))))
    (pss_cons (ps_if (pt_not (pt_val (pe_cal c__law_leads hr (by rfl) (pa_cons (pv 2) (pa_cons (pv 5) (pa_cons (pv 6) pa_nil)))))) (pss_one (ps_ret pe_bl)) pss_nil)
    (pss_cons (ps_expr (pe_bm PySem.F.plainAttrs_list PySem.F.slot_list_append PySem.F.type_list_append mt_append (pv 6) (pa_cons pe_non pa_nil)))
    (pss_one (ps_if (pt_not (pt_val (pe_cal c__law_leads hr (by rfl) (pa_cons (pv 2) (pa_cons (pv 5) (pa_cons (pe_cal c_colours_way hr (by rfl) (pa_cons (pv 2) (pa_cons (pv 5) pa_nil))) pa_nil)))))) (pss_one (ps_ret pe_bl)) pss_nil))))) pss_nil)))))))
    (pss_one (ps_ret pe_bl))))))
  · obtain ⟨a, ns, rfl, hS, hQ⟩ := h
    refine ⟨_, rfl, a, ns, rfl, hS, fun c t hc ht => ?_⟩
    have hct : c ≠ t := fun e => by rw [← e, upd_same] at ht; cases ht
    have e0 := eok_tape (k := 5) (σ := (L2.start N_law [V.ref a]).set 1 (some (.ref t))) (ns := ns) rfl rfl (upd_same (H := upd H c (.lst ((ns.take 63).map V.int))) (o := .lst [.ref c, .int 0, .int 0])) (by rw [upd_ne hct]; exact upd_same)
    have key : ∀ {ts : TS}, Blk 0 E0 ts ⟨none :: some .tape :: List.replicate 5 none, []⟩ 0 (retK fun x _ => x = .t (.bl true)) → ts { nx := fun _ H' => Q .non H', rt := Q } ((L2.start N_law [V.ref a]).set 1 (some (.ref t))) (upd (upd H c (.lst ((ns.take 63).map V.int))) t (.lst [.ref c, .int 0, .int 0])) := fun {ts} b => by
      refine b _ _ _ _ e0 _ (fun σ' H' ρ' m _ z => by cases z) (fun v H' x m _ _ rx z => ?_) (fun d H' m _ _ _ z => z.elim)
      have z' : x = .t (.bl true) := z
      subst z'
      rw [rx.bl]
      exact hQ H'
    change tSeq _ _ _ _ _
    refine key (ts := tSeq _ _) ?_
    clear key e0
    refine bl_seq (show Blk 0 E0 tNext _ _ _ from bl_next (seqK_nx ?_))
    refine bl_seq ?_
    walk_at "wps"
    intro p0
    walk_at "wps"
    refine ⟨by omega, fun fo m fm hm => ?_⟩
    have hf := fm.ok
    walk_at "wps"
    refine bl_seq ?_
    walk_at "wps"
    refine ⟨fm, by omega, fun so m2 hb hm2 => ?_⟩
    walk_at "wps"
    refine bl_seq (bl_forS (α := Nat) [4, 5, 6] (fun i => T.int (i : Nat)) (fun _ : Unit => [none, some .tape, some (.t (eF fo)), some (.t (eS so)), none, none, none]) (fun i _ m' => m' ≤ m2 + 2000 * i) (ei_rngN ?_))
    walk_at "wp"
    refine ⟨by decide, List.range 4, (), rfl, rfl, by omega, fun p hp => hp, fun i ii _ m' hv h1 => ?_, fun _ m' h1 => ?_⟩
    · have hi : i < 4 := by have := (List.getElem?_eq_some_iff.mp hv).1; rwa [List.length_range] at this
      walk_at "wps"
      refine bl_seq ?_
      walk_at "wps"
      refine ⟨by omega, by omega, by omega, fun r r0 r1 => ?_⟩
      obtain ⟨rn, rfl⟩ : ∃ rn : Nat, r = (rn : Nat) := ⟨r.toNat, by omega⟩
      walk_at "wps"
      refine ⟨hf, hb, by omega, by omega, fun es sn m3 R hes hm3 => ?_⟩
      walk_at "wps"
      have mk := mild_tk hf hb (runs_ok R.run) hes R.len
      have kb : (eTk so es sn).kb := kb_of hb.sb
      refine bl_seqC (fun ρ m4 => m4 = m3 ∧ ρ = ⟨[none, some .tape, some (.t (eF fo)), some (.t (eS so)), some (.t (.int (ii : Nat))), some (.t (eTk so es sn)), none], []⟩) ?_ ?_
      · walk_at "wp"
        refine ⟨hf, mk, kb, fun s' es' sn' e1 e2 e3 e4 => ?_, fun h => absurd ⟨so, es, sn, rfl, R⟩ h⟩
        walk_at "wp"
        refine wNotT ?_
        walk_at "wp"
        exact ⟨fun z => (by cases z), fun _ => bl_next ⟨rfl, rfl⟩⟩
      rintro ρ m4 ⟨em, rfl⟩
      subst em
      refine bl_seqC (fun ρ m5 => m5 ≤ m4 + 100 ∧ ∃ (es : List Dd) (sn : List (Option Int)), (∀ e ∈ es, DOk fo e) ∧ es.length ≤ 12 ∧ sn.length = fo.rules.length ∧ ρ = ⟨[none, some .tape, some (.t (eF fo)), some (.t (eS so)), some (.t (.int (ii : Nat))), some (.t (eTk so es sn)), none], []⟩) ?_ ?_
      · walk_at "wp"
        refine ⟨by omega, by omega, by omega, fun y y0 y1 => ?_⟩
        walk_at "wp"
        refine ⟨fun _ => ?_, fun _ => ?_⟩
        · walk_at "wp"
          refine ⟨by omega, by omega, by omega, fun z z0 z1 => ?_⟩
          obtain ⟨zn, rfl⟩ : ∃ zn : Nat, z = (zn : Nat) := ⟨z.toNat, by omega⟩
          walk_at "wp"
          refine ⟨fo, so, 16, zn, rfl, hf, hb.ok, by omega, by omega, fun p1 es2 m6 r2 l2 hm6 => ?_⟩
          walk_at "wp"
          refine ⟨fo, so, es2, p1, rfl, hf, hb.ok, r2, by omega, by omega, fun sn2 m7 hsn2 hm7 => ?_⟩
          walk_at "wp"
          exact ⟨by omega, es2, sn2, runs_ok r2, by omega, hsn2, rfl⟩
        · exact bl_next ⟨by omega, es, sn, runs_ok R.run, hes, R.len, rfl⟩
      clear kb mk R hes
      rintro ρ m5 ⟨hm5, es, sn, hok, hes, hsn, rfl⟩
      have mk := mild_tk hf hb hok hes hsn
      have kb : (eTk so es sn).kb := kb_of hb.sb
      refine bl_seqC (fun ρ m6 => m6 ≤ m5 + 100 ∧ ∃ d : T, d.mild ∧ d.kb ∧ ρ = ⟨[none, some .tape, some (.t (eF fo)), some (.t (eS so)), some (.t (.int (ii : Nat))), some (.t d), none], []⟩) ?_ ?_
      · walk_at "wp"
        refine ⟨by omega, by omega, by omega, fun y y0 y1 => ?_⟩
        walk_at "wp"
        refine ⟨fun _ => ?_, fun _ => ?_⟩
        · walk_at "wp"
          refine ⟨fo, so, es, sn, rfl, hf, hb, hok, hes, hsn, by omega, fun d m7 md kd hm7 => ?_⟩
          exact ⟨by omega, d, md, kd, rfl⟩
        · exact bl_next ⟨by omega, _, mk, kb, rfl⟩
      clear mk kb hok hes hsn
      rintro ρ m6 ⟨hm6, d, md, kd, rfl⟩
      walk_at "wp"
      refine ⟨hf, md, kd, fun s' es' sn' e1 R e3 e4 => ?_, fun h w k => ?_⟩
      · subst e1
        have hok := runs_ok R.run
        walk_at "wp"
        refine ⟨fun _ => ?_, fun z => (by cases z)⟩
        refine bl_seq ?_
        walk_at "wps"
        refine ⟨fo, s', es', sn', rfl, hf, by omega, hok, R.len, fun p1 => ?_⟩
        walk_at "wps"
        refine bl_seqC (fun ρ m7 => m7 = m6 ∧ ρ = ⟨[none, some .tape, some (.t (eF fo)), some (.t (eS so)), some (.t (.int (ii : Nat))), some (.t (eTk s' es' sn')), some (.l p1 ((way fo es' sn').map eW) true)], []⟩) ?_ ?_
        · walk_at "wp"
          refine ⟨fo, s', es', sn', p1, rfl, hf, e3, by omega, R, ?_⟩
          walk_at "wp"
          exact ⟨fun z => (by cases z), fun _ => bl_next ⟨rfl, rfl⟩⟩
        rintro ρ m7 ⟨em, rfl⟩
        subst em
        have hwl : (way fo es' sn').length ≤ 100 := by
          have h1 := wayFrom_len fo sn' es' []
          have h2 := wayEnd_len fo sn' es'
          have h3 := R.len
          have h4 := hf.rl
          unfold way
          rw [List.length_append]
          omega
        refine bl_seq (bl_append (j := 6) rfl (by rw [List.length_map]; show _ < 100000; omega) ?_)
        walk_at "wp"
        refine ⟨fo, s', es', sn', rfl, hf, by omega, hok, R.len, fun p2 => ?_⟩
        walk_at "wp"
        refine ⟨fo, s', es', sn', p2, rfl, hf, e3, by omega, R, ?_⟩
        walk_at "wp"
        refine ⟨fun z => (by cases z), fun _ => bl_next ?_⟩
        exact ⟨rfl, (), rfl, by omega⟩
      · walk_at "wp"
        refine wIsTup ?_
        walk_at "wp"
        refine ⟨fun z => (by cases z), fun _ => bl_next ?_⟩
        exact ⟨rfl, (), rfl, by omega⟩
    · walk_at "wp"
      rfl
end CK
/-! part facts -/
set_option Elab.async false
set_option linter.all false
set_option maxRecDepth 100000
set_option maxHeartbeats 4000000
namespace CK
open PySem PySem.Spec PyProof.Rows L2
section
variable {K : PySem.W.Frag} {h : Heap} {mg : Str → Option Value}
structure HdF (K : PySem.W.Frag) : Prop where
  g : ∀ x ∈ xsH, (He.Fa.glo x).ok K = true
  f : ∀ x ∈ frH, (He.Fa.free x).ok K = true
  a : ∀ f ∈ faH, f.ok K = true
  d : ∀ d ∈ fnH, PySem.W.keepIn K (.ref (He.fAd K d.at_)) = true ∧ (He.Fa.code d.at_ d.qual).ok K = true
  n : ntB K = true
  w : nwB K = true
  o : fnH.map (fun d => He.fnObs K d.at_) = fnH.map He.FnD.val
theorem hdF_of (c : SaysH fnH exH K) : HdF K := by
  obtain ⟨e, o⟩ := c
  obtain ⟨h1, e⟩ := He.ba (show ((xsH.all fun x => (He.Fa.glo x).ok K) && ((frH.all fun x => (He.Fa.free x).ok K) && ((faH.all fun f => f.ok K) && ((fnH.all fun d => PySem.W.keepIn K (.ref (He.fAd K d.at_)) && (He.Fa.code d.at_ d.qual).ok K) && (ntB K && nwB K))))) = true from e)
  obtain ⟨h2, e⟩ := He.ba e
  obtain ⟨h3, e⟩ := He.ba e
  obtain ⟨h4, e⟩ := He.ba e
  obtain ⟨h5, h6⟩ := He.ba e
  exact ⟨fun x hx => List.all_eq_true.mp h1 x hx, fun x hx => List.all_eq_true.mp h2 x hx, fun x hx => List.all_eq_true.mp h3 x hx, fun d hd => He.ba (List.all_eq_true.mp h4 d hd), h5, h6, o⟩
theorem HdF.def_ (c : HdF K) (i : Nat) {d : He.FnD} (h : fnH[i]? = some d) :
    ∃ oc od osl kV doc pm an cdv ct, K.lookup (He.fAd K d.at_) = some ⟨oc, od, .func (PySem.W.fnOf d.name d.qual d.params d.body d.scope .none kV doc pm an cdv ct), osl⟩ ∧ PySem.W.codeIn K cdv d.qual = true := by
  have e2 : (fnH.map fun d => He.fnObs K d.at_)[i]? = (fnH.map He.FnD.val)[i]? := by rw [c.o]
  rw [List.getElem?_map, List.getElem?_map, h] at e2
  exact He.fn_ok (Option.some.inj e2) (c.d d (List.mem_of_getElem? h)).2
/-- a def of the module by its name -/
def At (K : PySem.W.Frag) (mg : Str → Option Value) (x q : Str) (st : Stmt) : Prop := ∃ f fd, Fun K q q st f fd ∧ mg x = some (.ref f)
theorem HdF.at_ (c : HdF K) (X : K.In h) (G : h.Ns mainGlobals mg) {x q : Str} {st : Stmt} (i j : Nat) (h1 : fnH[i]? = some (dOf x q st)) (h2 : xsH[j]? = some x) : At K mg x q st := by
  obtain ⟨oc, od, osl, kV, doc, pm, an, cdv, ct, lk, hc⟩ := c.def_ i h1
  exact ⟨_, _, fun_mk lk hc (c.d _ (List.mem_of_getElem? h1)).1, He.glo_ok X G (c.g x (List.mem_of_getElem? h2))⟩
theorem HdF.cl (c : HdF K) (X : K.In h) (G : h.Ns mainGlobals mg) {x : Str} (j : Nat) (h2 : xsH[j]? = some x) : mg x = some (.ref (He.ga K x)) := He.glo_ok X G (c.g x (List.mem_of_getElem? h2))
theorem HdF.fr (c : HdF K) (X : K.In h) (G : h.Ns mainGlobals mg) {x : Str} (j : Nat) (h2 : frH[j]? = some x) : mg x = none := He.free_ok X G (c.f x (List.mem_of_getElem? h2))
theorem HdF.bi (c : HdF K) (X : K.In h) (G : h.Ns mainGlobals mg) : Bi mg :=
  ⟨c.fr X G 0 rfl, c.fr X G 1 rfl, c.fr X G 2 rfl, c.fr X G 3 rfl, c.fr X G 4 rfl, c.fr X G 5 rfl, c.fr X G 6 rfl, c.fr X G 7 rfl, c.fr X G 8 rfl, c.fr X G 9 rfl, c.fr X G 10 rfl, c.fr X G 11 rfl, He.str_ok X G (c.a (.str "LETTERS" "abcdefghijklmnopqrstuvwxyz") (List.mem_of_getElem? (i := 0) rfl)), He.int_ok X G (c.a (.int "MOST_STATE" 99) (List.mem_of_getElem? (i := 1) rfl)), He.int_ok X G (c.a (.int "MOST_LONG" 8) (List.mem_of_getElem? (i := 2) rfl))⟩
theorem HdF.nt (c : HdF K) (X : K.In h) (G : h.Ns mainGlobals mg) : NtF K mg (aC K) := by
  obtain ⟨h1, e⟩ := He.ba c.n
  obtain ⟨h2, e⟩ := He.ba e
  obtain ⟨h3, e⟩ := He.ba e
  obtain ⟨h4, e⟩ := He.ba e
  obtain ⟨h5, e⟩ := He.ba e
  obtain ⟨h6, e⟩ := He.ba e
  obtain ⟨h7, e⟩ := He.ba e
  obtain ⟨h8, e⟩ := He.ba e
  obtain ⟨h9, e⟩ := He.ba e
  obtain ⟨h10, h11⟩ := He.ba e
  obtain ⟨oc, od, osl, kV, doc, pm, an, cdv, ct, lk, hc⟩ := c.def_ 61 (d := dIni) rfl
  exact ⟨⟨oexB_ok h1, He.eqO_ok h2, of_decide_eq_true h3, of_decide_eq_true h4, h5⟩, c.cl X G 65 rfl, He.eqO_ok h6, He.eqO_ok h7,
    ⟨_, _, He.eqO_ok h8, of_decide_eq_true h9, fun_mk (st := sIni) lk hc (c.d dIni (List.mem_of_getElem? (i := 61) rfl)).1⟩, ⟨_, c.cl X G 61 rfl, h10, fcB_ok h11⟩⟩
theorem HdF.nw (c : HdF K) (X : K.In h) (G : h.Ns mainGlobals mg) : NwF K mg (aC K) ∧ PySem.W.exmOne K (.ref (aC K)) (.ref (aC K)) = some true := by
  obtain ⟨h1, e⟩ := He.ba c.w
  obtain ⟨h2, e⟩ := He.ba e
  obtain ⟨h3, e⟩ := He.ba e
  obtain ⟨h4, e⟩ := He.ba e
  obtain ⟨h5, e⟩ := He.ba e
  obtain ⟨h6, e⟩ := He.ba e
  obtain ⟨h7, e⟩ := He.ba e
  obtain ⟨h8, e⟩ := He.ba e
  obtain ⟨h9, e⟩ := He.ba e
  obtain ⟨h10, h11⟩ := He.ba e
  have N := c.nt X G
  exact ⟨⟨⟨He.eqO_ok h1, He.eqO_ok h2, N.T.exC, h3, He.eqO_ok h4, He.eqO_ok h5, of_decide_eq_true h6, of_decide_eq_true h7⟩, ⟨He.eqO_ok h1, He.eqO_ok h2, N.T.exC, h3⟩, N.fw, N.fn,
    ⟨_, _, _, _, _, _, c.cl X G 62 rfl, c.cl X G 63 rfl, c.cl X G 64 rfl, c.cl X G 66 rfl, c.cl X G 67 rfl, c.cl X G 68 rfl, of_decide_eq_true h8⟩, ⟨_, _, _, _, c.cl X G 69 rfl, c.cl X G 70 rfl, c.cl X G 71 rfl, c.cl X G 72 rfl, of_decide_eq_true h9⟩, c.fr X G 12 rfl, of_decide_eq_true h10⟩, of_decide_eq_true h11⟩
end
theorem law_at {P : Program} {w : World} {K : PySem.W.Frag} {h base : Heap} {mg : Str → Option Value} {f0 : Addr} {fd0 : FuncData} (c : HdF K) (X : K.In h) (G : h.Ns mainGlobals mg) (F0 : Fun K "law" "law" s_law f0 fd0) : FnOk P w K mg base CX0 12 f0 fd0 ["_law_script"] (spLaw K) := by
  have B := c.bi X G
  have Z := c.nt X G
  obtain ⟨W, xC⟩ := c.nw X G
  obtain ⟨f, fd, F, gm⟩ := c.at_ X G (x := "_law_new_tape") (q := "_law_new_tape") (st := s__law_new_tape) 30 30 rfl rfl
  have c__law_new_tape := cal__law_new_tape (P := P) (w := w) (base := base) (B := B) (F := F) (gm := gm)
  clear F gm f fd
  obtain ⟨f, fd, F, gm⟩ := c.at_ X G (x := "_law_draw") (q := "_law_draw") (st := s__law_draw) 31 31 rfl rfl
  have c__law_draw := cal__law_draw (P := P) (w := w) (base := base) (B := B) (F := F) (gm := gm)
  clear F gm f fd
  obtain ⟨f, fd, F, gm⟩ := c.at_ X G (x := "_law_a_form") (q := "_law_a_form") (st := s__law_a_form) 32 32 rfl rfl
  have c__law_a_form := cal__law_a_form (P := P) (w := w) (base := base) (B := B) (c__law_draw := c__law_draw) (F := F) (gm := gm)
  clear F gm f fd
  obtain ⟨f, fd, F, gm⟩ := c.at_ X G (x := "_law_a_base") (q := "_law_a_base") (st := s__law_a_base) 33 33 rfl rfl
  have c__law_a_base := cal__law_a_base (P := P) (w := w) (base := base) (B := B) (c__law_draw := c__law_draw) (F := F) (gm := gm)
  clear F gm f fd
  obtain ⟨f, fd, F, gm⟩ := c.at_ X G (x := "_law_machine") (q := "_law_machine") (st := s__law_machine) 34 34 rfl rfl
  have c__law_machine := cal__law_machine (P := P) (w := w) (base := base) (B := B) (F := F) (gm := gm)
  clear F gm f fd
  obtain ⟨f, fd, F, gm⟩ := c.at_ X G (x := "_law_after") (q := "_law_after") (st := s__law_after) 35 35 rfl rfl
  have c__law_after := cal__law_after (P := P) (w := w) (base := base) (B := B) (c__law_machine := c__law_machine) (F := F) (gm := gm)
  clear F gm f fd
  obtain ⟨f, fd, F, gm⟩ := c.at_ X G (x := "_law_may") (q := "_law_may") (st := s__law_may) 36 36 rfl rfl
  have c__law_may := cal__law_may (P := P) (w := w) (base := base) (B := B) (c__law_after := c__law_after) (F := F) (gm := gm)
  clear F gm f fd
  obtain ⟨f, fd, F, gm⟩ := c.at_ X G (x := "_law_walk") (q := "_law_walk") (st := s__law_walk) 46 46 rfl rfl
  have c__law_walk := cal__law_walk (P := P) (w := w) (base := base) (B := B) (c__law_after := c__law_after) (F := F) (gm := gm)
  clear F gm f fd
  obtain ⟨f, fd, F, gm⟩ := c.at_ X G (x := "_law_colours_may") (q := "_law_colours_may") (st := s__law_colours_may) 50 50 rfl rfl
  have c__law_colours_may := cal__law_colours_may (P := P) (w := w) (base := base) (B := B) (c__law_may := c__law_may) (c__law_walk := c__law_walk) (F := F) (gm := gm)
  clear F gm f fd
  obtain ⟨f, fd, F, gm⟩ := c.at_ X G (x := "_law_whole") (q := "_law_whole") (st := s__law_whole) 43 43 rfl rfl
  have c__law_whole := cal__law_whole (P := P) (w := w) (base := base) (B := B) (F := F) (gm := gm)
  clear F gm f fd
  obtain ⟨f, fd, F, gm⟩ := c.at_ X G (x := "_law_is") (q := "_law_is") (st := s__law_is) 47 47 rfl rfl
  have c__law_is := cal__law_is (P := P) (w := w) (base := base) (B := B) (c__law_whole := c__law_whole) (F := F) (gm := gm)
  clear F gm f fd
  obtain ⟨f, fd, F, gm⟩ := c.at_ X G (x := "is_tuple") (q := "is_tuple") (st := s_is_tuple) 4 4 rfl rfl
  have c_is_tuple := cal_is_tuple (P := P) (w := w) (base := base) (B := B) (F := F) (gm := gm)
  clear F gm f fd
  obtain ⟨f, fd, F, gm⟩ := c.at_ X G (x := "is_whole_forms") (q := "is_whole") (st := s_is_whole_forms) 0 0 rfl rfl
  have c_is_whole_forms := cal_is_whole_forms (P := P) (w := w) (base := base) (B := B) (F := F) (gm := gm)
  clear F gm f fd
  obtain ⟨f, fd, F, gm⟩ := c.at_ X G (x := "is_within") (q := "is_within") (st := s_is_within) 1 1 rfl rfl
  have c_is_within := cal_is_within (P := P) (w := w) (base := base) (B := B) (c_is_whole_forms := c_is_whole_forms) (F := F) (gm := gm)
  clear F gm f fd
  obtain ⟨f, fd, F, gm⟩ := c.at_ X G (x := "is_word") (q := "is_word") (st := s_is_word) 2 2 rfl rfl
  have c_is_word := cal_is_word (P := P) (w := w) (base := base) (B := B) (F := F) (gm := gm)
  clear F gm f fd
  obtain ⟨f, fd, F, gm⟩ := c.at_ X G (x := "is_sign") (q := "is_sign") (st := s_is_sign) 3 3 rfl rfl
  have c_is_sign := cal_is_sign (P := P) (w := w) (base := base) (B := B) (c_is_word := c_is_word) (F := F) (gm := gm)
  clear F gm f fd
  obtain ⟨f, fd, F, gm⟩ := c.at_ X G (x := "is_plain") (q := "is_plain") (st := s_is_plain) 10 10 rfl rfl
  have c_is_plain := cal_is_plain (P := P) (w := w) (base := base) (B := B) (c_is_tuple := c_is_tuple) (c_is_within := c_is_within) (c_is_whole_forms := c_is_whole_forms) (c_is_sign := c_is_sign) (F := F) (gm := gm)
  clear F gm f fd
  obtain ⟨f, fd, F, gm⟩ := c.at_ X G (x := "waits") (q := "waits") (st := s_waits) 9 9 rfl rfl
  have c_waits := cal_waits (P := P) (w := w) (base := base) (B := B) (F := F) (gm := gm)
  clear F gm f fd
  obtain ⟨f, fd, F, gm⟩ := c.at_ X G (x := "cause_of") (q := "cause_of") (st := s_cause_of) 12 12 rfl rfl
  have c_cause_of := cal_cause_of (P := P) (w := w) (base := base) (B := B) (c_waits := c_waits) (F := F) (gm := gm)
  clear F gm f fd
  obtain ⟨f, fd, F, gm⟩ := c.at_ X G (x := "machine_of") (q := "machine_of") (st := s_machine_of) 11 11 rfl rfl
  have c_machine_of := cal_machine_of (P := P) (w := w) (base := base) (B := B) (F := F) (gm := gm)
  clear F gm f fd
  obtain ⟨f, fd, F, gm⟩ := c.at_ X G (x := "answer") (q := "answer") (st := s_answer) 5 5 rfl rfl
  have c_answer := cal_answer (P := P) (w := w) (base := base) (B := B) (F := F) (gm := gm)
  clear F gm f fd
  obtain ⟨f, fd, F, gm⟩ := c.at_ X G (x := "answered") (q := "answered") (st := s_answered) 13 13 rfl rfl
  have c_answered := cal_answered (P := P) (w := w) (base := base) (B := B) (c_cause_of := c_cause_of) (c_machine_of := c_machine_of) (c_answer := c_answer) (F := F) (gm := gm)
  clear F gm f fd
  obtain ⟨f, fd, F, gm⟩ := c.at_ X G (x := "can") (q := "can") (st := s_can) 14 14 rfl rfl
  have c_can := cal_can (P := P) (w := w) (base := base) (B := B) (c_is_plain := c_is_plain) (c_answered := c_answered) (F := F) (gm := gm)
  clear F gm f fd
  obtain ⟨f, fd, F, gm⟩ := c.at_ X G (x := "_law_tried") (q := "_law_tried") (st := s__law_tried) 44 44 rfl rfl
  have c__law_tried := cal__law_tried (P := P) (w := w) (base := base) (B := B) (c__law_after := c__law_after) (c_can := c_can) (F := F) (gm := gm)
  clear F gm f fd
  obtain ⟨f, fd, F, gm⟩ := c.at_ X G (x := "_law_is_dark") (q := "_law_is_dark") (st := s__law_is_dark) 48 48 rfl rfl
  have c__law_is_dark := cal__law_is_dark (P := P) (w := w) (base := base) (B := B) (F := F) (gm := gm)
  clear F gm f fd
  obtain ⟨f, fd, F, gm⟩ := c.at_ X G (x := "_law_put") (q := "_law_put") (st := s__law_put) 45 45 rfl rfl
  have c__law_put := cal__law_put (P := P) (w := w) (base := base) (B := B) (F := F) (gm := gm)
  clear F gm f fd
  obtain ⟨f, fd, F, gm⟩ := c.at_ X G (x := "_law_all_events") (q := "_law_all_events") (st := s__law_all_events) 38 38 rfl rfl
  have c__law_all_events := cal__law_all_events (P := P) (w := w) (base := base) (B := B) (c__law_machine := c__law_machine) (F := F) (gm := gm)
  clear F gm f fd
  obtain ⟨f, fd, F, gm⟩ := c.at_ X G (x := "_law_all_letters") (q := "_law_all_letters") (st := s__law_all_letters) 40 40 rfl rfl
  have c__law_all_letters := cal__law_all_letters (P := P) (w := w) (base := base) (B := B) (c__law_all_events := c__law_all_events) (c__law_after := c__law_after) (F := F) (gm := gm)
  clear F gm f fd
  obtain ⟨f, fd, F, gm⟩ := c.at_ X G (x := "_law_all_ends") (q := "_law_all_ends") (st := s__law_all_ends) 39 39 rfl rfl
  have c__law_all_ends := cal__law_all_ends (P := P) (w := w) (base := base) (B := B) (c__law_machine := c__law_machine) (F := F) (gm := gm)
  clear F gm f fd
  obtain ⟨f, fd, F, gm⟩ := c.at_ X G (x := "_law_colours_after") (q := "_law_colours_after") (st := s__law_colours_after) 49 49 rfl rfl
  have c__law_colours_after := cal__law_colours_after (P := P) (w := w) (base := base) (B := B) (c__law_is := c__law_is) (c__law_machine := c__law_machine) (c__law_tried := c__law_tried) (c__law_is_dark := c__law_is_dark) (c__law_put := c__law_put) (c__law_walk := c__law_walk) (c__law_all_letters := c__law_all_letters) (c__law_all_ends := c__law_all_ends) (F := F) (gm := gm)
  clear F gm f fd
  obtain ⟨f, fd, F, gm⟩ := c.at_ X G (x := "_law_reached") (q := "_law_reached") (st := s__law_reached) 51 51 rfl rfl
  have c__law_reached := cal__law_reached (P := P) (w := w) (base := base) (B := B) (c__law_colours_may := c__law_colours_may) (c__law_colours_after := c__law_colours_after) (c__law_draw := c__law_draw) (F := F) (gm := gm)
  clear F gm f fd
  obtain ⟨f, fd, F, gm⟩ := c.at_ X G (x := "taken_out") (q := "taken_out") (st := s_taken_out) 15 15 rfl rfl
  have c_taken_out := cal_taken_out (P := P) (w := w) (base := base) (B := B) (F := F) (gm := gm)
  clear F gm f fd
  obtain ⟨f, fd, F, gm⟩ := c.at_ X G (x := "sent_out") (q := "sent_out") (st := s_sent_out) 16 16 rfl rfl
  have c_sent_out := cal_sent_out (P := P) (w := w) (base := base) (B := B) (F := F) (gm := gm)
  clear F gm f fd
  obtain ⟨f, fd, F, gm⟩ := c.at_ X G (x := "done") (q := "done") (st := s_done) 17 17 rfl rfl
  have c_done := cal_done (P := P) (w := w) (base := base) (B := B) (c_answered := c_answered) (c_machine_of := c_machine_of) (c_can := c_can) (c_taken_out := c_taken_out) (c_sent_out := c_sent_out) (F := F) (gm := gm)
  clear F gm f fd
  obtain ⟨f, fd, F, gm⟩ := c.at_ X G (x := "asked_deeds") (q := "asked_deeds") (st := s_asked_deeds) 24 24 rfl rfl
  have c_asked_deeds := cal_asked_deeds (P := P) (w := w) (base := base) (B := B) (Z := Z) (c_can := c_can) (c_done := c_done) (F := F) (gm := gm)
  clear F gm f fd
  obtain ⟨f, fd, F, gm⟩ := c.at_ X G (x := "events_of") (q := "events_of") (st := s_events_of) 19 19 rfl rfl
  have c_events_of := cal_events_of (P := P) (w := w) (base := base) (B := B) (c_machine_of := c_machine_of) (F := F) (gm := gm)
  clear F gm f fd
  obtain ⟨f, fd, F, gm⟩ := c.at_ X G (x := "ends_of_run") (q := "ends_of_run") (st := s_ends_of_run) 22 22 rfl rfl
  have c_ends_of_run := cal_ends_of_run (P := P) (w := w) (base := base) (B := B) (c_events_of := c_events_of) (F := F) (gm := gm)
  clear F gm f fd
  obtain ⟨f, fd, F, gm⟩ := c.at_ X G (x := "asked_seen") (q := "asked_seen") (st := s_asked_seen) 25 25 rfl rfl
  have c_asked_seen := cal_asked_seen (P := P) (w := w) (base := base) (B := B) (Z := Z) (c_ends_of_run := c_ends_of_run) (F := F) (gm := gm)
  clear F gm f fd
  obtain ⟨f, fd, F, gm⟩ := c.at_ X G (x := "run") (q := "run") (st := s_run) 18 18 rfl rfl
  have c_run := cal_run (P := P) (w := w) (base := base) (B := B) (c_done := c_done) (c_can := c_can) (F := F) (gm := gm)
  clear F gm f fd
  obtain ⟨f, fd, F, gm⟩ := c.at_ X G (x := "letters_of") (q := "letters_of") (st := s_letters_of) 20 20 rfl rfl
  have c_letters_of := cal_letters_of (P := P) (w := w) (base := base) (B := B) (c_run := c_run) (c_waits := c_waits) (c_done := c_done) (F := F) (gm := gm)
  clear F gm f fd
  obtain ⟨f, fd, F, gm⟩ := c.at_ X G (x := "is_dark") (q := "is_dark") (st := s_is_dark) 26 26 rfl rfl
  have c_is_dark := cal_is_dark (P := P) (w := w) (base := base) (B := B) (c_letters_of := c_letters_of) (c_events_of := c_events_of) (F := F) (gm := gm)
  clear F gm f fd
  obtain ⟨f, fd, F, gm⟩ := c.at_ X G (x := "asked_dark") (q := "asked_dark") (st := s_asked_dark) 27 27 rfl rfl
  have c_asked_dark := cal_asked_dark (P := P) (w := w) (base := base) (B := B) (Z := Z) (c_events_of := c_events_of) (c_is_dark := c_is_dark) (F := F) (gm := gm)
  clear F gm f fd
  obtain ⟨f, fd, F, gm⟩ := c.at_ X G (x := "is_letter") (q := "is_letter") (st := s_is_letter) 6 6 rfl rfl
  have c_is_letter := cal_is_letter (P := P) (w := w) (base := base) (B := B) (c_is_tuple := c_is_tuple) (c_is_within := c_is_within) (c_is_sign := c_is_sign) (F := F) (gm := gm)
  clear F gm f fd
  obtain ⟨f, fd, F, gm⟩ := c.at_ X G (x := "is_load") (q := "is_load") (st := s_is_load) 7 7 rfl rfl
  have c_is_load := cal_is_load (P := P) (w := w) (base := base) (B := B) (c_is_tuple := c_is_tuple) (c_is_whole_forms := c_is_whole_forms) (c_is_letter := c_is_letter) (F := F) (gm := gm)
  clear F gm f fd
  obtain ⟨f, fd, F, gm⟩ := c.at_ X G (x := "right_stand") (q := "right_stand") (st := s_right_stand) 8 8 rfl rfl
  have c_right_stand := cal_right_stand (P := P) (w := w) (base := base) (B := B) (c_is_tuple := c_is_tuple) (c_is_load := c_is_load) (c_is_within := c_is_within) (F := F) (gm := gm)
  clear F gm f fd
  obtain ⟨f, fd, F, gm⟩ := c.at_ X G (x := "is_whole_cuts") (q := "is_whole") (st := s_is_whole_cuts) 21 21 rfl rfl
  have c_is_whole_cuts := cal_is_whole_cuts (P := P) (w := w) (base := base) (B := B) (F := F) (gm := gm)
  clear F gm f fd
  obtain ⟨f, fd, F, gm⟩ := c.at_ X G (x := "are_seen") (q := "are_seen") (st := s_are_seen) 23 23 rfl rfl
  have c_are_seen := cal_are_seen (P := P) (w := w) (base := base) (B := B) (c_is_whole_cuts := c_is_whole_cuts) (F := F) (gm := gm)
  clear F gm f fd
  obtain ⟨f, fd, F, gm⟩ := c.at_ X G (x := "right_colours") (q := "right_colours") (st := s_right_colours) 28 28 rfl rfl
  have c_right_colours := cal_right_colours (P := P) (w := w) (base := base) (B := B) (Z := Z) (c_asked_deeds := c_asked_deeds) (c_asked_seen := c_asked_seen) (c_asked_dark := c_asked_dark) (c_right_stand := c_right_stand) (c_are_seen := c_are_seen) (F := F) (gm := gm)
  clear F gm f fd
  obtain ⟨f, fd, F, gm⟩ := c.at_ X G (x := "_law_colours_told") (q := "_law_colours_told") (st := s__law_colours_told) 56 56 rfl rfl
  obtain ⟨fW, fdW, FW, gW⟩ := c.at_ X G (x := "_law_word_of") (q := "_law_word_of") (st := s__law_word_of) 55 55 rfl rfl
  have c__law_colours_told := cal__law_colours_told (P := P) (w := w) (base := base) (B := B) (W := W) (gC := Z.gm) (xC := xC) (c_right_colours := c_right_colours) (FW := FW) (gW := gW) (F := F) (gm := gm)
  clear F gm f fd FW gW fW fdW
  obtain ⟨f, fd, F, gm⟩ := c.at_ X G (x := "_law_closed") (q := "_law_closed") (st := s__law_closed) 41 41 rfl rfl
  have c__law_closed := cal__law_closed (P := P) (w := w) (base := base) (B := B) (F := F) (gm := gm)
  clear F gm f fd
  obtain ⟨f, fd, F, gm⟩ := c.at_ X G (x := "_law_some_cut") (q := "_law_some_cut") (st := s__law_some_cut) 42 42 rfl rfl
  have c__law_some_cut := cal__law_some_cut (P := P) (w := w) (base := base) (B := B) (c__law_draw := c__law_draw) (c__law_all_ends := c__law_all_ends) (F := F) (gm := gm)
  clear F gm f fd
  obtain ⟨f, fd, F, gm⟩ := c.at_ X G (x := "_law_free_colours") (q := "_law_free_colours") (st := s__law_free_colours) 57 57 rfl rfl
  have c__law_free_colours := cal__law_free_colours (P := P) (w := w) (base := base) (B := B) (c__law_closed := c__law_closed) (c__law_all_letters := c__law_all_letters) (c__law_some_cut := c__law_some_cut) (c__law_draw := c__law_draw) (F := F) (gm := gm)
  clear F gm f fd
  obtain ⟨f, fd, F, gm⟩ := c.at_ X G (x := "_law_bent_row") (q := "_law_bent_row") (st := s__law_bent_row) 52 52 rfl rfl
  have c__law_bent_row := cal__law_bent_row (P := P) (w := w) (base := base) (B := B) (c__law_draw := c__law_draw) (F := F) (gm := gm)
  clear F gm f fd
  obtain ⟨f, fd, F, gm⟩ := c.at_ X G (x := "_law_bent_stand") (q := "_law_bent_stand") (st := s__law_bent_stand) 53 53 rfl rfl
  have c__law_bent_stand := cal__law_bent_stand (P := P) (w := w) (base := base) (B := B) (c__law_draw := c__law_draw) (c__law_bent_row := c__law_bent_row) (F := F) (gm := gm)
  clear F gm f fd
  obtain ⟨f, fd, F, gm⟩ := c.at_ X G (x := "_law_bent_colours") (q := "_law_bent_colours") (st := s__law_bent_colours) 58 58 rfl rfl
  have c__law_bent_colours := cal__law_bent_colours (P := P) (w := w) (base := base) (B := B) (c__law_draw := c__law_draw) (c__law_bent_row := c__law_bent_row) (c__law_bent_stand := c__law_bent_stand) (c__law_put := c__law_put) (F := F) (gm := gm)
  clear F gm f fd
  obtain ⟨f, fd, F, gm⟩ := c.at_ X G (x := "colours_way") (q := "colours_way") (st := s_colours_way) 29 29 rfl rfl
  have c_colours_way := cal_colours_way (P := P) (w := w) (base := base) (B := B) (c_machine_of := c_machine_of) (F := F) (gm := gm)
  clear F gm f fd
  obtain ⟨f, fd, F, gm⟩ := c.at_ X G (x := "_law_a_run") (q := "_law_a_run") (st := s__law_a_run) 37 37 rfl rfl
  have c__law_a_run := cal__law_a_run (P := P) (w := w) (base := base) (B := B) (c__law_may := c__law_may) (c__law_after := c__law_after) (c__law_draw := c__law_draw) (F := F) (gm := gm)
  clear F gm f fd
  obtain ⟨f, fd, F, gm⟩ := c.at_ X G (x := "_law_same") (q := "_law_same") (st := s__law_same) 54 54 rfl rfl
  have c__law_same := cal_same_all (P := P) (w := w) (base := base) B F gm 8
  clear F gm f fd
  obtain ⟨f, fd, F, gm⟩ := c.at_ X G (x := "_law_leads") (q := "_law_leads") (st := s__law_leads) 59 59 rfl rfl
  have c__law_leads := cal__law_leads (P := P) (w := w) (base := base) (B := B) (c__law_same := c__law_same) (c__law_colours_after := c__law_colours_after) (F := F) (gm := gm)
  clear F gm f fd
  exact fn_law (B := B) (c__law_new_tape := c__law_new_tape) (c__law_a_form := c__law_a_form) (c__law_a_base := c__law_a_base) (c__law_reached := c__law_reached) (c__law_draw := c__law_draw) (c__law_colours_told := c__law_colours_told) (c__law_free_colours := c__law_free_colours) (c__law_bent_colours := c__law_bent_colours) (c_colours_way := c_colours_way) (c__law_a_run := c__law_a_run) (c__law_leads := c__law_leads) (F := F0)
theorem law_top {P : Program} {w : World} {K : PySem.W.Frag} {h : Heap} {mg : Str → Option Value} {fa : Addr} (c : HdF K) (X : K.In h) (G : h.Ns mainGlobals mg) (hfa : mg ("law" : Str) = some (.ref fa)) :
    ∃ fd : FuncData, (∀ (s : Shared) (v : Value), BindsTo s fd ⟨[v], []⟩ [("_law_script", v)]) ∧ ∀ base : Heap, FnOk P w K mg base CX0 12 fa fd ["_law_script"] (spLaw K) := by
  obtain ⟨f, fd, F, gm⟩ := c.at_ X G (x := "law") (q := "law") (st := s_law) 60 60 rfl rfl
  have e := hfa.symm.trans gm
  cases e
  have b : ∀ (s : Shared) (v : Value), BindsTo s fd ⟨[v], []⟩ [("_law_script", v)] := by
    obtain ⟨oc, od, kV, doc, pm, an, cdv, ct, osl, e1, _, _⟩ := F.ex
    intro s v
    rw [e1]
    exact .of_eq rfl
  exact ⟨fd, b, fun base => law_at c X G F⟩
end CK
set_option maxHeartbeats 0
open PySem PySem.W PySem.Calls PyProof.Rows
theorem PySem.Challenge.cw_cutstand_k35_whole_ways_to_colours_holds : PySem.Challenge.rw_cutstand_k35_whole_ways_to_colours.Holds := by
  refine CK.holds_of ?_
  refine L2.walk_ofE (l := PySem.Challenge.rw_cutstand_k35_whole_ways_to_colours) (n := 63) (k := 12) (x := "_law_script") (CX := L2.CX0) rfl (by decide) (by kernel_rfl) ⟨rfl, by decide, by decide⟩ ?F (fun _ _ _ _ z => z)
  intro w mg fa h Y G hmg0
  obtain ⟨K, KX, c⟩ := Y
  have hmg : mg ("law" : PySem.Str) = some (.ref fa) := by
    have e : (HandSHeadRun.topDef (OpenLaw.row PySem.Challenge.rw_cutstand_k35_whole_ways_to_colours).prog 86).name = ("law" : PySem.Str) := by kernel_rfl
    rw [← e]
    exact hmg0
  obtain ⟨fd, hb, hF⟩ := CK.law_top (P := (PySem.Challenge.rw_cutstand_k35_whole_ways_to_colours).prog) (w := w) (CK.hdF_of c) KX G hmg
  exact ⟨K, fd, CK.spLaw K, KX, hb, fun H a ns hl _ hS => ⟨a, ns, rfl, hS, fun _ => rfl⟩, fun base _ _ => hF base⟩
