import PyProof.Rows.All
import HandS.ForMost
import HandS.Walk
import HandS.Flow
import HandS.Wide
import HandS.WideBits
import HandS.Exc
import HandS.TryOnly
import HandS.ExcOwn
import HandS.WordsExc
import HandS.ExcIs
import HandS.ExcField
import HandS.ExcValue
import HandS.IsInst
import KE.KExcIs
import HandS.HeadHook1
import HandS.HeadHook2
import HandS.ExcInit
import KE.KExcInit
import HandS.TupAny
import HandS.TupMul
import HandS.Style
import HandS.SortInts
import HandS.Zip
import KE.GoesZip
import KE.GoesMore
import HandS.Small
import KE.KTupSum
import HandS.Defaults
import HandS.Head0
import HandS.Head1
import HandS.Head2
import HandS.HeadEnd
import HandS.Replace
import HandS.StrMore
import HandS.Codes
import HandS.Text
import PyProof.Draws
import PyProof.StrBlock2
import HandS.More
import HandS.Conv
import PyProof.ListRange
import HandS.EndBits
import PyProof.EqAt
import PyProof.SeqRoads2
import HandS.Dict
import PyProof.DictDisplay
import HandS.DictTup
import HandS.Iter
import HandS.FStr
import HandS.List
import PyProof.Rows.RuleB_pow
import KE.KExcStr
import PySem.Challenge.RW_figuresums_k02_texts_of_no_numbers
set_option Elab.async false
set_option linter.all false
set_option autoImplicit false
set_option maxRecDepth 100000
set_option maxHeartbeats 4000000
/-! What a law's text tells of the exceptions' classes; the run of the top, in parts. -/
namespace VL
open PySem PySem.Spec PyProof.Rows L2
theorem split2 {α β γ : Type} {o : Option α} {f : α → β} {g : α → γ} {x : β} {y : γ} (h1 : o.map f = some x) (h2 : o.map g = some y) : o.map (fun s => (f s, g s)) = some (x, y) := by
  cases o with
  | none => cases h1
  | some s => rw [Option.map_some] at h1 h2 ⊢; rw [Option.some.inj h1, Option.some.inj h2]
theorem split3 {α β γ δ : Type} {o : Option α} {f : α → β} {g : α → γ} {h : α → δ} {x : β} {y : γ} {z : δ} (h1 : o.map f = some x) (h2 : o.map g = some y) (h3 : o.map h = some z) : o.map (fun s => (f s, g s, h s)) = some (x, y, z) := by
  cases o with
  | none => cases h1
  | some s => rw [Option.map_some] at h1 h2 h3 ⊢; rw [Option.some.inj h1, Option.some.inj h2, Option.some.inj h3]
/-! ### facts of the classes -/
/-- what stands under what -/
def subE (c T : Str) : Bool := c == T || T == "SumError"
/-- a class at A -/
def exAtB (K : PySem.W.Frag) (A : Addr) : Bool :=
  PySem.W.keepIn K (.ref A) && decide (PySem.W.subIn K (.ref A) (.type "BaseException") = some true) && decide (PySem.W.typeIn K (.ref A) = some (.type "type")) && (PySem.W.clsIn K A).isSome &&
  decide (PySem.W.findIn K (.ref A) "__getattribute__" = some (some (.builtin "BaseException.__getattribute__"))) && decide (PySem.W.findIn K (.ref A) "__getattr__" = some none) && PySem.W.hasDictIn K A &&
  decide (PySem.W.findIn K (.ref A) "__class__" = some (some (.builtin "object.__class__"))) && decide (PySem.W.specialIn K (.builtin "object.__class__") "__get__" = some (some (.builtin "getset_descriptor.__get__"))) &&
  decide (PySem.W.takesIn K (.builtin "object.__class__") = some true) && decide (PySem.W.mroIn K A (.type "object") = some true) && decide (PySem.W.kitOne K (.type "NoneType") (.ref A) = some false) &&
  decide (PySem.W.kitOne K (.ref A) (.type "ValueError") = some true) && decide (PySem.W.findIn K (.ref A) "place" = some none) && decide (PySem.W.findIn K (.ref A) "__str__" = some (some (.builtin "BaseException.__str__")))
structure ExAt (K : PySem.W.Frag) (A : Addr) : Prop where
  kp : PySem.W.keepIn K (.ref A) = true
  sb : PySem.W.subIn K (.ref A) (.type "BaseException") = some true
  ty : PySem.W.typeIn K (.ref A) = some (.type "type")
  cl : (PySem.W.clsIn K A).isSome = true
  ga : PySem.W.findIn K (.ref A) "__getattribute__" = some (some (.builtin "BaseException.__getattribute__"))
  gg : PySem.W.findIn K (.ref A) "__getattr__" = some none
  hd : PySem.W.hasDictIn K A = true
  cc : PySem.W.findIn K (.ref A) "__class__" = some (some (.builtin "object.__class__"))
  cg : PySem.W.specialIn K (.builtin "object.__class__") "__get__" = some (some (.builtin "getset_descriptor.__get__"))
  ct : PySem.W.takesIn K (.builtin "object.__class__") = some true
  mo : PySem.W.mroIn K A (.type "object") = some true
  nn : PySem.W.kitOne K (.type "NoneType") (.ref A) = some false
  ve : PySem.W.kitOne K (.ref A) (.type "ValueError") = some true
  np : PySem.W.findIn K (.ref A) "place" = some none
  st : PySem.W.findIn K (.ref A) "__str__" = some (some (.builtin "BaseException.__str__"))
theorem exAt_of {K : PySem.W.Frag} {A : Addr} (h : exAtB K A = true) : ExAt K A := by
  unfold exAtB at h
  simp only [Bool.and_eq_true, decide_eq_true_eq] at h
  obtain ⟨⟨⟨⟨⟨⟨⟨⟨⟨⟨⟨⟨⟨⟨h1, h2⟩, h3⟩, h4⟩, h5⟩, h6⟩, h7⟩, h8⟩, h9⟩, h10⟩, h11⟩, h12⟩, h13⟩, h14⟩, h15⟩ := h
  exact ⟨h1, h2, h3, h4, h5, h6, h7, h8, h9, h10, h11, h12, h13, h14, h15⟩
def exB (cs : List Str) (K : PySem.W.Frag) : Bool := cs.all fun x => decide (PySem.W.nsIn K mainGlobals x = some (some (.ref (He.ga K x)))) && exAtB K (He.ga K x) &&
  (x == "NoNumber" || PySem.W.excIn K (He.ga K x) He.veBase "ValueError.__new__") &&
  cs.all fun y => decide (PySem.W.kitOne K (.ref (He.ga K x)) (.ref (He.ga K y)) = some (subE x y)) && decide (PySem.W.exmOne K (.ref (He.ga K x)) (.ref (He.ga K y)) = some (subE x y))
/-- the classes of kept objects -/
def obE (c : Str) : Bool := c == "KeptNumber" || c == "Desk"
def exCl (cs : List Str) (K : PySem.W.Frag) : Str → Option Addr := fun c => if c ∈ cs then some (He.ga K c) else none
structure ExF (cs : List Str) (K : PySem.W.Frag) (mg : Str → Option Value) (Cl : Str → Option Addr) : Prop where
  dom : ∀ c A, Cl c = some A → obE c = false → c ∈ cs
  at_ : ∀ c ∈ cs, ∃ A, Cl c = some A ∧ mg c = some (.ref A) ∧ ExAt K A ∧ (c ≠ "NoNumber" → PySem.W.excIn K A He.veBase "ValueError.__new__" = true)
  two : ∀ c T A B, c ∈ cs → T ∈ cs → Cl c = some A → Cl T = some B → PySem.W.kitOne K (.ref A) (.ref B) = some (subE c T) ∧ PySem.W.exmOne K (.ref A) (.ref B) = some (subE c T)
theorem exF_of {cs l : List Str} {K : PySem.W.Frag} {mg : Str → Option Value} {h : Heap} (X : K.In h) (G : h.Ns mainGlobals mg) (q : exB cs K = true) (hl : l.all (fun c => obE c || decide (c ∈ cs)) = true) (hl2 : cs.all (fun c => decide (c ∈ l)) = true) : ExF cs K mg (exCl l K) := by
  have dom : ∀ c A, exCl l K c = some A → c ∈ l ∧ A = He.ga K c := fun c A e => by
    unfold exCl at e
    split at e
    · rename_i hc; cases e; exact ⟨hc, rfl⟩
    · cases e
  have sub : ∀ c, c ∈ cs → c ∈ l := fun c hc => of_decide_eq_true (List.all_eq_true.mp hl2 c hc)
  have all := List.all_eq_true.mp q
  refine ⟨fun c A e ho => ?_, fun c hc => ?_, fun c T A B hc hT e1 e2 => ?_⟩
  · have z := List.all_eq_true.mp hl c (dom c A e).1
    rw [ho, Bool.false_or] at z
    exact of_decide_eq_true z
  · have z := all c hc
    simp only [Bool.and_eq_true, decide_eq_true_eq, Bool.or_eq_true, beq_iff_eq] at z
    obtain ⟨⟨⟨z1, z2⟩, z3⟩, _⟩ := z
    exact ⟨He.ga K c, by unfold exCl; rw [if_pos (sub c hc)], PySem.W.mg_of X G z1, exAt_of z2, fun n => z3.resolve_left n⟩
  · obtain ⟨_, rfl⟩ := dom c A e1
    obtain ⟨_, rfl⟩ := dom T B e2
    have z := all c hc
    simp only [Bool.and_eq_true] at z
    have z2 := List.all_eq_true.mp z.2 T hT
    simp only [Bool.and_eq_true, decide_eq_true_eq] at z2
    exact z2
/-! ### the hook with a fact more -/
abbrev AlX : Type := He.AlD × Bool
def obsX (fa : List He.Fa) (fn : List He.DefD) (b : PySem.W.Frag → Bool) (K : PySem.W.Frag) : AlX := ⟨He.obsD fa fn K, b K⟩
def valX (fn : List He.DefD) : AlX := ⟨He.valD fn, true⟩
def obsXG (n : Nat) (fa : List He.Fa) (fn : List He.DefD) (b : PySem.W.Frag → Bool) (g : Addr → Option Obj) : AlX := obsX fa fn b (He.frG g (PySem.cStatics :: He.asD g n))
def SaysX (fa : List He.Fa) (fn : List He.DefD) (b : PySem.W.Frag → Bool) (K : PySem.W.Frag) : Prop := obsX fa fn b K = valX fn
def hookX (n : Nat) (fa : List He.Fa) (fn : List He.DefD) (b : PySem.W.Frag → Bool) : PySem.W.Hook :=
  { α := AlX, obs := fun t => obsXG n fa fn b t.heap.get?, val := fun _ => valX fn, says := fun _ h => ∃ L : PySem.W.Frag, L.In h ∧ SaysX fa fn b L,
    of := fun _ _ z => ⟨_, He.frG_in, z⟩, keeps := fun _ _ _ ⟨L, hL, c⟩ k => ⟨L, PySem.W.Frag.In.keeps hL k, c⟩ }
theorem obsXG_eq {n : Nat} {fa : List He.Fa} {fn : List He.DefD} {b : PySem.W.Frag → Bool} {g : Addr → Option Obj} {t : Shared} (h : ∀ a, g a = t.heap.get? a) : obsXG n fa fn b g = (hookX n fa fn b).obs t := by
  rw [show g = t.heap.get? from funext h]; rfl
theorem SaysX.d {fa : List He.Fa} {fn : List He.DefD} {b : PySem.W.Frag → Bool} {K : PySem.W.Frag} (c : SaysX fa fn b K) : He.SaysD fa fn K := congrArg Prod.fst c
theorem SaysX.b {fa : List He.Fa} {fn : List He.DefD} {b : PySem.W.Frag → Bool} {K : PySem.W.Frag} (c : SaysX fa fn b K) : b K = true := congrArg Prod.snd c

/-! ### facts of the class at C, of its base at S -/
def oexB (K : PySem.W.Frag) (C : Addr) : Bool := (match K.lookup C with
  | some ⟨.type "type", _, .cls cd, sl⟩ => (match cd.mro, sl.toList with
    | .ref C' :: bm, [_, _, _, _, some (.builtin n), _] => C' == C && n == "ValueError.__new__" && !cd.hasDel && cd.hasDict && PySem.HandSPX.refsVE bm
    | _, _ => false)
  | _ => false) && decide (PySem.W.findIn K (.ref C) "__setattr__" = some (some (.builtin "object.__setattr__"))) && decide (PySem.W.subIn K (.ref C) (.type "BaseException") = some true) &&
  decide (PySem.W.typeIn K (.ref C) = some (.type "type")) && PySem.W.keepIn K (.ref C)
theorem oex_of {K : PySem.W.Frag} {C : Addr} (h : oexB K C = true) : OexC K C := by
  unfold oexB at h
  simp only [Bool.and_eq_true, decide_eq_true_eq] at h
  obtain ⟨⟨⟨⟨q, h2⟩, h3⟩, h4⟩, h5⟩ := h
  refine ⟨?_, h2, h3, h4, h5⟩
  split at q
  · rename_i dd cd sl ho
    split at q
    · rename_i C' bm k0 k1 k2 k3 n k5 hm hs
      simp only [Bool.and_eq_true, beq_iff_eq, Bool.not_eq_true'] at q
      obtain ⟨⟨⟨⟨rfl, rfl⟩, hdel⟩, hdict⟩, ht⟩ := q
      obtain ⟨nm, bs, mro, ns, qn, hd, sn, sub, ab, col, del⟩ := cd
      dsimp only at hm hdel hdict
      subst hm hdel hdict
      have hsl : sl = #[k0, k1, k2, k3, some (.builtin "ValueError.__new__"), k5] := by
        obtain ⟨l⟩ := sl
        simp only at hs
        rw [hs]
      subst hsl
      exact ⟨nm, qn, ns, bs, bm, sn, sub, ab, col, dd, k0, k1, k2, k3, k5, ho, ht⟩
    · cases q
  · cases q
def sumB (K : PySem.W.Frag) (S : Addr) : Bool := decide (PySem.W.specialIn K (.ref S) "__getattribute__" = some (some (.builtin "type.__getattribute__"))) && decide (PySem.W.typeIn K (.ref S) = some (.type "type")) &&
  PySem.W.readsIn K S (.type "type") && (match PySem.W.findCls K (.ref S) (.type "type") "__init__" with
  | some (.val (.builtin n)) => n == "ValueError.__init__"
  | _ => false)
theorem sum_cls {K : PySem.W.Frag} {S : Addr} (h : sumB K S = true) : PySem.W.specialIn K (.ref S) "__getattribute__" = some (some (.builtin "type.__getattribute__")) ∧ PySem.W.typeIn K (.ref S) = some (.type "type") ∧
    PySem.W.readsIn K S (.type "type") = true ∧ PySem.W.findCls K (.ref S) (.type "type") "__init__" = some (.val (.builtin "ValueError.__init__")) := by
  unfold sumB at h
  simp only [Bool.and_eq_true, decide_eq_true_eq] at h
  obtain ⟨⟨⟨h1, h2⟩, h3⟩, h4⟩ := h
  refine ⟨h1, h2, h3, ?_⟩
  split at h4
  · rename_i n e
    rw [e, beq_iff_eq.mp h4]
  · cases h4
/-- what a law's text gives of NoNumber -/
def exnB (K : PySem.W.Frag) : Bool := oexB K (He.ga K "NoNumber") && sumB K (He.ga K "SumError") && decide (PySem.W.findIn K (.ref (He.ga K "NoNumber")) "__init__" = some (some (.ref (He.ma K (He.ga K "NoNumber") "__init__")))) &&
  decide (PySem.W.typeIn K (.ref (He.ma K (He.ga K "NoNumber") "__init__")) = some (.type "function")) && decide (PySem.W.findIn K (.ref (He.ga K "NoNumber")) "place" = some none)
theorem exn_sum {K : PySem.W.Frag} (x : exnB K = true) : sumB K (He.ga K "SumError") = true := by
  unfold exnB at x
  simp only [Bool.and_eq_true] at x
  exact x.1.1.1.2
end VL

namespace Lk02
open PySem PySem.Spec PyProof.Rows L2 VL
def top (i : Nat) : Stmt := PySem.Challenge.pw_figuresums_k02_texts_of_no_numbers.main.body.getD i (.Pass ⟨0, 0, 0, 0⟩)
def csL : List Str := ["SumError", "NoNumber", "NoStretch", "NoAsk"]
abbrev s_read_number : Stmt := top 7
abbrev s__law_mix : Stmt := top 9
abbrev s__law_deck : Stmt := top 10
abbrev s__law_next : Stmt := top 11
abbrev s__law_great : Stmt := top 12
abbrev s__law_number : Stmt := top 13
abbrev s__law_figures : Stmt := top 14
abbrev s__law_is_whole : Stmt := top 15
abbrev s__law_kind : Stmt := top 16
abbrev s__law_sign : Stmt := top 17
abbrev s__law_spoilt : Stmt := top 18
abbrev s__law_due : Stmt := top 19
abbrev s__law_right : Stmt := top 20
abbrev s_law : Stmt := top 21
abbrev s_NN : Stmt := inClass (top 2) 0
def dfs : List He.DefD := [⟨("read_number", none), "read_number", "read_number", defArgs s_read_number, defBody s_read_number, defScope s_read_number, [], []⟩, ⟨("_law_mix", none), "_law_mix", "_law_mix", defArgs s__law_mix, defBody s__law_mix, defScope s__law_mix, [], []⟩, ⟨("_law_deck", none), "_law_deck", "_law_deck", defArgs s__law_deck, defBody s__law_deck, defScope s__law_deck, [], []⟩, ⟨("_law_next", none), "_law_next", "_law_next", defArgs s__law_next, defBody s__law_next, defScope s__law_next, [], []⟩, ⟨("_law_great", none), "_law_great", "_law_great", defArgs s__law_great, defBody s__law_great, defScope s__law_great, [], []⟩, ⟨("_law_number", none), "_law_number", "_law_number", defArgs s__law_number, defBody s__law_number, defScope s__law_number, [], []⟩, ⟨("_law_figures", none), "_law_figures", "_law_figures", defArgs s__law_figures, defBody s__law_figures, defScope s__law_figures, [], []⟩, ⟨("_law_is_whole", none), "_law_is_whole", "_law_is_whole", defArgs s__law_is_whole, defBody s__law_is_whole, defScope s__law_is_whole, [], []⟩, ⟨("_law_kind", none), "_law_kind", "_law_kind", defArgs s__law_kind, defBody s__law_kind, defScope s__law_kind, [], []⟩, ⟨("_law_sign", none), "_law_sign", "_law_sign", defArgs s__law_sign, defBody s__law_sign, defScope s__law_sign, [], []⟩, ⟨("_law_spoilt", none), "_law_spoilt", "_law_spoilt", defArgs s__law_spoilt, defBody s__law_spoilt, defScope s__law_spoilt, [], []⟩, ⟨("_law_due", none), "_law_due", "_law_due", defArgs s__law_due, defBody s__law_due, defScope s__law_due, [], []⟩, ⟨("_law_right", none), "_law_right", "_law_right", defArgs s__law_right, defBody s__law_right, defScope s__law_right, [], []⟩, ⟨("law", none), "law", "law", defArgs s_law, defBody s_law, defScope s_law, [], []⟩, ⟨("NoNumber", some "__init__"), "__init__", "NoNumber.__init__", defArgs s_NN, defBody s_NN, defScope s_NN, [], []⟩]
def fas : List He.Fa := [.glo "read_number", .glo "_law_mix", .glo "_law_deck", .glo "_law_next", .glo "_law_great", .glo "_law_number", .glo "_law_figures", .glo "_law_is_whole", .glo "_law_kind", .glo "_law_sign", .glo "_law_spoilt", .glo "_law_due", .glo "_law_right", .glo "law", .free "ValueError", .free "bool", .free "enumerate", .free "int", .free "isinstance", .free "len", .free "max", .free "min", .free "range", .free "str", .free "sum", .free "tuple", .str "FIGURES" "0123456789abcdef", .glo "NoNumber", .glo "SumError"]
abbrev RR : PySem.W.OpenRow := PySem.W.OpenLaw.row PySem.Challenge.rw_figuresums_k02_texts_of_no_numbers
abbrev hk : PySem.W.Hook := hookX 4 fas dfs (fun K => exB csL K && exnB K)
def ob (s : PySem.W.SharedT) : AlX := obsXG 4 fas dfs (fun K => exB csL K && exnB K) (HandSHeadRun.getT s)
theorem ob_eq (s : PySem.W.SharedT) : ob s = hk.obs s.abs := obsXG_eq (HandSHeadRun.getT_eq s)
open PySem.W in
theorem run_l (w : World) (os : OsState) : (HandSHeadRun.endF (HandSHeadRun.stepQ (HandSHeadRun.denQ HandSHeadRun.tabQ) RR.prog w) 4000 RR.prog w os).map (fun s => HandSHeadRun.looksF RR.prog (boot_heap w.params) s.abs) = some true := by
  kernel_rfl
open PySem.W in
theorem run_q (w : World) (os : OsState) : (HandSHeadRun.endF (HandSHeadRun.stepQ (HandSHeadRun.denQ HandSHeadRun.tabQ) RR.prog w) 4000 RR.prog w os).map (fun s => HandSHeadRun.seenQ (PySem.W.view RR.prog [21]) ["SumError", "NoNumber", "NoStretch", "NoAsk", "FIGURES", "read_number", "_law_mix", "_law_deck", "_law_next", "_law_great", "_law_number", "_law_figures", "_law_is_whole", "_law_kind", "_law_sign", "_law_spoilt", "_law_due", "_law_right"] (importedModules RR.prog.main.body) (fun s => PySem.W.xlAt (PySem.W.view RR.prog [21]) [] s && PySem.W.recOk RR.toRowW.records s) s.abs) = some (PySem.W.openGood (PySem.W.view RR.prog [21]) ["SumError", "NoNumber", "NoStretch", "NoAsk", "FIGURES", "read_number", "_law_mix", "_law_deck", "_law_next", "_law_great", "_law_number", "_law_figures", "_law_is_whole", "_law_kind", "_law_sign", "_law_spoilt", "_law_due", "_law_right"]) := by
  kernel_rfl
theorem run_o1 (w : World) (os : OsState) : (HandSHeadRun.endF (HandSHeadRun.stepQ (HandSHeadRun.denQ HandSHeadRun.tabQ) RR.prog w) 4000 RR.prog w os).map (fun s => He.obsD fas dfs (He.frG (HandSHeadRun.getT s) (PySem.cStatics :: He.asD (HandSHeadRun.getT s) 4))) = some (He.valD dfs) := by
  kernel_rfl
theorem run_o2 (w : World) (os : OsState) : (HandSHeadRun.endF (HandSHeadRun.stepQ (HandSHeadRun.denQ HandSHeadRun.tabQ) RR.prog w) 4000 RR.prog w os).map (fun s => (fun K => exB csL K && exnB K) (He.frG (HandSHeadRun.getT s) (PySem.cStatics :: He.asD (HandSHeadRun.getT s) 4))) = some true := by
  kernel_rfl
theorem run (w : World) : HandSHeadRun.RunEq RR (PySem.W.view RR.prog [21]) hk ob 4000 ["SumError", "NoNumber", "NoStretch", "NoAsk", "FIGURES", "read_number", "_law_mix", "_law_deck", "_law_next", "_law_great", "_law_number", "_law_figures", "_law_is_whole", "_law_kind", "_law_sign", "_law_spoilt", "_law_due", "_law_right"] w := fun os => split3 (run_l w os) (run_q w os) (split2 (run_o1 w os) (run_o2 w os))
end Lk02
/-! The value layer: Python's values as plain data over the abstract heap. -/
namespace VL
open PySem PySem.Spec PyProof.Rows L2

/-- data -/
inductive D where
  | non | bl (b : Bool) | int (i : Int) | str (s : Str)
  | lst (xs : List D) | tup (xs : List D)
  | dI (kvs : List (Int × D)) | dT (kvs : List (List Int × D))
  | scr (ns : List Int)
  | hnd (n : Nat)
  | exc (c : Str) (p : Option Int)
  | txe (c s : Str)

/-- what stands in the store -/
inductive SO where
  | dat (d : D) | ins (c : Str) (fs : List (Str × D))
abbrev Sto := List SO

/-- the fragment of the top, and where the classes stand -/
structure KC where
  f : PySem.W.Frag
  Cl : Str → Option Addr
instance : Coe KC PySem.W.Frag := ⟨KC.f⟩
/-- an exception object of the class at A, caught or made by hand; d: its own dict -/
def EXO (A a : Addr) (d : Option Addr) : HO := .ext fun h => ∃ (oe : Obj) (vs : Array Value), h.get? a = some oe ∧ oe.cls = .ref A ∧ oe.dict = d ∧ oe.data = .fields vs
/-- an exception object made by hand, with its text -/
def EXT (A a t0 : Addr) : HO := .ext fun h => ∃ (oe : Obj) (vs : Array Value), h.get? a = some oe ∧ oe.cls = .ref A ∧ oe.dict = none ∧ oe.data = .fields vs ∧ vs[0]? = some (.ref t0)
mutual
inductive Rep (K : KC) (G : Hp) (ι : List Addr) : V → D → Prop
  | non : Rep K G ι .non .non
  | bl {b : Bool} : Rep K G ι (.bl b) (.bl b)
  | int {i : Int} : Rep K G ι (.int i) (.int i)
  | str {s : Str} : Rep K G ι (.str s) (.str s)
  | obj {a : Addr} {o : HO} {d : D} : G a = some o → HRep K G ι o d → Rep K G ι (.ref a) d
  | scr {a : Addr} {ns : List Int} : SqL K G a (ns.map V.int) → Rep K G ι (.ref a) (.scr ns)
  | hnd {a : Addr} {n : Nat} : ι[n]? = some a → Rep K G ι (.ref a) (.hnd n)
  | exc {a A : Addr} {c : Str} : K.Cl c = some A → G a = some (EXO A a none) → Rep K G ι (.ref a) (.exc c none)
  | excp {a A dx : Addr} {c : Str} {i : Int} : K.Cl c = some A → G a = some (EXO A a (some dx)) → G dx = some (.xd [("place", .int i)]) → Rep K G ι (.ref a) (.exc c (some i))
  | txe {a A t0 : Addr} {c s : Str} : K.Cl c = some A → G a = some (EXT A a t0) → G t0 = some (.tup [.str s]) → Rep K G ι (.ref a) (.txe c s)
inductive HRep (K : KC) (G : Hp) (ι : List Addr) : HO → D → Prop
  | lst {xs : List V} {ds : List D} : Reps K G ι xs ds → HRep K G ι (.lst xs) (.lst ds)
  | tup {xs : List V} {ds : List D} : Reps K G ι xs ds → HRep K G ι (.tup xs) (.tup ds)
  | dI {xs : List (Key × V)} {ds : List (Int × D)} : RepI K G ι xs ds → HRep K G ι (.dK xs) (.dI ds)
  | dT {xs : List (List Key × V)} {ds : List (List Int × D)} : RepT K G ι xs ds → HRep K G ι (.dT xs) (.dT ds)
inductive Reps (K : KC) (G : Hp) (ι : List Addr) : List V → List D → Prop
  | nil : Reps K G ι [] []
  | cons {x : V} {d : D} {xs : List V} {ds : List D} : Rep K G ι x d → Reps K G ι xs ds → Reps K G ι (x :: xs) (d :: ds)
inductive RepI (K : KC) (G : Hp) (ι : List Addr) : List (Key × V) → List (Int × D) → Prop
  | nil : RepI K G ι [] []
  | cons {k : Int} {x : V} {d : D} {xs : List (Key × V)} {ds : List (Int × D)} : Rep K G ι x d → RepI K G ι xs ds → RepI K G ι ((.inl k, x) :: xs) ((k, d) :: ds)
inductive RepT (K : KC) (G : Hp) (ι : List Addr) : List (List Key × V) → List (List Int × D) → Prop
  | nil : RepT K G ι [] []
  | cons {k : List Int} {x : V} {d : D} {xs : List (List Key × V)} {ds : List (List Int × D)} : Rep K G ι x d → RepT K G ι xs ds → RepT K G ι ((k.map .inl, x) :: xs) ((k, d) :: ds)
end
inductive RepF (K : KC) (G : Hp) (ι : List Addr) : List (Str × V) → List (Str × D) → Prop
  | nil : RepF K G ι [] []
  | cons {k : Str} {x : V} {d : D} {xs : List (Str × V)} {ds : List (Str × D)} : Rep K G ι x d → RepF K G ι xs ds → RepF K G ι ((k, x) :: xs) ((k, d) :: ds)

/-- the heap grows -/
def Sub (G G' : Hp) : Prop := ∀ a u, G a = some u → G' a = some u
theorem Sub.refl (G : Hp) : Sub G G := fun _ _ h => h
theorem Sub.trans {G G1 G2 : Hp} (a : Sub G G1) (b : Sub G1 G2) : Sub G G2 := fun x u h => b x u (a x u h)
theorem Sub.new {G : Hp} {p : Addr} {o : HO} (h : G p = none) : Sub G (upd G p o) := fun a u e => by
  rw [upd_ne (ne_of_none e h)]; exact e
theorem Sub.sql {K : PySem.W.Frag} {G G' : Hp} {a : Addr} {xs : List V} (s : Sub G G') (h : SqL K G a xs) : SqL K G' a xs := by
  rcases h with (h | ⟨o, h⟩) | h
  · exact .inl (.inl (s _ _ h))
  · exact .inl (.inr ⟨o, s _ _ h⟩)
  · exact .inr h
theorem pre_get {α : Type} {l l' : List α} (h : l <+: l') {n : Nat} {a : α} (e : l[n]? = some a) : l'[n]? = some a := by
  obtain ⟨t, rfl⟩ := h
  rw [List.getElem?_append_left (List.getElem?_eq_some_iff.mp e).1]; exact e
section
variable {K : KC} {G G' : Hp} {ι ι' : List Addr} (s : Sub G G') (p : ι <+: ι')
include s p
mutual
theorem Rep.mono : ∀ {v : V} {d : D}, Rep K G ι v d → Rep K G' ι' v d
  | _, _, .non => .non
  | _, _, .bl => .bl
  | _, _, .int => .int
  | _, _, .str => .str
  | _, _, .obj h r => .obj (s _ _ h) (HRep.mono r)
  | _, _, .scr h => .scr (s.sql h)
  | _, _, .hnd h => .hnd (pre_get p h)
  | _, _, .exc h r => .exc h (s _ _ r)
  | _, _, .excp h r q => .excp h (s _ _ r) (s _ _ q)
  | _, _, .txe h r q => .txe h (s _ _ r) (s _ _ q)
theorem HRep.mono : ∀ {v : HO} {d : D}, HRep K G ι v d → HRep K G' ι' v d
  | _, _, .lst h => .lst (Reps.mono h)
  | _, _, .tup h => .tup (Reps.mono h)
  | _, _, .dI h => .dI (RepI.mono h)
  | _, _, .dT h => .dT (RepT.mono h)
theorem Reps.mono : ∀ {v : List V} {d : List D}, Reps K G ι v d → Reps K G' ι' v d
  | _, _, .nil => .nil
  | _, _, .cons h t => .cons (Rep.mono h) (Reps.mono t)
theorem RepI.mono : ∀ {v : List (Key × V)} {d : List (Int × D)}, RepI K G ι v d → RepI K G' ι' v d
  | _, _, .nil => .nil
  | _, _, .cons h t => .cons (Rep.mono h) (RepI.mono t)
theorem RepT.mono : ∀ {v : List (List Key × V)} {d : List (List Int × D)}, RepT K G ι v d → RepT K G' ι' v d
  | _, _, .nil => .nil
  | _, _, .cons h t => .cons (Rep.mono h) (RepT.mono t)
end
theorem RepF.mono : ∀ {v : List (Str × V)} {d : List (Str × D)}, RepF K G ι v d → RepF K G' ι' v d
  | _, _, .nil => .nil
  | _, _, .cons h t => .cons (Rep.mono s p h) (RepF.mono t)
end

inductive Slot where
  | sh (d : D) | ow (d : D)
abbrev EnvD := List (Option Slot)
abbrev XD := Str × Option Int

structure Ctx where
  K : KC
  F : Hp
  W : WX
  fr : Bool

inductive SRep (K : KC) (G : Hp) (ι : List Addr) : HO → SO → Prop
  | dat {o : HO} {d : D} : HRep K G ι o d → Mut (some o) → SRep K G ι o (.dat d)
  | ins {c : Str} {A dx : Addr} {fs : List (Str × V)} {ds : List (Str × D)} : K.Cl c = some A → RepF K G ι fs ds → SRep K G ι (.ins A dx fs) (.ins c ds)
theorem SRep.mono {K : KC} {G G' : Hp} {ι ι' : List Addr} {o : HO} {x : SO} (s : Sub G G') (p : ι <+: ι') : SRep K G ι o x → SRep K G' ι' o x
  | .dat h m => .dat (h.mono s p) m
  | .ins h r => .ins h (r.mono s p)

def isD : HO → Prop
  | .dK _ => True
  | .dT _ => True
  | _ => False

theorem isD_mut {u : HO} (h : isD u) : Mut (some u) := by
  cases u <;> first | exact True.intro | exact h.elim
/-- an owned object -/
structure OwnAt (C : Ctx) (G : Hp) (ι : List Addr) (H : Hp) (a : Addr) (d : D) : Prop where
  rep : ∃ o, H a = some o ∧ HRep C.K G ι o d ∧ Mut (some o)
  ng : G a = none
  nf : C.F a = none
  ni : a ∉ ι

inductive SlotAt (C : Ctx) (G : Hp) (ι : List Addr) (H : Hp) : Slot → V → Prop
  | sh {d : D} {v : V} : Rep C.K G ι v d → SlotAt C G ι H (.sh d) v
  | ow {d : D} {a : Addr} : OwnAt C G ι H a d → SlotAt C G ι H (.ow d) (.ref a)

abbrev Lks := List (Addr × Obj × HO)
structure R (C : Ctx) (lk : Lks) (G : Hp) (ι : List Addr) (env : EnvD) (st : Sto) (σ : L2.St) (H : Hp) : Prop where
  len : env.length = σ.length
  fF : ∀ a u, C.F a = some u → H a = some u ∨ ∃ o, (a, o, u) ∈ lk
  lkd : ∀ a o u, (a, o, u) ∈ lk → H a = some (.frz o u) ∧ G a = some u ∧ isD u
  fG : ∀ a u, G a = some u → H a = some u ∨ (isD u ∧ ∃ o, H a = some (.frz o u))
  sl : ∀ (i : Nat) (s : Slot), env[i]? = some (some s) → ∃ v, σ[i]? = some (some v) ∧ SlotAt C G ι H s v
  inj : ∀ (i j : Nat) (d e : D) (a : Addr), env[i]? = some (some (.ow d)) → env[j]? = some (some (.ow e)) → σ[i]? = some (some (.ref a)) → σ[j]? = some (some (.ref a)) → i = j
  slen : st.length = ι.length
  sto : ∀ (n : Nat) (a : Addr) (o : SO), ι[n]? = some a → st[n]? = some o → ∃ h, H a = some h ∧ SRep C.K G ι h o
  sg : ∀ a ∈ ι, G a = none ∧ C.F a = none
  nd : ι.Nodup
  lk2 : ∀ a o u, H a = some (.frz o u) → G a = some u → (a, o, u) ∈ lk ∨ C.F a = some (.frz o u)

theorem frz_ne {o : Obj} {u : HO} (h : HO.frz o u = u) : False := by
  have := congrArg sizeOf h
  simp at this

structure Grow (C : Ctx) (G : Hp) (ι : List Addr) (G' : Hp) (ι' : List Addr) : Prop where
  sub : Sub G G'
  out : ∀ a u, G' a = some u → G a = some u ∨ C.F a = none ∨ ¬ Mut (some u)
  pre : ι <+: ι'
theorem Grow.refl {C : Ctx} {G : Hp} {ι : List Addr} : Grow C G ι G ι := ⟨Sub.refl G, fun _ _ h => .inl h, List.prefix_refl _⟩
theorem Grow.trans {C : Ctx} {G G1 G2 : Hp} {ι ι1 ι2 : List Addr} (a : Grow C G ι G1 ι1) (b : Grow C G1 ι1 G2 ι2) : Grow C G ι G2 ι2 :=
  ⟨a.sub.trans b.sub, fun x u h => (b.out x u h).elim (fun q => a.out x u q) .inr, a.pre.trans b.pre⟩
section
variable {C : Ctx} {lk : Lks} {G G' : Hp} {ι ι' : List Addr} {env : EnvD} {st : Sto} {σ : L2.St} {H H' : Hp} {v : V} {d : D}
theorem Rep.grow (g : Grow C G ι G' ι') (h : Rep C.K G ι v d) : Rep C.K G' ι' v d := h.mono g.sub g.pre
theorem Reps.grow {vs : List V} {ds : List D} (g : Grow C G ι G' ι') (h : Reps C.K G ι vs ds) : Reps C.K G' ι' vs ds := h.mono g.sub g.pre

/-- a new object, frozen at once -/
theorem R.newSh (r : R C lk G ι env st σ H) {p : Addr} {o : HO} (hp : H p = none) : R C lk (upd G p o) ι env st σ (upd H p o) ∧ Grow C G ι (upd G p o) ι := by
  have nf : ∀ {a u}, C.F a = some u → a ≠ p := fun {a u} e q => by
    subst q
    rcases r.fF a u e with h | ⟨_, h⟩
    · rw [hp] at h; cases h
    · have h := (r.lkd _ _ _ h).1
      rw [hp] at h; cases h
  have nfp : C.F p = none := by
    cases e : C.F p with
    | none => rfl
    | some u => exact absurd rfl (nf e)
  have ng : ∀ {a u}, G a = some u → a ≠ p := fun {a u} e q => by
    subst q
    rcases r.fG a u e with h | ⟨_, _, h⟩ <;> rw [hp] at h <;> cases h
  have ngp : G p = none := by
    cases e : G p with
    | none => rfl
    | some u => exact absurd rfl (ng e)
  have sb : Sub G (upd G p o) := Sub.new ngp
  have keep : ∀ {a u}, H a = some u → upd H p o a = some u := fun {a u} e => by rw [upd_ne (ne_of_none e hp)]; exact e
  refine ⟨⟨r.len, fun a u e => ?_, fun a o u e => ?_, fun a u e => ?_, fun i s e => ?_, r.inj, r.slen, fun n a x e1 e2 => ?_, fun a ha => ?_, r.nd, fun a x u e1 e2 => by
    by_cases q : a = p
    · subst q; rw [upd_same] at e1 e2; cases e1; exact (frz_ne (Option.some.inj e2)).elim
    · rw [upd_ne q] at e1 e2; exact r.lk2 a x u e1 e2⟩, ⟨sb, fun a u e => ?_, List.prefix_refl _⟩⟩
  · rcases r.fF a u e with h | h
    · exact .inl (keep h)
    · exact .inr h
  · obtain ⟨h1, h2, h3⟩ := r.lkd a o u e
    exact ⟨keep h1, sb _ _ h2, h3⟩
  · by_cases q : a = p
    · subst q; rw [upd_same] at e; cases e; exact .inl upd_same
    · rw [upd_ne q] at e
      rcases r.fG a u e with h | ⟨h1, o', h⟩
      · exact .inl (keep h)
      · exact .inr ⟨h1, o', keep h⟩
  · obtain ⟨v, e1, h⟩ := r.sl i s e
    refine ⟨v, e1, ?_⟩
    cases h with
    | sh h => exact .sh (h.mono sb (List.prefix_refl _))
    | ow h =>
      obtain ⟨⟨x, h1, h2, h3⟩, h4, h5, h6⟩ := h
      exact .ow ⟨⟨x, keep h1, h2.mono sb (List.prefix_refl _), h3⟩, by rw [upd_ne (ne_of_none h1 hp)]; exact h4, h5, h6⟩
  · obtain ⟨h, e3, e4⟩ := r.sto n a x e1 e2
    exact ⟨h, keep e3, e4.mono sb (List.prefix_refl _)⟩
  · obtain ⟨h1, h2⟩ := r.sg a ha
    refine ⟨?_, h2⟩
    rw [upd_ne]
    · exact h1
    · obtain ⟨n, hn⟩ := List.mem_iff_getElem?.mp ha
      have hl : n < st.length := by rw [r.slen]; exact (List.getElem?_eq_some_iff.mp hn).1
      obtain ⟨h, e3, _⟩ := r.sto n a st[n] hn (List.getElem?_eq_getElem hl)
      exact ne_of_none e3 hp
  · by_cases q : a = p
    · subst q; exact .inr (.inl nfp)
    · rw [upd_ne q] at e; exact .inl e
theorem R.noG (r : R C lk G ι env st σ H) {p : Addr} (hp : H p = none) : G p = none ∧ C.F p = none ∧ p ∉ ι := by
  refine ⟨?_, ?_, ?_⟩
  · cases e : G p with
    | none => rfl
    | some u => rcases r.fG p u e with h | ⟨_, _, h⟩ <;> rw [hp] at h <;> cases h
  · cases e : C.F p with
    | none => rfl
    | some u =>
      rcases r.fF p u e with h | ⟨_, h⟩
      · rw [hp] at h; cases h
      · have h := (r.lkd _ _ _ h).1
        rw [hp] at h; cases h
  · intro ha
    obtain ⟨n, hn⟩ := List.mem_iff_getElem?.mp ha
    have hl : n < st.length := by rw [r.slen]; exact (List.getElem?_eq_some_iff.mp hn).1
    obtain ⟨h, e3, _⟩ := r.sto n p st[n] hn (List.getElem?_eq_getElem hl)
    rw [hp] at e3; cases e3
/-- the heap changes at one place that is neither frozen, nor the frame's, nor in the store, nor a slot's -/
theorem R.chg (r : R C lk G ι env st σ H) {p : Addr} {o : HO} (hg : G p = none) (hf : C.F p = none) (hi : p ∉ ι) (hs : ∀ (i : Nat) (d : D), env[i]? = some (some (.ow d)) → σ[i]? ≠ some (some (.ref p))) : R C lk G ι env st σ (upd H p o) := by
  have keep : ∀ {a u}, a ≠ p → H a = some u → upd H p o a = some u := fun {a u} q e => by rw [upd_ne q]; exact e
  refine ⟨r.len, fun a u e => ?_, fun a o u e => ?_, fun a u e => ?_, fun i s e => ?_, r.inj, r.slen, fun n a x e1 e2 => ?_, r.sg, r.nd, fun a x u e1 e2 => by
    have q : a ≠ p := fun z => by rw [z, hg] at e2; cases e2
    rw [upd_ne q] at e1; exact r.lk2 a x u e1 e2⟩
  · have q : a ≠ p := fun z => by rw [z, hf] at e; cases e
    rcases r.fF a u e with h | h
    · exact .inl (keep q h)
    · exact .inr h
  · obtain ⟨h1, h2, h3⟩ := r.lkd a o u e
    exact ⟨keep (fun z => by rw [z, hg] at h2; cases h2) h1, h2, h3⟩
  · have q : a ≠ p := fun z => by rw [z, hg] at e; cases e
    rcases r.fG a u e with h | ⟨h1, o', h⟩
    · exact .inl (keep q h)
    · exact .inr ⟨h1, o', keep q h⟩
  · obtain ⟨v, e1, h⟩ := r.sl i s e
    refine ⟨v, e1, ?_⟩
    cases h with
    | sh h => exact .sh h
    | @ow d a h =>
      obtain ⟨⟨x, h1, h2, h3⟩, h4, h5, h6⟩ := h
      have q : a ≠ p := fun z => hs i d e (by rw [e1, z])
      exact .ow ⟨⟨x, keep q h1, h2, h3⟩, h4, h5, h6⟩
  · obtain ⟨h, e3, e4⟩ := r.sto n a x e1 e2
    exact ⟨h, keep (fun z => hi (z ▸ List.mem_of_getElem? e1)) e3, e4⟩
/-- a new object, not frozen -/
theorem R.newOw (r : R C lk G ι env st σ H) {p : Addr} {o : HO} (hp : H p = none) : R C lk G ι env st σ (upd H p o) := by
  obtain ⟨h1, h2, h3⟩ := r.noG hp
  refine r.chg h1 h2 h3 fun i d e e2 => ?_
  obtain ⟨v, e1, h⟩ := r.sl i _ e
  rw [e2] at e1
  cases e1
  cases h with
  | ow h => obtain ⟨⟨x, q, _⟩, _⟩ := h; rw [hp] at q; cases q
/-- a slot is set -/
theorem R.set (r : R C lk G ι env st σ H) {i : Nat} {s : Slot} (hs : SlotAt C G ι H s v) (hn : ∀ (d : D) (a : Addr), s = .ow d → v = .ref a → ∀ (j : Nat) (e : D), env[j]? = some (some (.ow e)) → σ[j]? = some (some (.ref a)) → j = i) :
    R C lk G ι (env.set i (some s)) st (σ.set i (some v)) H := by
  refine ⟨by simp [r.len], r.fF, r.lkd, r.fG, fun j s' e => ?_, fun j k d e a e1 e2 e3 e4 => ?_, r.slen, r.sto, r.sg, r.nd, r.lk2⟩
  · by_cases q : i = j
    · subst q
      rw [List.getElem?_set] at e
      simp only [if_pos] at e
      split at e
      · cases e
        rename_i hl
        exact ⟨v, by rw [List.getElem?_set_self (by rw [← r.len]; exact hl)], hs⟩
      · cases e
    · rw [List.getElem?_set_ne q] at e
      obtain ⟨v', e1, h⟩ := r.sl j s' e
      exact ⟨v', by rw [List.getElem?_set_ne q]; exact e1, h⟩
  · by_cases q : i = j
    · subst q
      by_cases q2 : i = k
      · exact q2
      · rw [List.getElem?_set_ne q2] at e2 e4
        rw [List.getElem?_set] at e1 e3
        simp only [if_pos] at e1 e3
        split at e1
        · split at e3
          · cases e1; cases e3
            exact (hn d a rfl rfl k e e2 e4).symm
          · cases e3
        · cases e1
    · rw [List.getElem?_set_ne q] at e1 e3
      by_cases q2 : i = k
      · subst q2
        rw [List.getElem?_set] at e2 e4
        simp only [if_pos] at e2 e4
        split at e2
        · split at e4
          · cases e2; cases e4
            exact hn e a rfl rfl j d e1 e3
          · cases e4
        · cases e2
      · rw [List.getElem?_set_ne q2] at e2 e4
        exact r.inj j k d e a e1 e2 e3 e4
theorem R.setSh (r : R C lk G ι env st σ H) {i : Nat} (h : Rep C.K G ι v d) : R C lk G ι (env.set i (some (.sh d))) st (σ.set i (some v)) H :=
  r.set (.sh h) fun _ _ e => by cases e
/-- a slot is forgotten -/
theorem R.unset (r : R C lk G ι env st σ H) {i : Nat} {x : Option V} : R C lk G ι (env.set i none) st (σ.set i x) H := by
  refine ⟨by simp [r.len], r.fF, r.lkd, r.fG, fun j s' e => ?_, fun j k d e a e1 e2 e3 e4 => ?_, r.slen, r.sto, r.sg, r.nd, r.lk2⟩
  · by_cases q : i = j
    · subst q
      rw [List.getElem?_set] at e
      simp only [if_pos] at e
      split at e <;> cases e
    · rw [List.getElem?_set_ne q] at e
      obtain ⟨v', e1, h⟩ := r.sl j s' e
      exact ⟨v', by rw [List.getElem?_set_ne q]; exact e1, h⟩
  · by_cases q : i = j
    · subst q
      rw [List.getElem?_set] at e1
      simp only [if_pos] at e1
      split at e1 <;> cases e1
    · by_cases q2 : i = k
      · subst q2
        rw [List.getElem?_set] at e2
        simp only [if_pos] at e2
        split at e2 <;> cases e2
      · rw [List.getElem?_set_ne q] at e1 e3
        rw [List.getElem?_set_ne q2] at e2 e4
        exact r.inj j k d e a e1 e2 e3 e4
/-- a slot is forgotten in the environment alone -/
theorem R.forget (r : R C lk G ι env st σ H) {i : Nat} : R C lk G ι (env.set i none) st σ H := by
  refine ⟨by simp [r.len], r.fF, r.lkd, r.fG, fun j s' e => ?_, fun j k d e a e1 e2 e3 e4 => ?_, r.slen, r.sto, r.sg, r.nd, r.lk2⟩
  · by_cases q : i = j
    · subst q
      rw [List.getElem?_set] at e
      simp only [if_pos] at e
      split at e <;> cases e
    · rw [List.getElem?_set_ne q] at e
      exact r.sl j s' e
  · by_cases q : i = j
    · subst q
      rw [List.getElem?_set] at e1
      simp only [if_pos] at e1
      split at e1 <;> cases e1
    · by_cases q2 : i = k
      · subst q2
        rw [List.getElem?_set] at e2
        simp only [if_pos] at e2
        split at e2 <;> cases e2
      · rw [List.getElem?_set_ne q] at e1
        rw [List.getElem?_set_ne q2] at e2
        exact r.inj j k d e a e1 e2 e3 e4
/-- an owned slot is frozen -/
theorem R.freeze (r : R C lk G ι env st σ H) {i : Nat} (e : env[i]? = some (some (.ow d))) : ∃ (G' : Hp) (a : Addr), σ[i]? = some (some (.ref a)) ∧ R C lk G' ι (env.set i (some (.sh d))) st σ H ∧ Grow C G ι G' ι ∧ Rep C.K G' ι (.ref a) d := by
  obtain ⟨v, e1, h⟩ := r.sl i _ e
  cases h with
  | @ow _ a h =>
    obtain ⟨⟨o, h1, h2, h3⟩, h4, h5, h6⟩ := h
    have sb : Sub G (upd G a o) := Sub.new h4
    have rp : Rep C.K (upd G a o) ι (.ref a) d := .obj upd_same (h2.mono sb (List.prefix_refl _))
    refine ⟨upd G a o, a, e1, ?_, ⟨sb, fun b u q => ?_, List.prefix_refl _⟩, rp⟩
    · have r2 : R C lk (upd G a o) ι (env.set i none) st σ H := by
        refine ⟨by simp [r.len], r.fF, fun b o' u q => ?_, fun b u q => ?_, fun j s' q => ?_, (r.forget (i := i)).inj, r.slen, fun n b x q1 q2 => ?_, fun b hb => ?_, r.nd, fun b x u f1 f2 => by
          have q : b ≠ a := fun z => by rw [z, h1] at f1; cases f1; exact h3
          rw [upd_ne q] at f2; exact r.lk2 b x u f1 f2⟩
        · obtain ⟨q1, q2, q3⟩ := r.lkd b o' u q
          exact ⟨q1, sb _ _ q2, q3⟩
        · by_cases z : b = a
          · subst z; rw [upd_same] at q; cases q; exact .inl h1
          · rw [upd_ne z] at q; exact r.fG b u q
        · by_cases z : i = j
          · subst z
            rw [List.getElem?_set] at q
            simp only [if_pos] at q
            split at q <;> cases q
          · rw [List.getElem?_set_ne z] at q
            obtain ⟨v', q1, h⟩ := r.sl j s' q
            refine ⟨v', q1, ?_⟩
            cases h with
            | sh h => exact .sh (h.mono sb (List.prefix_refl _))
            | @ow d' b h =>
              obtain ⟨⟨o', g1, g2, g3⟩, g4, g5, g6⟩ := h
              have nb : b ≠ a := fun y => z (r.inj i j d d' a e q e1 (by rw [q1, y]))
              exact .ow ⟨⟨o', g1, g2.mono sb (List.prefix_refl _), g3⟩, by rw [upd_ne nb]; exact g4, g5, g6⟩
        · obtain ⟨h, q3, q4⟩ := r.sto n b x q1 q2
          exact ⟨h, q3, q4.mono sb (List.prefix_refl _)⟩
        · obtain ⟨q1, q2⟩ := r.sg b hb
          exact ⟨by rw [upd_ne (show b ≠ a from fun z => h6 (by rw [← z]; exact hb))]; exact q1, q2⟩
      have r3 := r2.setSh (i := i) rp
      rw [List.set_set] at r3
      have hl : i < σ.length := (List.getElem?_eq_some_iff.mp e1).1
      have es : σ.set i (some (.ref a)) = σ := by
        apply List.ext_getElem?
        intro j
        by_cases z : i = j
        · subst z; rw [List.getElem?_set_self hl, e1]
        · rw [List.getElem?_set_ne z]
      rw [es] at r3
      exact r3
    · by_cases z : b = a
      · subst z; exact .inr (.inl h5)
      · rw [upd_ne z] at q; exact .inl q
/-- an owned object is changed -/
theorem R.put (r : R C lk G ι env st σ H) {i : Nat} {d' : D} {o : HO} {a : Addr} (e : env[i]? = some (some (.ow d))) (e1 : σ[i]? = some (some (.ref a))) (h : HRep C.K G ι o d') (m : Mut (some o)) : R C lk G ι (env.set i (some (.ow d'))) st σ (upd H a o) := by
  obtain ⟨v, e1', ho⟩ := r.sl i _ e
  rw [e1] at e1'; cases e1'
  cases ho with
  | ow ho =>
    obtain ⟨⟨o', h1, h2, h3⟩, h4, h5, h6⟩ := ho
    have r2 : R C lk G ι (env.set i none) st σ (upd H a o) := r.forget.chg h4 h5 h6 fun j d2 q q1 => by
      by_cases z : i = j
      · subst z
        rw [List.getElem?_set] at q
        simp only [if_pos] at q
        split at q <;> cases q
      · rw [List.getElem?_set_ne z] at q
        exact z (r.inj i j d d2 a e q e1 q1)
    have r3 := r2.set (i := i) (s := .ow d') (v := .ref a) (.ow ⟨⟨o, upd_same, h, m⟩, h4, h5, h6⟩) (fun d2 b q1 q2 j d3 q3 q4 => by
      cases q2
      by_cases z : i = j
      · exact z.symm
      · rw [List.getElem?_set_ne z] at q3
        exact (r.inj i j d d3 a e q3 e1 q4).symm)
    rw [List.set_set] at r3
    have hl : i < σ.length := (List.getElem?_eq_some_iff.mp e1).1
    have es : σ.set i (some (.ref a)) = σ := by
      apply List.ext_getElem?
      intro j
      by_cases z : i = j
      · subst z; rw [List.getElem?_set_self hl, e1]
      · rw [List.getElem?_set_ne z]
    rw [es] at r3
    exact r3
/-- an object of the store is changed -/
theorem R.putSto (r : R C lk G ι env st σ H) {n : Nat} {x : SO} {o : HO} {a : Addr} (e : ι[n]? = some a) (h : SRep C.K G ι o x) : R C lk G ι env (st.set n x) σ (upd H a o) := by
  have ha : a ∈ ι := List.mem_of_getElem? e
  obtain ⟨h4, h5⟩ := r.sg a ha
  refine ⟨r.len, fun b u q => ?_, fun b o' u q => ?_, fun b u q => ?_, fun j s q => ?_, r.inj, by simp [r.slen], fun m b y q1 q2 => ?_, r.sg, r.nd, fun b x u e1 e2 => by
    have q : b ≠ a := fun z => by rw [z, h4] at e2; cases e2
    rw [upd_ne q] at e1; exact r.lk2 b x u e1 e2⟩
  · have nb : b ≠ a := fun z => by rw [z, h5] at q; cases q
    rw [upd_ne nb]; exact r.fF b u q
  · obtain ⟨q1, q2, q3⟩ := r.lkd b o' u q
    have nb : b ≠ a := fun z => by rw [z, h4] at q2; cases q2
    rw [upd_ne nb]; exact ⟨q1, q2, q3⟩
  · have nb : b ≠ a := fun z => by rw [z, h4] at q; cases q
    rw [upd_ne nb]; exact r.fG b u q
  · obtain ⟨v, q1, hs⟩ := r.sl j s q
    refine ⟨v, q1, ?_⟩
    cases hs with
    | sh h => exact .sh h
    | @ow d b h =>
      obtain ⟨⟨o', g1, g2, g3⟩, g4, g5, g6⟩ := h
      exact .ow ⟨⟨o', by rw [upd_ne (show b ≠ a from fun z => g6 (by rw [z]; exact ha))]; exact g1, g2, g3⟩, g4, g5, g6⟩
  · by_cases z : n = m
    · subst z
      rw [e] at q1; cases q1
      rw [List.getElem?_set] at q2
      simp only [if_pos] at q2
      split at q2
      · cases q2; exact ⟨o, upd_same, h⟩
      · cases q2
    · rw [List.getElem?_set_ne z] at q2
      obtain ⟨h', q3, q4⟩ := r.sto m b y q1 q2
      have nb : b ≠ a := fun y => z (nd_ix r.nd e (y ▸ q1))
      exact ⟨h', by rw [upd_ne nb]; exact q3, q4⟩
/-- a new object of the store -/
theorem R.newSto (r : R C lk G ι env st σ H) {p : Addr} {x : SO} {o : HO} (hp : H p = none) (h : SRep C.K G (ι ++ [p]) o x) : R C lk G (ι ++ [p]) env (st ++ [x]) σ (upd H p o) ∧ Grow C G ι G (ι ++ [p]) := by
  obtain ⟨h4, h5, h6⟩ := r.noG hp
  have pr : ι <+: ι ++ [p] := List.prefix_append _ _
  refine ⟨⟨r.len, (r.newOw hp).fF, (r.newOw hp).lkd, (r.newOw hp).fG, fun j s q => ?_, r.inj, by simp [r.slen], fun m b y q1 q2 => ?_, fun b hb => ?_, ?_, (r.newOw hp).lk2⟩, ⟨Sub.refl G, fun _ _ h => .inl h, pr⟩⟩
  · obtain ⟨v, q1, hs⟩ := r.sl j s q
    refine ⟨v, q1, ?_⟩
    cases hs with
    | sh h => exact .sh (h.mono (Sub.refl G) pr)
    | @ow d b h =>
      obtain ⟨⟨o', g1, g2, g3⟩, g4, g5, g6⟩ := h
      have nb : b ≠ p := ne_of_none g1 hp
      exact .ow ⟨⟨o', by rw [upd_ne nb]; exact g1, g2.mono (Sub.refl G) pr, g3⟩, g4, g5, fun z => by
        rcases List.mem_append.mp z with z | z
        · exact g6 z
        · exact nb (by simpa using z)⟩
  · by_cases z : m < ι.length
    · rw [List.getElem?_append_left z] at q1
      rw [List.getElem?_append_left (by rw [r.slen]; exact z)] at q2
      obtain ⟨h', q3, q4⟩ := r.sto m b y q1 q2
      exact ⟨h', by rw [upd_ne (ne_of_none q3 hp)]; exact q3, q4.mono (Sub.refl G) pr⟩
    · have hm : m = ι.length := by
        have := (List.getElem?_eq_some_iff.mp q1).1
        rw [List.length_append] at this
        simp at this
        omega
      subst hm
      rw [List.getElem?_append_right (Nat.le_refl _)] at q1
      rw [← r.slen, List.getElem?_append_right (Nat.le_refl _)] at q2
      simp at q1 q2
      subst q1 q2
      exact ⟨o, upd_same, h⟩
  · rcases List.mem_append.mp hb with z | z
    · exact r.sg b z
    · have e : b = p := by simpa using z
      subst e
      exact ⟨h4, h5⟩
  · rw [List.nodup_append]
    refine ⟨r.nd, by simp, fun a ha b hb e => ?_⟩
    have e2 : b = p := by simpa using hb
    subst e2 e
    exact h6 ha
end
end VL

/-! The value layer: the lifts; expressions. -/
namespace VL
open PySem PySem.Spec PyProof.Rows L2

abbrev KE := D → EnvD → Sto → Prop
abbrev KX := XD → EnvD → Sto → Prop
abbrev KB := Bool → EnvD → Sto → Prop
abbrev KA := List D → EnvD → Sto → Prop
/-- words: what must hold ahead, so that behind it what is wanted holds -/
abbrev WE := EnvD → Sto → KE → KX → Prop
abbrev WB := EnvD → Sto → KB → KX → Prop
abbrev WA := EnvD → Sto → KA → KX → Prop

def XRep (C : Ctx) (x : XD) (cls : Value) (d : Option Addr) (H : Hp) : Prop :=
  ∃ A, C.K.Cl x.1 = some A ∧ cls = .ref A ∧ match x.2 with
    | none => d = none
    | some p => ∃ dx, d = some dx ∧ H dx = some (.xd [("place", .int p)]) ∧ C.F dx = none
def XOk (C : Ctx) (lk : Lks) (G : Hp) (ι : List Addr) (Px : KX) : Prop :=
  ∀ x env st G' ι' σ H cls d, Px x env st → Grow C G ι G' ι' → R C lk G' ι' env st σ H → XRep C x cls d H → C.W cls d σ H
theorem XOk.mono {C : Ctx} {lk : Lks} {G G' : Hp} {ι ι' : List Addr} {Px : KX} (h : XOk C lk G ι Px) (g : Grow C G ι G' ι') : XOk C lk G' ι' Px :=
  fun x env st G2 ι2 σ H cls d p g2 r q => h x env st G2 ι2 σ H cls d p (g.trans g2) r q

/-- no slot owns it -/
def NoSlot (env : EnvD) (σ : L2.St) (a : Addr) : Prop := ∀ (i : Nat) (e : D), env[i]? = some (some (.ow e)) → σ[i]? ≠ some (some (.ref a))

def liftE (C : Ctx) (lk : Lks) (w : WE) : TE := fun σ H Q => ∃ G ι env st P Px, R C lk G ι env st σ H ∧ w env st P Px ∧
  (∀ d env' st' G' ι' v H', P d env' st' → Grow C G ι G' ι' → R C lk G' ι' env' st' σ H' → Rep C.K G' ι' v d → Q v H') ∧ XOk C lk G ι Px
/-- a fresh list or dict, no slot's -/
def liftF (C : Ctx) (lk : Lks) (w : WE) : TE := fun σ H Q => ∃ G ι env st P Px, R C lk G ι env st σ H ∧ w env st P Px ∧
  (∀ d env' st' G' ι' a H', P d env' st' → Grow C G ι G' ι' → R C lk G' ι' env' st' σ H' → OwnAt C G' ι' H' a d → NoSlot env' σ a → Q (.ref a) H') ∧ XOk C lk G ι Px
def liftB (C : Ctx) (lk : Lks) (w : WB) : TT := fun σ H Q => ∃ G ι env st P Px, R C lk G ι env st σ H ∧ w env st P Px ∧
  (∀ b env' st' G' ι' H', P b env' st' → Grow C G ι G' ι' → R C lk G' ι' env' st' σ H' → Q b H') ∧ XOk C lk G ι Px
def liftA (C : Ctx) (lk : Lks) (n : Nat) (w : WA) : TA := fun σ H Q => ∃ G ι env st P Px, R C lk G ι env st σ H ∧ w env st P Px ∧
  (∀ ds env' st' G' ι' vs H', P ds env' st' → ds.length = n → Grow C G ι G' ι' → R C lk G' ι' env' st' σ H' → Reps C.K G' ι' vs ds → Q vs H') ∧ XOk C lk G ι Px

theorem PEi {X : Cx} {e : Expr} {t t' : TE} (h : PE X e t) (i : ∀ σ H Q, t' σ H Q → t σ H Q) : PE X e t' := ⟨fun pins s σ H Q I q => h.run pins s σ H Q I (i σ H Q q)⟩
theorem PTi {X : Cx} {e : Expr} {t t' : TT} (h : PT X e t) (i : ∀ σ H Q, t' σ H Q → t σ H Q) : PT X e t' := ⟨fun pins s σ H Q I q => h.run pins s σ H Q I (i σ H Q q)⟩
theorem PWi {X : Cx} {e : Expr} {t t' : TT} (h : PW X e t) (i : ∀ σ H Q, t' σ H Q → t σ H Q) : PW X e t' := ⟨fun wh pins s σ H Q I q => h.run wh pins s σ H Q I (i σ H Q q)⟩
theorem PAi {X : Cx} {e : List Expr} {t t' : TA} (h : PA X e t) (i : ∀ σ H Q, t' σ H Q → t σ H Q) : PA X e t' := ⟨fun pos pins s σ H Q I q => h.run pos pins s σ H Q I (i σ H Q q)⟩
theorem PSi {X : Cx} {e : Stmt} {t t' : TS} (h : PS X e t) (i : ∀ D σ H, t' D σ H → t D σ H) : PS X e t' := ⟨fun pins s σ H Q I q => h.run pins s σ H Q I (i Q σ H q)⟩
theorem PSsi {X : Cx} {e : List Stmt} {t t' : TS} (h : PSs X e t) (i : ∀ D σ H, t' D σ H → t D σ H) : PSs X e t' := ⟨fun pins s σ H Q I q => h.run pins s σ H Q I (i Q σ H q)⟩

/-! ### constants, names -/
def wC (d : D) : WE := fun env st Q _ => Q d env st
/-- a name of the def; an owned object is frozen by it -/
def wVar (i : Nat) : WE := fun env st Q _ => match env[i]? with
  | some (some (.sh d)) => Q d env st
  | some (some (.ow d)) => Q d (env.set i (some (.sh d))) st
  | _ => False
section
variable {X : Cx} {C : Ctx} {lk : Lks} {pos : Pos}
theorem e_of {e : Expr} {v : V} {d : D} (h : PE X e (tC v)) (r : ∀ G ι, Rep C.K G ι v d) : PE X e (liftE C lk (wC d)) := PEi h (by
  rintro σ H Q ⟨G, ι, env, st, P, Px, hR, hw, hQ, _⟩
  exact hQ d env st G ι v H hw .refl hR (r G ι))
theorem e_int {i : Int} {j : Nat} : PE X (.Constant (.int i) j pos) (liftE C lk (wC (.int i))) := e_of pe_int fun _ _ => .int
theorem e_bl {b : Bool} {j : Nat} : PE X (.Constant (.bool b) j pos) (liftE C lk (wC (.bl b))) := e_of pe_bl fun _ _ => .bl
theorem e_non {j : Nat} : PE X (.Constant .none j pos) (liftE C lk (wC .non)) := e_of pe_non fun _ _ => .non
theorem e_str {x : Str} {j : Nat} : PE X (.Constant (.str x) j pos) (liftE C lk (wC (.str x))) := e_of pe_str fun _ _ => .str
theorem e_gInt {x : Str} {i : Int} {t : Tok} (hg : Gl X x) (hm : X.mg x = some (.int i t)) (hd : (x == ("__debug__" : Str)) = false := by decide) : PE X (.Name x pos) (liftE C lk (wC (.int i))) := e_of (pe_glob (v := .int i) hg hm ⟨t, rfl⟩ hd) fun _ _ => .int
theorem e_gStr {x : Str} {i : Str} {t : Tok} (hg : Gl X x) (hm : X.mg x = some (.str i t)) (hd : (x == ("__debug__" : Str)) = false := by decide) : PE X (.Name x pos) (liftE C lk (wC (.str i))) := e_of (pe_glob (v := .str i) hg hm ⟨t, rfl⟩ hd) fun _ _ => .str
theorem e_var {i : Nat} {x : Str} (h : PE X (.Name x pos) (tVar i)) : PE X (.Name x pos) (liftE C lk (wVar i)) := PEi h (by
  rintro σ H Q ⟨G, ι, env, st, P, Px, hR, hs, hQ, _⟩
  unfold wVar at hs
  split at hs
  · rename_i d he
    obtain ⟨v, e1, hv⟩ := hR.sl i _ he
    cases hv with
    | sh hv => exact ⟨v, e1, hQ d env st G ι v H hs .refl hR hv⟩
  · rename_i d he
    obtain ⟨G', a, e1, r, g, rp⟩ := hR.freeze he
    exact ⟨_, e1, hQ d _ st G' ι _ H hs g r rp⟩
  · exact hs.elim)

/-! ### fresh values are values -/
theorem ownFreeze {G : Hp} {ι : List Addr} {env : EnvD} {st : Sto} {σ : L2.St} {H : Hp} {a : Addr} {d : D} (r : R C lk G ι env st σ H) (o : OwnAt C G ι H a d) (hn : NoSlot env σ a) :
    ∃ G', R C lk G' ι env st σ H ∧ Grow C G ι G' ι ∧ Rep C.K G' ι (.ref a) d := by
  -- by a slot more
  have r1 : R C lk G ι (env ++ [some (.ow d)]) st (σ ++ [some (.ref a)]) H := by
    have hlen := r.len
    have low : ∀ {i : Nat} {s : Slot}, (env ++ [some (.ow d)])[i]? = some (some s) → (i < env.length ∧ env[i]? = some (some s)) ∨ (i = env.length ∧ s = .ow d) := fun {i s} e => by
      by_cases h : i < env.length
      · rw [List.getElem?_append_left h] at e; exact .inl ⟨h, e⟩
      · have hi := (List.getElem?_eq_some_iff.mp e).1
        rw [List.length_append] at hi
        have hi2 : i = env.length := by simp at hi; omega
        subst hi2
        rw [List.getElem?_append_right (Nat.le_refl _)] at e
        simp at e
        exact .inr ⟨rfl, e.symm⟩
    have lo2 : ∀ {i : Nat}, i < env.length → (σ ++ [some (V.ref a)])[i]? = σ[i]? := fun {i} h => List.getElem?_append_left (by rw [← hlen]; exact h)
    have hi2 : (σ ++ [some (V.ref a)])[env.length]? = some (some (.ref a)) := by rw [hlen, List.getElem?_append_right (Nat.le_refl _)]; simp
    refine ⟨by simp [hlen], r.fF, r.lkd, r.fG, fun i s e => ?_, fun i j d1 d2 b e1 e2 e3 e4 => ?_, r.slen, r.sto, r.sg, r.nd, r.lk2⟩
    · rcases low e with ⟨h, e2⟩ | ⟨h, e2⟩
      · obtain ⟨v, q, s⟩ := r.sl i s e2
        exact ⟨v, by rw [lo2 h]; exact q, s⟩
      · rw [h, e2]
        exact ⟨_, hi2, .ow o⟩
    · rcases low e1 with ⟨h, e1⟩ | ⟨h, e1⟩
      · rw [lo2 h] at e3
        rcases low e2 with ⟨h2, e2⟩ | ⟨h2, e2⟩
        · rw [lo2 h2] at e4; exact r.inj i j d1 d2 b e1 e2 e3 e4
        · subst h2
          rw [hi2] at e4; cases e4
          exact absurd e3 (hn i d1 e1)
      · subst h
        rw [hi2] at e3; cases e3
        rcases low e2 with ⟨h2, e2⟩ | ⟨h2, e2⟩
        · rw [lo2 h2] at e4
          exact absurd e4 (hn j d2 e2)
        · exact h2.symm
  have hg : (env ++ [some (.ow d)])[env.length]? = some (some (.ow d)) := by rw [List.getElem?_append_right (Nat.le_refl _)]; simp
  obtain ⟨G', b, e1, r2, g, rp⟩ := r1.freeze hg
  have eb : b = a := by
    rw [r.len, List.getElem?_append_right (Nat.le_refl _)] at e1
    simp at e1
    exact e1.symm
  subst eb
  refine ⟨G', ?_, g, rp⟩
  have es : (env ++ [some (Slot.ow d)]).set env.length (some (.sh d)) = env ++ [some (.sh d)] := by
    rw [List.set_append_right _ _ (Nat.le_refl _)]; simp
  rw [es] at r2
  refine ⟨r.len, r2.fF, r2.lkd, r2.fG, fun i s e => ?_, r.inj, r.slen, r2.sto, r2.sg, r.nd, r2.lk2⟩
  have h := (List.getElem?_eq_some_iff.mp e).1
  obtain ⟨v, q, s⟩ := r2.sl i s (by rw [List.getElem?_append_left h]; exact e)
  rw [List.getElem?_append_left (by rw [← r.len]; exact h)] at q
  exact ⟨v, q, s⟩
theorem eToF {w : WE} {σ : L2.St} {H : Hp} {Q : VK} (h : liftE C lk w σ H Q) : liftF C lk w σ H Q := by
  obtain ⟨G, ι, env, st, P, Px, hR, hw, hQ, hX⟩ := h
  refine ⟨G, ι, env, st, P, Px, hR, hw, fun d env' st' G' ι' a H' p g r o hn => ?_, hX⟩
  obtain ⟨G2, r2, g2, rp⟩ := ownFreeze r o hn
  exact hQ d env' st' G2 ι' _ H' p (g.trans g2) r2 rp
theorem f_toE {e : Expr} {w : WE} (h : PE X e (liftF C lk w)) : PE X e (liftE C lk w) := PEi h fun _ _ _ q => eToF q
/-- a new object is fresh -/
theorem newFresh {G : Hp} {ι : List Addr} {env : EnvD} {st : Sto} {σ : L2.St} {H : Hp} {p : Addr} {o : HO} {d : D} (r : R C lk G ι env st σ H) (hp : H p = none) (h : HRep C.K G ι o d) (m : Mut (some o)) :
    R C lk G ι env st σ (upd H p o) ∧ OwnAt C G ι (upd H p o) p d ∧ NoSlot env σ p := by
  obtain ⟨h1, h2, h3⟩ := r.noG hp
  refine ⟨r.newOw hp, ⟨⟨o, upd_same, h, m⟩, h1, h2, h3⟩, fun i e q q2 => ?_⟩
  obtain ⟨v, e1, hs⟩ := r.sl i _ q
  rw [q2] at e1; cases e1
  cases hs with
  | ow hs => obtain ⟨⟨x, z, _⟩, _⟩ := hs; rw [hp] at z; cases z


/-! ### operands: a value, or a slot that is only read -/
inductive DR where
  | val (d : D) | slot (i : Nat)
abbrev WO := EnvD → Sto → (DR → EnvD → Sto → Prop) → KX → Prop
/-- what it is, where it is used -/
def DR.get (r : DR) (env : EnvD) (Q : D → Prop) : Prop := match r with
  | .val d => Q d
  | .slot i => match env[i]? with
    | some (some (.sh d)) => Q d
    | some (some (.ow d)) => Q d
    | _ => False
def DRel (K : KC) (G : Hp) (ι : List Addr) (σ : L2.St) (r : DR) (v : V) : Prop := match r with
  | .val d => Rep K G ι v d
  | .slot i => σ[i]? = some (some v)
theorem DRel.mono {K : KC} {G G' : Hp} {ι ι' : List Addr} {σ : L2.St} {r : DR} {v : V} (s : Sub G G') (p : ι <+: ι') (h : DRel K G ι σ r v) : DRel K G' ι' σ r v := by
  cases r with
  | val d => exact Rep.mono s p h
  | slot i => exact h
/-- to be read now -/
def Bor (K : KC) (G : Hp) (ι : List Addr) (H : Hp) (v : V) (d : D) : Prop := Rep K G ι v d ∨ ∃ a o, v = .ref a ∧ H a = some o ∧ Mut (some o) ∧ HRep K G ι o d
theorem R.bor {G : Hp} {ι : List Addr} {env : EnvD} {st : Sto} {σ : L2.St} {H : Hp} {v : V} {r : DR} {Q : D → Prop} (hR : R C lk G ι env st σ H) (h : DRel C.K G ι σ r v) (g : r.get env Q) : ∃ d, Q d ∧ Bor C.K G ι H v d := by
  cases r with
  | val d => exact ⟨d, g, .inl h⟩
  | slot i =>
    have h : σ[i]? = some (some v) := h
    unfold DR.get at g
    dsimp only at g
    split at g
    · rename_i d he
      obtain ⟨u, e1, hv⟩ := hR.sl i _ he
      rw [h] at e1; cases e1
      cases hv with
      | sh hv => exact ⟨d, g, .inl hv⟩
    · rename_i d he
      obtain ⟨u, e1, hv⟩ := hR.sl i _ he
      rw [h] at e1; cases e1
      cases hv with
      | ow hv =>
        obtain ⟨⟨o, h1, h2, h3⟩, _⟩ := hv
        exact ⟨d, g, .inr ⟨_, o, rfl, h1, h3, h2⟩⟩
    · exact g.elim
def liftO (C : Ctx) (lk : Lks) (w : WO) : TE := fun σ H Q => ∃ G ι env st P Px, R C lk G ι env st σ H ∧ w env st P Px ∧
  (∀ r env' st' G' ι' v H', P r env' st' → Grow C G ι G' ι' → R C lk G' ι' env' st' σ H' → DRel C.K G' ι' σ r v → Q v H') ∧ XOk C lk G ι Px
def wv (w : WE) : WO := fun env st Q Qx => w env st (fun d env' st' => Q (.val d) env' st') Qx
def ws (i : Nat) : WO := fun env st Q _ => match env[i]? with
  | some (some _) => Q (.slot i) env st
  | _ => False
theorem o_val {e : Expr} {w : WE} (h : PE X e (liftE C lk w)) : PE X e (liftO C lk (wv w)) := PEi h (by
  rintro σ H Q ⟨G, ι, env, st, P, Px, hR, hw, hQ, hX⟩
  exact ⟨G, ι, env, st, _, Px, hR, hw, fun d env' st' G' ι' v H' p g r rp => hQ (.val d) env' st' G' ι' v H' p g r rp, hX⟩)
theorem o_slot {i : Nat} {x : Str} (h : PE X (.Name x pos) (tVar i)) : PE X (.Name x pos) (liftO C lk (ws i)) := PEi h (by
  rintro σ H Q ⟨G, ι, env, st, P, Px, hR, hw, hQ, hX⟩
  unfold ws at hw
  split at hw
  · rename_i s he
    obtain ⟨v, e1, hv⟩ := hR.sl i _ he
    exact ⟨v, e1, hQ _ env st G ι v H hw .refl hR e1⟩
  · exact hw.elim)
/-! ### readable objects -/
theorem fGl {G : Hp} {ι : List Addr} {env : EnvD} {st : Sto} {σ : L2.St} {H : Hp} {a : Addr} {o : HO} (r : R C lk G ι env st σ H) (h : G a = some o) (n : ¬ isD o) : H a = some o := by
  rcases r.fG a o h with h | ⟨h, _⟩
  · exact h
  · exact absurd h n
theorem Bor.lst {G : Hp} {ι : List Addr} {env : EnvD} {st : Sto} {σ : L2.St} {H : Hp} {v : V} {ds : List D} (r : R C lk G ι env st σ H) (h : Bor C.K G ι H v (.lst ds)) : ∃ a xs, v = .ref a ∧ H a = some (.lst xs) ∧ Reps C.K G ι xs ds := by
  rcases h with h | ⟨a, o, e, h, _, q⟩
  · cases h with
    | obj h q => cases q with
      | lst q => exact ⟨_, _, rfl, fGl r h (fun z => z), q⟩
  · cases q with
    | lst q => exact ⟨a, _, e, h, q⟩
theorem Bor.tup {G : Hp} {ι : List Addr} {env : EnvD} {st : Sto} {σ : L2.St} {H : Hp} {v : V} {ds : List D} (r : R C lk G ι env st σ H) (h : Bor C.K G ι H v (.tup ds)) : ∃ a xs, v = .ref a ∧ H a = some (.tup xs) ∧ Reps C.K G ι xs ds := by
  rcases h with h | ⟨a, o, e, h, _, q⟩
  · cases h with
    | obj h q => cases q with
      | tup q => exact ⟨_, _, rfl, fGl r h (fun z => z), q⟩
  · cases q with
    | tup q => exact ⟨a, _, e, h, q⟩
theorem fRd {G : Hp} {ι : List Addr} {env : EnvD} {st : Sto} {σ : L2.St} {H : Hp} {a : Addr} {o : HO} (r : R C lk G ι env st σ H) (h : G a = some o) : Rd H a o := by
  rcases r.fG a o h with h | ⟨_, x, h⟩
  · exact .inl h
  · exact .inr ⟨x, h⟩
theorem Bor.dI {G : Hp} {ι : List Addr} {env : EnvD} {st : Sto} {σ : L2.St} {H : Hp} {v : V} {ds : List (Int × D)} (r : R C lk G ι env st σ H) (h : Bor C.K G ι H v (.dI ds)) : ∃ a xs, v = .ref a ∧ Rd H a (.dK xs) ∧ RepI C.K G ι xs ds := by
  rcases h with h | ⟨a, o, e, h, _, q⟩
  · cases h with
    | obj h q => cases q with
      | dI q => exact ⟨_, _, rfl, fRd r h, q⟩
  · cases q with
    | dI q => exact ⟨a, _, e, .inl h, q⟩
theorem Bor.dT {G : Hp} {ι : List Addr} {env : EnvD} {st : Sto} {σ : L2.St} {H : Hp} {v : V} {ds : List (List Int × D)} (r : R C lk G ι env st σ H) (h : Bor C.K G ι H v (.dT ds)) : ∃ a xs, v = .ref a ∧ Rd H a (.dT xs) ∧ RepT C.K G ι xs ds := by
  rcases h with h | ⟨a, o, e, h, _, q⟩
  · cases h with
    | obj h q => cases q with
      | dT q => exact ⟨_, _, rfl, fRd r h, q⟩
  · cases q with
    | dT q => exact ⟨a, _, e, .inl h, q⟩
theorem Bor.scr {G : Hp} {ι : List Addr} {env : EnvD} {st : Sto} {σ : L2.St} {H : Hp} {v : V} {ns : List Int} (r : R C lk G ι env st σ H) (h : Bor C.K G ι H v (.scr ns)) : ∃ a, v = .ref a ∧ SqL C.K H a (ns.map V.int) := by
  rcases h with h | ⟨a, o, e, h, _, q⟩
  · cases h with
    | scr h =>
      refine ⟨_, rfl, ?_⟩
      rcases h with (h | ⟨o, h⟩) | h
      · exact .inl (fRd r h)
      · exact .inl (.inr ⟨o, fGl r h (fun z => z)⟩)
      · exact .inr h
    | obj h q => cases q
  · cases q
theorem Bor.int {G : Hp} {ι : List Addr} {H : Hp} {v : V} {i : Int} (h : Bor C.K G ι H v (.int i)) : v = .int i := by
  rcases h with h | ⟨a, o, e, h, _, q⟩
  · cases h with
    | int => rfl
    | obj h q => cases q
  · cases q
theorem Bor.bl {G : Hp} {ι : List Addr} {H : Hp} {v : V} {i : Bool} (h : Bor C.K G ι H v (.bl i)) : v = .bl i := by
  rcases h with h | ⟨a, o, e, h, _, q⟩
  · cases h with
    | bl => rfl
    | obj h q => cases q
  · cases q
theorem Bor.str {G : Hp} {ι : List Addr} {H : Hp} {v : V} {i : Str} (h : Bor C.K G ι H v (.str i)) : v = .str i := by
  rcases h with h | ⟨a, o, e, h, _, q⟩
  · cases h with
    | str => rfl
    | obj h q => cases q
  · cases q
theorem Bor.non {G : Hp} {ι : List Addr} {H : Hp} {v : V} (h : Bor C.K G ι H v .non) : v = .non := by
  rcases h with h | ⟨a, o, e, h, _, q⟩
  · cases h with
    | non => rfl
    | obj h q => cases q
  · cases q
theorem Bor.hnd {G : Hp} {ι : List Addr} {H : Hp} {v : V} {n : Nat} (h : Bor C.K G ι H v (.hnd n)) : ∃ a, v = .ref a ∧ ι[n]? = some a := by
  rcases h with h | ⟨a, o, e, h, _, q⟩
  · cases h with
    | hnd h => exact ⟨_, rfl, h⟩
    | obj h q => cases q
  · cases q
theorem Reps.len {K : KC} {G : Hp} {ι : List Addr} : ∀ {xs : List V} {ds : List D}, Reps K G ι xs ds → xs.length = ds.length
  | _, _, .nil => rfl
  | _, _, .cons _ t => by rw [List.length_cons, List.length_cons, Reps.len t]
theorem Reps.get {K : KC} {G : Hp} {ι : List Addr} : ∀ {xs : List V} {ds : List D} {i : Nat} {d : D}, Reps K G ι xs ds → ds[i]? = some d → ∃ x, xs[i]? = some x ∧ Rep K G ι x d
  | _, _, _, _, .nil, e => by simp at e
  | _, _, 0, _, .cons h _, e => by simp at e; subst e; exact ⟨_, rfl, h⟩
  | _, _, i + 1, d, .cons _ t, e => by
    obtain ⟨x, h1, h2⟩ := Reps.get (i := i) (d := d) t (by simpa using e)
    exact ⟨x, by simpa using h1, h2⟩
theorem Reps.getR {K : KC} {G : Hp} {ι : List Addr} : ∀ {xs : List V} {ds : List D} {i : Nat} {x : V}, Reps K G ι xs ds → xs[i]? = some x → ∃ d, ds[i]? = some d ∧ Rep K G ι x d
  | _, _, _, _, .nil, e => by simp at e
  | _, _, 0, _, .cons h _, e => by simp at e; subst e; exact ⟨_, rfl, h⟩
  | _, _, i + 1, d, .cons _ t, e => by
    obtain ⟨x, h1, h2⟩ := Reps.getR (i := i) (x := d) t (by simpa using e)
    exact ⟨x, by simpa using h1, h2⟩
theorem Reps.append {K : KC} {G : Hp} {ι : List Addr} : ∀ {xs ys : List V} {ds es : List D}, Reps K G ι xs ds → Reps K G ι ys es → Reps K G ι (xs ++ ys) (ds ++ es)
  | _, _, _, _, .nil, s => s
  | _, _, _, _, .cons h t, s => .cons h (Reps.append t s)
theorem Reps.take {K : KC} {G : Hp} {ι : List Addr} : ∀ {xs : List V} {ds : List D} (n : Nat), Reps K G ι xs ds → Reps K G ι (xs.take n) (ds.take n)
  | _, _, 0, _ => .nil
  | _, _, _ + 1, .nil => .nil
  | _, _, n + 1, .cons h t => .cons h (Reps.take n t)
theorem Reps.drop {K : KC} {G : Hp} {ι : List Addr} : ∀ {xs : List V} {ds : List D} (n : Nat), Reps K G ι xs ds → Reps K G ι (xs.drop n) (ds.drop n)
  | _, _, 0, r => r
  | _, _, _ + 1, .nil => .nil
  | _, _, n + 1, .cons _ t => Reps.drop n t
theorem Reps.set {K : KC} {G : Hp} {ι : List Addr} {x : V} {d : D} (r : Rep K G ι x d) : ∀ {xs : List V} {ds : List D} (i : Nat), Reps K G ι xs ds → Reps K G ι (xs.set i x) (ds.set i d)
  | _, _, _, .nil => .nil
  | _, _, 0, .cons _ t => .cons r t
  | _, _, i + 1, .cons q t => .cons q (Reps.set r i t)
theorem Reps.reverse {K : KC} {G : Hp} {ι : List Addr} : ∀ {xs : List V} {ds : List D}, Reps K G ι xs ds → Reps K G ι xs.reverse ds.reverse
  | _, _, .nil => .nil
  | _, _, .cons h t => by rw [List.reverse_cons, List.reverse_cons]; exact (Reps.reverse t).append (.cons h .nil)
theorem Reps.rep {K : KC} {G : Hp} {ι : List Addr} {xs : List V} {ds : List D} (h : Reps K G ι xs ds) : ∀ k : Nat, Reps K G ι (List.replicate k xs).flatten (List.replicate k ds).flatten
  | 0 => .nil
  | k + 1 => by rw [List.replicate_succ, List.replicate_succ, List.flatten_cons, List.flatten_cons]; exact h.append (Reps.rep h k)
theorem Reps.ints {K : KC} {G : Hp} {ι : List Addr} : ∀ {xs : List V} {ns : List Int}, Reps K G ι xs (ns.map D.int) → xs = ns.map V.int
  | _, [], .nil => rfl
  | _, n :: ns, .cons h t => by
    cases h with
    | int => rw [List.map_cons, ← Reps.ints t]
    | obj _ q => cases q
theorem Reps.ofInts {K : KC} {G : Hp} {ι : List Addr} : ∀ (ns : List Int), Reps K G ι (ns.map V.int) (ns.map D.int)
  | [] => .nil
  | n :: ns => .cons .int (Reps.ofInts ns)

/-! ### operators on values -/
/-- a continuation on a value that leaves the slots and the store -/
def KV1 (C : Ctx) (lk : Lks) (G : Hp) (ι : List Addr) (env : EnvD) (st : Sto) (σ : L2.St) (P : D → Prop) (Q : VK) : Prop := ∀ d G' v H', P d → Grow C G ι G' ι → R C lk G' ι env st σ H' → Rep C.K G' ι v d → Q v H'
/-- r does what f says -/
def Op2 (C : Ctx) (r : R2) (f : D → D → (D → Prop) → Prop) : Prop := ∀ lk G ι env st σ H x y d1 d2 P (Q : VK), R C lk G ι env st σ H → Bor C.K G ι H x d1 → Bor C.K G ι H y d2 → f d1 d2 P → KV1 C lk G ι env st σ P Q → r x y H Q
theorem Op2.or {r r' : R2} {f g : D → D → (D → Prop) → Prop} (h : Op2 C r f) (h' : Op2 C r' g) : Op2 C (fun x y H Q => r x y H Q ∨ r' x y H Q) (fun x y P => f x y P ∨ g x y P) := fun lk G ι env st σ H x y d1 d2 P Q hR b1 b2 hf k => by
  rcases hf with hf | hf
  · exact .inl (h lk G ι env st σ H x y d1 d2 P Q hR b1 b2 hf k)
  · exact .inr (h' lk G ι env st σ H x y d1 d2 P Q hR b1 b2 hf k)
theorem Op2.imp {r : R2} {f g : D → D → (D → Prop) → Prop} (h : Op2 C r f) (i : ∀ d1 d2 P, g d1 d2 P → f d1 d2 P) : Op2 C r g := fun lk G ι env st σ H x y d1 d2 P Q hR b1 b2 hf k => h lk G ι env st σ H x y d1 d2 P Q hR b1 b2 (i _ _ _ hf) k
def wBin (f : D → D → (D → Prop) → Prop) (wa wb : WO) : WE := fun env st Q Qx => wa env st (fun r1 e1 s1 => wb e1 s1 (fun r2 e2 s2 => r1.get e2 fun d1 => r2.get e2 fun d2 => f d1 d2 fun d => Q d e2 s2) Qx) Qx
variable {a b c : Expr} {wa wb wc : WO}
theorem opLift {r : R2} {f : D → D → (D → Prop) → Prop} (hf : Op2 C r f) {σ : L2.St} {H : Hp} {Q : VK} (h : liftE C lk (wBin f wa wb) σ H Q) : tOp r (liftO C lk wa) (liftO C lk wb) σ H Q := by
  obtain ⟨G, ι, env, st, P, Px, hR, hw, hQ, hX⟩ := h
  refine ⟨G, ι, env, st, _, Px, hR, hw, fun r1 e1 s1 G1 ι1 x H1 p1 g1 R1 rep1 => ?_, hX⟩
  refine ⟨G1, ι1, e1, s1, _, Px, R1, p1, fun r2 e2 s2 G2 ι2 y H2 p2 g2 R2 rep2 => ?_, hX.mono g1⟩
  obtain ⟨d1, p2, b1⟩ := R2.bor (rep1.mono g2.sub g2.pre) p2
  obtain ⟨d2, p2, b2⟩ := R2.bor rep2 p2
  exact hf lk G2 ι2 e2 s2 σ H2 x y d1 d2 _ Q R2 b1 b2 p2 fun d G3 v H3 p g3 R3 rep3 => hQ d e2 s2 G3 ι2 v H3 p ((g1.trans g2).trans g3) R3 rep3
theorem e_bin {op : Operator} {r : R2} {f : D → D → (D → Prop) → Prop} (ho : OpR X (binaryOp op) r) (hf : Op2 C r f) (ha : PE X a (liftO C lk wa)) (hb : PE X b (liftO C lk wb)) : PE X (.BinOp a op b pos) (liftE C lk (wBin f wa wb)) :=
  PEi (pe_op ho ha hb) fun σ H Q h => opLift hf h
theorem e_cmp {op : CmpOp} {r : R2} {f : D → D → (D → Prop) → Prop} (ho : OpR X (compareOp op) r) (hf : Op2 C r f) (ha : PE X a (liftO C lk wa)) (hb : PE X b (liftO C lk wb)) (hm : behindInMarks op b = false) : PE X (.Compare a [op] [b] pos) (liftE C lk (wBin f wa wb)) :=
  PEi (pe_cmpR ho ha hb hm) fun σ H Q h => opLift hf h
/-- a bool wanted -/
def wT (w : WE) : WB := fun env st Q Qx => w env st (fun d env' st' => match d with | .bl b => Q b env' st' | _ => False) Qx
theorem tstLift {t : TE} {w : WE} (hi : ∀ σ H Q, liftE C lk w σ H Q → t σ H Q) {σ : L2.St} {H : Hp} {Q : Bool → Hp → Prop} (h : liftB C lk (wT w) σ H Q) : t σ H fun x H' => ∃ k, x = .bl k ∧ Q k H' := by
  obtain ⟨G, ι, env, st, P, Px, hR, hw, hQ, hX⟩ := h
  refine hi _ _ _ ⟨G, ι, env, st, _, Px, hR, hw, fun d env' st' G' ι' v H' p g r rp => ?_, hX⟩
  cases d with
  | bl b =>
    cases rp with
    | bl => exact ⟨b, rfl, hQ b env' st' G' ι' H' p g r⟩
    | obj _ q => cases q
  | _ => exact p.elim
theorem t_cmp {op : CmpOp} {r : R2} {f : D → D → (D → Prop) → Prop} (ho : OpR X (compareOp op) r) (hf : Op2 C r f) (ha : PE X a (liftO C lk wa)) (hb : PE X b (liftO C lk wb)) (hm : behindInMarks op b = false) : PT X (.Compare a [op] [b] pos) (liftB C lk (wT (wBin f wa wb))) :=
  PTi (pt_cmpR ho ha hb hm) fun σ H Q h => tstLift (t := tOp r (liftO C lk wa) (liftO C lk wb)) (fun σ H Q h => opLift hf h) h
/-- an expression whose value is a bool, as a test -/
theorem t_val {e : Expr} {w : WE} (h : PE X e (liftE C lk w)) (he : ∀ whole, PySem.isTrue e X.env whole = (do let v ← whole; standAt e.pos; holding [v] (truthy v)) := by intro _; rfl) : PT X e (liftB C lk (wT w)) :=
  PTi (pt_val h he) fun σ H Q h => tstLift (t := liftE C lk w) (fun _ _ _ h => h) h
/-- a chain of two comparisons -/
def wChain (f g : D → D → (D → Prop) → Prop) (wa wb wc : WO) : WE := fun env st Q Qx => wa env st (fun r1 e1 s1 => wb e1 s1 (fun r2 e2 s2 => r1.get e2 fun d1 => r2.get e2 fun d2 => f d1 d2 fun d =>
  match d with
  | .bl true => wc e2 s2 (fun r3 e3 s3 => r2.get e3 fun d2 => r3.get e3 fun d3 => g d2 d3 fun d => Q d e3 s3) Qx
  | .bl false => Q (.bl false) e2 s2
  | _ => False) Qx) Qx
end
end VL

/-! The value layer: operators, comparisons, tests, arguments, displays. -/
namespace VL
open PySem PySem.Spec PyProof.Rows L2

/-! ### operators on data -/
def Sm (a : Int) : Prop := a.natAbs < 2 ^ 8000
def addD : D → D → (D → Prop) → Prop
  | .int a, .int b, P => P (.int (a + b))
  | .str a, .str b, P => a.length + b.length ≤ 16777216 ∧ P (.str (a ++ b))
  | .lst a, .lst b, P => a.length + b.length ≤ 16777216 ∧ P (.lst (a ++ b))
  | .tup a, .tup b, P => a.length + b.length ≤ 16777216 ∧ P (.tup (a ++ b))
  | _, _, _ => False
def addI : D → D → (D → Prop) → Prop
  | .int a, .int b, P => P (.int (a + b))
  | _, _, _ => False
def mulI : D → D → (D → Prop) → Prop
  | .int a, .int b, P => (-(2 ^ 64) < b ∧ b < 2 ^ 64) ∧ P (.int (a * b))
  | _, _, _ => False
def subD : D → D → (D → Prop) → Prop
  | .int a, .int b, P => P (.int (a - b))
  | _, _, _ => False
def mulD : D → D → (D → Prop) → Prop
  | .int a, .int b, P => (Sm a ∧ Sm b) ∧ P (.int (a * b))
  | .lst a, .int b, P => (b < 2 ^ 60 ∧ -(2 ^ 60) ≤ b ∧ a.length * b.toNat ≤ 16777216) ∧ P (.lst (List.replicate b.toNat a).flatten)
  | .tup a, .int b, P => (a ≠ [] ∧ 2 ≤ b ∧ b ≤ 1000 ∧ a.length ≤ 1000) ∧ P (.tup (List.replicate b.toNat a).flatten)
  | _, _, _ => False
def divD : D → D → (D → Prop) → Prop
  | .int a, .int b, P => (0 < b ∧ Sm b) ∧ P (.int (a / b))
  | _, _, _ => False
def modD : D → D → (D → Prop) → Prop
  | .int a, .int b, P => 0 < b ∧ P (.int (a % b))
  | _, _, _ => False
def powD : D → D → (D → Prop) → Prop
  | .int a, .int b, P => (0 ≤ b ∧ b ≤ 1000 ∧ a.natAbs < 2 ^ 64) ∧ P (.int (a ^ b.toNat))
  | _, _, _ => False
def ltD : D → D → (D → Prop) → Prop
  | .int a, .int b, P => P (.bl (@decide (a < b) (Classical.propDecidable _)))
  | _, _, _ => False
def leD : D → D → (D → Prop) → Prop
  | .int a, .int b, P => P (.bl (@decide (a ≤ b) (Classical.propDecidable _)))
  | _, _, _ => False
def gtD : D → D → (D → Prop) → Prop
  | .int a, .int b, P => P (.bl (@decide (b < a) (Classical.propDecidable _)))
  | _, _, _ => False
def geD : D → D → (D → Prop) → Prop
  | .int a, .int b, P => P (.bl (@decide (b ≤ a) (Classical.propDecidable _)))
  | _, _, _ => False

section
variable {X : Cx} {C : Ctx} {lk : Lks} {pos : Pos}
theorem Sm.mul {a b : Int} (ha : Sm a) (hb : Sm b) : CMulW a b := wide_mul (a := 8000) (b := 8000) ha hb (by decide) (by decide) (by decide)
theorem Sm.div {a b : Int} (h : 0 < b) (hb : Sm b) : CDivW a b := wide_div (b := 8000) h hb (by decide) (by decide)
theorem repL {G : Hp} {ι : List Addr} {a : Addr} {xs : List V} {ds : List D} (h : G a = some (.lst xs)) (r : Reps C.K G ι xs ds) : Rep C.K G ι (.ref a) (.lst ds) := .obj h (.lst r)
/-- a new object's frozen value -/
theorem newVal {G : Hp} {ι : List Addr} {env : EnvD} {st : Sto} {σ : L2.St} {H : Hp} {P : D → Prop} {Q : VK} {p : Addr} {o : HO} {d : D} (hR : R C lk G ι env st σ H) (k : KV1 C lk G ι env st σ P Q) (hp : H p = none) (hd : P d) (h : HRep C.K G ι o d) : Q (.ref p) (upd H p o) := by
  obtain ⟨r, g⟩ := hR.newSh (o := o) hp
  exact k d _ _ _ hd g r (.obj upd_same (h.mono g.sub g.pre))
theorem Bor.rep {G : Hp} {ι : List Addr} {H : Hp} {v : V} {d : D} (h : Bor C.K G ι H v d) (n : ∀ o, HRep C.K G ι o d → ¬ Mut (some o)) : Rep C.K G ι v d := by
  rcases h with h | ⟨a, o, e, h, m, q⟩
  · exact h
  · exact absurd m (n o q)
theorem op2_add (eK : X.K = C.K) : Op2 C (fun x y H Q => rI0 (fun i j => .int (i + j)) x y H Q ∨ (∃ i j, x = .str i ∧ y = .str j ∧ i.length + j.length ≤ sizeLine ∧ Q (.str (i ++ j)) H) ∨ rCat x y H Q ∨ rCatA X.K x y H Q) addD := by
  intro lk G ι env st σ H x y d1 d2 P Q hR b1 b2 hf k
  unfold addD at hf
  split at hf
  · rw [b1.int, b2.int]; exact .inl ⟨_, _, rfl, rfl, k _ G _ H hf .refl hR .int⟩
  · rw [b1.str, b2.str]; exact .inr (.inl ⟨_, _, rfl, rfl, by rw [sizeLine_eq]; exact hf.1, k _ G _ H hf.2 .refl hR .str⟩)
  · obtain ⟨l, xs, rfl, h1, r1⟩ := b1.lst hR
    obtain ⟨m, ys, rfl, h2, r2⟩ := b2.lst hR
    refine .inr (.inr (.inl ⟨l, m, xs, ys, rfl, rfl, h1, h2, by rw [sizeLine_eq, r1.len, r2.len]; exact hf.1, fun p hp => newVal hR k hp hf.2 (.lst (r1.append r2))⟩))
  · obtain ⟨l, xs, rfl, h1, r1⟩ := b1.tup hR
    obtain ⟨m, ys, rfl, h2, r2⟩ := b2.tup hR
    rename_i as bs
    refine .inr (.inr (.inr ⟨l, m, xs, ys, rfl, rfl, .of h1, .of h2, by rw [sizeLine_eq, r1.len, r2.len]; exact hf.1, fun e => ?_, fun _ e => ?_, fun _ _ p hp => newVal hR k hp hf.2 (.tup (r1.append r2))⟩))
    · subst e
      cases r1
      exact k _ G _ H hf.2 .refl hR (b2.rep fun o q m => by cases q; exact m)
    · subst e
      cases r2
      exact k _ G _ H (by have := hf.2; rw [List.append_nil] at this; exact this) .refl hR (b1.rep fun o q m => by cases q; exact m)
  · exact hf.elim
theorem op2_addI : Op2 C (rI0 fun i j => .int (i + j)) addI := by
  intro lk G ι env st σ H x y d1 d2 P Q hR b1 b2 hf k
  unfold addI at hf
  split at hf
  · rw [b1.int, b2.int]; exact ⟨_, _, rfl, rfl, k _ G _ H hf .refl hR .int⟩
  · exact hf.elim
theorem op2_mulI : Op2 C (rI CMul fun i j => .int (i * j)) mulI := by
  intro lk G ι env st σ H x y d1 d2 P Q hR b1 b2 hf k
  unfold mulI at hf
  split at hf
  · rw [b1.int, b2.int]; exact ⟨_, _, rfl, rfl, .inr hf.1, k _ G _ H hf.2 .refl hR .int⟩
  · exact hf.elim
theorem op2_sub : Op2 C (rI0 fun i j => .int (i - j)) subD := by
  intro lk G ι env st σ H x y d1 d2 P Q hR b1 b2 hf k
  unfold subD at hf
  split at hf
  · rw [b1.int, b2.int]; exact ⟨_, _, rfl, rfl, k _ G _ H hf .refl hR .int⟩
  · exact hf.elim
theorem op2_mul (eK : X.K = C.K) : Op2 C (fun x y H Q => rI CMulW (fun i j => .int (i * j)) x y H Q ∨ rRep x y H Q ∨ rRepT X.K x y H Q) mulD := by
  intro lk G ι env st σ H x y d1 d2 P Q hR b1 b2 hf k
  unfold mulD at hf
  split at hf
  · rw [b1.int, b2.int]; exact .inl ⟨_, _, rfl, rfl, Sm.mul hf.1.1 hf.1.2, k _ G _ H hf.2 .refl hR .int⟩
  · obtain ⟨l, xs, rfl, h1, r1⟩ := b1.lst hR
    rw [b2.int]
    obtain ⟨⟨q1, q2, q3⟩, q4⟩ := hf
    refine .inr (.inl ⟨l, _, xs, rfl, rfl, h1, Int.le_trans (by decide) q2, Int.lt_trans q1 (by decide), by rw [sizeLine_eq, r1.len]; exact q3, fun p hp => newVal hR k hp q4 (.lst (r1.rep _))⟩)
  · obtain ⟨l, xs, rfl, h1, r1⟩ := b1.tup hR
    rw [b2.int]
    obtain ⟨⟨q1, q2, q3, q5⟩, q4⟩ := hf
    exact .inr (.inr ⟨l, _, xs, rfl, rfl, .of h1, fun e => q1 (by subst e; cases r1; rfl), q2, q3, by rw [r1.len]; exact q5, fun p hp => newVal hR k hp q4 (.tup (r1.rep _))⟩)
  · exact hf.elim
theorem op2_div : Op2 C (rI CDivW fun i j => .int (i / j)) divD := by
  intro lk G ι env st σ H x y d1 d2 P Q hR b1 b2 hf k
  unfold divD at hf
  split at hf
  · rw [b1.int, b2.int]; exact ⟨_, _, rfl, rfl, Sm.div hf.1.1 hf.1.2, k _ G _ H hf.2 .refl hR .int⟩
  · exact hf.elim
theorem op2_mod : Op2 C (rI (fun _ j => 0 < j) fun i j => .int (i % j)) modD := by
  intro lk G ι env st σ H x y d1 d2 P Q hR b1 b2 hf k
  unfold modD at hf
  split at hf
  · rw [b1.int, b2.int]; exact ⟨_, _, rfl, rfl, hf.1, k _ G _ H hf.2 .refl hR .int⟩
  · exact hf.elim
theorem op2_pow : Op2 C (rI CPow fun i j => .int (i ^ j.toNat)) powD := by
  intro lk G ι env st σ H x y d1 d2 P Q hR b1 b2 hf k
  unfold powD at hf
  split at hf
  · rw [b1.int, b2.int]
    obtain ⟨⟨q1, q2, q3⟩, q⟩ := hf
    exact ⟨_, _, rfl, rfl, ⟨q1, by omega, q3⟩, k _ G _ H q .refl hR .int⟩
  · exact hf.elim
theorem dec_cl {p : Prop} {i j : Decidable p} : @decide p i = @decide p j := by cases Subsingleton.elim i j; rfl
theorem rep_bl {K : KC} {G : Hp} {ι : List Addr} {x y : Bool} (h : x = y) : Rep K G ι (.bl x) (.bl y) := by subst h; exact .bl
theorem op2_lt : Op2 C (rI0 fun i j => .bl (decide (i < j))) ltD := by
  intro lk G ι env st σ H x y d1 d2 P Q hR b1 b2 hf k
  unfold ltD at hf
  split at hf
  · rw [b1.int, b2.int]; exact ⟨_, _, rfl, rfl, k _ G _ H hf .refl hR (rep_bl (by rw [dec_cl]))⟩
  · exact hf.elim
theorem op2_le : Op2 C (rI0 fun i j => .bl (decide (i ≤ j))) leD := by
  intro lk G ι env st σ H x y d1 d2 P Q hR b1 b2 hf k
  unfold leD at hf
  split at hf
  · rw [b1.int, b2.int]; exact ⟨_, _, rfl, rfl, k _ G _ H hf .refl hR (rep_bl (by rw [dec_cl]))⟩
  · exact hf.elim
theorem op2_gt : Op2 C (rI0 fun i j => .bl (decide (j < i))) gtD := by
  intro lk G ι env st σ H x y d1 d2 P Q hR b1 b2 hf k
  unfold gtD at hf
  split at hf
  · rw [b1.int, b2.int]; exact ⟨_, _, rfl, rfl, k _ G _ H hf .refl hR (rep_bl (by rw [dec_cl]))⟩
  · exact hf.elim
theorem op2_ge : Op2 C (rI0 fun i j => .bl (decide (j ≤ i))) geD := by
  intro lk G ι env st σ H x y d1 d2 P Q hR b1 b2 hf k
  unfold geD at hf
  split at hf
  · rw [b1.int, b2.int]; exact ⟨_, _, rfl, rfl, k _ G _ H hf .refl hR (rep_bl (by rw [dec_cl]))⟩
  · exact hf.elim

/-! ### equality -/
mutual
def pd : D → Option PyData
  | .non => some .none
  | .bl b => some (.bool b)
  | .int i => some (.int i)
  | .str s => some (.str s)
  | .lst ds => (pds ds).map .list
  | .tup ds => (pds ds).map .tuple
  | .dI _ => none
  | .dT _ => none
  | .scr _ => none
  | .hnd _ => none
  | .exc _ _ => none
  | .txe _ _ => none
def pds : List D → Option (List PyData)
  | [] => some []
  | d :: ds => match pd d, pds ds with
    | some p, some ps => some (p :: ps)
    | _, _ => none
end
def eqD (d e : D) (P : D → Prop) : Prop := ∃ p q, pd d = some p ∧ pd e = some q ∧ SeqAt.shaped p = true ∧ SeqAt.shaped q = true ∧ P (.bl (PyData.eqv p q))
def neD (d e : D) (P : D → Prop) : Prop := ∃ p q, pd d = some p ∧ pd e = some q ∧ SeqAt.shaped p = true ∧ SeqAt.shaped q = true ∧ P (.bl (!PyData.eqv p q))
mutual
theorem Rep.dp {G : Hp} {ι : List Addr} {env : EnvD} {st : Sto} {σ : L2.St} {H : Hp} (hR : R C lk G ι env st σ H) : ∀ (d : D) {v : V} {p : PyData}, Rep C.K G ι v d → pd d = some p → Dp C.K H v p
  | .non, _, _, h, e => by
    have e2 : PyData.none = _ := Option.some.inj e
    subst e2
    cases h with
    | non => exact .non
    | obj _ q => cases q
  | .bl b, _, _, h, e => by
    have e2 : PyData.bool b = _ := Option.some.inj e
    subst e2
    cases h with
    | bl => exact .bl b
    | obj _ q => cases q
  | .int b, _, _, h, e => by
    have e2 : PyData.int b = _ := Option.some.inj e
    subst e2
    cases h with
    | int => exact .int b
    | obj _ q => cases q
  | .str b, _, _, h, e => by
    have e2 : PyData.str b = _ := Option.some.inj e
    subst e2
    cases h with
    | str => exact .str b
    | obj _ q => cases q
  | .lst ds, _, _, h, e => by
    unfold pd at e
    cases e2 : pds ds with
    | none => rw [e2] at e; cases e
    | some ps =>
      rw [e2] at e
      cases e
      cases h with
      | obj h q => cases q with
        | lst q => exact .lst (.of (fGl hR h fun z => z)) (Reps.dp hR ds q e2)
  | .tup ds, _, _, h, e => by
    unfold pd at e
    cases e2 : pds ds with
    | none => rw [e2] at e; cases e
    | some ps =>
      rw [e2] at e
      cases e
      cases h with
      | obj h q => cases q with
        | tup q => exact .tup (.of (fGl hR h fun z => z)) (Reps.dp hR ds q e2)
  | .dI _, _, _, _, e => by cases e
  | .dT _, _, _, _, e => by cases e
  | .scr _, _, _, _, e => by cases e
  | .hnd _, _, _, _, e => by cases e
  | .exc _ _, _, _, _, e => by cases e
  | .txe _ _, _, _, _, e => by cases e
theorem Reps.dp {G : Hp} {ι : List Addr} {env : EnvD} {st : Sto} {σ : L2.St} {H : Hp} (hR : R C lk G ι env st σ H) : ∀ (ds : List D) {vs : List V} {ps : List PyData}, Reps C.K G ι vs ds → pds ds = some ps → DpAll C.K H vs ps
  | [], _, _, h, e => by
    cases h
    cases e
    exact .nil
  | d :: ds, _, _, h, e => by
    cases h with
    | cons h t =>
      unfold pds at e
      cases e1 : pd d with
      | none => rw [e1] at e; cases e
      | some p =>
        cases e2 : pds ds with
        | none => rw [e1, e2] at e; cases e
        | some ps =>
          rw [e1, e2] at e
          cases e
          exact .cons (Rep.dp hR d h e1) (Reps.dp hR ds t e2)
end
theorem Bor.dp {G : Hp} {ι : List Addr} {env : EnvD} {st : Sto} {σ : L2.St} {H : Hp} {d : D} {v : V} {p : PyData} (hR : R C lk G ι env st σ H) (h : Bor C.K G ι H v d) (e : pd d = some p) : Dp C.K H v p := by
  rcases h with h | ⟨a, o, rfl, h, m, q⟩
  · exact Rep.dp hR d h e
  · cases q with
    | @lst _ ds q =>
      unfold pd at e
      cases e2 : pds ds with
      | none => rw [e2] at e; cases e
      | some ps =>
        rw [e2] at e
        cases e
        exact .lst (.of h) (Reps.dp hR _ q e2)
    | tup q => exact m.elim
    | dI q => cases e
    | dT q => cases e
theorem op2_eq (eK : X.K = C.K) : Op2 C (rEqD X.K) eqD := by
  intro lk G ι env st σ H x y d1 d2 P Q hR b1 b2 hf k
  obtain ⟨p, q, e1, e2, s1, s2, hp⟩ := hf
  rw [eK]
  exact ⟨p, q, b1.dp hR e1, b2.dp hR e2, s1, s2, k _ G _ H hp .refl hR .bl⟩
theorem op2_ne (eK : X.K = C.K) : Op2 C (rNeD X.K) neD := by
  intro lk G ι env st σ H x y d1 d2 P Q hR b1 b2 hf k
  obtain ⟨p, q, e1, e2, s1, s2, hp⟩ := hf
  rw [eK]
  exact ⟨p, q, b1.dp hR e1, b2.dp hR e2, s1, s2, k _ G _ H hp .refl hR .bl⟩

/-! ### is None -/
def isN : D → Bool
  | .non => true
  | _ => false
def isD1 (d e : D) (P : D → Prop) : Prop := match e with
  | .non => P (.bl (isN d))
  | _ => False
def isntD (d e : D) (P : D → Prop) : Prop := match e with
  | .non => P (.bl (!isN d))
  | _ => False
theorem Rep.isN {K : KC} {G : Hp} {ι : List Addr} {v : V} {d : D} (h : Rep K G ι v d) : decide (v = .non) = isN d := by
  cases h with
  | non => rfl
  | bl => rfl
  | int => rfl
  | str => rfl
  | scr => rfl
  | hnd => rfl
  | exc => rfl
  | excp => rfl
  | txe => rfl
  | obj _ q => cases q <;> rfl
theorem Bor.isN {K : KC} {G : Hp} {ι : List Addr} {H : Hp} {v : V} {d : D} (h : Bor K G ι H v d) : decide (v = .non) = isN d := by
  rcases h with h | ⟨a, o, rfl, h, m, q⟩
  · exact h.isN
  · cases q <;> rfl
theorem op2_is : Op2 C (fun x y H Q => y = .non ∧ Q (.bl (decide (x = .non))) H) isD1 := by
  intro lk G ι env st σ H x y d1 d2 P Q hR b1 b2 hf k
  unfold isD1 at hf
  split at hf
  · exact ⟨b2.non, by rw [b1.isN]; exact k _ G _ H hf .refl hR .bl⟩
  · exact hf.elim
theorem op2_isnt : Op2 C (fun x y H Q => y = .non ∧ Q (.bl (!decide (x = .non))) H) isntD := by
  intro lk G ι env st σ H x y d1 d2 P Q hR b1 b2 hf k
  unfold isntD at hf
  split at hf
  · exact ⟨b2.non, by rw [b1.isN]; exact k _ G _ H hf .refl hR .bl⟩
  · exact hf.elim

/-! ### the binary operators, named -/
variable {a b c : Expr} {wa wb wc : WO}
abbrev wAdd := wBin addD
abbrev wSub := wBin subD
abbrev wMul := wBin mulD
abbrev wDiv := wBin divD
abbrev wMod := wBin modD
abbrev wPow := wBin powD
abbrev wLt := wBin ltD
abbrev wLe := wBin leD
abbrev wGt := wBin gtD
abbrev wGe := wBin geD
abbrev wEq := wBin eqD
abbrev wNe := wBin neD
abbrev wIs := wBin isD1
abbrev wIsnt := wBin isntD
theorem e_add (eK : X.K = C.K) (ha : PE X a (liftO C lk wa)) (hb : PE X b (liftO C lk wb)) : PE X (.BinOp a .Add b pos) (liftE C lk (wAdd wa wb)) := e_bin (op_add.or (op_add_str.or (op_cat.or op_catA))) (op2_add eK) ha hb
theorem e_sub (ha : PE X a (liftO C lk wa)) (hb : PE X b (liftO C lk wb)) : PE X (.BinOp a .Sub b pos) (liftE C lk (wSub wa wb)) := e_bin op_sub op2_sub ha hb
theorem e_mul (eK : X.K = C.K) (ha : PE X a (liftO C lk wa)) (hb : PE X b (liftO C lk wb)) : PE X (.BinOp a .Mult b pos) (liftE C lk (wMul wa wb)) := e_bin (op_mulW.or (op_rep.or op_repT)) (op2_mul eK) ha hb
theorem e_div (ha : PE X a (liftO C lk wa)) (hb : PE X b (liftO C lk wb)) : PE X (.BinOp a .FloorDiv b pos) (liftE C lk (wDiv wa wb)) := e_bin op_fdivW op2_div ha hb
theorem e_mod (ha : PE X a (liftO C lk wa)) (hb : PE X b (liftO C lk wb)) : PE X (.BinOp a .Mod b pos) (liftE C lk (wMod wa wb)) := e_bin op_mod op2_mod ha hb
theorem e_pow (ha : PE X a (liftO C lk wa)) (hb : PE X b (liftO C lk wb)) : PE X (.BinOp a .Pow b pos) (liftE C lk (wPow wa wb)) := e_bin op_pow op2_pow ha hb
theorem e_lt (ha : PE X a (liftO C lk wa)) (hb : PE X b (liftO C lk wb)) : PE X (.Compare a [.Lt] [b] pos) (liftE C lk (wLt wa wb)) := e_cmp op_lt op2_lt ha hb (nomark _)
theorem e_le (ha : PE X a (liftO C lk wa)) (hb : PE X b (liftO C lk wb)) : PE X (.Compare a [.LtE] [b] pos) (liftE C lk (wLe wa wb)) := e_cmp op_le op2_le ha hb (nomark _)
theorem e_gt (ha : PE X a (liftO C lk wa)) (hb : PE X b (liftO C lk wb)) : PE X (.Compare a [.Gt] [b] pos) (liftE C lk (wGt wa wb)) := e_cmp op_gt op2_gt ha hb (nomark _)
theorem e_ge (ha : PE X a (liftO C lk wa)) (hb : PE X b (liftO C lk wb)) : PE X (.Compare a [.GtE] [b] pos) (liftE C lk (wGe wa wb)) := e_cmp op_ge op2_ge ha hb (nomark _)
theorem e_eq (hu : X.A.units + 64 < cLine) (eK : X.K = C.K) (ha : PE X a (liftO C lk wa)) (hb : PE X b (liftO C lk wb)) : PE X (.Compare a [.Eq] [b] pos) (liftE C lk (wEq wa wb)) := e_cmp (op_eqD hu) (op2_eq eK) ha hb (nomark _)
theorem e_ne (hu : X.A.units + 64 < cLine) (eK : X.K = C.K) (ha : PE X a (liftO C lk wa)) (hb : PE X b (liftO C lk wb)) : PE X (.Compare a [.NotEq] [b] pos) (liftE C lk (wNe wa wb)) := e_cmp (op_neD hu) (op2_ne eK) ha hb (nomark _)
theorem e_is (ha : PE X a (liftO C lk wa)) (hb : PE X b (liftO C lk wb)) : PE X (.Compare a [.Is] [b] pos) (liftE C lk (wIs wa wb)) := e_cmp op_isN op2_is ha hb (nomark _)
theorem e_isnt (ha : PE X a (liftO C lk wa)) (hb : PE X b (liftO C lk wb)) : PE X (.Compare a [.IsNot] [b] pos) (liftE C lk (wIsnt wa wb)) := e_cmp op_notN op2_isnt ha hb (nomark _)
theorem t_lt (ha : PE X a (liftO C lk wa)) (hb : PE X b (liftO C lk wb)) : PT X (.Compare a [.Lt] [b] pos) (liftB C lk (wT (wLt wa wb))) := t_cmp op_lt op2_lt ha hb (nomark _)
theorem t_le (ha : PE X a (liftO C lk wa)) (hb : PE X b (liftO C lk wb)) : PT X (.Compare a [.LtE] [b] pos) (liftB C lk (wT (wLe wa wb))) := t_cmp op_le op2_le ha hb (nomark _)
theorem t_gt (ha : PE X a (liftO C lk wa)) (hb : PE X b (liftO C lk wb)) : PT X (.Compare a [.Gt] [b] pos) (liftB C lk (wT (wGt wa wb))) := t_cmp op_gt op2_gt ha hb (nomark _)
theorem t_ge (ha : PE X a (liftO C lk wa)) (hb : PE X b (liftO C lk wb)) : PT X (.Compare a [.GtE] [b] pos) (liftB C lk (wT (wGe wa wb))) := t_cmp op_ge op2_ge ha hb (nomark _)
theorem t_eq (hu : X.A.units + 64 < cLine) (eK : X.K = C.K) (ha : PE X a (liftO C lk wa)) (hb : PE X b (liftO C lk wb)) : PT X (.Compare a [.Eq] [b] pos) (liftB C lk (wT (wEq wa wb))) := t_cmp (op_eqD hu) (op2_eq eK) ha hb (nomark _)
theorem t_ne (hu : X.A.units + 64 < cLine) (eK : X.K = C.K) (ha : PE X a (liftO C lk wa)) (hb : PE X b (liftO C lk wb)) : PT X (.Compare a [.NotEq] [b] pos) (liftB C lk (wT (wNe wa wb))) := t_cmp (op_neD hu) (op2_ne eK) ha hb (nomark _)
theorem t_is (ha : PE X a (liftO C lk wa)) (hb : PE X b (liftO C lk wb)) : PT X (.Compare a [.Is] [b] pos) (liftB C lk (wT (wIs wa wb))) := t_cmp op_isN op2_is ha hb (nomark _)
theorem t_isnt (ha : PE X a (liftO C lk wa)) (hb : PE X b (liftO C lk wb)) : PT X (.Compare a [.IsNot] [b] pos) (liftB C lk (wT (wIsnt wa wb))) := t_cmp op_notN op2_isnt ha hb (nomark _)

/-! ### chains -/
theorem chLift {r r' : R2} {f g : D → D → (D → Prop) → Prop} (hf : Op2 C r f) (hg : Op2 C r' g) {σ : L2.St} {H : Hp} {Q : VK} (h : liftE C lk (wChain f g wa wb wc) σ H Q) : tChain r r' (liftO C lk wa) (liftO C lk wb) (liftO C lk wc) σ H Q := by
  obtain ⟨G, ι, env, st, P, Px, hR, hw, hQ, hX⟩ := h
  refine ⟨G, ι, env, st, _, Px, hR, hw, fun r1 e1 s1 G1 ι1 x H1 p1 g1 R1 rep1 => ?_, hX⟩
  refine ⟨G1, ι1, e1, s1, _, Px, R1, p1, fun r2 e2 s2 G2 ι2 y H2 p2 g2 R2 rep2 => ?_, hX.mono g1⟩
  obtain ⟨d1, p2, b1⟩ := R2.bor (rep1.mono g2.sub g2.pre) p2
  obtain ⟨d2, p2, b2⟩ := R2.bor rep2 p2
  refine hf lk G2 ι2 e2 s2 σ H2 x y d1 d2 _ _ R2 b1 b2 p2 fun d G3 v H3 p g3 R3 rep3 => ?_
  cases d with
  | bl k =>
    cases rep3 with
    | bl =>
      refine ⟨k, rfl, ?_⟩
      cases k with
      | false => exact hQ _ e2 s2 G3 ι2 _ H3 p ((g1.trans g2).trans g3) R3 .bl
      | true =>
        refine ⟨G3, ι2, e2, s2, _, Px, R3, p, fun r3 e3 s3 G4 ι4 w' H4 p4 g4 R4 rep4 => ?_, ((hX.mono g1).mono g2).mono g3⟩
        obtain ⟨d2', p4, b2'⟩ := R4.bor (rep2.mono (g3.trans g4).sub (g3.trans g4).pre) p4
        obtain ⟨d3, p4, b3⟩ := R4.bor rep4 p4
        exact hg lk G4 ι4 e3 s3 σ H4 y w' d2' d3 _ Q R4 b2' b3 p4 fun d G5 v H5 p g5 R5 rep5 => hQ d e3 s3 G5 ι4 v H5 p ((((g1.trans g2).trans g3).trans g4).trans g5) R5 rep5
    | obj _ q => cases q
  | _ => exact p.elim
theorem e_leLt (ha : PE X a (liftO C lk wa)) (hb : PE X b (liftO C lk wb)) (hc : PE X c (liftO C lk wc)) (hm : lastMarks [.LtE, .Lt] [b, c] = false := by with_unfolding_all rfl) : PE X (.Compare a [.LtE, .Lt] [b, c] pos) (liftE C lk (wChain leD ltD wa wb wc)) := PEi (pe_chain op_le op_lt ha hb hc hm) fun σ H Q h => chLift op2_le op2_lt h
theorem e_leLe (ha : PE X a (liftO C lk wa)) (hb : PE X b (liftO C lk wb)) (hc : PE X c (liftO C lk wc)) (hm : lastMarks [.LtE, .LtE] [b, c] = false := by with_unfolding_all rfl) : PE X (.Compare a [.LtE, .LtE] [b, c] pos) (liftE C lk (wChain leD leD wa wb wc)) := PEi (pe_chain op_le op_le ha hb hc hm) fun σ H Q h => chLift op2_le op2_le h
theorem e_ltLe (ha : PE X a (liftO C lk wa)) (hb : PE X b (liftO C lk wb)) (hc : PE X c (liftO C lk wc)) (hm : lastMarks [.Lt, .LtE] [b, c] = false := by with_unfolding_all rfl) : PE X (.Compare a [.Lt, .LtE] [b, c] pos) (liftE C lk (wChain ltD leD wa wb wc)) := PEi (pe_chain op_lt op_le ha hb hc hm) fun σ H Q h => chLift op2_lt op2_le h
theorem e_ltLt (ha : PE X a (liftO C lk wa)) (hb : PE X b (liftO C lk wb)) (hc : PE X c (liftO C lk wc)) (hm : lastMarks [.Lt, .Lt] [b, c] = false := by with_unfolding_all rfl) : PE X (.Compare a [.Lt, .Lt] [b, c] pos) (liftE C lk (wChain ltD ltD wa wb wc)) := PEi (pe_chain op_lt op_lt ha hb hc hm) fun σ H Q h => chLift op2_lt op2_lt h
theorem t_leLt (ha : PE X a (liftO C lk wa)) (hb : PE X b (liftO C lk wb)) (hc : PE X c (liftO C lk wc)) (hm : lastMarks [.LtE, .Lt] [b, c] = false := by with_unfolding_all rfl) : PT X (.Compare a [.LtE, .Lt] [b, c] pos) (liftB C lk (wT (wChain leD ltD wa wb wc))) := PTi (pt_chain op_le op_lt ha hb hc hm) fun σ H Q h => tstLift (fun _ _ _ h => chLift op2_le op2_lt h) h
theorem t_leLe (ha : PE X a (liftO C lk wa)) (hb : PE X b (liftO C lk wb)) (hc : PE X c (liftO C lk wc)) (hm : lastMarks [.LtE, .LtE] [b, c] = false := by with_unfolding_all rfl) : PT X (.Compare a [.LtE, .LtE] [b, c] pos) (liftB C lk (wT (wChain leD leD wa wb wc))) := PTi (pt_chain op_le op_le ha hb hc hm) fun σ H Q h => tstLift (fun _ _ _ h => chLift op2_le op2_le h) h
theorem t_ltLe (ha : PE X a (liftO C lk wa)) (hb : PE X b (liftO C lk wb)) (hc : PE X c (liftO C lk wc)) (hm : lastMarks [.Lt, .LtE] [b, c] = false := by with_unfolding_all rfl) : PT X (.Compare a [.Lt, .LtE] [b, c] pos) (liftB C lk (wT (wChain ltD leD wa wb wc))) := PTi (pt_chain op_lt op_le ha hb hc hm) fun σ H Q h => tstLift (fun _ _ _ h => chLift op2_lt op2_le h) h
theorem t_ltLt (ha : PE X a (liftO C lk wa)) (hb : PE X b (liftO C lk wb)) (hc : PE X c (liftO C lk wc)) (hm : lastMarks [.Lt, .Lt] [b, c] = false := by with_unfolding_all rfl) : PT X (.Compare a [.Lt, .Lt] [b, c] pos) (liftB C lk (wT (wChain ltD ltD wa wb wc))) := PTi (pt_chain op_lt op_lt ha hb hc hm) fun σ H Q h => tstLift (fun _ _ _ h => chLift op2_lt op2_lt h) h

/-! ### not, and, or: tests and values -/
def wNot (w : WB) : WB := fun env st Q Qx => w env st (fun b e s => Q (!b) e s) Qx
def wAnd (w u : WB) : WB := fun env st Q Qx => w env st (fun b e s => if b = true then u e s Q Qx else Q false e s) Qx
def wOr (w u : WB) : WB := fun env st Q Qx => w env st (fun b e s => if b = true then Q true e s else u e s Q Qx) Qx
variable {tw tu : WB} {rest : List Expr}
theorem t_not (h : PT X a (liftB C lk tw)) : PT X (.UnaryOp .Not a pos) (liftB C lk (wNot tw)) := PTi (pt_not h) (by
  rintro σ H Q ⟨G, ι, env, st, P, Px, hR, hw, hQ, hX⟩
  exact ⟨G, ι, env, st, _, Px, hR, hw, fun b e s G' ι' H' p g r => hQ _ e s G' ι' H' p g r, hX⟩)
theorem w_and1 (ha : PT X a (liftB C lk tw)) : PW X (.BoolOp .And [a] pos) (liftB C lk tw) := pw_and1 ha
theorem w_or1 (ha : PT X a (liftB C lk tw)) : PW X (.BoolOp .Or [a] pos) (liftB C lk tw) := pw_or1 ha
theorem w_and (ha : PT X a (liftB C lk tw)) (hb : PW X (.BoolOp .And (b :: rest) pos) (liftB C lk tu)) : PW X (.BoolOp .And (a :: b :: rest) pos) (liftB C lk (wAnd tw tu)) := PWi (pw_and ha hb) (by
  rintro σ H Q ⟨G, ι, env, st, P, Px, hR, hw, hQ, hX⟩
  refine ⟨G, ι, env, st, _, Px, hR, hw, fun b e s G' ι' H' p g r => ?_, hX⟩
  cases b with
  | true => exact ⟨G', ι', e, s, _, Px, r, p, fun b' e' s' G2 ι2 H2 p2 g2 r2 => hQ _ e' s' G2 ι2 H2 p2 (g.trans g2) r2, hX.mono g⟩
  | false => exact hQ _ e s G' ι' H' p g r)
theorem w_or (ha : PT X a (liftB C lk tw)) (hb : PW X (.BoolOp .Or (b :: rest) pos) (liftB C lk tu)) : PW X (.BoolOp .Or (a :: b :: rest) pos) (liftB C lk (wOr tw tu)) := PWi (pw_or ha hb) (by
  rintro σ H Q ⟨G, ι, env, st, P, Px, hR, hw, hQ, hX⟩
  refine ⟨G, ι, env, st, _, Px, hR, hw, fun b e s G' ι' H' p g r => ?_, hX⟩
  cases b with
  | false => exact ⟨G', ι', e, s, _, Px, r, p, fun b' e' s' G2 ι2 H2 p2 g2 r2 => hQ _ e' s' G2 ι2 H2 p2 (g.trans g2) r2, hX.mono g⟩
  | true => exact hQ _ e s G' ι' H' p g r)
theorem t_bool (h : PW X a (liftB C lk tw)) : PT X a (liftB C lk tw) := h.pt
variable {va vb : WE}
def wNotV (w : WE) : WE := fun env st Q Qx => w env st (fun d e s => match d with | .bl b => Q (.bl (!b)) e s | _ => False) Qx
def wAndV (w u : WE) : WE := fun env st Q Qx => w env st (fun d e s => match d with | .bl true => u e s Q Qx | .bl false => Q (.bl false) e s | _ => False) Qx
def wOrV (w u : WE) : WE := fun env st Q Qx => w env st (fun d e s => match d with | .bl true => Q (.bl true) e s | .bl false => u e s Q Qx | _ => False) Qx
theorem e_not (h : PE X a (liftE C lk va)) : PE X (.UnaryOp .Not a pos) (liftE C lk (wNotV va)) := PEi (pe_not h) (by
  rintro σ H Q ⟨G, ι, env, st, P, Px, hR, hw, hQ, hX⟩
  refine ⟨G, ι, env, st, _, Px, hR, hw, fun d e s G' ι' v H' p g r rp => ?_, hX⟩
  cases d with
  | bl b =>
    cases rp with
    | bl => exact ⟨b, rfl, hQ _ e s G' ι' _ H' p g r .bl⟩
    | obj _ q => cases q
  | _ => exact p.elim)
theorem e_one {op : BoolOp} (h : PE X a (liftE C lk va)) : PE X (.BoolOp op [a] pos) (liftE C lk va) := pe_one h
theorem e_and (ha : PE X a (liftE C lk va)) (hb : PE X (.BoolOp .And (b :: rest) pos) (liftE C lk vb)) : PE X (.BoolOp .And (a :: b :: rest) pos) (liftE C lk (wAndV va vb)) := PEi (pe_and ha hb) (by
  rintro σ H Q ⟨G, ι, env, st, P, Px, hR, hw, hQ, hX⟩
  refine ⟨G, ι, env, st, _, Px, hR, hw, fun d e s G' ι' v H' p g r rp => ?_, hX⟩
  cases d with
  | bl b =>
    cases rp with
    | bl =>
      refine ⟨b, rfl, ?_⟩
      cases b with
      | true => exact ⟨G', ι', e, s, _, Px, r, p, fun b' e' s' G2 ι2 v2 H2 p2 g2 r2 => hQ _ e' s' G2 ι2 v2 H2 p2 (g.trans g2) r2, hX.mono g⟩
      | false => exact hQ _ e s G' ι' _ H' p g r .bl
    | obj _ q => cases q
  | _ => exact p.elim)
theorem e_or (ha : PE X a (liftE C lk va)) (hb : PE X (.BoolOp .Or (b :: rest) pos) (liftE C lk vb)) : PE X (.BoolOp .Or (a :: b :: rest) pos) (liftE C lk (wOrV va vb)) := PEi (pe_or ha hb) (by
  rintro σ H Q ⟨G, ι, env, st, P, Px, hR, hw, hQ, hX⟩
  refine ⟨G, ι, env, st, _, Px, hR, hw, fun d e s G' ι' v H' p g r rp => ?_, hX⟩
  cases d with
  | bl b =>
    cases rp with
    | bl =>
      refine ⟨b, rfl, ?_⟩
      cases b with
      | false => exact ⟨G', ι', e, s, _, Px, r, p, fun b' e' s' G2 ι2 v2 H2 p2 g2 r2 => hQ _ e' s' G2 ι2 v2 H2 p2 (g.trans g2) r2, hX.mono g⟩
      | true => exact hQ _ e s G' ι' _ H' p g r .bl
    | obj _ q => cases q
  | _ => exact p.elim)
def wIf (t : WB) (w u : WE) : WE := fun env st Q Qx => t env st (fun b e s => if b = true then w e s Q Qx else u e s Q Qx) Qx
theorem e_if (hc : PT X c (liftB C lk tw)) (ha : PE X a (liftE C lk va)) (hb : PE X b (liftE C lk vb)) : PE X (.IfExp c a b pos) (liftE C lk (wIf tw va vb)) := PEi (pe_ifExp hc ha hb) (by
  rintro σ H Q ⟨G, ι, env, st, P, Px, hR, hw, hQ, hX⟩
  refine ⟨G, ι, env, st, _, Px, hR, hw, fun b e s G' ι' H' p g r => ?_, hX⟩
  cases b with
  | true => exact ⟨G', ι', e, s, _, Px, r, p, fun d e' s' G2 ι2 v H2 p2 g2 r2 rp => hQ _ e' s' G2 ι2 v H2 p2 (g.trans g2) r2 rp, hX.mono g⟩
  | false => exact ⟨G', ι', e, s, _, Px, r, p, fun d e' s' G2 ι2 v H2 p2 g2 r2 rp => hQ _ e' s' G2 ι2 v H2 p2 (g.trans g2) r2 rp, hX.mono g⟩)
def wNeg (w : WE) : WE := fun env st Q Qx => w env st (fun d e s => match d with | .int i => Q (.int (-i)) e s | _ => False) Qx
theorem e_neg (h : PE X a (liftE C lk va)) : PE X (.UnaryOp .USub a pos) (liftE C lk (wNeg va)) := PEi (pe_un un_neg h) (by
  rintro σ H Q ⟨G, ι, env, st, P, Px, hR, hw, hQ, hX⟩
  refine ⟨G, ι, env, st, _, Px, hR, hw, fun d e s G' ι' v H' p g r rp => ?_, hX⟩
  cases d with
  | int i =>
    cases rp with
    | int => exact ⟨i, rfl, hQ _ e s G' ι' _ H' p g r .int⟩
    | obj _ q => cases q
  | _ => exact p.elim)

/-! ### arguments, displays -/
def wNil : WA := fun env st Q _ => Q [] env st
def wCons (w : WE) (u : WA) : WA := fun env st Q Qx => w env st (fun d e s => u e s (fun ds e' s' => Q (d :: ds) e' s') Qx) Qx
variable {es : List Expr} {wr : WA} {na : Nat}
theorem a_nil : PA X [] (liftA C lk 0 wNil) := PAi pa_nil (by
  rintro σ H Q ⟨G, ι, env, st, P, Px, hR, hw, hQ, hX⟩
  exact hQ [] env st G ι [] H hw rfl .refl hR .nil)
theorem a_cons (ha : PE X a (liftE C lk va)) (hr : PA X es (liftA C lk na wr)) (hs : starEach (a :: es) X.env = (false, eval a X.env) :: starEach es X.env := by rfl) : PA X (a :: es) (liftA C lk (na + 1) (wCons va wr)) := PAi (pa_cons ha hr hs) (by
  rintro σ H Q ⟨G, ι, env, st, P, Px, hR, hw, hQ, hX⟩
  refine ⟨G, ι, env, st, _, Px, hR, hw, fun d e s G' ι' v H' p g r rp => ?_, hX⟩
  exact ⟨G', ι', e, s, _, Px, r, p, fun ds e' s' G2 ι2 vs H2 p2 hn g2 r2 rps => hQ _ e' s' G2 ι2 _ H2 p2 (by rw [List.length_cons, hn]) (g.trans g2) r2 (.cons (rp.grow g2) rps), hX.mono g⟩)
def wTup (w : WA) : WE := fun env st Q Qx => w env st (fun ds e s => ds.length ≤ 16777216 ∧ Q (.tup ds) e s) Qx
def wLst (w : WA) : WE := fun env st Q Qx => w env st (fun ds e s => ds.length ≤ 16777216 ∧ Q (.lst ds) e s) Qx
theorem e_tup {k : Nat} (h : PA X es (liftA C lk na wr)) : PE X (.Tuple es k pos) (liftE C lk (wTup wr)) := PEi (pe_tup h) (by
  rintro σ H Q ⟨G, ι, env, st, P, Px, hR, hw, hQ, hX⟩
  refine ⟨G, ι, env, st, _, Px, hR, hw, fun ds e s G' ι' vs H' p _ g r rp => ⟨by rw [sizeLine_eq, rp.len]; exact p.1, fun q hq => ?_⟩, hX⟩
  obtain ⟨r2, g2⟩ := r.newSh (o := .tup vs) hq
  exact hQ _ e s _ ι' _ _ p.2 (g.trans g2) r2 (.obj upd_same (.tup (rp.grow g2))))
theorem f_lst (h : PA X es (liftA C lk na wr)) : PE X (.List es pos) (liftF C lk (wLst wr)) := PEi (pe_lst h) (by
  rintro σ H Q ⟨G, ι, env, st, P, Px, hR, hw, hQ, hX⟩
  refine ⟨G, ι, env, st, _, Px, hR, hw, fun ds e s G' ι' vs H' p _ g r rp => ⟨by rw [sizeLine_eq, rp.len]; exact p.1, fun q hq => ?_⟩, hX⟩
  obtain ⟨r2, o, n⟩ := newFresh (d := .lst ds) r hq (.lst rp) True.intro
  exact hQ _ e s _ ι' _ _ p.2 g r2 o n)
end
end VL

/-! The value layer: dicts as data, subscripts, slices. -/
namespace VL
open PySem PySem.Spec PyProof.Rows L2

/-! ### dicts as data -/
section
variable {κ : Type} [DecidableEq κ]
def lk {κ : Type} [DecidableEq κ] (kvs : List (κ × D)) (k : κ) : Option D := (kvs.find? fun kv => decide (kv.1 = k)).map (·.2)
def put {κ : Type} [DecidableEq κ] (kvs : List (κ × D)) (k : κ) (v : D) : List (κ × D) :=
  if (kvs.any fun kv => decide (kv.1 = k)) = true then kvs.map (fun kv => if kv.1 = k then (kv.1, v) else kv) else kvs ++ [(k, v)]
theorem lk_nil {k : κ} : lk ([] : List (κ × D)) k = none := rfl
theorem lk_cons {p : κ × D} {r : List (κ × D)} {k : κ} : lk (p :: r) k = if p.1 = k then some p.2 else lk r k := by
  unfold lk
  rw [List.find?_cons]
  by_cases e : p.1 = k
  · simp [e]
  · simp [e]
theorem lk_any (k : κ) : ∀ kvs : List (κ × D), (kvs.any fun kv => decide (kv.1 = k)) = (lk kvs k).isSome
  | [] => rfl
  | p :: r => by
    rw [List.any_cons, lk_any k r, lk_cons]
    by_cases e : p.1 = k
    · simp [e]
    · simp [e]
theorem lk_map (k j : κ) (y : D) : ∀ kvs : List (κ × D), lk (kvs.map fun kv => if kv.1 = k then (kv.1, y) else kv) j = (lk kvs j).map fun x => if j = k then y else x
  | [] => rfl
  | p :: r => by
    rw [List.map_cons, lk_cons, lk_cons, lk_map k j y r]
    by_cases e : p.1 = k
    · rw [if_pos e]
      by_cases e2 : p.1 = j
      · have : j = k := e2.symm.trans e
        simp [e2, this]
      · simp [e2]
    · rw [if_neg e]
      by_cases e2 : p.1 = j
      · have : j ≠ k := fun z => e (e2.trans z)
        simp [e2, this]
      · simp [e2]
theorem lk_snoc (k j : κ) (y : D) : ∀ kvs : List (κ × D), lk kvs k = none → lk (kvs ++ [(k, y)]) j = if j = k then some y else lk kvs j
  | [], _ => by
    rw [List.nil_append, lk_cons, lk_nil]
    by_cases e : k = j
    · rw [if_pos e, if_pos e.symm]
    · rw [if_neg e, if_neg (fun z => e z.symm)]
  | p :: r, h => by
    rw [lk_cons] at h
    by_cases e : p.1 = k
    · rw [if_pos e] at h; cases h
    · rw [if_neg e] at h
      rw [List.cons_append, lk_cons, lk_cons, lk_snoc k j y r h]
      by_cases e2 : p.1 = j
      · have : j ≠ k := fun z => e (e2.trans z)
        rw [if_pos e2, if_pos e2, if_neg this]
      · rw [if_neg e2, if_neg e2]
theorem lk_put (kvs : List (κ × D)) (k j : κ) (y : D) : lk (put kvs k y) j = if j = k then some y else lk kvs j := by
  unfold put
  by_cases a : (kvs.any fun kv => decide (kv.1 = k)) = true
  · rw [if_pos a, lk_map]
    rw [lk_any] at a
    by_cases e : j = k
    · obtain ⟨x, hx⟩ := Option.isSome_iff_exists.mp a
      rw [if_pos e, e, hx, Option.map_some, if_pos rfl]
    · rw [if_neg e]
      cases lk kvs j with
      | none => rfl
      | some x => rw [Option.map_some, if_neg e]
  · rw [if_neg a]
    have h : lk kvs k = none := by
      rw [lk_any] at a
      cases q : lk kvs k with
      | none => rfl
      | some x => rw [q] at a; exact absurd rfl a
    exact lk_snoc k j y kvs h
theorem put_len (kvs : List (κ × D)) (k : κ) (v : D) : (put kvs k v).length ≤ kvs.length + 1 := by
  unfold put
  split <;> simp
end
section
variable {K : KC} {G : Hp} {ι : List Addr}
def RelOD (K : KC) (G : Hp) (ι : List Addr) : Option V → Option D → Prop
  | some v, some d => Rep K G ι v d
  | none, none => True
  | _, _ => False
theorem RepI.lk {k : Int} : ∀ {xs : List (Key × V)} {ds : List (Int × D)}, RepI K G ι xs ds → RelOD K G ι (valV xs (.inl k)) (VL.lk ds k)
  | _, _, .nil => True.intro
  | _, _, .cons (k := j) h t => by
    have ih := RepI.lk (k := k) t
    rw [lk_cons]
    by_cases e : j = k
    · rw [valV_pos (by rw [e]), if_pos e]; exact h
    · rw [valV_neg (fun z => e (Sum.inl.inj z)), if_neg e]; exact ih
theorem inl_inj : ∀ {a b : List Int}, a.map (Sum.inl : Int → Key) = b.map .inl → a = b
  | [], [], _ => rfl
  | [], _ :: _, h => by cases h
  | _ :: _, [], h => by cases h
  | x :: a, y :: b, h => by
    rw [List.map_cons, List.map_cons] at h
    injection h with h1 h2
    rw [Sum.inl.inj h1, inl_inj h2]
theorem RepT.lk {k : List Int} : ∀ {xs : List (List Key × V)} {ds : List (List Int × D)}, RepT K G ι xs ds → RelOD K G ι (valV xs (k.map .inl)) (VL.lk ds k)
  | _, _, .nil => True.intro
  | _, _, .cons (k := j) h t => by
    have ih := RepT.lk (k := k) t
    rw [lk_cons]
    by_cases e : j = k
    · rw [valV_pos (by rw [e]), if_pos e]; exact h
    · rw [valV_neg (fun z => e (inl_inj z)), if_neg e]; exact ih
theorem RelOD.isSome {o : Option V} {u : Option D} (r : RelOD K G ι o u) : o.isSome = u.isSome := by
  cases o <;> cases u <;> first | rfl | exact r.elim
theorem RepI.put {k : Int} {v : V} {d : D} {xs : List (Key × V)} {ds : List (Int × D)} (h : RepI K G ι xs ds) (r : Rep K G ι v d) : RepI K G ι (putK xs (.inl k) v) (VL.put ds k d) := by
  have e : (xs.any fun kv => decide (kv.1 = .inl k)) = (ds.any fun kv => decide (kv.1 = k)) := by rw [valV_any, lk_any, (h.lk (k := k)).isSome]
  unfold putK VL.put
  rw [e]
  by_cases c : (ds.any fun kv => decide (kv.1 = k)) = true
  · rw [if_pos c, if_pos c]
    have go : ∀ {xs : List (Key × V)} {ds : List (Int × D)}, RepI K G ι xs ds → RepI K G ι (xs.map fun kv => if kv.1 = .inl k then (kv.1, v) else kv) (ds.map fun kv => if kv.1 = k then (kv.1, d) else kv) := by
      intro xs ds h
      induction xs generalizing ds with
      | nil => cases h; exact .nil
      | cons x xs ih =>
        cases h with
        | @cons j _ _ _ _ h t =>
          rw [List.map_cons, List.map_cons]
          by_cases e : j = k
          · rw [if_pos (by rw [e]), if_pos e]; exact .cons r (ih t)
          · rw [if_neg (fun z => e (Sum.inl.inj z)), if_neg e]; exact .cons h (ih t)
    exact go h
  · rw [if_neg c, if_neg c]
    have go : ∀ {xs : List (Key × V)} {ds : List (Int × D)}, RepI K G ι xs ds → RepI K G ι (xs ++ [(.inl k, v)]) (ds ++ [(k, d)]) := by
      intro xs ds h
      induction xs generalizing ds with
      | nil => cases h; exact .cons r .nil
      | cons x xs ih =>
        cases h with
        | cons h t => exact .cons h (ih t)
    exact go h
theorem RepT.put {k : List Int} {v : V} {d : D} {xs : List (List Key × V)} {ds : List (List Int × D)} (h : RepT K G ι xs ds) (r : Rep K G ι v d) : RepT K G ι (putK xs (k.map .inl) v) (VL.put ds k d) := by
  have e : (xs.any fun kv => decide (kv.1 = k.map .inl)) = (ds.any fun kv => decide (kv.1 = k)) := by rw [valV_any, lk_any, (h.lk (k := k)).isSome]
  unfold putK VL.put
  rw [e]
  by_cases c : (ds.any fun kv => decide (kv.1 = k)) = true
  · rw [if_pos c, if_pos c]
    have go : ∀ {xs : List (List Key × V)} {ds : List (List Int × D)}, RepT K G ι xs ds → RepT K G ι (xs.map fun kv => if kv.1 = k.map .inl then (kv.1, v) else kv) (ds.map fun kv => if kv.1 = k then (kv.1, d) else kv) := by
      intro xs ds h
      induction xs generalizing ds with
      | nil => cases h; exact .nil
      | cons x xs ih =>
        cases h with
        | @cons j _ _ _ _ h t =>
          rw [List.map_cons, List.map_cons]
          by_cases e : j = k
          · rw [if_pos (by rw [e]), if_pos e]; exact .cons r (ih t)
          · rw [if_neg (fun z => e (inl_inj z)), if_neg e]; exact .cons h (ih t)
    exact go h
  · rw [if_neg c, if_neg c]
    have go : ∀ {xs : List (List Key × V)} {ds : List (List Int × D)}, RepT K G ι xs ds → RepT K G ι (xs ++ [(k.map .inl, v)]) (ds ++ [(k, d)]) := by
      intro xs ds h
      induction xs generalizing ds with
      | nil => cases h; exact .cons r .nil
      | cons x xs ih =>
        cases h with
        | cons h t => exact .cons h (ih t)
    exact go h
theorem RepI.len : ∀ {xs : List (Key × V)} {ds : List (Int × D)}, RepI K G ι xs ds → xs.length = ds.length
  | _, _, .nil => rfl
  | _, _, .cons _ t => by rw [List.length_cons, List.length_cons, RepI.len t]
theorem RepT.len : ∀ {xs : List (List Key × V)} {ds : List (List Int × D)}, RepT K G ι xs ds → xs.length = ds.length
  | _, _, .nil => rfl
  | _, _, .cons _ t => by rw [List.length_cons, List.length_cons, RepT.len t]
end
/-- the ints of a tuple that is a key -/
def keyInts : List D → Option (List Int)
  | [] => some []
  | .int i :: r => (keyInts r).map (i :: ·)
  | _ :: _ => none
theorem keyInts_eq : ∀ {ds : List D} {ks : List Int}, keyInts ds = some ks → ds = ks.map D.int
  | [], _, h => by cases h; rfl
  | d :: r, ks, h => by
    cases d with
    | int i =>
      unfold keyInts at h
      cases e : keyInts r with
      | none => rw [e] at h; cases h
      | some l =>
        rw [e] at h
        cases h
        rw [keyInts_eq e]; rfl
    | _ => cases h
theorem keyInts_map : ∀ ks : List Int, keyInts (ks.map D.int) = some ks
  | [] => rfl
  | k :: ks => by
    show (keyInts (ks.map D.int)).map (k :: ·) = _
    rw [keyInts_map ks]; rfl

/-! ### what a dict gives -/
/-- d's value at the key e -/
def dGet : D → D → (Option D → Prop) → Prop
  | .dI kvs, .int k, P => P (lk kvs k)
  | .dT kvs, .tup ks, P => match keyInts ks with
    | some l => P (lk kvs l)
    | none => False
  | _, _, _ => False
theorem dGet_tup {ds : List D} {k : D} {P : Option D → Prop} (h : dGet (.tup ds) k P) : False := by
  cases k <;> exact h
section
variable {X : Cx} {C : Ctx} {lk' : Lks} {pos : Pos}
theorem dGet_ok {G : Hp} {ι : List Addr} {env : EnvD} {st : Sto} {σ : L2.St} {H : Hp} {x y : V} {d e : D} {P : Option D → Prop} (hR : R C lk' G ι env st σ H) (b1 : Bor C.K G ι H x d) (b2 : Bor C.K G ι H y e) (h : dGet d e P) :
    ∃ a o u, x = .ref a ∧ DGet H a y o ∧ RelOD C.K G ι o u ∧ P u := by
  unfold dGet at h
  split at h
  · obtain ⟨a, xs, rfl, hd, r⟩ := b1.dI hR
    rw [b2.int]
    exact ⟨a, _, _, rfl, .inl ⟨xs, _, hd, rfl, rfl⟩, r.lk, h⟩
  · rename_i kvs ks P
    split at h
    · rename_i l hl
      obtain ⟨a, xs, rfl, hd, r⟩ := b1.dT hR
      obtain ⟨b, ys, rfl, hb, rb⟩ := b2.tup hR
      rw [keyInts_eq hl] at rb
      have ey : ys = (l.map (Sum.inl : Int → Key)).map kV := by
        rw [rb.ints, List.map_map]; rfl
      rw [ey] at hb
      exact ⟨a, _, _, rfl, .inr ⟨xs, _, b, hd, rfl, hb, rfl⟩, r.lk, h⟩
    · exact h.elim
  · exact h.elim

/-! ### subscripts -/
def atS (st : Sto) (n : Nat) : Option (List D) := match st[n]? with
  | some (.dat (.lst xs)) => some xs
  | _ => none
def ixD (st : Sto) : D → D → (D → Prop) → Prop
  | .lst xs, .int i, P => match atI xs i with
    | some d => P d
    | none => False
  | .tup xs, .int i, P => match atI xs i with
    | some d => P d
    | none => False
  | .str s, .int i, P => s.length ≤ 16777216 ∧ match atI s.cps.toList i with
    | some c => P (.str ⟨#[c]⟩)
    | none => False
  | .hnd n, .int i, P => match st[n]? with
    | some (.dat (.lst xs)) => (match atI xs i with
      | some d => P d
      | none => False)
    | _ => False
  | d, e, P => dGet d e fun o => match o with
    | some v => P v
    | none => False
theorem ix_dict (hu : X.A.units + 1 < cLine) : IxR X (fun x y H Q => ∃ a v, x = .ref a ∧ DGet H a y (some v) ∧ Q v H) := by
  intro value slice pins s σ H x y v u Q I rx ry h hs
  obtain ⟨a, z, rfl, g, q⟩ := h
  obtain rfl : v = Value.ref a := rx
  have hT := dict_typeIs I g
  unfold subscriptTail
  refine wpAny_bind ?_
  rw [getitemInPython_of_ne hT.not_modules]
  refine wpAny_bind (wpAny_specialOf hT PySem.F.slot_dict_getitem.lookup ?_)
  have fin : wpAny (model X.prog X.w) X.A (subscripted slice false (.ref a) u) (fun r s₃ => wpAny (model X.prog X.w) X.A (letTemporaryGo value (.ref a) r >>= fun _ => pure r) (EP X pins σ Q) X.xe s₃) X.xe s := by
    rw [hs]
    exact wpAny_operating (d_getItem hu I g ry fun w' s3 I3 rw' => wpAny_bind (wpAny_letTemporaryGo (wpAny_pure ⟨z, H, I3, rw', q⟩)))
  first
    | exact wpAny_pure (wpAny_bind fin)
    | exact wpAny_bind (wpAny_pure (wpAny_bind fin))
    | exact wpAny_bind fin
theorem atI_reps {K : KC} {G : Hp} {ι : List Addr} {xs : List V} {ds : List D} {i : Int} {d : D} (r : Reps K G ι xs ds) (h : atI ds i = some d) : ∃ v, atI xs i = some v ∧ Rep K G ι v d := by
  unfold atI at h ⊢
  rw [r.len]
  cases e : ixN ds.length i with
  | none => rw [e] at h; cases h
  | some j =>
    rw [e] at h
    obtain ⟨x, h1, h2⟩ := r.get (show ds[j]? = some d from h)
    exact ⟨x, h1, h2⟩
def rIxA (K : PySem.W.Frag) : R2 := fun x y H Q => rIx K x y H Q ∨ ∃ a v, x = .ref a ∧ DGet H a y (some v) ∧ Q v H
variable {a b : Expr} {wa wb : WO}
def wIx (wa wb : WO) : WE := fun env st Q Qx => wa env st (fun r1 e1 s1 => wb e1 s1 (fun r2 e2 s2 => r1.get e2 fun d1 => r2.get e2 fun d2 => ixD s2 d1 d2 fun d => Q d e2 s2) Qx) Qx
theorem e_ix (hu : X.A.units + 1 < cLine) (eK : X.K = C.K) (ha : PE X a (liftO C lk' wa)) (hb : PE X b (liftO C lk' wb)) (hs : PlainIx b := by intro _ _; rfl) : PE X (.Subscript a b pos) (liftE C lk' (wIx wa wb)) :=
  PEi (pe_ix (ix_seq.or (ix_dict hu)) ha hb hs) (by
  rintro σ H Q ⟨G, ι, env, st, P, Px, hR, hw, hQ, hX⟩
  refine ⟨G, ι, env, st, _, Px, hR, hw, fun r1 e1 s1 G1 ι1 x H1 p1 g1 R1 rep1 => ?_, hX⟩
  refine ⟨G1, ι1, e1, s1, _, Px, R1, p1, fun r2 e2 s2 G2 ι2 y H2 p2 g2 R2 rep2 => ?_, hX.mono g1⟩
  obtain ⟨d1, p2, b1⟩ := R2.bor (rep1.mono g2.sub g2.pre) p2
  obtain ⟨d2, p2, b2⟩ := R2.bor rep2 p2
  have fin : ∀ {d : D} {v : V}, P d e2 s2 → Rep C.K G2 ι2 v d → Q v H2 := fun {d v} p r => hQ d e2 s2 G2 ι2 v H2 p (g1.trans g2) R2 r
  unfold ixD at p2
  split at p2
  · split at p2
    · rename_i d e
      obtain ⟨l, xs, rfl, h1, q1⟩ := b1.lst R2
      rw [b2.int]
      obtain ⟨v, q2, q3⟩ := atI_reps q1 e
      exact .inl (.inl ⟨l, xs, _, v, rfl, rfl, .of h1, q2, fin p2 q3⟩)
    · exact p2.elim
  · split at p2
    · rename_i d e
      obtain ⟨l, xs, rfl, h1, q1⟩ := b1.tup R2
      rw [b2.int]
      obtain ⟨v, q2, q3⟩ := atI_reps q1 e
      exact .inl (.inr (.inl ⟨l, xs, _, v, rfl, rfl, .of h1, q2, fin p2 q3⟩))
    · exact p2.elim
  · obtain ⟨p3, p2⟩ := p2
    split at p2
    · rename_i c e
      rw [b1.str, b2.int]
      exact .inl (.inr (.inr ⟨_, _, c, rfl, rfl, by rw [sizeLine_eq]; exact p3, e, fin p2 .str⟩))
    · exact p2.elim
  · split at p2
    · rename_i xs es
      split at p2
      · rename_i d e
        obtain ⟨l, rfl, hl⟩ := b1.hnd
        rw [b2.int]
        obtain ⟨o, h1, h2⟩ := R2.sto _ _ _ hl es
        cases h2 with
        | dat h2 m =>
          cases h2 with
          | lst q1 =>
            obtain ⟨v, q2, q3⟩ := atI_reps q1 e
            exact .inl (.inl ⟨l, _, _, v, rfl, rfl, .of h1, q2, fin p2 q3⟩)
      · exact p2.elim
    · exact p2.elim
  · obtain ⟨l, o, u, rfl, g, ro, p3⟩ := dGet_ok R2 b1 b2 p2
    cases u with
    | none => exact p3.elim
    | some d =>
      cases o with
      | none => exact ro.elim
      | some v => exact .inr ⟨l, v, rfl, g, fin p3 ro⟩)
/-! ### in -/
def inD (d e : D) (P : D → Prop) : Prop := match d, e with
  | .str c, .str s => c.cps.size = 1 ∧ P (.bl (decide (c.cps.getD 0 0 ∈ s.cps.toList)))
  | d, e => dGet e d fun o => P (.bl o.isSome)
def ninD (d e : D) (P : D → Prop) : Prop := match d, e with
  | .str c, .str s => c.cps.size = 1 ∧ P (.bl (!decide (c.cps.getD 0 0 ∈ s.cps.toList)))
  | d, e => dGet e d fun o => P (.bl (!o.isSome))
theorem op_dIn (hu : X.A.units + 1 < cLine) : OpR X (compareOp .In) (fun y x H Q => ∃ a o, x = .ref a ∧ DGet H a y o ∧ Q (.bl o.isSome) H) := by
  intro pins s σ H y x iv u Q I ry rx h
  obtain ⟨a, o, rfl, g, q⟩ := h
  obtain rfl : u = Value.ref a := rx
  exact d_in hu I g ry fun s3 I3 => ⟨.bl o.isSome, H, I3, rfl, q⟩
theorem op_dNotIn (hu : X.A.units + 1 < cLine) : OpR X (compareOp .NotIn) (fun y x H Q => ∃ a o, x = .ref a ∧ DGet H a y o ∧ Q (.bl (!o.isSome)) H) := by
  intro pins s σ H y x iv u Q I ry rx h
  obtain ⟨a, o, rfl, g, q⟩ := h
  obtain rfl : u = Value.ref a := rx
  exact d_notIn hu I g ry fun s3 I3 => ⟨.bl (!o.isSome), H, I3, rfl, q⟩
theorem one_sign {c : Str} (h : c.cps.size = 1) : c = ⟨#[c.cps.getD 0 0]⟩ := by
  obtain ⟨⟨l⟩⟩ := c
  cases l with
  | nil => cases h
  | cons x r =>
    cases r with
    | nil => rfl
    | cons _ _ => simp at h
theorem op2_in : Op2 C (fun x y H Q => (∃ c z, x = .str ⟨#[c]⟩ ∧ y = .str z ∧ Q (.bl (decide (c ∈ z.cps.toList))) H) ∨ ∃ a o, y = .ref a ∧ DGet H a x o ∧ Q (.bl o.isSome) H) inD := by
  intro lk' G ι env st σ H x y d1 d2 P Q hR b1 b2 hf k
  unfold inD at hf
  split at hf
  · rw [b1.str, b2.str]
    refine .inl ⟨_, _, by rw [← one_sign hf.1], rfl, k _ G _ H hf.2 .refl hR .bl⟩
  · obtain ⟨a, o, u, rfl, g, ro, p⟩ := dGet_ok hR b2 b1 hf
    exact .inr ⟨a, o, rfl, g, by rw [ro.isSome]; exact k _ G _ H p .refl hR .bl⟩
theorem op2_nin : Op2 C (fun x y H Q => (∃ c z, x = .str ⟨#[c]⟩ ∧ y = .str z ∧ Q (.bl (!decide (c ∈ z.cps.toList))) H) ∨ ∃ a o, y = .ref a ∧ DGet H a x o ∧ Q (.bl (!o.isSome)) H) ninD := by
  intro lk' G ι env st σ H x y d1 d2 P Q hR b1 b2 hf k
  unfold ninD at hf
  split at hf
  · rw [b1.str, b2.str]
    refine .inl ⟨_, _, by rw [← one_sign hf.1], rfl, k _ G _ H hf.2 .refl hR .bl⟩
  · obtain ⟨a, o, u, rfl, g, ro, p⟩ := dGet_ok hR b2 b1 hf
    exact .inr ⟨a, o, rfl, g, by rw [ro.isSome]; exact k _ G _ H p .refl hR .bl⟩
abbrev wIn := wBin inD
abbrev wNin := wBin ninD
theorem e_in (hu : X.A.units + 1 < cLine) (ha : PE X a (liftO C lk' wa)) (hb : PE X b (liftO C lk' wb)) (hm : behindInMarks .In b = false := by rfl) : PE X (.Compare a [.In] [b] pos) (liftE C lk' (wIn wa wb)) := e_cmp (op_in_sign.or (op_dIn hu)) op2_in ha hb hm
theorem e_nin (hu : X.A.units + 1 < cLine) (ha : PE X a (liftO C lk' wa)) (hb : PE X b (liftO C lk' wb)) (hm : behindInMarks .NotIn b = false := by rfl) : PE X (.Compare a [.NotIn] [b] pos) (liftE C lk' (wNin wa wb)) := e_cmp (op_notIn_sign.or (op_dNotIn hu)) op2_nin ha hb hm
theorem t_in (hu : X.A.units + 1 < cLine) (ha : PE X a (liftO C lk' wa)) (hb : PE X b (liftO C lk' wb)) (hm : behindInMarks .In b = false := by rfl) : PT X (.Compare a [.In] [b] pos) (liftB C lk' (wT (wIn wa wb))) := t_cmp (op_in_sign.or (op_dIn hu)) op2_in ha hb hm
theorem t_nin (hu : X.A.units + 1 < cLine) (ha : PE X a (liftO C lk' wa)) (hb : PE X b (liftO C lk' wb)) (hm : behindInMarks .NotIn b = false := by rfl) : PT X (.Compare a [.NotIn] [b] pos) (liftB C lk' (wT (wNin wa wb))) := t_cmp (op_notIn_sign.or (op_dNotIn hu)) op2_nin ha hb hm

/-! ### slices -/
abbrev WSl := EnvD → Sto → (Option Int → EnvD → Sto → Prop) → KX → Prop
def liftSl (C : Ctx) (lk : Lks) (w : WSl) : TO := fun σ H Q => ∃ G ι env st P Px, R C lk G ι env st σ H ∧ w env st P Px ∧
  (∀ b env' st' G' ι' H', P b env' st' → Grow C G ι G' ι' → R C lk G' ι' env' st' σ H' → Q b H') ∧ XOk C lk G ι Px
def wNo : WSl := fun env st Q _ => Q none env st
def wSome (w : WE) : WSl := fun env st Q Qx => w env st (fun d e s => match d with | .int i => Q (some i) e s | _ => False) Qx
theorem POi {X : Cx} {e : Option Expr} {t t' : TO} (h : PO X e t) (i : ∀ σ H Q, t' σ H Q → t σ H Q) : PO X e t' := ⟨fun pins s σ H Q I q => h.run pins s σ H Q I (i σ H Q q)⟩
theorem sl_no : PO X none (liftSl C lk' wNo) := POi po_none (by
  rintro σ H Q ⟨G, ι, env, st, P, Px, hR, hw, hQ, hX⟩
  exact hQ none env st G ι H hw .refl hR)
theorem sl_some {w : WE} (h : PE X a (liftE C lk' w)) : PO X (some a) (liftSl C lk' (wSome w)) := POi (po_some h) (by
  rintro σ H Q ⟨G, ι, env, st, P, Px, hR, hw, hQ, hX⟩
  refine ⟨G, ι, env, st, _, Px, hR, hw, fun d e s G' ι' v H' p g r rp => ?_, hX⟩
  cases d with
  | int i =>
    cases rp with
    | int => exact ⟨i, rfl, hQ _ e s G' ι' H' p g r⟩
    | obj _ q => cases q
  | _ => exact p.elim)
def cutD (xs : List D) (lo hi : Option Int) : List D := (xs.drop (HT.sIx xs.length 0 lo)).take (HT.sIx xs.length xs.length hi - HT.sIx xs.length 0 lo)
def slcD : D → Option Int → Option Int → (D → Prop) → Prop
  | .lst xs, lo, hi, P => P (.lst (cutD xs lo hi))
  | .scr ns, lo, hi, P => P (.lst (cutD (ns.map .int) lo hi))
  | _, _, _, _ => False
theorem Reps.cut {K : KC} {G : Hp} {ι : List Addr} {xs : List V} {ds : List D} (h : Reps K G ι xs ds) (lo hi : Option Int) : Reps K G ι (cutV xs lo hi) (cutD ds lo hi) := by
  unfold cutV cutD
  rw [h.len]
  exact (h.drop _).take _
variable {lo hi : Option Expr} {wl wh : WSl} {p2 : Pos}
/-- xs[a:b] of a list -/
def wSlc (wa : WO) (wl wh : WSl) : WE := fun env st Q Qx => wa env st (fun r1 e1 s1 => wl e1 s1 (fun l e2 s2 => wh e2 s2 (fun h e3 s3 => r1.get e3 fun d => slcD d l h fun d => Q d e3 s3) Qx) Qx) Qx
theorem f_slc (eK : X.K = C.K) (ha : PE X a (liftO C lk' wa)) (hl : PO X lo (liftSl C lk' wl)) (hh : PO X hi (liftSl C lk' wh)) : PE X (.Subscript a (.Slice lo hi none p2) pos) (liftF C lk' (wSlc wa wl wh)) := PEi (pe_slice sl_list ha hl hh) (by
  rintro σ H Q ⟨G, ι, env, st, P, Px, hR, hw, hQ, hX⟩
  refine ⟨G, ι, env, st, _, Px, hR, hw, fun r1 e1 s1 G1 ι1 x H1 p1 g1 R1 rep1 => ?_, hX⟩
  refine ⟨G1, ι1, e1, s1, _, Px, R1, p1, fun l e2 s2 G2 ι2 H2 p2 g2 R2 => ?_, hX.mono g1⟩
  refine ⟨G2, ι2, e2, s2, _, Px, R2, p2, fun h e3 s3 G3 ι3 H3 p3 g3 R3 => ?_, (hX.mono g1).mono g2⟩
  obtain ⟨d, p3, b⟩ := R3.bor (rep1.mono (g2.trans g3).sub (g2.trans g3).pre) p3
  cases d with
  | lst ds =>
    obtain ⟨q, xs, rfl, h1, q1⟩ := b.lst R3
    refine ⟨q, xs, rfl, .of h1, fun z hz => ?_⟩
    obtain ⟨r, o, n⟩ := newFresh (d := .lst (cutD ds l h)) R3 hz (.lst (q1.cut l h)) True.intro
    exact hQ _ e3 s3 G3 ι3 _ _ p3 ((g1.trans g2).trans g3) r o n
  | scr ns =>
    obtain ⟨q, rfl, h1⟩ := b.scr R3
    refine ⟨q, ns.map V.int, rfl, by rw [eK]; exact h1, fun z hz => ?_⟩
    obtain ⟨r, o, n⟩ := newFresh (d := .lst (cutD (ns.map .int) l h)) R3 hz (.lst ((Reps.ofInts ns).cut l h)) True.intro
    exact hQ _ e3 s3 G3 ι3 _ _ p3 ((g1.trans g2).trans g3) r o n
  | _ => exact p3.elim)
/-- xs[::-1] of a list -/
def wRev (wa : WO) : WE := fun env st Q Qx => wa env st (fun r1 e1 s1 => r1.get e1 fun d => match d with | .lst xs => Q (.lst xs.reverse) e1 s1 | _ => False) Qx
theorem f_rev {k : Nat} {p1 p2 p3 : Pos} (ha : PE X a (liftO C lk' wa)) : PE X (.Subscript a (.Slice none none (some (.UnaryOp .USub (.Constant (.int 1) k p1) p2)) p3) pos) (liftF C lk' (wRev wa)) := PEi (pe_revL ha) (by
  rintro σ H Q ⟨G, ι, env, st, P, Px, hR, hw, hQ, hX⟩
  refine ⟨G, ι, env, st, _, Px, hR, hw, fun r1 e1 s1 G1 ι1 x H1 p1 g1 R1 rep1 => ?_, hX⟩
  obtain ⟨d, p1, b⟩ := R1.bor rep1 p1
  cases d with
  | lst ds =>
    obtain ⟨q, xs, rfl, h1, q1⟩ := b.lst R1
    refine ⟨q, xs, rfl, .of h1, fun z hz => ?_⟩
    obtain ⟨r, o, n⟩ := newFresh (d := .lst ds.reverse) R1 hz (.lst q1.reverse) True.intro
    exact hQ _ e1 s1 G1 ι1 _ _ p1 g1 r o n
  | _ => exact p1.elim)
end
end VL

/-! The value layer: statements. -/
namespace VL
open PySem PySem.Spec PyProof.Rows L2

inductive Out where
  | nx | bk | ct | rt (d : D)
abbrev KS := Out → EnvD → Sto → Prop
abbrev WS := EnvD → Sto → KS → KX → Prop
/-- what is handed back -/
def RetV (C : Ctx) (G : Hp) (ι : List Addr) (H : Hp) (v : V) (d : D) : Prop := match C.fr with
  | true => ∃ a, v = .ref a ∧ OwnAt C G ι H a d
  | false => Rep C.K G ι v d
structure SOk (C : Ctx) (lk : Lks) (G : Hp) (ι : List Addr) (P : KS) (E : Ends) : Prop where
  nx : ∀ env st G' ι' σ H, P .nx env st → Grow C G ι G' ι' → R C lk G' ι' env st σ H → E.nx σ H
  bk : ∀ env st G' ι' σ H, P .bk env st → Grow C G ι G' ι' → R C lk G' ι' env st σ H → E.bk σ H
  ct : ∀ env st G' ι' σ H, P .ct env st → Grow C G ι G' ι' → R C lk G' ι' env st σ H → E.ct σ H
  rt : ∀ d env st G' ι' σ H v, P (.rt d) env st → Grow C G ι G' ι' → R C lk G' ι' env st σ H → RetV C G' ι' H v d → E.rt v H
theorem SOk.mono {C : Ctx} {lk : Lks} {G G' : Hp} {ι ι' : List Addr} {P : KS} {E : Ends} (h : SOk C lk G ι P E) (g : Grow C G ι G' ι') : SOk C lk G' ι' P E :=
  ⟨fun env st G2 ι2 σ H p g2 r => h.nx env st G2 ι2 σ H p (g.trans g2) r, fun env st G2 ι2 σ H p g2 r => h.bk env st G2 ι2 σ H p (g.trans g2) r,
    fun env st G2 ι2 σ H p g2 r => h.ct env st G2 ι2 σ H p (g.trans g2) r, fun d env st G2 ι2 σ H v p g2 r q => h.rt d env st G2 ι2 σ H v p (g.trans g2) r q⟩
def liftS (C : Ctx) (lk : Lks) (w : WS) : TS := fun E σ H => ∃ G ι env st P Px, R C lk G ι env st σ H ∧ w env st P Px ∧ SOk C lk G ι P E ∧ XOk C lk G ι Px

section
variable {X : Cx} {C : Ctx} {lk : Lks} {pos : Pos} {s : Stmt} {rest : List Stmt} {w u : WS}
/-! ### blocks -/
def wEnd : WS := fun env st Q _ => Q .nx env st
def wSeq (w u : WS) : WS := fun env st Q Qx => w env st (fun o e s => match o with
  | .nx => u e s Q Qx
  | o => Q o e s) Qx
theorem s_nil : PSs X [] (liftS C lk wEnd) := PSsi pss_nil (by
  rintro E σ H ⟨G, ι, env, st, P, Px, hR, hw, hS, hX⟩
  exact hS.nx env st G ι σ H hw .refl hR)
theorem s_pass : PS X (.Pass pos) (liftS C lk wEnd) := PSi ps_pass (by
  rintro E σ H ⟨G, ι, env, st, P, Px, hR, hw, hS, hX⟩
  exact hS.nx env st G ι σ H hw .refl hR)
theorem s_doc {x : Str} {j : Nat} {pos' : Pos} : PS X (.Expr (.Constant (.str x) j pos) pos') (liftS C lk wEnd) := PSi ps_doc (by
  rintro E σ H ⟨G, ι, env, st, P, Px, hR, hw, hS, hX⟩
  exact hS.nx env st G ι σ H hw .refl hR)
theorem s_one (h : PS X s (liftS C lk w)) : PSs X [s] (liftS C lk w) := pss_one h
theorem s_cons (h : PS X s (liftS C lk w)) (hr : PSs X rest (liftS C lk u)) : PSs X (s :: rest) (liftS C lk (wSeq w u)) := PSsi (pss_cons h hr) (by
  rintro E σ H ⟨G, ι, env, st, P, Px, hR, hw, hS, hX⟩
  exact ⟨G, ι, env, st, _, Px, hR, hw, ⟨fun e s G' ι' σ' H' p g r => ⟨G', ι', e, s, P, Px, r, p, hS.mono g, hX.mono g⟩, fun e s G' ι' σ' H' p g r => hS.bk e s G' ι' σ' H' p g r, fun e s G' ι' σ' H' p g r => hS.ct e s G' ι' σ' H' p g r, fun d e s G' ι' σ' H' v p g r q => hS.rt d e s G' ι' σ' H' v p g r q⟩, hX⟩)
/-- a statement that is not come to -/
def wNever : WS := fun _ _ _ _ => False
theorem s_never : PS X s (liftS C lk wNever) := PSi ps_never (by
  rintro E σ H ⟨G, ι, env, st, P, Px, hR, hw, hS, hX⟩
  exact hw)
theorem ss_never {ss : List Stmt} : PSs X ss (liftS C lk fun _ _ _ _ => False) := PSsi pss_never (by
  rintro E σ H ⟨G, ι, env, st, P, Px, hR, hw, hS, hX⟩
  exact hw)

/-! ### names stored -/
variable {e a b : Expr} {i : Nat} {x : Str} {we wa wb : WE} {wo : WO}
def wSet (i : Nat) (w : WE) : WS := fun env st Q Qx => w env st (fun d e s => Q .nx (e.set i (some (.sh d))) s) Qx
def wSetF (i : Nat) (w : WE) : WS := fun env st Q Qx => w env st (fun d e s => Q .nx (e.set i (some (.ow d))) s) Qx
theorem setE {σ : L2.St} {H : Hp} {E : Ends} (h : liftS C lk (wSet i we) E σ H) : tAsg (liftE C lk we) (gName i) E σ H := by
  obtain ⟨G, ι, env, st, P, Px, hR, hw, hS, hX⟩ := h
  exact ⟨G, ι, env, st, _, Px, hR, hw, fun d e s G' ι' v H' p g r rp => hS.nx _ s G' ι' _ H' p g (r.setSh rp), hX⟩
theorem setF {σ : L2.St} {H : Hp} {E : Ends} (h : liftS C lk (wSetF i we) E σ H) : tAsg (liftF C lk we) (gName i) E σ H := by
  obtain ⟨G, ι, env, st, P, Px, hR, hw, hS, hX⟩ := h
  refine ⟨G, ι, env, st, _, Px, hR, hw, fun d e s G' ι' a H' p g r o n => hS.nx _ s G' ι' _ H' p g (r.set (.ow o) fun d' a' e1 e2 j f e3 e4 => ?_), hX⟩
  cases e2
  exact absurd e4 (n j f e3)
theorem s_set {pos' : Pos} (hN : X.N.Nodup) (hi : X.N[i]? = some x) (hx : Loc X.env.scope x) (he : PE X e (liftE C lk we)) (hs : swapsWith e (some (.Name x pos')) pos.line X.env = pure false := by rfl) (hf : X.fn x = true ∨ X.env.scope.names.lookup x = some .local := by first | exact .inl rfl | exact .inr rfl | assumption) :
    PS X (.Assign [.Name x pos'] e pos) (liftS C lk (wSet i we)) := PSi (ps_set hN hi hx he hs hf) fun _ _ _ h => setE h
theorem s_setF {pos' : Pos} (hN : X.N.Nodup) (hi : X.N[i]? = some x) (hx : Loc X.env.scope x) (he : PE X e (liftF C lk we)) (hs : swapsWith e (some (.Name x pos')) pos.line X.env = pure false := by rfl) (hf : X.fn x = true ∨ X.env.scope.names.lookup x = some .local := by first | exact .inl rfl | exact .inr rfl | assumption) :
    PS X (.Assign [.Name x pos'] e pos) (liftS C lk (wSetF i we)) := PSi (ps_set hN hi hx he hs hf) fun _ _ _ h => setF h
/-- x = y, y owned: x owns it from then on -/
def wMove (i j : Nat) : WS := fun env st Q _ => match env[j]? with
  | some (some (.ow d)) => Q .nx ((env.set j none).set i (some (.ow d))) st
  | _ => False
theorem s_move {j : Nat} {y : Str} {pos' p2 : Pos} (hN : X.N.Nodup) (hi : X.N[i]? = some x) (hx : Loc X.env.scope x) (he : PE X (.Name y p2) (tVar j)) (hs : swapsWith (.Name y p2) (some (.Name x pos')) pos.line X.env = pure false := by rfl) (hf : X.fn x = true ∨ X.env.scope.names.lookup x = some .local := by first | exact .inl rfl | exact .inr rfl | assumption) :
    PS X (.Assign [.Name x pos'] (.Name y p2) pos) (liftS C lk (wMove i j)) := PSi (ps_set hN hi hx he hs hf) (by
  rintro E σ H ⟨G, ι, env, st, P, Px, hR, hw, hS, hX⟩
  unfold wMove at hw
  split at hw
  · rename_i d q
    obtain ⟨v, e1, h⟩ := hR.sl j _ q
    cases h with
    | ow h =>
      refine ⟨_, e1, hS.nx _ st G ι _ H hw .refl (hR.forget.set (.ow h) fun d' a' q1 q2 k f q3 q4 => ?_)⟩
      cases q2
      by_cases z : j = k
      · subst z
        rw [List.getElem?_set] at q3
        simp only [if_pos] at q3
        split at q3 <;> cases q3
      · rw [List.getElem?_set_ne z] at q3
        exact absurd (hR.inj j k d f _ q q3 e1 q4) z
  · exact hw.elim)
/-- x op= e of ints -/
def wAug (f : D → D → (D → Prop) → Prop) (i : Nat) (w : WE) : WS := fun env st Q Qx => match env[i]? with
  | some (some (.sh d0)) => w env st (fun d e s => f d0 d fun d' => Q .nx (e.set i (some (.sh d'))) s) Qx
  | _ => False
theorem s_aug {op : Operator} {r : R2} {f : D → D → (D → Prop) → Prop} {pos' : Pos} (hN : X.N.Nodup) (hi : X.N[i]? = some x) (hx : Loc X.env.scope x) (ho : PIp X op r) (hop : Op2 C r f) (he : PE X e (liftE C lk we)) (hf : X.fn x = true ∨ X.env.scope.names.lookup x = some .local := by first | exact .inl rfl | exact .inr rfl | assumption) :
    PS X (.AugAssign (.Name x pos') op e pos) (liftS C lk (wAug f i we)) := PSi (ps_aug hN hi hx he ho hf) (by
  rintro E σ H ⟨G, ι, env, st, P, Px, hR, hw, hS, hX⟩
  unfold wAug at hw
  split at hw
  · rename_i d0 q
    obtain ⟨v, e1, h⟩ := hR.sl i _ q
    cases h with
    | sh h =>
      refine ⟨v, e1, G, ι, env, st, _, Px, hR, hw, fun d e s G' ι' y H' p g r rp => ?_, hX⟩
      exact hop lk G' ι' e s σ H' v y d0 d _ _ r (.inl (h.grow g)) (.inl rp) p fun d' G2 z H2 p2 g2 r2 rp2 => hS.nx _ s G2 ι' _ H2 p2 (g.trans g2) (r2.setSh rp2)
  · exact hw.elim)
theorem s_augAdd {pos' : Pos} (hN : X.N.Nodup) (hi : X.N[i]? = some x) (hx : Loc X.env.scope x) (he : PE X e (liftE C lk we)) (hf : X.fn x = true ∨ X.env.scope.names.lookup x = some .local := by first | exact .inl rfl | exact .inr rfl | assumption) :
    PS X (.AugAssign (.Name x pos') .Add e pos) (liftS C lk (wAug addI i we)) := s_aug hN hi hx iop_add op2_addI he hf
theorem s_augSub {pos' : Pos} (hN : X.N.Nodup) (hi : X.N[i]? = some x) (hx : Loc X.env.scope x) (he : PE X e (liftE C lk we)) (hf : X.fn x = true ∨ X.env.scope.names.lookup x = some .local := by first | exact .inl rfl | exact .inr rfl | assumption) :
    PS X (.AugAssign (.Name x pos') .Sub e pos) (liftS C lk (wAug subD i we)) := s_aug hN hi hx iop_sub op2_sub he hf
theorem s_augMul {pos' : Pos} (hN : X.N.Nodup) (hi : X.N[i]? = some x) (hx : Loc X.env.scope x) (he : PE X e (liftE C lk we)) (hf : X.fn x = true ∨ X.env.scope.names.lookup x = some .local := by first | exact .inl rfl | exact .inr rfl | assumption) :
    PS X (.AugAssign (.Name x pos') .Mult e pos) (liftS C lk (wAug mulI i we)) := s_aug hN hi hx iop_mul op2_mulI he hf

/-! ### return, drop, if -/
def wRet (w : WE) : WS := fun env st Q Qx => w env st (fun d e s => Q (.rt d) e s) Qx
theorem s_ret (hfr : C.fr = false) (he : PE X e (liftE C lk we)) : PS X (.Return (some e) pos) (liftS C lk (wRet we)) := PSi (ps_ret he) (by
  rintro E σ H ⟨G, ι, env, st, P, Px, hR, hw, hS, hX⟩
  exact ⟨G, ι, env, st, _, Px, hR, hw, fun d e s G' ι' v H' p g r rp => hS.rt d e s G' ι' σ H' v p g r (by unfold RetV; rw [hfr]; exact rp), hX⟩)
theorem s_retF (hfr : C.fr = true) (he : PE X e (liftF C lk we)) : PS X (.Return (some e) pos) (liftS C lk (wRet we)) := PSi (ps_ret he) (by
  rintro E σ H ⟨G, ι, env, st, P, Px, hR, hw, hS, hX⟩
  exact ⟨G, ι, env, st, _, Px, hR, hw, fun d e s G' ι' a H' p g r o n => hS.rt d e s G' ι' σ H' _ p g r (by unfold RetV; rw [hfr]; exact ⟨a, rfl, o⟩), hX⟩)
/-- return x, x owned -/
def wRetV (i : Nat) : WS := fun env st Q _ => match env[i]? with
  | some (some (.ow d)) => Q (.rt d) env st
  | _ => False
theorem s_retV {p2 : Pos} (hfr : C.fr = true) (he : PE X (.Name x p2) (tVar i)) : PS X (.Return (some (.Name x p2)) pos) (liftS C lk (wRetV i)) := PSi (ps_ret he) (by
  rintro E σ H ⟨G, ι, env, st, P, Px, hR, hw, hS, hX⟩
  unfold wRetV at hw
  split at hw
  · rename_i d q
    obtain ⟨v, e1, h⟩ := hR.sl i _ q
    cases h with
    | ow h => exact ⟨_, e1, hS.rt d env st G ι σ H _ hw .refl hR (by unfold RetV; rw [hfr]; exact ⟨_, rfl, h⟩)⟩
  · exact hw.elim)
def wRetN : WS := fun env st Q _ => Q (.rt .non) env st
theorem s_retN (hfr : C.fr = false) : PS X (.Return none pos) (liftS C lk wRetN) := PSi ps_retN (by
  rintro E σ H ⟨G, ι, env, st, P, Px, hR, hw, hS, hX⟩
  exact hS.rt .non env st G ι σ H _ hw .refl hR (by unfold RetV; rw [hfr]; exact .non))
def wDrop (w : WE) : WS := fun env st Q Qx => w env st (fun _ e s => Q .nx e s) Qx
theorem s_expr (he : PE X e (liftE C lk we)) (hs : swapsWith e none pos.line X.env = pure false := by rfl) : PS X (.Expr e pos) (liftS C lk (wDrop we)) := PSi (ps_expr he hs) (by
  rintro E σ H ⟨G, ι, env, st, P, Px, hR, hw, hS, hX⟩
  exact ⟨G, ι, env, st, _, Px, hR, hw, fun d e s G' ι' v H' p g r rp => hS.nx e s G' ι' σ H' p g r, hX⟩)
variable {tw : WB}
def wIte (t : WB) (w u : WS) : WS := fun env st Q Qx => t env st (fun b e s => if b = true then w e s Q Qx else u e s Q Qx) Qx
theorem s_if {c : Expr} {p q : List Stmt} (hc : PT X c (liftB C lk tw)) (ha : PSs X p (liftS C lk w)) (hb : PSs X q (liftS C lk u)) : PS X (.If c p q pos) (liftS C lk (wIte tw w u)) := PSi (ps_if hc ha hb) (by
  rintro E σ H ⟨G, ι, env, st, P, Px, hR, hw, hS, hX⟩
  refine ⟨G, ι, env, st, _, Px, hR, hw, fun b e s G' ι' H' p g r => ?_, hX⟩
  cases b with
  | true => exact ⟨G', ι', e, s, P, Px, r, p, hS.mono g, hX.mono g⟩
  | false => exact ⟨G', ι', e, s, P, Px, r, p, hS.mono g, hX.mono g⟩)

/-! ### while -/
/-- what is wanted behind a turn -/
def Turn1 (N : EnvD → Sto → Prop) (Q : KS) : KS := fun o e s => match o with
  | .nx => N e s
  | .ct => N e s
  | .bk => Q .nx e s
  | .rt d => Q (.rt d) e s
def wWhile (t : WB) (w : WS) : WS := fun env st Q Qx => ∃ W : Nat → EnvD → Sto → Prop, (∃ m, W m env st) ∧ ∀ m env st, W m env st →
  t env st (fun b e s => if b = true then w e s (Turn1 (fun e s => ∃ m', m' < m ∧ W m' e s) Q) Qx else Q .nx e s) Qx
theorem s_while {c : Expr} {body : List Stmt} (hp : PassesOwn (model X.prog X.w) X.A X.env X.xe) (hc : PT X c (liftB C lk tw)) (hb : PSs X body (liftS C lk w)) : PS X (.While c body [] pos) (liftS C lk (wWhile tw w)) := PSi (ps_while hp hc hb) (by
  rintro E σ H ⟨G, ι, env, st, P, Px, hR, ⟨W, ⟨m0, w0⟩, turn⟩, hS, hX⟩
  refine ⟨fun m σ H => ∃ G' ι' env' st', Grow C G ι G' ι' ∧ R C lk G' ι' env' st' σ H ∧ W m env' st', ⟨m0, G, ι, env, st, .refl, hR, w0⟩, ?_⟩
  rintro m σ1 H1 ⟨G1, ι1, env1, st1, g1, R1, w1⟩
  refine ⟨G1, ι1, env1, st1, _, Px, R1, turn m env1 st1 w1, fun b e s G2 ι2 H2 p g2 R2 => ?_, hX.mono g1⟩
  cases b with
  | false => exact hS.nx e s G2 ι2 σ1 H2 p (g1.trans g2) R2
  | true =>
    refine ⟨fun σ' H' => ∃ m', m' < m ∧ ∃ G' ι' env' st', Grow C G ι G' ι' ∧ R C lk G' ι' env' st' σ' H' ∧ W m' env' st', fun σ' H' h => h, ?_⟩
    have nxt : ∀ env st G' ι' σ H, (∃ m', m' < m ∧ W m' env st) → Grow C G2 ι2 G' ι' → R C lk G' ι' env st σ H → ∃ m', m' < m ∧ ∃ G' ι' env' st', Grow C G ι G' ι' ∧ R C lk G' ι' env' st' σ H ∧ W m' env' st' := fun env st G' ι' σ H p g r => by
      obtain ⟨m', hm, w'⟩ := p
      exact ⟨m', hm, G', ι', env, st, (g1.trans g2).trans g, r, w'⟩
    exact ⟨G2, ι2, e, s, _, Px, R2, p, ⟨fun env st G' ι' σ H p g r => nxt env st G' ι' σ H p g r, fun env st G' ι' σ H p g r => hS.nx env st G' ι' σ H p ((g1.trans g2).trans g) r, fun env st G' ι' σ H p g r => nxt env st G' ι' σ H p g r,
      fun d env st G' ι' σ H v p g r q => hS.rt d env st G' ι' σ H v p ((g1.trans g2).trans g) r q⟩, (hX.mono g1).mono g2⟩)

/-! ### for -/
/-- the iterator gives ds, whatever the body does -/
structure ItOk (C : Ctx) (lk : Lks) (G : Hp) (ι : List Addr) (J : It) (ds : List D) : Prop where
  ex : ∃ Gd Y, Walk J ds.length Gd Y ∧ (∀ G' ι' env st σ H, Grow C G ι G' ι' → R C lk G' ι' env st σ H → Gd H) ∧
    ∀ i G' ι' env st σ H x H', i < ds.length → Grow C G ι G' ι' → R C lk G' ι' env st σ H → Y i H x H' → ∃ G2, Grow C G' ι' G2 ι' ∧ R C lk G2 ι' env st σ H' ∧ (∃ d, ds[i]? = some d ∧ Rep C.K G2 ι' x d) ∧ Sub H H' ∧ ∀ a u, G2 a = some u → G' a = some u ∨ H a = none
abbrev WI := WA
def liftI (C : Ctx) (lk : Lks) (w : WI) : TI := fun σ H Rk => ∃ G ι env st P Px, R C lk G ι env st σ H ∧ w env st P Px ∧
  (∀ ds env' st' G' ι' J H', P ds env' st' → Grow C G ι G' ι' → R C lk G' ι' env' st' σ H' → ItOk C lk G' ι' J ds → Rk J H') ∧ XOk C lk G ι Px
theorem PIi {X : Cx} {tg e : Expr} {t t' : TI} (h : PI X tg e t) (i : ∀ σ H Q, t' σ H Q → t σ H Q) : PI X tg e t' := ⟨fun pins s σ H Q I q => h.run pins s σ H Q I (i σ H Q q)⟩
/-- targets: what they do with an item -/
abbrev WG := D → EnvD → Sto → (EnvD → Sto → Prop) → Prop
def liftG (C : Ctx) (lk : Lks) (vs : Option (List Nat)) (g : WG) : TG := fun v σ H Q => ∃ G ι env st P d, R C lk G ι env st σ H ∧ Rep C.K G ι v d ∧ g d env st P ∧
  ∀ env' st' σ' H' G' ι', P env' st' → Grow C G ι G' ι' → R C lk G' ι' env' st' σ' H' → (∀ l, vs = some l → L2.wipe σ' l = L2.wipe σ l) → Q σ' H'
theorem wipe_set {σ : L2.St} {x : Option V} : ∀ {vs : List Nat} {i : Nat}, i ∈ vs → L2.wipe (σ.set i x) vs = L2.wipe σ vs
  | j :: vs, i, h => by
    show (L2.wipe (σ.set i x) vs).set j none = (L2.wipe σ vs).set j none
    by_cases q : i ∈ vs
    · rw [wipe_set q]
    · have e : i = j := by
        rcases List.mem_cons.mp h with h | h
        · exact h
        · exact absurd h q
      subst e
      have out : ∀ (us : List Nat) (τ : L2.St), i ∉ us → L2.wipe (τ.set i x) us = (L2.wipe τ us).set i x := by
        intro us
        induction us with
        | nil => intro τ _; rfl
        | cons k us ih =>
          intro τ hk
          show (L2.wipe (τ.set i x) us).set k none = ((L2.wipe τ us).set k none).set i x
          rw [ih τ (fun z => hk (List.mem_cons_of_mem _ z)), List.set_comm _ _ (fun z => hk (by rw [z]; exact List.mem_cons_self))]
      rw [out vs σ q, List.set_set]
/-- the turns over the items -/
def wTurns (g : WG) (w : WS) (Q : KS) (Qx : KX) : List D → EnvD → Sto → Prop
  | [], env, st => Q .nx env st
  | d :: ds, env, st => g d env st fun e s => w e s (Turn1 (wTurns g w Q Qx ds) Q) Qx
def wFor (wi : WI) (g : WG) (w : WS) : WS := fun env st Q Qx => wi env st (fun ds e s => wTurns g w Q Qx ds e s) Qx
theorem s_for {tg iter : Expr} {body : List Stmt} {wi : WI} {g : WG} (hp : PassesOwn (model X.prog X.w) X.A X.env X.xe) (hc : X.calm = true) (hi : PI X tg iter (liftI C lk wi)) (hg : PG X tg (liftG C lk none g)) (hb : PSs X body (liftS C lk w))
    (hs : ∀ x, foldedSetIterable iter X.env x = pure x := by intro _; rfl) : PS X (.For tg iter body [] pos) (liftS C lk (wFor wi g w)) := PSi (ps_for hp hc hi hg hb hs) (by
  rintro E σ H ⟨G, ι, env, st, P, Px, hR, hw, hS, hX⟩
  refine ⟨G, ι, env, st, _, Px, hR, hw, fun ds e s G' ι' J H' p gr r it => ?_, hX⟩
  obtain ⟨Gd, Y, W, hG, hY⟩ := it.ex
  refine for_it W (fun i σ H => ∃ G2 ι2 e2 s2, Grow C G' ι' G2 ι2 ∧ R C lk G2 ι2 e2 s2 σ H ∧ wTurns g w P Px (ds.drop i) e2 s2) ⟨G', ι', e, s, .refl, r, p⟩ (fun i σ H _ ⟨G2, ι2, e2, s2, g2, r2, _⟩ => hG G2 ι2 e2 s2 σ H g2 r2) ?_ ?_
  · rintro i x σ1 H1 H2 hi ⟨G2, ι2, e2, s2, g2, r2, p2⟩ y
    obtain ⟨G3, g3, r3, ⟨d, hd, rp⟩, _⟩ := hY i G2 ι2 e2 s2 σ1 H1 x H2 hi g2 r2 y
    have hdrop : ds.drop i = d :: ds.drop (i + 1) := by
      rw [List.drop_eq_getElem_cons hi]
      congr 1
      exact (List.getElem?_eq_some_iff.mp hd).2
    rw [hdrop] at p2
    refine ⟨G3, ι2, e2, s2, _, d, r3, rp, p2, fun e4 s4 σ4 H4 G4 ι4 p4 g4 r4 _ => ?_⟩
    have gg := ((gr.trans g2).trans g3).trans g4
    have nxt : ∀ env st G' ι'' σ H, wTurns g w P Px (ds.drop (i + 1)) env st → Grow C G4 ι4 G' ι'' → R C lk G' ι'' env st σ H → ∃ G2 ι2 e2 s2, Grow C _ ι' G2 ι2 ∧ R C lk G2 ι2 e2 s2 σ H ∧ wTurns g w P Px (ds.drop (i + 1)) e2 s2 := fun env st G' ι'' σ H p g r => ⟨G', ι'', env, st, ((g2.trans g3).trans g4).trans g, r, p⟩
    exact ⟨G4, ι4, e4, s4, _, Px, r4, p4, ⟨fun env st G' ι' σ H p g r => nxt env st G' ι' σ H p g r, fun env st G' ι' σ H p g r => hS.nx env st G' ι' σ H p (gg.trans g) r, fun env st G' ι' σ H p g r => nxt env st G' ι' σ H p g r,
      fun d env st G' ι' σ H v p g r q => hS.rt d env st G' ι' σ H v p (gg.trans g) r q⟩, hX.mono gg⟩
  · rintro σ1 H1 ⟨G2, ι2, e2, s2, g2, r2, p2⟩
    rw [List.drop_length] at p2
    exact hS.nx e2 s2 G2 ι2 σ1 H1 p2 (gr.trans g2) r2)
/-! ### targets -/
def gN (i : Nat) : WG := fun d env st Q => Q (env.set i (some (.sh d))) st
theorem PGi {X : Cx} {tg : Expr} {t t' : TG} (h : PG X tg t) (i : ∀ v σ H Q, t' v σ H Q → t v σ H Q) : PG X tg t' := ⟨fun pins s σ H v u Q I r q => h.run pins s σ H v u Q I r (i v σ H Q q)⟩
theorem g_name {vs : Option (List Nat)} (hv : ∀ l, vs = some l → i ∈ l) (hN : X.N.Nodup) (hi : X.N[i]? = some x) (hx : Loc X.env.scope x) (hf : X.fn x = true ∨ X.env.scope.names.lookup x = some .local := by first | exact .inl rfl | exact .inr rfl | assumption) : PG X (.Name x pos) (liftG C lk vs (gN i)) := PGi (pg_name hN hi hx hf) (by
  rintro v σ H Q ⟨G, ι, env, st, P, d, hR, rp, p, k⟩
  exact k _ st _ H G ι p .refl (hR.setSh rp) fun l e => wipe_set (hv l e))
/-- a tuple or list taken apart -/
abbrev WGs := List D → EnvD → Sto → (EnvD → Sto → Prop) → Prop
def liftGs (C : Ctx) (lk : Lks) (vs : Option (List Nat)) (g : WGs) : TGs := fun xs σ H Q => ∃ G ι env st P ds, R C lk G ι env st σ H ∧ Reps C.K G ι xs ds ∧ g ds env st P ∧
  ∀ env' st' σ' H' G' ι', P env' st' → Grow C G ι G' ι' → R C lk G' ι' env' st' σ' H' → (∀ l, vs = some l → L2.wipe σ' l = L2.wipe σ l) → Q σ' H'
theorem PGsi {X : Cx} {tg : List Expr} {t t' : TGs} (h : PGs X tg t) (i : ∀ v σ H Q, t' v σ H Q → t v σ H Q) : PGs X tg t' := ⟨fun pins s σ H v u Q I r q => h.run pins s σ H v u Q I r (i v σ H Q q)⟩
def gsNil : WGs := fun ds env st Q => match ds with
  | [] => Q env st
  | _ => False
def gsCons (g : WG) (u : WGs) : WGs := fun ds env st Q => match ds with
  | d :: r => g d env st fun e s => u r e s Q
  | [] => False
theorem gs_nil {vs : Option (List Nat)} : PGs X [] (liftGs C lk vs gsNil) := PGsi pgs_nil (by
  rintro v σ H Q ⟨G, ι, env, st, P, d, hR, rp, p, k⟩
  cases d with
  | nil => cases rp; exact ⟨rfl, k env st σ H G ι p .refl hR fun _ _ => rfl⟩
  | cons _ _ => exact p.elim)
theorem gs_cons {vs : Option (List Nat)} {es : List Expr} {g : WG} {u : WGs} (h1 : PG X e (liftG C lk vs g)) (h2 : PGs X es (liftGs C lk vs u)) (hs : (assignEach (e :: es) X.env).map (·.2) = assign e X.env :: (assignEach es X.env).map (·.2) := by rfl) : PGs X (e :: es) (liftGs C lk vs (gsCons g u)) := PGsi (pgs_cons h1 h2 hs) (by
  rintro v σ H Q ⟨G, ι, env, st, P, d, hR, rp, p, k⟩
  cases d with
  | nil => exact p.elim
  | cons d ds =>
    cases rp with
    | cons r1 r2 => exact ⟨_, _, rfl, G, ι, env, st, _, d, hR, r1, p, fun e1 s1 σ1 H1 G1 ι1 p1 g1 R1 z1 => ⟨G1, ι1, e1, s1, P, ds, R1, r2.grow g1, p1, fun e2 s2 σ2 H2 G2 ι2 p2 g2 R2 z2 => k e2 s2 σ2 H2 G2 ι2 p2 (g1.trans g2) R2 fun l e => (z2 l e).trans (z1 l e)⟩⟩)
def gT (n : Nat) (g : WGs) : WG := fun d env st Q => match d with
  | .tup ds => ds.length = n ∧ g ds env st Q
  | _ => False
def gL (n : Nat) (g : WGs) : WG := fun d env st Q => match d with
  | .lst ds => ds.length = n ∧ g ds env st Q
  | _ => False
theorem g_tup {vs : Option (List Nat)} {es : List Expr} {k n : Nat} {g : WGs} (hc : X.calm = true) (eK : X.K = C.K) (h : PGs X es (liftGs C lk vs g)) (hn : (assignEach es X.env).length = n := by rfl) (hst : (assignEach es X.env).findIdx? (·.1) = none := by rfl) : PG X (.Tuple es k pos) (liftG C lk vs (gT n g)) := PGi (pg_tup hc h hn hst) (by
  rintro v σ H Q ⟨G, ι, env, st, P, d, hR, rp, p, k⟩
  cases d with
  | tup ds =>
    obtain ⟨a, xs, rfl, h1, r1⟩ := Bor.tup hR (.inl rp)
    exact ⟨a, xs, rfl, .of h1, by rw [r1.len]; exact p.1, G, ι, env, st, P, ds, hR, r1, p.2, k⟩
  | _ => exact p.elim)
theorem g_lst {vs : Option (List Nat)} {es : List Expr} {k n : Nat} {g : WGs} (hc : X.calm = true) (eK : X.K = C.K) (h : PGs X es (liftGs C lk vs g)) (hn : (assignEach es X.env).length = n := by rfl) (hst : (assignEach es X.env).findIdx? (·.1) = none := by rfl) : PG X (.Tuple es k pos) (liftG C lk vs (gL n g)) := PGi (pg_lst hc h hn hst) (by
  rintro v σ H Q ⟨G, ι, env, st, P, d, hR, rp, p, k⟩
  cases d with
  | lst ds =>
    obtain ⟨a, xs, rfl, h1, r1⟩ := Bor.lst hR (.inl rp)
    exact ⟨a, xs, rfl, .of h1, by rw [r1.len]; exact p.1, G, ι, env, st, P, ds, hR, r1, p.2, k⟩
  | _ => exact p.elim)
/-- targets = value -/
def wAsg (w : WE) (g : WG) : WS := fun env st Q Qx => w env st (fun d e s => g d e s fun e s => Q .nx e s) Qx
theorem s_asg {tg : Expr} {g : WG} (he : PE X e (liftE C lk we)) (hg : PG X tg (liftG C lk none g)) (hs : swapsWithSole [tg] e pos.line X.env = pure false := by rfl) (hw : swappedStores [tg] e X.env = pure none := by rfl)
    (h1 : (assignEach [tg] X.env).map (·.2) = [assign tg X.env] := by rfl) : PS X (.Assign [tg] e pos) (liftS C lk (wAsg we g)) := PSi (ps_asg he hg hs hw h1) (by
  rintro E σ H ⟨G, ι, env, st, P, Px, hR, hw, hS, hX⟩
  exact ⟨G, ι, env, st, _, Px, hR, hw, fun d e s G' ι' v H' p gr r rp => ⟨G', ι', e, s, _, d, r, rp, p, fun e2 s2 σ2 H2 G2 ι2 p2 g2 R2 _ => hS.nx e2 s2 G2 ι2 σ2 H2 p2 (gr.trans g2) R2⟩, hX⟩)
end
end VL

/-! The value layer: defs and their calls. -/
namespace VL
open PySem PySem.Spec PyProof.Rows L2

/-- what a def does, by data -/
abbrev Spec := List D → Sto → (D → Sto → Prop) → (XD → Sto → Prop) → Prop
/-- the heap but the store -/
def hid (H : Hp) (ι : List Addr) : Hp := fun a => if a ∈ ι then none else H a
theorem hid_in {H : Hp} {ι : List Addr} {a : Addr} (h : a ∈ ι) : hid H ι a = none := by unfold hid; rw [if_pos h]
theorem hid_out {H : Hp} {ι : List Addr} {a : Addr} (h : a ∉ ι) : hid H ι a = H a := by unfold hid; rw [if_neg h]
def inCtx (K : PySem.W.Frag) (Cl : Str → Option Addr) (H : Hp) (ι : List Addr) (E : XK) (fr : Bool) : Ctx := ⟨⟨K, Cl⟩, hid H ι, fun cls d _ H' => E cls d H', fr⟩
def spOf (K : PySem.W.Frag) (Cl : Str → Option Addr) (n : Nat) (fr : Bool) (Phi : Spec) : Sp := fun vs H Q E => vs.length = n ∧ ∃ G ι ds st Pr Px,
  R (inCtx K Cl H ι E fr) [] G ι [] st [] H ∧ Reps ⟨K, Cl⟩ G ι vs ds ∧ Phi ds st Pr Px ∧
  (∀ d st' G' ι' v H', Pr d st' → Grow (inCtx K Cl H ι E fr) G ι G' ι' → R (inCtx K Cl H ι E fr) [] G' ι' [] st' [] H' → RetV (inCtx K Cl H ι E fr) G' ι' H' v d → Q v H') ∧
  ∀ x st' G' ι' cls dd H', Px x st' → Grow (inCtx K Cl H ι E fr) G ι G' ι' → R (inCtx K Cl H ι E fr) [] G' ι' [] st' [] H' → XRep (inCtx K Cl H ι E fr) x cls dd H' → E cls dd H'

section
variable {C : Ctx} {lk : Lks} {G : Hp} {ι : List Addr} {env : EnvD} {st : Sto} {σ : L2.St} {H : Hp}
theorem R.bare (r : R C lk G ι env st σ H) : R C lk G ι [] st [] H :=
  ⟨rfl, r.fF, r.lkd, r.fG, fun i s e => by simp at e, fun i j d e a h => by simp at h, r.slen, r.sto, r.sg, r.nd, r.lk2⟩
/-- for a callee -/
theorem R.toCall (r : R C lk G ι env st σ H) (E : XK) (fr : Bool) : R (inCtx C.K.f C.K.Cl H ι E fr) [] G ι [] st [] H :=
  ⟨rfl, fun a u e => .inl (by
      by_cases h : a ∈ ι
      · rw [show (inCtx C.K.f C.K.Cl H ι E fr).F a = none from hid_in h] at e; cases e
      · rw [show (inCtx C.K.f C.K.Cl H ι E fr).F a = H a from hid_out h] at e; exact e),
    fun a o u h => by simp at h, r.fG, fun i s e => by simp at e, fun i j d e a h => by simp at h, r.slen, r.sto, fun a h => ⟨(r.sg a h).1, hid_in h⟩, r.nd, fun a o u e1 e2 => .inr ((hid_out (fun h => by
      have := (r.sg a h).1; rw [e2] at this; cases this)).trans e1)⟩
/-- behind a call -/
theorem R.ofCall {E : XK} {fr : Bool} {G2 : Hp} {ι2 : List Addr} {st2 : Sto} {H2 : Hp} (r : R C lk G ι env st σ H) (g : Grow (inCtx C.K.f C.K.Cl H ι E fr) G ι G2 ι2) (r2 : R (inCtx C.K.f C.K.Cl H ι E fr) [] G2 ι2 [] st2 [] H2) :
    R C lk G2 ι2 env st2 σ H2 ∧ Grow C G ι G2 ι2 ∧ (∀ a u, H a = some u → a ∉ ι → H2 a = some u) := by
  have keep : ∀ a u, H a = some u → a ∉ ι → H2 a = some u := fun a u e h => by
    rcases r2.fF a u ((hid_out h).trans e) with q | ⟨_, q⟩
    · exact q
    · simp at q
  have fni : ∀ a u, C.F a = some u → a ∉ ι := fun a u e h => by
    have := (r.sg a h).2
    rw [e] at this; cases this
  have fno : ∀ a u, C.F a = some u → ∃ u', H a = some u' := fun a u e => by
    rcases r.fF a u e with h | ⟨o, h⟩
    · exact ⟨u, h⟩
    · exact ⟨_, (r.lkd _ _ _ h).1⟩
  have gni : ∀ a u, G a = some u → a ∉ ι := fun a u e h => by
    have := (r.sg a h).1
    rw [e] at this; cases this
  have gni2 : ∀ a u, G2 a = some u → a ∉ ι := fun a u e h => by
    have := (r2.sg a (g.pre.subset h)).1
    rw [e] at this; cases this
  refine ⟨⟨r.len, fun a u e => ?_, fun a o u h => ?_, r2.fG, fun i s e => ?_, r.inj, r2.slen, r2.sto, fun a h => ⟨(r2.sg a h).1, ?_⟩, r2.nd, fun a o u e1 e2 => ?_⟩, ⟨g.sub, fun a u e => ?_, g.pre⟩, keep⟩
  · rcases r.fF a u e with h | h
    · exact .inl (keep a u h (fni a u e))
    · exact .inr h
  · obtain ⟨q1, q2, q3⟩ := r.lkd a o u h
    exact ⟨keep a _ q1 (gni a u q2), g.sub _ _ q2, q3⟩
  · obtain ⟨v, e1, h⟩ := r.sl i s e
    refine ⟨v, e1, ?_⟩
    cases h with
    | sh h => exact .sh (h.mono g.sub g.pre)
    | @ow d a h =>
      obtain ⟨⟨o, h1, h2, h3⟩, h4, h5, h6⟩ := h
      refine .ow ⟨⟨o, keep a o h1 h6, h2.mono g.sub g.pre, h3⟩, ?_, h5, fun z => ?_⟩
      · cases q : G2 a with
        | none => rfl
        | some u =>
          rcases g.out a u q with q2 | q2 | q2
          · rw [h4] at q2; cases q2
          · rw [show (inCtx C.K.f C.K.Cl H ι E fr).F a = H a from hid_out h6, h1] at q2; cases q2
          · have hk := keep a o h1 h6
            rcases r2.fG a u q with z | ⟨_, _, z⟩
            · rw [hk] at z; cases z; exact absurd h3 q2
            · rw [hk] at z; cases z; exact h3.elim
      · have := (r2.sg a z).2
        rw [show (inCtx C.K.f C.K.Cl H ι E fr).F a = H a from hid_out h6, h1] at this; cases this
  · cases q : C.F a with
    | none => rfl
    | some u =>
      obtain ⟨u', hu⟩ := fno a u q
      have := (r2.sg a h).2
      rw [show (inCtx C.K.f C.K.Cl H ι E fr).F a = H a from hid_out (fni a u q), hu] at this; cases this
  · have ha : a ∉ ι := gni2 a u e2
    rcases r2.lk2 a o u e1 e2 with q | q
    · simp at q
    · rw [show (inCtx C.K.f C.K.Cl H ι E fr).F a = H a from hid_out ha] at q
      refine r.lk2 a o u q ?_
      rcases g.out a u e2 with z | z | z
      · exact z
      · rw [show (inCtx C.K.f C.K.Cl H ι E fr).F a = H a from hid_out ha, q] at z; cases z
      · exfalso
        rcases r2.fG a u e2 with w | ⟨w, _⟩
        · rw [e1] at w; exact frz_ne (Option.some.inj w)
        · exact z (isD_mut w)
  · rcases g.out a u e with q | q | q
    · exact .inl q
    · refine .inr (.inl ?_)
      cases q2 : C.F a with
      | none => rfl
      | some u' =>
        obtain ⟨u2, hu⟩ := fno a u' q2
        rw [show (inCtx C.K.f C.K.Cl H ι E fr).F a = H a from hid_out (fni a u' q2), hu] at q; cases q
    · exact .inr (.inr q)
end

/-! ### a def's body -/
def envOf (n : Nat) (ds : List D) : EnvD := ds.map (fun d => some (.sh d)) ++ List.replicate (n - ds.length) none
/-- a body as a spec -/
def specB (n : Nat) (w : WS) : Spec := fun ds st Q Qx => w (envOf n ds) st (fun o _ s => match o with
  | .nx => Q .non s
  | .rt d => Q d s
  | _ => False) (fun x _ s => Qx x s)
/-- .. of one that hands back a new object (there is a return on every way) -/
def specF (n : Nat) (w : WS) : Spec := fun ds st Q Qx => w (envOf n ds) st (fun o _ s => match o with
  | .rt d => Q d s
  | _ => False) (fun x _ s => Qx x s)
def specW (fr : Bool) (n : Nat) (w : WS) : Spec := match fr with
  | true => specF n w
  | false => specB n w
section
variable {P : Program} {wd : World} {K : PySem.W.Frag} {mg : Str → Option Value} {base : Heap}
theorem envOf_get {n : Nat} : ∀ {ds : List D} {i : Nat} {s : Slot}, (envOf n ds)[i]? = some (some s) → ∃ d, ds[i]? = some d ∧ s = .sh d := fun {ds i s} e => by
  unfold envOf at e
  by_cases h : i < ds.length
  · rw [List.getElem?_append_left (by simpa using h), List.getElem?_map, List.getElem?_eq_getElem h] at e
    exact ⟨ds[i], List.getElem?_eq_getElem h, by simpa using e.symm⟩
  · rw [List.getElem?_append_right (by simpa using h)] at e
    rw [List.getElem?_replicate] at e
    split at e <;> cases e
theorem start_get {N : List Str} {vs : List V} {i : Nat} {v : V} (h : vs[i]? = some v) : (L2.start N vs)[i]? = some (some v) := by
  unfold L2.start
  have hi := (List.getElem?_eq_some_iff.mp h).1
  rw [List.getElem?_append_left (by simpa using hi), List.getElem?_map, h]; rfl
/-- THE RULE for a def -/
theorem fn_ok {x qual : Str} {st : Stmt} {f : Addr} {fd : FuncData} {N ps : List Str} {k : Nat} {Cl : Str → Option Addr} {fr : Bool} {w : WS} (F : Fun K x qual st f fd) (S : FnScope N ps (defScope st))
    (hb : ∀ (X : Cx) (C : Ctx), X.K = K → X.mg = mg → X.N = N → X.prog = P → X.w = wd → X.base = base → X.env.scope = defScope st → X.fn = (fun _ => true) → X.calm = true → Room k X.A → X.stack = X.env :: X.outer → X.env.frame = some X.env.locals → X.ex = [] → Takes X C.W → PassesOwn (model X.prog X.w) X.A X.env X.xe → C.K.f = K → C.K.Cl = Cl → C.fr = fr → PSs X (defBody st) (liftS C [] w)) :
    FnOk P wd K mg base (L2.CX P wd) (k + 1) f fd ps (spOf K Cl ps.length fr (specW fr N.length w)) := by
  refine F.okX S (fun vs H Q E h => h.1) (fun cdv A outer s H vs Q E hr h => ?_)
  obtain ⟨hl, G, ι, ds, sto, Pr, Px, hR, hrep, hw, hret, hexn⟩ := h
  refine ⟨_, hb (cxOf (L2.CX P wd) P wd K mg base N qual (defScope st) f cdv A outer s H E) (inCtx K Cl H ι E fr) rfl rfl rfl rfl rfl rfl rfl rfl rfl hr rfl rfl rfl ?_ ?_ rfl rfl rfl, ?_⟩
  · exact takes_of rfl rfl rfl rfl
  · exact passes_of rfl
  · have hN : ps.length ≤ N.length := by
      have := congrArg List.length S.pre
      rw [List.length_take] at this
      omega
    have hR' : R (inCtx K Cl H ι E fr) [] G ι (envOf N.length ds) sto (L2.start N vs) H := by
      refine ⟨?_, hR.fF, hR.lkd, hR.fG, fun i s e => ?_, fun i j d e a q => ?_, hR.slen, hR.sto, hR.sg, hR.nd, hR.lk2⟩
      · unfold envOf L2.start
        simp only [List.length_append, List.length_map, List.length_replicate, hrep.len]
      · obtain ⟨d, hd, rfl⟩ := envOf_get e
        obtain ⟨v, hv, rp⟩ := hrep.get hd
        exact ⟨v, start_get hv, .sh rp⟩
      · obtain ⟨d', _, q2⟩ := envOf_get q
        cases q2
    have exn : XOk (inCtx K Cl H ι E fr) [] G ι (fun x _ s => Px x s) := fun x env st' G' ι' σ' H' cls d p g r q => hexn x st' G' ι' cls d H' p g r.bare q
    have ret : ∀ d env st' G' ι' σ' H' v, Pr d st' → Grow (inCtx K Cl H ι E fr) G ι G' ι' → R (inCtx K Cl H ι E fr) [] G' ι' env st' σ' H' → RetV (inCtx K Cl H ι E fr) G' ι' H' v d → Q v H' := fun d env st' G' ι' σ' H' v p g r q => hret d st' G' ι' v H' p g r.bare q
    cases fr with
    | true => exact ⟨G, ι, _, sto, _, _, hR', hw, ⟨fun env st' G' ι' σ' H' p => False.elim p, fun env st' G' ι' σ' H' p => False.elim p, fun env st' G' ι' σ' H' p => False.elim p, fun d env st' G' ι' σ' H' v p g r q => ret d env st' G' ι' σ' H' v p g r q⟩, exn⟩
    | false => exact ⟨G, ι, _, sto, _, _, hR', hw, ⟨fun env st' G' ι' σ' H' p g r => ret .non env st' G' ι' σ' H' .non p g r .non, fun env st' G' ι' σ' H' p => False.elim p, fun env st' G' ι' σ' H' p => False.elim p, fun d env st' G' ι' σ' H' v p g r q => ret d env st' G' ι' σ' H' v p g r q⟩, exn⟩
/-- a promise told otherwise -/
theorem fn_imp {f : Addr} {fd : FuncData} {ps : List Str} {k n : Nat} {Cl : Str → Option Addr} {fr : Bool} {Phi Ψ : Spec} (F : FnOk P wd K mg base (L2.CX P wd) k f fd ps (spOf K Cl n fr Phi)) (h : ∀ ds st Q Qx, Ψ ds st Q Qx → Phi ds st Q Qx) : FnOk P wd K mg base (L2.CX P wd) k f fd ps (spOf K Cl n fr Ψ) :=
  F.imp fun vs H Q E ⟨hl, G, ι, ds, st, Pr, Px, h1, h2, h3, h4⟩ => ⟨hl, G, ι, ds, st, Pr, Px, h1, h2, h _ _ _ _ h3, h4⟩
end

/-! ### calls -/
section
variable {X : Cx} {C : Ctx} {lk : Lks} {pos p : Pos} {k n : Nat} {f : Addr} {fd : FuncData} {ps : List Str} {x : Str} {e : Expr} {es : List Expr} {wr : WA} {Phi : Spec}
def wCall (Phi : Spec) (wr : WA) : WE := fun env st Q Qx => wr env st (fun ds e s => Phi ds s (fun d s' => Q d e s') (fun x s' => Qx x e s')) Qx
theorem XRep.ofCall {E : XK} {fr : Bool} {G : Hp} {ι : List Addr} {env : EnvD} {st : Sto} {σ : L2.St} {H H' : Hp} {x : XD} {cls : Value} {d : Option Addr} (r : R C lk G ι env st σ H) (q : XRep (inCtx C.K.f C.K.Cl H ι E fr) x cls d H') : XRep C x cls d H' := by
  obtain ⟨A, h1, h2, h3⟩ := q
  refine ⟨A, h1, h2, ?_⟩
  obtain ⟨c, p⟩ := x
  cases p with
  | none => exact h3
  | some i =>
    obtain ⟨dx, h4, h5, h6⟩ := h3
    refine ⟨dx, h4, h5, ?_⟩
    cases q2 : C.F dx with
    | none => rfl
    | some u =>
      have hi : dx ∉ ι := fun z => by
        have := (r.sg dx z).2
        rw [q2] at this; cases this
      have h6 : hid H ι dx = none := h6
      rw [hid_out hi] at h6
      rcases r.fF dx u q2 with h | ⟨o, h⟩
      · rw [h6] at h; cases h
      · have h := (r.lkd _ _ _ h).1
        rw [h6] at h; cases h
theorem callLift {fr : Bool} {σ : L2.St} {H : Hp} {Q : VK} {env : EnvD} {st : Sto} {G : Hp} {ι : List Addr} {vs : List V} {ds : List D} {P : KE} {Px : KX} (hR : R C lk G ι env st σ H) (rp : Reps C.K G ι vs ds) (hn : vs.length = n)
    (h : Phi ds st (fun d s' => P d env s') (fun x s' => Px x env s')) (hX : XOk C lk G ι Px)
    (hQ : ∀ d st' G' ι' v H', P d env st' → Grow C G ι G' ι' → R C lk G' ι' env st' σ H' → RetV (inCtx C.K.f C.K.Cl H ι (fun cls d H => C.W cls d σ H) fr) G' ι' H' v d → Q v H') : spOf C.K.f C.K.Cl n fr Phi vs H Q (fun cls d H => C.W cls d σ H) := by
  refine ⟨hn, G, ι, ds, st, _, _, hR.toCall _ fr, rp, h, fun d st' G' ι' v H' p g r q => ?_, fun x st' G' ι' cls dd H' p g r q => ?_⟩
  · obtain ⟨r2, g2, _⟩ := hR.ofCall g r
    exact hQ d st' G' ι' v H' p g2 r2 q
  · obtain ⟨r2, g2, _⟩ := hR.ofCall g r
    exact hX x env st' G' ι' σ H' cls dd p g2 r2 (q.ofCall hR)
theorem retOwn {fr : Bool} {E : XK} {env : EnvD} {st : Sto} {G G' : Hp} {ι ι' : List Addr} {σ : L2.St} {H H' : Hp} {a : Addr} {d : D} (hR : R C lk G ι env st σ H) (pre : ι <+: ι') (o : OwnAt (inCtx C.K.f C.K.Cl H ι E fr) G' ι' H' a d) : OwnAt C G' ι' H' a d ∧ NoSlot env σ a := by
  obtain ⟨h1, h2, h3, h4⟩ := o
  have hi : a ∉ ι := fun z => h4 (by obtain ⟨t, rfl⟩ := pre; exact List.mem_append_left _ z)
  have hH : H a = none := by rw [← hid_out (H := H) hi]; exact h3
  refine ⟨⟨h1, h2, (hR.noG hH).2.1, h4⟩, fun i e q q2 => ?_⟩
  obtain ⟨v, e1, hs⟩ := hR.sl i _ q
  rw [q2] at e1; cases e1
  cases hs with
  | ow hs => obtain ⟨⟨z, z2, _⟩, _⟩ := hs; rw [hH] at z2; cases z2
theorem e_call (eK : X.K = C.K) (F : FnOk X.prog X.w X.K X.mg X.base (L2.CX X.prog X.w) k f fd ps (spOf C.K.f C.K.Cl n false Phi)) (hr : Room k X.A) (hg : Gl X x) (hm : X.mg x = some (.ref f)) (hk : PySem.W.keepIn X.K (.ref f) = true) (hb : Binds X.K fd ps []) (tk : Takes X C.W)
    (ha : PA X (e :: es) (liftA C lk n wr)) (hdb : (x == ("__debug__" : Str)) = false := by decide) (he : starEach (e :: es) X.env = (false, eval e X.env) :: starEach es X.env := by rfl) (hpl : (backTo pos (starEach es X.env)).any (·.1) = false := by rfl) :
    PE X (.Call (.Name x p) (e :: es) [] pos) (liftE C lk (wCall Phi wr)) := PEi (pe_callS F hr hg hm hk hb (fun σ => passAt tk σ) ha hdb he hpl) (by
  rintro σ H Q ⟨G, ι, env, st, P, Px, hR, hw, hQ, hX⟩
  refine ⟨G, ι, env, st, _, Px, hR, hw, fun ds e s G1 ι1 vs H1 p hn g1 R1 rp => ?_, hX⟩
  exact callLift R1 rp (rp.len.trans hn) p (hX.mono g1) fun d st' G' ι' v H' p2 g2 R2 q => hQ d e st' G' ι' v H' p2 (g1.trans g2) R2 q)
theorem f_call (eK : X.K = C.K) (F : FnOk X.prog X.w X.K X.mg X.base (L2.CX X.prog X.w) k f fd ps (spOf C.K.f C.K.Cl n true Phi)) (hr : Room k X.A) (hg : Gl X x) (hm : X.mg x = some (.ref f)) (hk : PySem.W.keepIn X.K (.ref f) = true) (hb : Binds X.K fd ps []) (tk : Takes X C.W)
    (ha : PA X (e :: es) (liftA C lk n wr)) (hdb : (x == ("__debug__" : Str)) = false := by decide) (he : starEach (e :: es) X.env = (false, eval e X.env) :: starEach es X.env := by rfl) (hpl : (backTo pos (starEach es X.env)).any (·.1) = false := by rfl) :
    PE X (.Call (.Name x p) (e :: es) [] pos) (liftF C lk (wCall Phi wr)) := PEi (pe_callS F hr hg hm hk hb (fun σ => passAt tk σ) ha hdb he hpl) (by
  rintro σ H Q ⟨G, ι, env, st, P, Px, hR, hw, hQ, hX⟩
  refine ⟨G, ι, env, st, _, Px, hR, hw, fun ds e s G1 ι1 vs H1 p hn g1 R1 rp => ?_, hX⟩
  refine callLift R1 rp (rp.len.trans hn) p (hX.mono g1) fun d st' G' ι' v H' p2 g2 R2 q => ?_
  obtain ⟨a, rfl, o⟩ := q
  obtain ⟨o2, n2⟩ := retOwn R1 g2.pre o
  exact hQ d e st' G' ι' a H' p2 (g1.trans g2) R2 o2 n2)
end
end VL

/-! The value layer: zip of a tuple and a list. -/
namespace VL
open PySem PySem.Spec PyProof.Rows L2

def ItzM (K : PySem.W.Frag) (a b : Addr) : It :=
  ⟨fun i H => ∃ (xs ys : List V) (x y : V), SqT K H a xs ∧ SqL K H b ys ∧ xs[i]? = some x ∧ ys[i]? = some y,
    fun i H v H' => ∃ T x y, v = .ref T ∧ H T = none ∧ H' = upd H T (.tup [x, y]) ∧ (∀ xs, SqT K H a xs → xs[i]? = some x) ∧ ∀ ys, SqL K H b ys → ys[i]? = some y,
    fun i H => ∃ xs ys : List V, SqT K H a xs ∧ SqL K H b ys ∧ i ≤ xs.length ∧ i ≤ ys.length ∧ (i = xs.length ∨ i = ys.length)⟩
theorem sepM {z TI TO i1 i2 a b : Addr} (D : ZipApart z TI TO i1 i2 a b) : ZipSep2 z TI TO i1 i2 [i1, a] [i2, b] where
  TIz := D.TIz
  TOz := D.TOz
  TITO := D.TITO
  TIi1 := D.TIi1
  mem1 := by simp
  zf1 := by simp; exact ⟨D.i1z.symm, D.l1z.symm⟩
  Tf1 := by simp; exact ⟨D.TOi1, D.l1TO.symm⟩
  TIi2 := D.TIi2
  mem2 := by simp
  zf2 := by simp; exact ⟨D.i2z.symm, D.l2z.symm⟩
  Tf2 := by simp; exact ⟨D.TOi2, D.l2TO.symm⟩
  sep1_2 := by simp; exact ⟨D.i12, D.l2i1.symm⟩
  sep2_1 := by simp; exact ⟨D.i12.symm, D.l1i2.symm⟩
theorem turn_zipM {P : Program} {w : World} {K : PySem.W.Frag} {elts : List Expr} {kk : Nat} {tpos : Pos} {a b z TI TO i1 i2 : Addr} (D : ZipApart z TI TO i1 i2 a b) :
    Turn P w K (.Tuple elts kk tpos) (ItzM K a b) [z, TI, TO, i1, i2] z (fun i h => IsZip h z TI TO .none ∧ IsPair h TI (.ref i1) (.ref i2) ∧ (∃ x y, IsPair h TO x y) ∧ h.IsTupleIter i1 a i ∧ h.IsListIter i2 b i) where
  mem := by simp
  obj := fun i h st c hc => by
    obtain ⟨hz, hTI, ⟨x, y, hTO⟩, ⟨o1, e1, _, d1⟩, ⟨o2, e2, _, d2⟩⟩ := st
    have e' : c = z ∨ c = TI ∨ c = TO ∨ c = i1 ∨ c = i2 := by simpa using hc
    rcases e' with q | q | q | q | q
    · rw [q]; exact ⟨_, hz, fun v q => nomatch q⟩
    · rw [q]; exact ⟨_, hTI, fun v q => nomatch q⟩
    · rw [q]; exact ⟨_, hTO, fun v q => nomatch q⟩
    · rw [q]; exact ⟨o1, e1, fun v q => by rw [d1] at q; cases q⟩
    · rw [q]; exact ⟨o2, e2, fun v q => by rw [d2] at q; cases q⟩
  keep := fun i h h' st k => by
    obtain ⟨hz, hTI, ⟨x, y, hTO⟩, h1, h2⟩ := st
    exact ⟨k z (by simp) _ hz, k TI (by simp) _ hTI, ⟨x, y, k TO (by simp) _ hTO⟩, h1.at fun o q => k i1 (by simp) o q, h2.at fun o q => k i2 (by simp) o q⟩
  item := by
    intro X hP hw hK hc i pins s σ H E I hf st hg
    subst hP hw hK
    obtain ⟨hz, hTI, ⟨x0, y0, hTO⟩, h1, h2⟩ := st
    obtain ⟨xs, ys, x, y, hqx, hqy, hx, hy⟩ := hg
    obtain ⟨its, rv, p, _⟩ := I.tuple hqx
    obtain ⟨its2, rv2, p2, _⟩ := I.list hqy
    obtain ⟨u, hu, ru⟩ := rv.get hx
    obtain ⟨u2, hu2, ru2⟩ := rv2.get hy
    have hzl : z < s.heap.objs.size := Heap.lt_size hz
    have D1 := Draws.tuple (prog := X.prog) (w := X.w) (A := X.A.in1) (show X.A.in1.handled = none from I.ok.hd hc) i1 a D.l1i1 its.toArray
    have D2 := Draws.list (prog := X.prog) (w := X.w) (A := X.A.in1) (show X.A.in1.handled = none from I.ok.hd hc) i2 b D.l2i2 its2.toArray
    refine wpAny_pyNext_zipD2_item (sepM D) D1 D2 hz hTI hTO ⟨h1, p⟩ ⟨h2, p2.isList⟩ (by rw [List.size_toArray]; exact (List.getElem?_eq_some_iff.mp hu).1) (by rw [List.size_toArray]; exact (List.getElem?_eq_some_iff.mp hu2).1) fun x1 x2 h' tk q1 q2 z' TO' s1 s2 hT hsz hk => ?_
    have e1 : x1 = u := by
      have : its.toArray[i]? = some x1 := q1
      rw [List.getElem?_toArray, hu] at this
      exact (Option.some.inj this).symm
    have e2 : x2 = u2 := by
      have : its2.toArray[i]? = some x2 := q2
      rw [List.getElem?_toArray, hu2] at this
      exact (Option.some.inj this).symm
    subst e1 e2
    refine ⟨_, rfl, wpAny_letOwnedTupleGo_zip (s := { s with heap := h', toks := tk }) z' fun h'' z'' sb => ?_⟩
    have hT2 : h''.get? s.heap.objs.size = some { cls := .type "tuple", data := .seq #[x1, x2] } := (sb.2 _ (Nat.ne_of_gt hzl)).trans hT
    have new : ObjOk X.prog X.w (upd H s.heap.objs.size (.tup [x, y])) h'' s.heap.objs.size (.tup [x, y]) :=
      ⟨by show 2 ≤ sizeLine; decide, [x1, x2], .cons ru (.cons ru2 .nil), ⟨_, hT2, rfl, _, rfl⟩⟩
    have I1 : Inv X pins σ (upd H s.heap.objs.size (.tup [x, y])) { s with heap := h'', toks := tk } :=
      I.turnedNew (t' := tk) (ch := [z, TI, TO, i1, i2]) (fun c o hb q => (sb.2 c (fun q' => hb (by simp [q']))).trans (hk c o (fun q' => hb (by simp [q'])) (fun q' => hb (by simp [q'])) (fun q' => hb (by simp [q'])) (fun q' => hb (by simp [q'])) q)) hf (Nat.le_refl _) new
    refine ⟨.ref s.heap.objs.size, _, I1, rfl, ⟨_, x, y, rfl, I.hok.fresh (Nat.le_refl _), rfl, fun l hl => by rw [I.tuple_inj hl hqx]; exact hx, fun l hl => by rw [I.list_inj hl hqy]; exact hy⟩, ⟨z'', ?_, ⟨x1, x2, ?_⟩, ?_, ?_⟩, fun c hcm => ?_⟩
    · exact (sb.2 _ D.TIz).trans (hk _ _ D.TIz D.TITO D.TIi1 D.TIi2 hTI)
    · exact (sb.2 _ D.TOz).trans TO'
    · exact s1.1.at fun o q => (sb.2 _ D.i1z).trans q
    · exact s2.1.at fun o q => (sb.2 _ D.i2z).trans q
    · have hlt : c < s.heap.objs.size := by
        have e' : c = z ∨ c = TI ∨ c = TO ∨ c = i1 ∨ c = i2 := by simpa using hcm
        rcases e' with q | q | q | q | q
        · rw [q]; exact hzl
        · rw [q]; exact Heap.lt_size hTI
        · rw [q]; exact Heap.lt_size hTO
        · rw [q]; obtain ⟨_, e1, _⟩ := h1; exact Heap.lt_size e1
        · rw [q]; obtain ⟨_, e2, _⟩ := h2; exact Heap.lt_size e2
      rw [upd_ne (Nat.ne_of_lt hlt)]
      exact (hf c hcm).1
  done := by
    intro X hP hw hK hc i pins s σ H E I hf st hg
    subst hP hw hK
    obtain ⟨hz, hTI, ⟨x0, y0, hTO⟩, h1, h2⟩ := st
    obtain ⟨xs, ys, hqx, hqy, le1, le2, hend⟩ := hg
    obtain ⟨its, rv, p, _⟩ := I.tuple hqx
    obtain ⟨its2, rv2, p2, _⟩ := I.list hqy
    have l1 := rv.length
    have l2 := rv2.length
    have D1 := Draws.tuple (prog := X.prog) (w := X.w) (A := X.A.in1) (show X.A.in1.handled = none from I.ok.hd hc) i1 a D.l1i1 its.toArray
    have D2 := Draws.list (prog := X.prog) (w := X.w) (A := X.A.in1) (show X.A.in1.handled = none from I.ok.hd hc) i2 b D.l2i2 its2.toArray
    exact wpAny_pyNext_zipD2_end (sepM D) D1 D2 hz hTI hTO ⟨h1, p⟩ ⟨h2, p2.isList⟩ (by rw [List.size_toArray]; omega) (by rw [List.size_toArray]; omega) (by rw [List.size_toArray, List.size_toArray]; omega) fun h' tk hk => ⟨rfl, I.turnedL (t' := tk) (ch := [z, TI, TO, i1, i2]) (fun c o hb q =>
      hk c o (fun q' => hb (by simp [q'])) (fun q' => hb (by simp [q'])) (fun q' => hb (by simp [q'])) (fun q' => hb (by simp [q'])) q) hf⟩
  self := fun A i s Q E st h => wpAny_pyIter_zip st.1 h

/-! ### it is made -/
abbrev zmH1 (h : Heap) (l1 : Addr) : Heap := h.push { cls := .type "tuple_iterator", data := .fields #[.ref l1, .int 0 0] }
abbrev zmH2 (h : Heap) (l1 l2 : Addr) : Heap := (zmH1 h l1).push { cls := .type "list_iterator", data := .fields #[.ref l2, .int 0 0] }
abbrev zmH3 (h : Heap) (l1 l2 : Addr) : Heap := (zmH2 h l1 l2).push { cls := .type "tuple", data := .seq #[.ref h.objs.size, .ref (zmH1 h l1).objs.size] }
abbrev zmH4 (h : Heap) (l1 l2 : Addr) : Heap := (zmH3 h l1 l2).push { cls := .type "tuple", data := .seq #[.none, .none] }
abbrev zmH5 (h : Heap) (l1 l2 : Addr) : Heap := (zmH4 h l1 l2).push { cls := .type "zip", data := .fields #[.none, .bool false, .bool false, .ref (zmH2 h l1 l2).objs.size, .ref (zmH3 h l1 l2).objs.size] }
theorem meets_zipM (l1 l2 : Addr) (xs ys : Array Value) :
    Meets (Builtin.«zip.__new__» ⟨[.type "zip", .ref l1, .ref l2], []⟩) (fun _ Rk s => s.heap.IsTuple l1 xs ∧ s.heap.IsList l2 ys ∧
      Rk (.ok (.ret (.ref (zmH4 s.heap l1 l2).objs.size))) { s with heap := zmH5 s.heap l1 l2 }) :=
  .of_wp fun prog w A Rk s h => by
    obtain ⟨hp, g, d, tk, os⟩ := s; obtain ⟨hl1, hl2, h⟩ := h
    have hsub := sub_zip
    have hL1 : Heap.IsTuple (Shared.heap ⟨hp, g, d, tk, os⟩) l1 xs := hl1
    have hL2 : Heap.IsList (Shared.heap ⟨hp.push { cls := .type "tuple_iterator", data := .fields #[.ref l1, .int 0 0] }, g, d, tk, os⟩) l2 ys := Heap.IsList.push hl2 _
    wp_walk using wpAny_pyIter_tuple hL1, wpAny_pyIter_list hL2
    exact ⟨_, rfl, h⟩
theorem call_zipM {prog : Program} {w : World} {A : Around} {E : Value → Shared → Prop} {s : Shared} {l1 l2 : Addr} {xs ys : Array Value} {Q : Value → Shared → Prop} (hl1 : s.heap.IsTuple l1 xs) (hl2 : s.heap.IsList l2 ys)
    (h : ∀ h', IsZip h' (s.heap.objs.size + 4) (s.heap.objs.size + 2) (s.heap.objs.size + 3) .none → IsPair h' (s.heap.objs.size + 2) (.ref s.heap.objs.size) (.ref (s.heap.objs.size + 1)) →
      IsPair h' (s.heap.objs.size + 3) .none .none → h'.IsTupleIter s.heap.objs.size l1 0 → h'.IsListIter (s.heap.objs.size + 1) l2 0 → h'.objs.size = s.heap.objs.size + 5 →
      (∀ c o, s.heap.get? c = some o → h'.get? c = some o) → Q (.ref (s.heap.objs.size + 4)) { s with heap := h' }) :
    wpAny (model prog w) A (call (.type "zip") [.ref l1, .ref l2]) Q E s := by
  refine callType_new F.called_zip (by decide) (F.typeCall_zip_2 _ _) (F.newCall_zip_2 _ _) (fun obj => F.args_object_init_3 obj _ _) F.entry_zip_new
    (meets_zipM l1 l2 xs ys) ⟨hl1, hl2, ?_⟩
  have z1 : (zmH1 s.heap l1).objs.size = s.heap.objs.size + 1 := Heap.size_push ..
  have z2 : (zmH2 s.heap l1 l2).objs.size = s.heap.objs.size + 2 := by rw [Heap.size_push, z1]
  have z3 : (zmH3 s.heap l1 l2).objs.size = s.heap.objs.size + 3 := by rw [Heap.size_push, z2]
  have z4 : (zmH4 s.heap l1 l2).objs.size = s.heap.objs.size + 4 := by rw [Heap.size_push, z3]
  have z5 : (zmH5 s.heap l1 l2).objs.size = s.heap.objs.size + 5 := by rw [Heap.size_push, z4]
  have g5 : (zmH5 s.heap l1 l2).get? (zmH4 s.heap l1 l2).objs.size = some _ := Heap.get?_push_size _ rfl
  have g4 : (zmH5 s.heap l1 l2).get? (zmH3 s.heap l1 l2).objs.size = some _ := Heap.get?_push_of_some _ (Heap.get?_push_size _ rfl)
  have g3 : (zmH5 s.heap l1 l2).get? (zmH2 s.heap l1 l2).objs.size = some _ := Heap.get?_push_of_some _ (Heap.get?_push_of_some _ (Heap.get?_push_size _ rfl))
  have g2 : (zmH5 s.heap l1 l2).get? (zmH1 s.heap l1).objs.size = some _ := Heap.get?_push_of_some _ (Heap.get?_push_of_some _ (Heap.get?_push_of_some _ (Heap.get?_push_size _ rfl)))
  have g1 : (zmH5 s.heap l1 l2).get? s.heap.objs.size = some _ := Heap.get?_push_of_some _ (Heap.get?_push_of_some _ (Heap.get?_push_of_some _ (Heap.get?_push_of_some _ (Heap.get?_push_size _ rfl))))
  show _ ∧ _
  rw [z2, z3, z4] at g5
  rw [z1, z2] at g3
  rw [z3] at g4
  rw [z1] at g2
  rw [z4]
  exact ⟨⟨_, g5, rfl⟩, h _ g5 g3 g4 ⟨_, g1, rfl, rfl⟩ ⟨_, g2, rfl, rfl⟩ z5 fun c o x =>
    Heap.get?_push_of_some _ (Heap.get?_push_of_some _ (Heap.get?_push_of_some _ (Heap.get?_push_of_some _ (Heap.get?_push_of_some _ x))))⟩
/-- lists, tuples, or a tuple and a list -/
def iZip3 (K : PySem.W.Frag) (ta : TA) : TI := fun σ H Rk => ta σ H fun vs H1 => ∃ a b xs ys, vs = [.ref a, .ref b] ∧ ((SqL K H1 a xs ∧ SqL K H1 b ys ∧ Rk (Itz K a b) H1) ∨ (SqT K H1 a xs ∧ SqT K H1 b ys ∧ Rk (RZ.ItzT K a b) H1) ∨ (SqT K H1 a xs ∧ SqL K H1 b ys ∧ Rk (ItzM K a b) H1))
theorem pi_zip3 {X : Cx} {e e2 : Expr} {ta : TA} {p pos tpos : Pos} {elts : List Expr} {kk : Nat} (hg : Gl X "zip") (hm : X.mg "zip" = none) (ha : PA X [e, e2] ta)
    (hs : starEach [e, e2] X.env = (false, eval e X.env) :: starEach [e2] X.env := by rfl) (hpl : (backTo pos (starEach [e2] X.env)).any (·.1) = false := by rfl) :
    PI X (.Tuple elts kk tpos) (.Call (.Name "zip" p) [e, e2] [] pos) (iZip3 X.K ta) := by
  refine ⟨fun pins s σ H Rk I h => ?_⟩
  refine Call_ (ld_blt I hg hm PyProof.Rows.boot_zip (PyProof.Rows.callWith_type1 (thn (ha.run pos pins s σ H _ I h) fun us s1 ⟨vs, H1, I1, r1, q1⟩ => ?_) hs hpl))
  obtain ⟨a, b, xs, ys, ex, q1⟩ := q1
  subst ex
  cases r1 with
  | cons r rr =>
    cases rr with
    | cons r' rr =>
      cases rr
      cases r
      cases r'
      have fresh5 : ∀ c, c ∈ [s1.heap.objs.size + 4, s1.heap.objs.size + 2, s1.heap.objs.size + 3, s1.heap.objs.size, s1.heap.objs.size + 1] → FpOk X pins H1 c := fun c hcm => by
        have e' : c = s1.heap.objs.size + 4 ∨ c = s1.heap.objs.size + 2 ∨ c = s1.heap.objs.size + 3 ∨ c = s1.heap.objs.size ∨ c = s1.heap.objs.size + 1 := by simpa using hcm
        have hle : s1.heap.objs.size ≤ c := by
          rcases e' with z | z | z | z | z
          · rw [z]; exact Nat.le_add_right _ _
          · rw [z]; exact Nat.le_add_right _ _
          · rw [z]; exact Nat.le_add_right _ _
          · rw [z]; exact Nat.le_refl _
          · rw [z]; exact Nat.le_add_right _ _
        exact I1.fpOk hle (I1.hok.fresh hle)
      rcases q1 with ⟨hqx, hqy, q⟩ | ⟨hqx, hqy, q⟩ | ⟨hqx, hqy, q⟩
      · obtain ⟨its, rv, p1, _⟩ := I1.list hqx
        obtain ⟨its2, rv2, p2, _⟩ := I1.list hqy
        refine call_zip_2 p1.isList p2.isList fun h' hz hTI hTO h1 h2 hsz hk => wpAny_pyIter_zip hz ?_
        have I2 : Inv X pins σ H1 { s1 with heap := h' } := I1.kept (t' := s1.toks) hk
        exact ⟨s1.heap.objs.size + 4, [s1.heap.objs.size + 4, s1.heap.objs.size + 2, s1.heap.objs.size + 3, s1.heap.objs.size, s1.heap.objs.size + 1], _, _, H1, rfl, I2, turn_zip (PySem.W.ktu_apart s1.heap.objs.size a b p1.lt p2.lt), ⟨hz, hTI, ⟨_, _, hTO⟩, h1, h2⟩, fresh5, q⟩
      · obtain ⟨its, rv, p1, _⟩ := I1.tuple hqx
        obtain ⟨its2, rv2, p2, _⟩ := I1.tuple hqy
        obtain ⟨o1, ho1, _⟩ := id p1
        obtain ⟨o2, ho2, _⟩ := id p2
        refine RZ.call_zipT (show s1.heap.IsTuple a its.toArray from p1) (show s1.heap.IsTuple b its2.toArray from p2) fun h' hz hTI hTO h1 h2 hsz hk => wpAny_pyIter_zip hz ?_
        have I2 : Inv X pins σ H1 { s1 with heap := h' } := I1.kept (t' := s1.toks) hk
        exact ⟨s1.heap.objs.size + 4, [s1.heap.objs.size + 4, s1.heap.objs.size + 2, s1.heap.objs.size + 3, s1.heap.objs.size, s1.heap.objs.size + 1], _, _, H1, rfl, I2, RZ.turn_zipT (PySem.W.ktu_apart s1.heap.objs.size a b (Heap.lt_size ho1) (Heap.lt_size ho2)), ⟨hz, hTI, ⟨_, _, hTO⟩, h1, h2⟩, fresh5, q⟩
      · obtain ⟨its, rv, p1, _⟩ := I1.tuple hqx
        obtain ⟨its2, rv2, p2, _⟩ := I1.list hqy
        obtain ⟨o1, ho1, _⟩ := id p1
        refine call_zipM (show s1.heap.IsTuple a its.toArray from p1) p2.isList fun h' hz hTI hTO h1 h2 hsz hk => wpAny_pyIter_zip hz ?_
        have I2 : Inv X pins σ H1 { s1 with heap := h' } := I1.kept (t' := s1.toks) hk
        exact ⟨s1.heap.objs.size + 4, [s1.heap.objs.size + 4, s1.heap.objs.size + 2, s1.heap.objs.size + 3, s1.heap.objs.size, s1.heap.objs.size + 1], _, _, H1, rfl, I2, turn_zipM (PySem.W.ktu_apart s1.heap.objs.size a b (Heap.lt_size ho1) p2.lt), ⟨hz, hTI, ⟨_, _, hTO⟩, h1, h2⟩, fresh5, q⟩
end VL

/-! The value layer: what is walked; comprehensions. -/
namespace VL
open PySem PySem.Spec PyProof.Rows L2

/-! ### iterables -/
def signs (s : Str) : List D := s.cps.toList.map fun c => D.str ⟨#[c]⟩
def itemsOf : D → (List D → Prop) → Prop
  | .lst ds, P => P ds
  | .tup ds, P => P ds
  | .scr ns, P => P (ns.map .int)
  | .str s, P => P (signs s)
  | _, _ => False
def wIt (w : WE) : WI := fun env st Q Qx => w env st (fun d e s => itemsOf d fun ds => Q ds e s) Qx
def iAny (K : PySem.W.Frag) (te : TE) : TI := fun σ H R => te σ H fun v H1 => (∃ a, v = .ref a ∧ (∃ xs, SqL K H1 a xs) ∧ R (Itl K a) H1) ∨ (∃ a, v = .ref a ∧ (∃ xs, SqT K H1 a xs) ∧ R (Itt K a) H1) ∨ ∃ x, v = .str x ∧ R (Its x) H1
theorem pi_any {X : Cx} {tg e : Expr} {te : TE} (he : PE X e te) : PI X tg e (iAny X.K te) := by
  refine ⟨fun pins s σ H R I h => ?_⟩
  refine thn (he.run pins s σ H _ I h) fun v s1 ⟨y, H1, I1, r1, q⟩ => ?_
  rcases q with ⟨a, rfl, ⟨xs, hq⟩, q⟩ | ⟨a, rfl, ⟨xs, hq⟩, q⟩ | ⟨x, rfl, q⟩
  · cases r1
    obtain ⟨its, rv, p, hz⟩ := I1.list hq
    refine wpAny_pyIter_list p.isList ?_
    refine ⟨s1.heap.objs.size, [s1.heap.objs.size], _, _, H1, rfl, I1.kept (t' := s1.toks) fun b o e => Heap.get?_push_of_some _ e, turn_list a _, ⟨_, Heap.get?_push_size _ rfl, rfl, rfl⟩, fun b hb => ?_, q⟩
    have e : b = s1.heap.objs.size := by simpa using hb
    subst e
    exact I1.fpOk (Nat.le_refl _) (I1.hok.fresh (Nat.le_refl _))
  · cases r1
    obtain ⟨its, rv, p, hz⟩ := I1.tuple hq
    refine wpAny_pyIter_tuple (show s1.heap.IsTuple a its.toArray from p) ?_
    refine ⟨s1.heap.objs.size, [s1.heap.objs.size], _, _, H1, rfl, I1.kept (t' := s1.toks) fun b o e => Heap.get?_push_of_some _ e, turn_tuple a _, ⟨_, Heap.get?_push_size _ rfl, rfl, rfl⟩, fun b hb => ?_, q⟩
    have e : b = s1.heap.objs.size := by simpa using hb
    subst e
    exact I1.fpOk (Nat.le_refl _) (I1.hok.fresh (Nat.le_refl _))
  · obtain ⟨t, rfl⟩ := r1
    cases ha : x.cps.all (· < 128)
    · exact wpAny_pyIter_wide ha (pi_one (tk := s1.toks) I1 _ (turn_str _ x t "str_iterator" (.inr rfl)) ⟨_, Heap.get?_push_size _ rfl, rfl, rfl⟩ q)
    · exact wpAny_pyIter_ascii ha (pi_one (tk := s1.toks) I1 _ (turn_str _ x t "str_ascii_iterator" (.inl rfl)) ⟨_, Heap.get?_push_size _ rfl, rfl, rfl⟩ q)
section
variable {X : Cx} {C : Ctx} {lk : Lks} {pos p : Pos} {e e2 tg : Expr} {we : WE}
theorem it_at {G : Hp} {ι : List Addr} {J : It} {xs : List V} {ds : List D} {Gd : Hp → Prop} (w : Walk J xs.length Gd (YAt xs)) (r : Reps C.K G ι xs ds)
    (hG : ∀ G' ι' env st σ H, Grow C G ι G' ι' → R C lk G' ι' env st σ H → Gd H) : ItOk C lk G ι J ds := by
  refine ⟨Gd, YAt xs, by rw [← r.len]; exact w, hG, fun i G' ι' env st σ H x H' hi g hR y => ?_⟩
  obtain ⟨rfl, y⟩ := y
  obtain ⟨d, hd, rp⟩ := r.getR y
  exact ⟨G', .refl, hR, ⟨d, hd, rp.grow g⟩, Sub.refl _, fun _ _ h => .inl h⟩
theorem i_val (eK : X.K = C.K) (he : PE X e (liftE C lk we)) : PI X tg e (liftI C lk (wIt we)) := PIi (pi_any he) (by
  rintro σ H Rk ⟨G, ι, env, st, P, Px, hR, hw, hQ, hX⟩
  refine ⟨G, ι, env, st, _, Px, hR, hw, fun d e s G' ι' v H' p g r rp => ?_, hX⟩
  cases d with
  | lst ds =>
    cases rp with
    | obj h q => cases q with
      | lst q =>
        refine .inl ⟨_, rfl, ⟨_, .of (fGl r h fun z => z)⟩, hQ ds e s G' ι' _ H' p g r (it_at walk_list q fun G2 ι2 env2 st2 σ2 H2 g2 r2 => ?_)⟩
        exact .of (fGl r2 (g2.sub _ _ h) fun z => z)
  | tup ds =>
    cases rp with
    | obj h q => cases q with
      | tup q =>
        refine .inr (.inl ⟨_, rfl, ⟨_, .of (fGl r h fun z => z)⟩, hQ ds e s G' ι' _ H' p g r (it_at walk_tup q fun G2 ι2 env2 st2 σ2 H2 g2 r2 => ?_)⟩)
        exact .of (fGl r2 (g2.sub _ _ h) fun z => z)
  | scr ns =>
    have sq : ∀ {G2 ι2 env2 st2 σ2 H2}, R C lk G2 ι2 env2 st2 σ2 H2 → Grow C G' ι' G2 ι2 → ∀ {a}, Rep C.K G' ι' (.ref a) (.scr ns) → SqL X.K H2 a (ns.map V.int) := fun {G2 ι2 env2 st2 σ2 H2} r2 g2 {a} rp => by
      obtain ⟨b, hb, h⟩ := Bor.scr r2 (.inl (rp.grow g2))
      cases hb
      rw [eK]; exact h
    cases rp with
    | obj _ q => cases q
    | @scr a _ h =>
      refine .inl ⟨a, rfl, ⟨_, sq r .refl (.scr h)⟩, hQ _ e s G' ι' _ H' p g r (it_at walk_list (Reps.ofInts ns) fun G2 ι2 env2 st2 σ2 H2 g2 r2 => sq r2 g2 (.scr h))⟩
  | str z =>
    cases rp with
    | obj _ q => cases q
    | str =>
      refine .inr (.inr ⟨z, rfl, hQ _ e s G' ι' _ H' p g r ⟨fun _ => True, _, by unfold signs; rw [List.length_map, Array.length_toList]; exact walk_str, fun _ _ _ _ _ _ _ _ => True.intro, fun i G2 ι2 env2 st2 σ2 H2 x H3 hi g2 r2 y => ?_⟩⟩)
      obtain ⟨rfl, c, hc, rfl⟩ := y
      exact ⟨G2, .refl, r2, ⟨.str ⟨#[c]⟩, by unfold signs; rw [List.getElem?_map, Array.getElem?_toList, hc]; rfl, .str⟩, Sub.refl _, fun _ _ h => .inl h⟩
  | _ => exact p.elim)
/-! ### ranges -/
def rangeD (lo : Int) (n : Nat) : List D := (List.range n).map fun (i : Nat) => D.int (lo + (i : Int))
def downD (lo : Int) (n : Nat) : List D := (List.range n).map fun (i : Nat) => D.int (lo - (i : Int))
def rng1 (ds : List D) (P : List D → Prop) : Prop := match ds with
  | [.int j] => (-(2 ^ 62) ≤ j ∧ j < 2 ^ 62) ∧ P (rangeD 0 j.toNat)
  | _ => False
def rng2 (ds : List D) (P : List D → Prop) : Prop := match ds with
  | [.int i, .int j] => P (rangeD i (j - i).toNat)
  | _ => False
def rng3 (ds : List D) (P : List D → Prop) : Prop := match ds with
  | [.int i, .int j, .int (-1)] => (-(2 ^ 62) ≤ i ∧ i < 2 ^ 62 ∧ -(2 ^ 62) ≤ j ∧ j < 2 ^ 62) ∧ P (downD i (i - j).toNat)
  | _ => False
def wIa (f : List D → (List D → Prop) → Prop) (w : WA) : WI := fun env st Q Qx => w env st (fun ds e s => f ds fun it => Q it e s) Qx
variable {es : List Expr} {wr : WA} {na : Nat}
theorem itRange {G : Hp} {ι : List Addr} {lo : Int} {n : Nat} : ItOk C lk G ι (Itr lo n) (rangeD lo n) :=
  ⟨fun _ => True, _, by unfold rangeD; rw [List.length_map, List.length_range]; exact walk_range, fun _ _ _ _ _ _ _ _ => True.intro, fun i G2 ι2 env2 st2 σ2 H2 x H3 hi g2 r2 y => by
    obtain ⟨rfl, rfl⟩ := y
    unfold rangeD at hi
    rw [List.length_map, List.length_range] at hi
    exact ⟨G2, .refl, r2, ⟨.int (lo + i), by unfold rangeD; rw [List.getElem?_map, List.getElem?_range hi]; rfl, .int⟩, Sub.refl _, fun _ _ h => .inl h⟩⟩
theorem itDown {G : Hp} {ι : List Addr} {lo : Int} {n : Nat} : ItOk C lk G ι (Itc lo (-1) n) (downD lo n) :=
  ⟨fun _ => True, _, by unfold downD; rw [List.length_map, List.length_range]; exact walk_rangeC, fun _ _ _ _ _ _ _ _ => True.intro, fun i G2 ι2 env2 st2 σ2 H2 x H3 hi g2 r2 y => by
    obtain ⟨rfl, rfl⟩ := y
    unfold downD at hi
    rw [List.length_map, List.length_range] at hi
    refine ⟨G2, .refl, r2, ⟨.int (lo + i * (-1)), ?_, .int⟩, Sub.refl _, fun _ _ h => .inl h⟩
    unfold downD
    rw [List.getElem?_map, List.getElem?_range hi]
    show some (D.int (lo - i)) = some (D.int (lo + i * (-1)))
    congr 2
    omega⟩
theorem rep_int {K : KC} {G : Hp} {ι : List Addr} {v : V} {i : Int} (h : Rep K G ι v (.int i)) : v = .int i := by
  cases h with
  | int => rfl
  | obj _ q => cases q
theorem i_range1 {a : Expr} (hg : Gl X "range") (hm : X.mg "range" = none) (ha : PA X [a] (liftA C lk na wr)) (hs : starEach [a] X.env = [(false, eval a X.env)] := by rfl) : PI X tg (.Call (.Name "range" p) [a] [] pos) (liftI C lk (wIa rng1 wr)) := PIi (pi_range1 hg hm ha hs) (by
  rintro σ H Rk ⟨G, ι, env, st, P, Px, hR, hw, hQ, hX⟩
  refine ⟨G, ι, env, st, _, Px, hR, hw, fun ds e s G' ι' vs H' p _ g r rp => ?_, hX⟩
  unfold rng1 at p
  split at p
  · cases rp with
    | cons r1 rr =>
      cases rr
      rw [rep_int r1]
      exact ⟨_, rfl, p.1.1, p.1.2, hQ _ e s G' ι' _ H' p.2 g r itRange⟩
  · exact p.elim)
/-! a range of any two ints -/
theorem turn_long {P : Program} {w : World} {K : PySem.W.Frag} {tg : Expr} (it : Addr) (lo : Int) (n : Nat) : Turn P w K tg (Itr lo n) [it] it (fun i h => IsLongIter h it (lo + (i : Nat) * 1) ((n : Int) - (i : Nat)) 1) where
  mem := by simp
  obj := fun i h st b hb => by
    have e : b = it := by simpa using hb
    subst e
    exact ⟨_, st, fun v z => by
      have z' : Data.fields _ = Data.cell v := z
      cases z'⟩
  keep := fun i h h' st k => k it (by simp) _ st
  item := by
    intro X hP hw hK hc i pins s σ H E I hf st hg
    subst hP hw hK
    obtain ⟨f0, f1, f2, f3, f4, f5⟩ := hf it (by simp)
    have W := Walks.longrange (prog := X.prog) (w := X.w) (I.ok.hd hc) it lo 1 n
    refine W.item i s _ _ hg st fun v h' tk hv st' kk => ?_
    obtain ⟨t, rfl⟩ := hv
    have I1 : Inv X pins σ H { s with heap := h', toks := tk } := I.turned (fun b o hb e => kk b o (by simpa using hb) e) f0 f1 f3 f4 f5
    refine ⟨_, rfl, go_of (s := { s with heap := h', toks := tk }) (n := "longrange_iterator") st' rfl rfl (by decide) ⟨.int (lo + i), H, I1, ⟨t, ?_⟩, ⟨rfl, rfl⟩, st', fun b hb => (hf b hb).1⟩⟩
    rw [Int.mul_one]
  done := by
    intro X hP hw hK hc i pins s σ H E I hf st hg
    subst hP hw hK
    obtain ⟨f0, f1, f2, f3, f4, f5⟩ := hf it (by simp)
    exact wpAny_pyNext_long_end (I.ok.hd hc) st (by have : n ≤ i := hg; omega) fun h' eb => ⟨rfl, I.turned (t' := s.toks) (fun b o hb e => eb b o hb e) f0 f1 f3 f4 f5⟩
  self := fun _ _ _ _ _ st h => wpAny_pyIter_longiter st h
theorem range_any {X : Cx} {tg : Expr} {pins : List (Addr × Obj)} {σ : L2.St} {H : Hp} {s : Shared} {Rk : It → Hp → Prop} {E : Value → Shared → Prop} {lo hi : Int} {t u v : Tok} {tk : Nat} (I : Inv X pins σ H s)
    (q : Rk (Itr lo (hi - lo).toNat) H) : wpAny (model X.prog X.w) X.A (pyIter (.ref s.heap.objs.size)) (PIE X pins σ tg Rk) E { s with heap := s.heap.push { cls := .type "range", data := .fields #[.int lo t, .int hi u, .int 1 v] }, toks := tk } := by
  have I1 : Inv X pins σ H { s with heap := s.heap.push { cls := .type "range", data := .fields #[.int lo t, .int hi u, .int 1 v] }, toks := tk } := I.kept fun b o e => Heap.get?_push_of_some _ e
  have e1 : lo + ((0 : Nat) : Int) * 1 = lo := by simp
  have e2 : (((hi - lo).toNat : Nat) : Int) - ((0 : Nat) : Int) = Builtin.Range.rangeSize lo hi 1 := by rw [rangeSize_one]; split <;> omega
  cases hs : Builtin.Range.small lo hi 1 with
  | true =>
    refine wpAny_pyIter_range (IsRange.new ..) hs ?_
    refine ⟨(s.heap.push { cls := .type "range", data := .fields #[.int lo t, .int hi u, .int 1 v] }).objs.size, [(s.heap.push { cls := .type "range", data := .fields #[.int lo t, .int hi u, .int 1 v] }).objs.size], _, _, H, rfl,
      I1.kept (t' := tk) fun b o e => Heap.get?_push_of_some _ e, turn_range _ lo (hi - lo).toNat, ?_, fun b hb => ?_, q⟩
    · show IsRangeIter _ _ (lo + ((0 : Nat) : Int) * 1) ((((hi - lo).toNat : Nat) : Int) - ((0 : Nat) : Int)) 1
      rw [e1, e2]
      exact Heap.get?_push_size _ rfl
    · have e : b = (s.heap.push { cls := .type "range", data := .fields #[.int lo t, .int hi u, .int 1 v] }).objs.size := by simpa using hb
      subst e
      exact I1.fpOk (Nat.le_refl _) (I1.hok.fresh (Nat.le_refl _))
  | false =>
    refine wpAny_pyIter_longrange (IsRange.new ..) hs ?_
    refine ⟨(s.heap.push { cls := .type "range", data := .fields #[.int lo t, .int hi u, .int 1 v] }).objs.size, [(s.heap.push { cls := .type "range", data := .fields #[.int lo t, .int hi u, .int 1 v] }).objs.size], _, _, H, rfl,
      I1.kept (t' := tk) fun b o e => Heap.get?_push_of_some _ e, turn_long _ lo (hi - lo).toNat, ?_, fun b hb => ?_, q⟩
    · show IsLongIter _ _ (lo + ((0 : Nat) : Int) * 1) ((((hi - lo).toNat : Nat) : Int) - ((0 : Nat) : Int)) 1
      rw [e1, e2]
      exact Heap.get?_push_size _ rfl
    · have e : b = (s.heap.push { cls := .type "range", data := .fields #[.int lo t, .int hi u, .int 1 v] }).objs.size := by simpa using hb
      subst e
      exact I1.fpOk (Nat.le_refl _) (I1.hok.fresh (Nat.le_refl _))
def iRngA (ta : TA) : TI := fun σ H Rk => ta σ H fun vs H1 => ∃ i j : Int, vs = [.int i, .int j] ∧ Rk (Itr i (j - i).toNat) H1
theorem pi_rangeA {X : Cx} {tg a b : Expr} {ta : TA} {p pos : Pos} (hg : Gl X "range") (hm : X.mg "range" = none) (ha : PA X [a, b] ta) (hs : starEach [a, b] X.env = [(false, eval a X.env), (false, eval b X.env)] := by rfl) (hs2 : starEach [b] X.env = [(false, eval b X.env)] := by rfl) :
    PI X tg (.Call (.Name "range" p) [a, b] [] pos) (iRngA ta) := by
  refine ⟨fun pins s σ H Rk I h => ?_⟩
  refine Call_ (ld_blt I hg hm boot_range (PyProof.Rows.callWith_type1 (thn (ha.run pos pins s σ H _ I h) fun us s1 ⟨vs, H1, I1, r1, q1⟩ => ?_) (by rw [hs, hs2]) (by rw [hs2]; rfl)))
  obtain ⟨i, j, e, q⟩ := q1
  subst e
  cases r1 with
  | cons r rr =>
    cases rr with
    | cons r' rr =>
      cases rr
      obtain ⟨t, rfl⟩ := r
      obtain ⟨t', rfl⟩ := r'
      exact call_range_2 (range_any I1 q)
theorem i_range2 {a b : Expr} (hg : Gl X "range") (hm : X.mg "range" = none) (ha : PA X [a, b] (liftA C lk na wr)) (hs : starEach [a, b] X.env = [(false, eval a X.env), (false, eval b X.env)] := by rfl) (hs2 : starEach [b] X.env = [(false, eval b X.env)] := by rfl) : PI X tg (.Call (.Name "range" p) [a, b] [] pos) (liftI C lk (wIa rng2 wr)) := PIi (pi_rangeA hg hm ha hs hs2) (by
  rintro σ H Rk ⟨G, ι, env, st, P, Px, hR, hw, hQ, hX⟩
  refine ⟨G, ι, env, st, _, Px, hR, hw, fun ds e s G' ι' vs H' p _ g r rp => ?_, hX⟩
  unfold rng2 at p
  split at p
  · cases rp with
    | cons r1 rr =>
      cases rr with
      | cons r2 rr =>
        cases rr
        rw [rep_int r1, rep_int r2]
        exact ⟨_, _, rfl, hQ _ e s G' ι' _ H' p g r itRange⟩
  · exact p.elim)
/-! ### pairs -/
def enumD (ds : List D) : List D := ds.zipIdx.map fun p => D.tup [.int (p.2 : Nat), p.1]
def enum1 (ds : List D) (P : List D → Prop) : Prop := match ds with
  | [.lst xs] => P (enumD xs)
  | _ => False
def zipD (xs ys : List D) : List D := (xs.zip ys).map fun p => D.tup [p.1, p.2]
def zip2 (ds : List D) (P : List D → Prop) : Prop := match ds with
  | [.lst xs, .lst ys] => P (zipD xs ys)
  | [.tup xs, .tup ys] => P (zipD xs ys)
  | [.tup xs, .lst ys] => P (zipD xs ys)
  | _ => False
theorem it_pair {G : Hp} {ι : List Addr} {J : It} {ds : List D} {f g : Nat → Option V} {Gd : Hp → Prop} (w : Walk J ds.length Gd (YPair f g)) (hG : ∀ G' ι' env st σ H, Grow C G ι G' ι' → R C lk G' ι' env st σ H → Gd H)
    (h : ∀ i x y, i < ds.length → f i = some x → g i = some y → ∃ d1 d2, ds[i]? = some (.tup [d1, d2]) ∧ Rep C.K G ι x d1 ∧ Rep C.K G ι y d2) : ItOk C lk G ι J ds := by
  refine ⟨Gd, _, w, hG, fun i G' ι' env st σ H x H' hi gr hR y => ?_⟩
  obtain ⟨T, a, b, rfl, hT, rfl, ha, hb⟩ := y
  obtain ⟨d1, d2, hd, r1, r2⟩ := h i a b hi ha hb
  obtain ⟨rn, gn⟩ := hR.newSh (o := .tup [a, b]) hT
  refine ⟨_, gn, rn, ⟨_, hd, .obj upd_same (.tup (.cons (r1.grow (gr.trans gn)) (.cons (r2.grow (gr.trans gn)) .nil)))⟩, Sub.new hT, fun c u e => ?_⟩
  by_cases q : c = T
  · subst q; exact .inr hT
  · rw [upd_ne q] at e; exact .inl e
theorem i_enum {tpos : Pos} {elts : List Expr} {kk : Nat} {e : Expr} (eK : X.K = C.K) (hg : Gl X "enumerate") (hm : X.mg "enumerate" = none) (ha : PA X [e] (liftA C lk na wr)) (hs : starEach [e] X.env = [(false, eval e X.env)] := by rfl) : PI X (.Tuple elts kk tpos) (.Call (.Name "enumerate" p) [e] [] pos) (liftI C lk (wIa enum1 wr)) := PIi (pi_enum hg hm ha hs) (by
  rintro σ H Rk ⟨G, ι, env, st, P, Px, hR, hw, hQ, hX⟩
  refine ⟨G, ι, env, st, _, Px, hR, hw, fun ds e s G' ι' vs H' p _ g r rp => ?_, hX⟩
  unfold enum1 at p
  split at p
  · rename_i xs
    cases rp with
    | cons r1 rr =>
      cases rr
      cases r1 with
      | obj h q => cases q with
        | @lst ys _ q =>
          refine ⟨_, ys, rfl, .of (fGl r h fun z => z), hQ _ e s G' ι' _ H' p g r (it_pair (f := fun i => some (.int (i : Nat))) (g := fun i => ys[i]?) (Gd := fun H => SqL X.K H _ ys) ?_ (fun G2 ι2 env2 st2 σ2 H2 g2 r2 => .of (fGl r2 (g2.sub _ _ h) fun z => z)) fun i x y hi hx hy => ?_)⟩
          · unfold enumD
            rw [List.length_map, List.length_zipIdx, ← q.len]
            exact walk_enum
          · cases hx
            obtain ⟨d, hd, rp⟩ := q.getR hy
            refine ⟨.int (i : Nat), d, ?_, .int, rp⟩
            unfold enumD
            rw [List.getElem?_map, List.getElem?_zipIdx, hd]
            simp
  · exact p.elim)
theorem walk_zipT {K : PySem.W.Frag} {a b : Addr} {xs ys : List V} {n : Nat} (hn : n = min xs.length ys.length) : Walk (RZ.ItzT K a b) n (fun H => SqT K H a xs ∧ SqT K H b ys) (YPair (fun i => xs[i]?) (fun i => ys[i]?)) := by
  subst hn
  refine ⟨fun i _ hi q => ?_, fun _ q => ⟨xs, ys, q.1, q.2, by omega⟩, fun i H v H' _ q y => ?_⟩
  · have h1 : i < xs.length := by omega
    have h2 : i < ys.length := by omega
    exact ⟨xs, ys, xs[i], ys[i], q.1, q.2, by simp [h1], by simp [h2]⟩
  · obtain ⟨T, x, z, h1, h2, h3, h4, h5⟩ := y
    exact ⟨T, x, z, h1, h2, h3, h4 xs q.1, h5 ys q.2⟩
theorem zipGet {xs ys : List D} {i : Nat} {a b : D} (h1 : xs[i]? = some a) (h2 : ys[i]? = some b) : (zipD xs ys)[i]? = some (.tup [a, b]) := by
  unfold zipD
  rw [List.getElem?_map, List.getElem?_zip_eq_some (z := (a, b)) |>.mpr ⟨h1, h2⟩]
  rfl
theorem walk_zipM {K : PySem.W.Frag} {a b : Addr} {xs ys : List V} {n : Nat} (hn : n = min xs.length ys.length) : Walk (ItzM K a b) n (fun H => SqT K H a xs ∧ SqL K H b ys) (YPair (fun i => xs[i]?) (fun i => ys[i]?)) := by
  subst hn
  refine ⟨fun i _ hi q => ⟨xs, ys, xs[i]'(by omega), ys[i]'(by omega), q.1, q.2, List.getElem?_eq_getElem _, List.getElem?_eq_getElem _⟩, fun _ q => ⟨xs, ys, q.1, q.2, by omega, by omega, by omega⟩, fun i H v H' _ q y => ?_⟩
  obtain ⟨T, x, y, h1, h2, h3, h4, h5⟩ := y
  exact ⟨T, x, y, h1, h2, h3, h4 xs q.1, h5 ys q.2⟩
theorem i_zip {tpos : Pos} {elts : List Expr} {kk : Nat} {e e2 : Expr} (eK : X.K = C.K) (hg : Gl X "zip") (hm : X.mg "zip" = none) (ha : PA X [e, e2] (liftA C lk na wr)) (hs : starEach [e, e2] X.env = (false, eval e X.env) :: starEach [e2] X.env := by rfl) (hpl : (backTo pos (starEach [e2] X.env)).any (·.1) = false := by rfl) :
    PI X (.Tuple elts kk tpos) (.Call (.Name "zip" p) [e, e2] [] pos) (liftI C lk (wIa zip2 wr)) := PIi (pi_zip3 hg hm ha hs hpl) (by
  rintro σ H Rk ⟨G, ι, env, st, P, Px, hR, hw, hQ, hX⟩
  refine ⟨G, ι, env, st, _, Px, hR, hw, fun ds e s G' ι' vs H' p _ g r rp => ?_, hX⟩
  unfold zip2 at p
  split at p
  · rename_i xs ys
    cases rp with
    | cons r1 rr =>
      cases rr with
      | cons r2 rr =>
        cases rr
        cases r1 with
        | obj h q => cases q with
          | @lst us _ q =>
            cases r2 with
            | obj h2 q2 => cases q2 with
              | @lst ws _ q2 =>
                refine ⟨_, _, us, ws, rfl, .inl ⟨.of (fGl r h fun z => z), .of (fGl r h2 fun z => z), hQ _ e s G' ι' _ H' p g r (it_pair (f := fun i => us[i]?) (g := fun i => ws[i]?) (Gd := fun H => SqL X.K H _ us ∧ SqL X.K H _ ws) (walk_zip ?_) (fun G2 ι2 env2 st2 σ2 H2 g2 r2 => ⟨.of (fGl r2 (g2.sub _ _ h) fun z => z), .of (fGl r2 (g2.sub _ _ h2) fun z => z)⟩) fun i x y hi hx hy => ?_)⟩⟩
                · unfold zipD
                  rw [List.length_map, List.length_zip, q.len, q2.len]
                · obtain ⟨d1, e1, p1⟩ := q.getR hx
                  obtain ⟨d2, e2, p2⟩ := q2.getR hy
                  exact ⟨d1, d2, zipGet e1 e2, p1, p2⟩
  · rename_i xs ys
    cases rp with
    | cons r1 rr =>
      cases rr with
      | cons r2 rr =>
        cases rr
        cases r1 with
        | obj h q => cases q with
          | @tup us _ q =>
            cases r2 with
            | obj h2 q2 => cases q2 with
              | @tup ws _ q2 =>
                refine ⟨_, _, us, ws, rfl, .inr (.inl ⟨.of (fGl r h fun z => z), .of (fGl r h2 fun z => z), hQ _ e s G' ι' _ H' p g r (it_pair (f := fun i => us[i]?) (g := fun i => ws[i]?) (Gd := fun H => SqT X.K H _ us ∧ SqT X.K H _ ws) (walk_zipT ?_) (fun G2 ι2 env2 st2 σ2 H2 g2 r2 => ⟨.of (fGl r2 (g2.sub _ _ h) fun z => z), .of (fGl r2 (g2.sub _ _ h2) fun z => z)⟩) fun i x y hi hx hy => ?_)⟩)⟩
                · unfold zipD
                  rw [List.length_map, List.length_zip, q.len, q2.len]
                · obtain ⟨d1, e1, p1⟩ := q.getR hx
                  obtain ⟨d2, e2, p2⟩ := q2.getR hy
                  exact ⟨d1, d2, zipGet e1 e2, p1, p2⟩
  · rename_i xs ys
    cases rp with
    | cons r1 rr =>
      cases rr with
      | cons r2 rr =>
        cases rr
        cases r1 with
        | obj h q => cases q with
          | @tup us _ q =>
            cases r2 with
            | obj h2 q2 => cases q2 with
              | @lst ws _ q2 =>
                refine ⟨_, _, us, ws, rfl, .inr (.inr ⟨.of (fGl r h fun z => z), .of (fGl r h2 fun z => z), hQ _ e s G' ι' _ H' p g r (it_pair (f := fun i => us[i]?) (g := fun i => ws[i]?) (Gd := fun H => SqT X.K H _ us ∧ SqL X.K H _ ws) (walk_zipM ?_) (fun G2 ι2 env2 st2 σ2 H2 g2 r2 => ⟨.of (fGl r2 (g2.sub _ _ h) fun z => z), .of (fGl r2 (g2.sub _ _ h2) fun z => z)⟩) fun i x y hi hx hy => ?_)⟩)⟩
                · unfold zipD
                  rw [List.length_map, List.length_zip, q.len, q2.len]
                · obtain ⟨d1, e1, p1⟩ := q.getR hx
                  obtain ⟨d2, e2, p2⟩ := q2.getR hy
                  exact ⟨d1, d2, zipGet e1 e2, p1, p2⟩
  · exact p.elim)

/-! ### comprehensions -/
def wipeE (env : EnvD) : List Nat → EnvD
  | [] => env
  | i :: r => (wipeE env r).set i none
theorem R.wipe {G : Hp} {ι : List Addr} {st : Sto} {H : Hp} : ∀ {vs : List Nat} {env : EnvD} {σ : L2.St}, R C lk G ι env st σ H → R C lk G ι (wipeE env vs) st (L2.wipe σ vs) H
  | [], _, _, r => r
  | i :: vs, env, σ, r => (R.wipe (vs := vs) r).unset
theorem R.wipeF {G : Hp} {ι : List Addr} {st : Sto} {H : Hp} {σ : L2.St} : ∀ {vs : List Nat} {env : EnvD}, R C lk G ι env st σ H → R C lk G ι (wipeE env vs) st σ H
  | [], _, r => r
  | i :: vs, env, r => (R.wipeF (vs := vs) r).forget
theorem R.slots {G : Hp} {ι : List Addr} {st : Sto} {H : Hp} {env : EnvD} {σ τ : L2.St} (r : R C lk G ι env st σ H) (hl : τ.length = σ.length) (h : ∀ (i : Nat) (s : Slot), env[i]? = some (some s) → τ[i]? = σ[i]?) : R C lk G ι env st τ H :=
  ⟨r.len.trans hl.symm, r.fF, r.lkd, r.fG, fun i s e => by rw [h i s e]; exact r.sl i s e, fun i j d e a q1 q2 q3 q4 => r.inj i j d e a q1 q2 (by rw [← h i _ q1]; exact q3) (by rw [← h j _ q2]; exact q4), r.slen, r.sto, r.sg, r.nd, r.lk2⟩
theorem wipeE_none : ∀ {vs : List Nat} {env : EnvD} {i : Nat} {s : Slot}, (wipeE env vs)[i]? = some (some s) → i ∉ vs
  | [], _, _, _, _, h => by cases h
  | j :: vs, env, i, s, e, h => by
    unfold wipeE at e
    by_cases q : j = i
    · subst q
      rw [List.getElem?_set] at e
      simp only [if_pos] at e
      split at e <;> cases e
    · rw [List.getElem?_set_ne q] at e
      rcases List.mem_cons.mp h with h | h
      · exact q h.symm
      · exact wipeE_none e h
theorem R.swap {G : Hp} {ι : List Addr} {st : Sto} {H : Hp} {env : EnvD} {σ τ : L2.St} {vs : List Nat} (r : R C lk G ι env st σ H) (h : L2.wipe σ vs = L2.wipe τ vs) : R C lk G ι (wipeE env vs) st τ H := by
  have r2 := r.wipe (vs := vs)
  rw [h] at r2
  exact r2.slots (L2.wipe_length _ _).symm fun i s e => (L2.wipe_out (wipeE_none e)).symm
abbrev Ctx.blk (C : Ctx) (F : Hp) : Ctx := ⟨C.K, F, fun _ _ _ _ => False, C.fr⟩
theorem R.prot {G : Hp} {ι : List Addr} {st : Sto} {H : Hp} {env : EnvD} {σ : L2.St} {a : Addr} {o : HO} (r : R C lk G ι env st σ H) (h : H a = some o) (hi : a ∉ ι) (hn : NoSlot env σ a) : R (C.blk (upd C.F a o)) lk G ι env st σ H := by
  refine ⟨r.len, fun b u e => ?_, r.lkd, r.fG, fun i s e => ?_, r.inj, r.slen, r.sto, fun b hb => ⟨(r.sg b hb).1, ?_⟩, r.nd, fun b x u e1 e2 => ?_⟩
  · by_cases q : b = a
    · subst q
      rw [show (C.blk (upd C.F b o)).F b = some o from upd_same] at e
      cases e; exact .inl h
    · rw [show (C.blk (upd C.F a o)).F b = C.F b from upd_ne q] at e
      exact r.fF b u e
  · obtain ⟨v, e1, hs⟩ := r.sl i s e
    refine ⟨v, e1, ?_⟩
    cases hs with
    | sh hs => exact .sh hs
    | @ow d b hs =>
      obtain ⟨h1, h2, h3, h4⟩ := hs
      exact .ow ⟨h1, h2, (upd_ne (fun z => hn i d e (by rw [e1, z]))).trans h3, h4⟩
  · exact (upd_ne (fun z => hi (by rw [← z]; exact hb))).trans (r.sg b hb).2
  · rcases r.lk2 b x u e1 e2 with z | z
    · exact .inl z
    · right
      by_cases q : b = a
      · subst q; rw [h] at e1; rw [show (C.blk (upd C.F b o)).F b = some o from upd_same]; exact e1
      · rw [show (C.blk (upd C.F a o)).F b = C.F b from upd_ne q]; exact z
theorem R.unprot {G G' : Hp} {ι ι' : List Addr} {st : Sto} {H : Hp} {env : EnvD} {σ : L2.St} {a : Addr} {o : HO} (hmu : Mut (some o)) (hf : C.F a = none) (hg : G a = none) (g : Grow (C.blk (upd C.F a o)) G ι G' ι') (r : R (C.blk (upd C.F a o)) lk G' ι' env st σ H) :
    R C lk G' ι' env st σ H ∧ Grow C G ι G' ι' ∧ H a = some o ∧ G' a = none ∧ a ∉ ι' ∧ NoSlot env σ a := by
  have nf : ∀ b, (C.blk (upd C.F a o)).F b = none → b ≠ a ∧ C.F b = none := fun b e => by
    by_cases q : b = a
    · subst q
      rw [show (C.blk (upd C.F b o)).F b = some o from upd_same] at e; cases e
    · rw [show (C.blk (upd C.F a o)).F b = C.F b from upd_ne q] at e; exact ⟨q, e⟩
  have ga : G' a = none := by
    cases q : G' a with
    | none => rfl
    | some u =>
      rcases g.out a u q with q2 | q2 | q2
      · rw [hg] at q2; cases q2
      · exact absurd rfl (nf a q2).1
      · exfalso
        rcases r.fF a o upd_same with h | ⟨x, h⟩
        · rcases r.fG a u q with z | ⟨_, _, z⟩
          · rw [h] at z; cases z; exact q2 hmu
          · rw [h] at z; cases z; exact hmu
        · have h9 := (r.lkd _ _ _ h).2.1
          rw [q] at h9; cases h9; exact q2 hmu
  refine ⟨⟨r.len, fun b u e => ?_, r.lkd, r.fG, fun i s e => ?_, r.inj, r.slen, r.sto, fun b hb => ⟨(r.sg b hb).1, (nf b (r.sg b hb).2).2⟩, r.nd, fun b x u e1 e2 => (r.lk2 b x u e1 e2).imp id fun z => by
    have q : b ≠ a := fun w => by subst w; rw [ga] at e2; cases e2
    exact (upd_ne q).symm.trans z⟩, ⟨g.sub, fun b u e => (g.out b u e).imp (fun z => z) fun z => z.imp (fun z => (nf b z).2) id, g.pre⟩, ?_, ga, fun z => (nf a (r.sg a z).2).1 rfl, fun i d e e2 => ?_⟩
  · have q : b ≠ a := fun z => by rw [z, hf] at e; cases e
    exact r.fF b u ((upd_ne q).trans e)
  · obtain ⟨v, e1, hs⟩ := r.sl i s e
    refine ⟨v, e1, ?_⟩
    cases hs with
    | sh hs => exact .sh hs
    | ow hs => exact .ow ⟨hs.1, hs.2, (nf _ hs.3).2, hs.4⟩
  · rcases r.fF a o upd_same with h | ⟨x, h⟩
    · exact h
    · have := (r.lkd _ _ _ h).2.1
      rw [ga] at this; cases this
  · obtain ⟨v, e1, hs⟩ := r.sl i _ e
    rw [e2] at e1; cases e1
    cases hs with
    | ow hs => exact (nf a hs.3).1 rfl
def noX : KX := fun _ _ _ => False
theorem xok_no {C : Ctx} {lk : Lks} {G : Hp} {ι : List Addr} : XOk C lk G ι noX := fun _ _ _ _ _ _ _ _ _ h => h.elim
/-- the turns of a comprehension -/
def lcT (vs : List Nat) (g : WG) (t : WB) (w : WE) (Q : KE) : List D → List D → EnvD → Sto → Prop
  | [], acc, env, st => Q (.lst acc) env st
  | d :: ds, acc, env, st => g d env st fun e s => t e s (fun b e s => if b = true then w e s (fun y e s => acc.length < 16777216 ∧ lcT vs g t w Q ds (acc ++ [y]) (wipeE e vs) s) noX else lcT vs g t w Q ds acc (wipeE e vs) s) noX
def wLc (vs : List Nat) (wi : WI) (g : WG) (t : WB) (w : WE) : WE := fun env st Q Qx => wi env st (fun ds e s => lcT vs g t w Q ds [] (wipeE e vs) s) Qx
def wYes : WB := fun env st Q _ => Q true env st
theorem PTsi {X : Cx} {e : List Expr} {t t' : TT} (h : PTs X e t) (i : ∀ σ H Q, t' σ H Q → t σ H Q) : PTs X e t' := ⟨fun pins s σ H Q I q => h.run pins s σ H Q I (i σ H Q q)⟩
theorem ts_nil : PTs X [] (liftB C lk wYes) := PTsi pts_nil (by
  rintro σ H Q ⟨G, ι, env, st, P, Px, hR, hw, hQ, hX⟩
  exact hQ true env st G ι H hw .refl hR)
theorem ts_one {c : Expr} {w : WB} (h : PT X c (liftB C lk w)) : PTs X [c] (liftB C lk w) := pts_one h
section
variable {wi : WI} {wg : WG} {wt : WB} {vs : List Nat}
def liftGx (C : Ctx) (lk : Lks) (vs : List Nat) (g : WG) : TG := fun v σ H Q => ∃ F, liftG (C.blk F) lk (some vs) g v σ H Q
def liftBx (C : Ctx) (lk : Lks) (w : WB) : TT := fun σ H Q => ∃ F, liftB (C.blk F) lk w σ H Q
def liftEx (C : Ctx) (lk : Lks) (w : WE) : TE := fun σ H Q => ∃ F, liftE (C.blk F) lk w σ H Q
theorem lcLift {σ : L2.St} {H : Hp} {Q : VK} (h : liftF C lk (wLc vs wi wg wt we) σ H Q) : tLc (liftI C lk wi) (liftGx C lk vs wg) (liftBx C lk wt) (liftEx C lk we) vs σ H Q := by
  obtain ⟨G, ι, env, st, P, Px, hR, hw, hQ, hX⟩ := h
  refine ⟨G, ι, env, st, _, Px, hR, hw, fun ds e s G1 ι1 J H1 p g1 R1 it D hD => ?_, hX⟩
  obtain ⟨Gd, Y, W, hG, hY⟩ := it.ex
  obtain ⟨n1, n2, n3⟩ := R1.noG hD
  have R1' : R C lk G1 ι1 e s σ (upd H1 D (.lst [])) := R1.newOw hD
  have ns : NoSlot e σ D := fun i d q q2 => by
    obtain ⟨v, e1, hs⟩ := R1.sl i _ q
    rw [q2] at e1; cases e1
    cases hs with
    | ow hs => obtain ⟨⟨x, z, _⟩, _⟩ := hs; rw [hD] at z; cases z
  have nw : ∀ {e' : EnvD} {τ : L2.St}, NoSlot e' τ D → NoSlot (wipeE e' vs) τ D := fun {e' τ} h i d q => by
    refine h i d ?_
    have hi := wipeE_none q
    have : ∀ (us : List Nat), i ∉ us → (wipeE e' us)[i]? = e'[i]? := by
      intro us
      induction us with
      | nil => intro _; rfl
      | cons k us ih =>
        intro hk
        unfold wipeE
        rw [List.getElem?_set_ne (fun z => hk (by rw [z]; exact List.mem_cons_self)), ih (fun z => hk (List.mem_cons_of_mem _ z))]
    rw [← this vs hi]; exact q
  refine lc_it (g := liftGx C lk vs wg) (tt := liftBx C lk wt) (te := liftEx C lk we) (vs := vs) (σ := σ) (Qd := Q (.ref D)) W (fun i H => ∃ G2 ι2 e0 s2 accv accd, Grow C G1 ι1 G2 ι2 ∧ R C lk G2 ι2 (wipeE e0 vs) s2 σ H ∧ H D = some (.lst accv) ∧ Reps C.K G2 ι2 accv accd ∧ G2 D = none ∧ D ∉ ι2 ∧ NoSlot (wipeE e0 vs) σ D ∧ lcT vs wg wt we P (ds.drop i) accd (wipeE e0 vs) s2)
    ⟨G1, ι1, e, s, [], [], .refl, R1'.wipeF, upd_same, .nil, n1, n3, nw ns, p⟩ (fun i H _ ⟨G2, ι2, e0, s2, accv, accd, g2, r2, _⟩ => hG G2 ι2 _ s2 σ H g2 r2) ?_ ?_
  · rintro i x H2 H3 hi ⟨G2, ι2, e0, s2, accv, accd, g2, r2, hDv, ra, k1, k2, k3, p2⟩ y
    obtain ⟨G3, g3, r3, ⟨d, hd, rp⟩, sb, gn⟩ := hY i G2 ι2 _ s2 σ H2 x H3 hi g2 r2 y
    have hdrop : ds.drop i = d :: ds.drop (i + 1) := by
      rw [List.drop_eq_getElem_cons hi]
      congr 1
      exact (List.getElem?_eq_some_iff.mp hd).2
    rw [hdrop] at p2
    have hD3 : H3 D = some (.lst accv) := sb _ _ hDv
    have gD3 : G3 D = none := by
      cases q : G3 D with
      | none => rfl
      | some u =>
        rcases gn D u q with q | q
        · rw [k1] at q; cases q
        · rw [hDv] at q; cases q
    have r3w : R C lk G3 ι2 (wipeE e0 vs) s2 (L2.wipe σ vs) H3 := r3.slots (L2.wipe_length _ _) fun j s e => L2.wipe_out (wipeE_none e)
    have k3w : NoSlot (wipeE e0 vs) (L2.wipe σ vs) D := fun j d q q2 => k3 j d q ((L2.wipe_out (wipeE_none q)).symm.trans q2)
    refine ⟨upd C.F D (.lst accv), G3, ι2, wipeE e0 vs, s2, _, d, r3w.prot hD3 k2 k3w, rp, p2, fun e4 s4 σ4 H4 G4 ι4 p4 g4 r4 hw4 => ?_⟩
    have ew : L2.wipe σ4 vs = L2.wipe σ vs := by
      have h1 := hw4 vs rfl
      rw [h1]
      apply List.ext_getElem?
      intro j
      by_cases q : j ∈ vs
      · have nn : ∀ (τ : L2.St), τ.length = σ.length → (L2.wipe τ vs)[j]? = (if j < σ.length then some none else none) := by
          intro τ hτ
          have : ∀ (us : List Nat), j ∈ us → (L2.wipe τ us)[j]? = (if j < σ.length then some none else none) := by
            intro us
            induction us with
            | nil => intro h; cases h
            | cons k us ih =>
              intro h
              show ((L2.wipe τ us).set k none)[j]? = _
              by_cases z : k = j
              · subst z
                rw [List.getElem?_set]
                simp only [if_pos]
                rw [L2.wipe_length, hτ]
              · rw [List.getElem?_set_ne z]
                exact ih (by
                  rcases List.mem_cons.mp h with h | h
                  · exact absurd h.symm z
                  · exact h)
          exact this vs q
        rw [nn _ (L2.wipe_length _ _), nn _ rfl]
      · rw [L2.wipe_out q]
    obtain ⟨q4, gg4, hD4, gD4, iD4, n4⟩ := R.unprot (o := .lst _) True.intro n2 gD3 g4 r4
    refine ⟨ew, upd C.F D (.lst accv), G4, ι4, e4, s4, _, noX, q4.prot hD4 iD4 n4, p4, fun b e5 s5 G5 ι5 H5 p5 g5 r5 => ?_, xok_no⟩
    obtain ⟨q5, gg5, hD5, gD5, iD5, n5⟩ := R.unprot (o := .lst _) True.intro n2 gD4 g5 r5
    have gA := ((g2.trans g3).trans gg4).trans gg5
    cases b with
    | false =>
      exact ⟨G5, ι5, e5, s5, accv, accd, gA, q5.swap ew, hD5, ra.grow ((g3.trans gg4).trans gg5), gD5, iD5, fun j d q q2 => by
        have hj := wipeE_none q
        refine nw n5 j d q ?_
        rw [← L2.wipe_out hj, ew, L2.wipe_out hj]; exact q2, p5⟩
    | true =>
      refine ⟨upd C.F D (.lst accv), G5, ι5, e5, s5, _, noX, q5.prot hD5 iD5 n5, p5, fun y e6 s6 G6 ι6 v H6 p6 g6 r6 rp6 => ?_, xok_no⟩
      obtain ⟨q6, gg6, hD6, gD6, iD6, n6⟩ := R.unprot (o := .lst _) True.intro n2 gD5 g6 r6
      have n6w : NoSlot (wipeE e6 vs) σ D := fun j d q q2 => by
        have hj := wipeE_none q
        refine nw n6 j d q ?_
        rw [← L2.wipe_out hj, ew, L2.wipe_out hj]; exact q2
      have ra6 := ra.grow (((g3.trans gg4).trans gg5).trans gg6)
      exact ⟨accv, hD6, by rw [ra.len, sizeLine_eq]; exact p6.1, G6, ι6, e6, s6, _, _, gA.trans gg6, (q6.swap ew).chg gD6 n2 iD6 (fun j d q q2 => n6w j d q q2), upd_same, ra6.append (.cons rp6 .nil), gD6, iD6, n6w, p6.2⟩
  · rintro H2 ⟨G2, ι2, e0, s2, accv, accd, g2, r2, hDv, ra, k1, k2, k3, p2⟩
    rw [List.drop_length] at p2
    exact hQ (.lst accd) _ s2 G2 ι2 D H2 p2 (g1.trans g2) r2 ⟨⟨_, hDv, .lst ra, True.intro⟩, k1, n2, k2⟩ k3
variable {elt tg iter : Expr} {ifs : List Expr} {scope : Scope} {own : List (Str × Nat)}
theorem f_lc (hc : X.calm = true) (hN : X.N.Nodup) (hi : PI X tg iter (liftI C lk wi)) (ok : BlkOk X.N X.env.scope scope own)
    (hg : ∀ (F : Hp) (s : Shared) (H : Hp) (A : Addr) (cl : List (Str × Addr)) (fp : List Addr), PG (X.blk s H scope (compEnvC scope cl A X.env) fp) tg (liftG (C.blk F) lk (some (own.map (·.2))) wg))
    (ht : ∀ (F : Hp) (s : Shared) (H : Hp) (A : Addr) (cl : List (Str × Addr)) (fp : List Addr), PTs (X.blk s H scope (compEnvC scope cl A X.env) fp) ifs (liftB (C.blk F) lk wt))
    (he : ∀ (F : Hp) (s : Shared) (H : Hp) (A : Addr) (cl : List (Str × Addr)) (fp : List Addr), PE (X.blk s H scope (compEnvC scope cl A X.env) fp) elt (liftE (C.blk F) lk we)) (hs : ∀ x, foldedSetIterable iter X.env x = pure x := by intro _; rfl) :
    PE X (.ListComp elt [⟨tg, iter, ifs, 0⟩] scope pos) (liftF C lk (wLc (own.map (·.2)) wi wg wt we)) :=
  PEi (pe_lc hc hN hi ok (g := liftGx C lk (own.map (·.2)) wg) (tt := liftBx C lk wt) (te := liftEx C lk we) (fun s H A cl fp => ⟨fun pins s2 σ H2 v u Q I r ⟨F, q⟩ => (hg F s H A cl fp).run pins s2 σ H2 v u Q I r q⟩)
    (fun s H A cl fp => ⟨fun pins s2 σ H2 Q I ⟨F, q⟩ => (ht F s H A cl fp).run pins s2 σ H2 Q I q⟩) (fun s H A cl fp => ⟨fun pins s2 σ H2 Q I ⟨F, q⟩ => (he F s H A cl fp).run pins s2 σ H2 Q I q⟩) hs) fun σ H Q h => lcLift h
/-- y = [..] on one line -/
theorem s_setLcF {i : Nat} {y : Str} {py spos : Pos} (hc : X.calm = true) (hN : X.N.Nodup) (hy : X.N[i]? = some y) (hyl : X.env.scope.names.lookup y = some .local)
    (hsw : swapsWith (.ListComp elt [⟨tg, iter, ifs, 0⟩] scope pos) (some (.Name y py)) spos.line X.env = pure true) (hi : PI X tg iter (liftI C lk wi)) (ok : BlkOk X.N X.env.scope scope own)
    (hg : ∀ (F : Hp) (s : Shared) (H : Hp) (A : Addr) (cl : List (Str × Addr)) (fp : List Addr), PG (X.blk s H scope (compEnvC scope cl A X.env) fp) tg (liftG (C.blk F) lk (some (own.map (·.2))) wg))
    (ht : ∀ (F : Hp) (s : Shared) (H : Hp) (A : Addr) (cl : List (Str × Addr)) (fp : List Addr), PTs (X.blk s H scope (compEnvC scope cl A X.env) fp) ifs (liftB (C.blk F) lk wt))
    (he : ∀ (F : Hp) (s : Shared) (H : Hp) (A : Addr) (cl : List (Str × Addr)) (fp : List Addr), PE (X.blk s H scope (compEnvC scope cl A X.env) fp) elt (liftE (C.blk F) lk we)) (hs : ∀ x, foldedSetIterable iter X.env x = pure x := by intro _; rfl) :
    PS X (.Assign [.Name y py] (.ListComp elt [⟨tg, iter, ifs, 0⟩] scope pos) spos) (liftS C lk (wSetF i (wLc (own.map (·.2)) wi wg wt we))) :=
  PSi (ps_setLc hc hN hy hyl hsw hi ok (g := liftGx C lk (own.map (·.2)) wg) (tt := liftBx C lk wt) (te := liftEx C lk we) (fun s H A cl fp => ⟨fun pins s2 σ H2 v u Q I r ⟨F, q⟩ => (hg F s H A cl fp).run pins s2 σ H2 v u Q I r q⟩)
    (fun s H A cl fp => ⟨fun pins s2 σ H2 Q I ⟨F, q⟩ => (ht F s H A cl fp).run pins s2 σ H2 Q I q⟩) (fun s H A cl fp => ⟨fun pins s2 σ H2 Q I ⟨F, q⟩ => (he F s H A cl fp).run pins s2 σ H2 Q I q⟩) hs) (by
    rintro E σ H ⟨G, ι, env, st, P, Px, hR, hw, hS, hX⟩
    refine lcLift ⟨G, ι, env, st, _, Px, hR, hw, fun d e s G' ι' a H' p g r o n => hS.nx _ s G' ι' _ H' p g (r.set (.ow o) fun d' a' e1 e2 j f e3 e4 => ?_), hX⟩
    cases e2
    exact absurd e4 (n j f e3))
theorem s_setLc {i : Nat} {y : Str} {py spos : Pos} (hc : X.calm = true) (hN : X.N.Nodup) (hy : X.N[i]? = some y) (hyl : X.env.scope.names.lookup y = some .local)
    (hsw : swapsWith (.ListComp elt [⟨tg, iter, ifs, 0⟩] scope pos) (some (.Name y py)) spos.line X.env = pure true) (hi : PI X tg iter (liftI C lk wi)) (ok : BlkOk X.N X.env.scope scope own)
    (hg : ∀ (F : Hp) (s : Shared) (H : Hp) (A : Addr) (cl : List (Str × Addr)) (fp : List Addr), PG (X.blk s H scope (compEnvC scope cl A X.env) fp) tg (liftG (C.blk F) lk (some (own.map (·.2))) wg))
    (ht : ∀ (F : Hp) (s : Shared) (H : Hp) (A : Addr) (cl : List (Str × Addr)) (fp : List Addr), PTs (X.blk s H scope (compEnvC scope cl A X.env) fp) ifs (liftB (C.blk F) lk wt))
    (he : ∀ (F : Hp) (s : Shared) (H : Hp) (A : Addr) (cl : List (Str × Addr)) (fp : List Addr), PE (X.blk s H scope (compEnvC scope cl A X.env) fp) elt (liftE (C.blk F) lk we)) (hs : ∀ x, foldedSetIterable iter X.env x = pure x := by intro _; rfl) :
    PS X (.Assign [.Name y py] (.ListComp elt [⟨tg, iter, ifs, 0⟩] scope pos) spos) (liftS C lk (wSet i (wLc (own.map (·.2)) wi wg wt we))) :=
  PSi (ps_setLc hc hN hy hyl hsw hi ok (g := liftGx C lk (own.map (·.2)) wg) (tt := liftBx C lk wt) (te := liftEx C lk we) (fun s H A cl fp => ⟨fun pins s2 σ H2 v u Q I r ⟨F, q⟩ => (hg F s H A cl fp).run pins s2 σ H2 v u Q I r q⟩)
    (fun s H A cl fp => ⟨fun pins s2 σ H2 Q I ⟨F, q⟩ => (ht F s H A cl fp).run pins s2 σ H2 Q I q⟩) (fun s H A cl fp => ⟨fun pins s2 σ H2 Q I ⟨F, q⟩ => (he F s H A cl fp).run pins s2 σ H2 Q I q⟩) hs) (by
    rintro E σ H ⟨G, ι, env, st, P, Px, hR, hw, hS, hX⟩
    exact lcLift (eToF ⟨G, ι, env, st, _, Px, hR, hw, fun d e s G' ι' v H' p g r rp => hS.nx _ s G' ι' _ H' p g (r.setSh rp), hX⟩))
end
end
end VL

/-! The value layer: changes of lists and dicts; built-in functions. -/
namespace VL
open PySem PySem.Spec PyProof.Rows L2

/-! ### an object is changed: a slot's own, or the store's -/
def chg (r : DR) (env : EnvD) (st : Sto) (f : D → (D → Prop) → Prop) (Q : EnvD → Sto → Prop) : Prop := match r with
  | .slot i => match env[i]? with
    | some (some (.ow d)) => f d fun d' => Q (env.set i (some (.ow d'))) st
    | _ => False
  | .val (.hnd n) => match st[n]? with
    | some (.dat d) => f d fun d' => Q env (st.set n (.dat d'))
    | _ => False
  | _ => False
section
variable {X : Cx} {C : Ctx} {lk : Lks} {pos : Pos}
theorem chg_ok {G : Hp} {ι : List Addr} {env : EnvD} {st : Sto} {σ : L2.St} {H : Hp} {v : V} {r : DR} {f : D → (D → Prop) → Prop} {Q : EnvD → Sto → Prop} (hR : R C lk G ι env st σ H) (h : DRel C.K G ι σ r v) (g : chg r env st f Q) :
    ∃ a o d P, v = .ref a ∧ H a = some o ∧ HRep C.K G ι o d ∧ f d P ∧ ∀ d' o', P d' → HRep C.K G ι o' d' → Mut (some o') → ∃ env' st', Q env' st' ∧ R C lk G ι env' st' σ (upd H a o') := by
  cases r with
  | slot i =>
    have h : σ[i]? = some (some v) := h
    unfold chg at g
    dsimp only at g
    split at g
    · rename_i d he
      obtain ⟨u, e1, hv⟩ := hR.sl i _ he
      rw [h] at e1; cases e1
      cases hv with
      | ow hv =>
        obtain ⟨⟨o, h1, h2, h3⟩, _⟩ := hv
        exact ⟨_, o, d, _, rfl, h1, h2, g, fun d' o' p r m => ⟨_, _, p, hR.put he h r m⟩⟩
    · exact g.elim
  | val d =>
    cases d with
    | hnd n =>
      unfold chg at g
      dsimp only at g
      split at g
      · rename_i d hs
        have h : Rep C.K G ι v (.hnd n) := h
        cases h with
        | obj _ q => cases q
        | hnd hn =>
          obtain ⟨o, h1, h2⟩ := hR.sto n _ _ hn hs
          cases h2 with
          | dat h2 m => exact ⟨_, o, d, _, rfl, h1, h2, g, fun d' o' p r m => ⟨_, _, p, hR.putSto hn (.dat r m)⟩⟩
      · exact g.elim
    | _ => exact g.elim

/-! ### xs.append(e), xs.insert(0, e), x = xs.pop() -/
def isLst (r : DR) (env : EnvD) (st : Sto) : Prop := match r with
  | .slot i => match env[i]? with
    | some (some (.sh (.lst _))) => True
    | some (some (.ow (.lst _))) => True
    | _ => False
  | .val (.lst _) => True
  | .val (.hnd n) => match st[n]? with
    | some (.dat (.lst _)) => True
    | _ => False
  | _ => False
theorem isLst_ok {G : Hp} {ι : List Addr} {env : EnvD} {st : Sto} {σ : L2.St} {H : Hp} {v : V} {r : DR} (hR : R C lk G ι env st σ H) (h : DRel C.K G ι σ r v) (g : isLst r env st) : ∃ a xs, v = .ref a ∧ H a = some (.lst xs) := by
  cases r with
  | slot i =>
    unfold isLst at g
    dsimp only at g
    have go : ∀ ds, (DR.slot i).get env (fun d => d = .lst ds) → ∃ a xs, v = .ref a ∧ H a = some (.lst xs) := fun ds q => by
      obtain ⟨d, rfl, b⟩ := hR.bor h q
      obtain ⟨a, xs, e, h1, _⟩ := b.lst hR
      exact ⟨a, xs, e, h1⟩
    split at g
    · rename_i ds he
      exact go ds (by unfold DR.get; dsimp only; rw [he])
    · rename_i ds he
      exact go ds (by unfold DR.get; dsimp only; rw [he])
    · exact g.elim
  | val d =>
    cases d with
    | lst ds =>
      obtain ⟨a, xs, e, h1, _⟩ := Bor.lst hR (.inl h)
      exact ⟨a, xs, e, h1⟩
    | hnd n =>
      unfold isLst at g
      dsimp only at g
      split at g
      · rename_i ds hs
        have h : Rep C.K G ι v (.hnd n) := h
        cases h with
        | obj _ q => cases q
        | hnd hn =>
          obtain ⟨o, h1, h2⟩ := hR.sto n _ _ hn hs
          cases h2 with
          | dat h2 m => cases h2 with
            | lst q => exact ⟨_, _, rfl, h1⟩
      · exact g.elim
    | _ => exact g.elim
variable {o e a b : Expr} {wo wb : WO} {we wa wi : WE} {wr : WA} {apos cpos : Pos} {na : Nat} {es : List Expr}
def appD (x : D) : D → (D → Prop) → Prop
  | .lst xs, P => xs.length < 16777216 ∧ P (.lst (xs ++ [x]))
  | _, _ => False
def wApp (wo : WO) (wr : WA) : WS := fun env st Q Qx => wo env st (fun r e1 s1 => isLst r e1 s1 ∧ wr e1 s1 (fun ds e2 s2 => match ds with | [x] => chg r e2 s2 (appD x) fun e3 s3 => Q .nx e3 s3 | _ => False) Qx) Qx
theorem s_app (ho : PE X o (liftO C lk wo)) (ha : PA X [e] (liftA C lk na wr)) (eK : X.K = C.K)
    (hbase : attributeBase o "append" X.env (eval o X.env) = eval o X.env := by rfl)
    (hfew : ((backTo cpos (starEach [e] X.env)).all (fun x => !x.1) && (backToKw cpos (keywordEach [] X.env)).all (fun x => x.1.isSome)
      && decide ([e].length + ([] : List Keyword).length + (if ([] : List Keyword).isEmpty then 0 else 1) < 30)) = true := by rfl)
    (hline : (apos.endLine == cpos.line) = true := by rfl) (hs : starEach [e] X.env = (false, eval e X.env) :: starEach [] X.env := by rfl) (hplain : (backTo cpos (starEach [] X.env)).any (·.1) = false := by rfl)
    (hsw : swapsWith (.Call (.Attribute o "append" apos) [e] [] cpos) none pos.line X.env = pure false := by rfl) : PS X (.Expr (.Call (.Attribute o "append" apos) [e] [] cpos) pos) (liftS C lk (wApp wo wr)) :=
  PSi (ps_expr (pe_bm PySem.F.plainAttrs_list PySem.F.slot_list_append PySem.F.type_list_append mt_append ho ha hbase hfew hline hs hplain) hsw) (by
  rintro E σ H ⟨G, ι, env, st, P, Px, hR, hw, hS, hX⟩
  refine ⟨G, ι, env, st, _, Px, hR, hw, fun r e1 s1 G1 ι1 x H1 p1 g1 R1 rep1 => ?_, hX⟩
  obtain ⟨l, xs, rfl, hl⟩ := isLst_ok R1 rep1 p1.1
  refine ⟨.inl ⟨rfl, xs, .of hl⟩, G1, ι1, e1, s1, _, Px, R1, p1.2, fun ds e2 s2 G2 ι2 vs H2 p2 _ g2 R2 rps => ?_, hX.mono g1⟩
  cases ds with
  | nil => exact p2.elim
  | cons x ds =>
    cases ds with
    | cons _ _ => exact p2.elim
    | nil =>
      cases rps with
      | cons rx rr =>
        cases rr
        obtain ⟨q, o', d, K1, e1', hq, hr, hd, hP⟩ := chg_ok R2 (rep1.mono g2.sub g2.pre) p2
        cases e1'
        cases d with
        | lst ds =>
          cases hr with
          | lst hr =>
            obtain ⟨env', st', p3, R3⟩ := hP (.lst (ds ++ [x])) (.lst _) hd.2 (.lst (hr.append (.cons rx .nil))) True.intro
            exact ⟨l, _, _, rfl, rfl, hq, by rw [hr.len, sizeLine_eq]; exact hd.1, hS.nx env' st' G2 ι2 σ _ p3 (g1.trans g2) R3⟩
        | _ => exact hd.elim)
/-- x = xs.pop(), xs a slot's own -/
def wPop (i j : Nat) : WS := fun env st Q _ => match env[j]? with
  | some (some (.ow (.lst xs))) => match xs[xs.length - 1]? with
    | some x => Q .nx ((env.set j (some (.ow (.lst xs.dropLast)))).set i (some (.sh x))) st
    | none => False
  | _ => False
theorem s_pop {i j : Nat} {x y : Str} {pos' p2 : Pos} (hN : X.N.Nodup) (hi : X.N[i]? = some x) (hx : Loc X.env.scope x) (ho : PE X (.Name y p2) (tVar j))
    (hbase : attributeBase (.Name y p2) "pop" X.env (eval (.Name y p2) X.env) = eval (.Name y p2) X.env := by rfl) (hline : (apos.endLine == cpos.line) = true := by rfl)
    (hs : swapsWith (.Call (.Attribute (.Name y p2) "pop" apos) [] [] cpos) (some (.Name x pos')) pos.line X.env = pure false := by rfl) (hf : X.fn x = true ∨ X.env.scope.names.lookup x = some .local := by first | exact .inl rfl | exact .inr rfl | assumption) :
    PS X (.Assign [.Name x pos'] (.Call (.Attribute (.Name y p2) "pop" apos) [] [] cpos) pos) (liftS C lk (wPop i j)) :=
  PSi (ps_set hN hi hx (pe_bm0 PySem.F.plainAttrs_list PySem.F.slot_list_pop PySem.F.type_list_pop mt_pop ho hbase hline) hs hf) (by
  rintro E σ H ⟨G, ι, env, st, P, Px, hR, hw, hS, hX⟩
  unfold wPop at hw
  split at hw
  · rename_i ds q
    split at hw
    · rename_i d hd
      obtain ⟨v, e1, h⟩ := hR.sl j _ q
      cases h with
      | ow h =>
        obtain ⟨⟨o, h1, h2, h3⟩, _⟩ := id h
        cases h2 with
        | @lst xs _ h2 =>
          obtain ⟨z, hz, rz⟩ := h2.get hd
          refine ⟨_, e1, .inl ⟨rfl, xs, .of h1⟩, _, xs, z, rfl, rfl, h1, by rw [h2.len]; exact hz, hS.nx _ st G ι _ _ hw .refl ?_⟩
          refine (hR.put q e1 (o := .lst xs.dropLast) (d' := .lst ds.dropLast) (.lst ?_) True.intro).setSh rz
          rw [List.dropLast_eq_take, List.dropLast_eq_take, h2.len]
          exact h2.take _
    · exact hw.elim
  · exact hw.elim)

/-! ### xs[i] = e, d[k] = e -/
def setD (k v : D) : D → (D → Prop) → Prop
  | .lst xs, P => match k with
    | .int i => (match ixN xs.length i with
      | some j => P (.lst (xs.set j v))
      | none => False)
    | _ => False
  | .dI kvs, P => match k with
    | .int i => kvs.length < 16777216 ∧ P (.dI (put kvs i v))
    | _ => False
  | .dT kvs, P => match k with
    | .tup ks => (match keyInts ks with
      | some l => kvs.length < 16777216 ∧ P (.dT (put kvs l v))
      | none => False)
    | _ => False
  | _, _ => False
def rSetA : TSet := fun o i v H Q => rSetL o i v H Q ∨ rSetD o i v H Q
theorem set_any (hu : X.A.units + 1 < cLine) : PSet X rSetA := by
  intro pins s σ H o i v ov iv u Q I ro ri rv h
  rcases h with h | ⟨a, H', rfl, g, q⟩
  · exact set_list pins s σ H o i v ov iv u Q I ro ri rv h
  · obtain rfl : ov = Value.ref a := ro
    exact d_setItem hu I g ri rv fun s' I' => ⟨H', I', q⟩
theorem set_ok {G : Hp} {ι : List Addr} {env : EnvD} {st : Sto} {σ : L2.St} {H : Hp} {v i x : V} {r : DR} {k d : D} {Q : EnvD → Sto → Prop} {Q' : Hp → Prop} (hR : R C lk G ι env st σ H) (h : DRel C.K G ι σ r v) (hi : Rep C.K G ι i k) (hx : Rep C.K G ι x d) (g : chg r env st (setD k d) Q)
    (hQ : ∀ env' st' H', Q env' st' → R C lk G ι env' st' σ H' → Q' H') : rSetA v i x H Q' := by
  obtain ⟨a, o, d0, P, rfl, ha, hr, hd, hP⟩ := chg_ok hR h g
  cases d0 with
  | lst ds =>
    cases hr with
    | lst hr =>
      cases k with
      | int n =>
        unfold setD at hd
        dsimp only at hd
        split at hd
        · rename_i j hj
          rw [rep_int hi]
          obtain ⟨env', st', p, R'⟩ := hP _ _ hd (.lst (hr.set hx j)) True.intro
          exact .inl ⟨a, _, n, j, rfl, rfl, ha, by rw [hr.len]; exact hj, hQ env' st' _ p R'⟩
        · exact hd.elim
      | _ => exact hd.elim
  | dI kvs =>
    cases hr with
    | dI hr =>
      cases k with
      | int n =>
        rw [rep_int hi]
        obtain ⟨env', st', p, R'⟩ := hP _ _ hd.2 (.dI (hr.put hx)) True.intro
        exact .inr ⟨a, _, rfl, .inl ⟨_, .inl n, ha, rfl, by rw [hr.len, sizeLine_eq]; exact hd.1, rfl⟩, hQ env' st' _ p R'⟩
      | _ => exact hd.elim
  | dT kvs =>
    cases hr with
    | dT hr =>
      cases k with
      | tup ks =>
        unfold setD at hd
        dsimp only at hd
        split at hd
        · rename_i l hl
          obtain ⟨b, ys, rfl, hb, rb⟩ := Bor.tup hR (.inl hi)
          rw [keyInts_eq hl] at rb
          have ey : ys = (l.map (Sum.inl : Int → Key)).map kV := by
            rw [rb.ints, List.map_map]; rfl
          rw [ey] at hb
          obtain ⟨env', st', p, R'⟩ := hP _ _ hd.2 (.dT (hr.put hx)) True.intro
          exact .inr ⟨a, _, rfl, .inr ⟨_, _, b, ha, rfl, hb, by rw [hr.len, sizeLine_eq]; exact hd.1, rfl⟩, hQ env' st' _ p R'⟩
        · exact hd.elim
      | _ => exact hd.elim
  | _ => exact hd.elim
/-- o[i] = e: e first, then o, then i -/
def wPut (wo : WO) (wi we : WE) : WS := fun env st Q Qx => we env st (fun d e1 s1 => wo e1 s1 (fun r e2 s2 => wi e2 s2 (fun k e3 s3 => chg r e3 s3 (setD k d) fun e4 s4 => Q .nx e4 s4) Qx) Qx) Qx
theorem s_put {i : Expr} {pos' : Pos} (hu : X.A.units + 1 < cLine) (ho : PE X o (liftO C lk wo)) (hi : PE X i (liftE C lk wi)) (he : PE X e (liftE C lk we)) (ha : ∀ v, assign (.Subscript o i pos') X.env v = (do
      let ov ← holding [v] (eval o X.env)
      let iv ← holding [v, ov] (eval i X.env)
      standAt pos'
      holding [v, ov, iv] (setItem ov iv v)
      release [v, ov, iv] []) := by intro _; rfl) (hs : swapsWithSole [.Subscript o i pos'] e pos.line X.env = pure false := by rfl) (hw : swappedStores [.Subscript o i pos'] e X.env = pure none := by rfl)
    (h1 : (assignEach [.Subscript o i pos'] X.env).map (·.2) = [assign (.Subscript o i pos') X.env] := by rfl) : PS X (.Assign [.Subscript o i pos'] e pos) (liftS C lk (wPut wo wi we)) :=
  PSi (ps_asg he (pg_sub ho hi (set_any hu) ha) hs hw h1) (by
  rintro E σ H ⟨G, ι, env, st, P, Px, hR, hw, hS, hX⟩
  refine ⟨G, ι, env, st, _, Px, hR, hw, fun d e1 s1 G1 ι1 v H1 p1 g1 R1 rv => ?_, hX⟩
  refine ⟨G1, ι1, e1, s1, _, Px, R1, p1, fun r e2 s2 G2 ι2 u H2 p2 g2 R2 ro => ?_, hX.mono g1⟩
  refine ⟨G2, ι2, e2, s2, _, Px, R2, p2, fun k e3 s3 G3 ι3 y H3 p3 g3 R3 rk => ?_, (hX.mono g1).mono g2⟩
  exact set_ok R3 (ro.mono g3.sub g3.pre) rk (rv.grow (g2.trans g3)) p3 fun env' st' H' p R' => hS.nx env' st' G3 ι3 σ H' p ((g1.trans g2).trans g3) R')

/-! ### o[i] op= e -/
def rGetA (K : PySem.W.Frag) : V → V → Hp → VK → Prop := fun x y H Q => (∃ (p : Addr) (xs : List V) (i : Int) (v : V), x = .ref p ∧ y = .int i ∧ SqL K H p xs ∧ 0 ≤ i ∧ xs[i.toNat]? = some v ∧ Q v H) ∨ ∃ a v, x = .ref a ∧ DGet H a y (some v) ∧ Q v H
theorem get_any (hu : X.A.units + 1 < cLine) : PGet X (rGetA X.K) := by
  intro pins s σ H o i ov iv Q I ro ri h
  rcases h with ⟨p, xs, k, v, rfl, rfl, hq, h0, hx, q⟩ | ⟨a, v, rfl, g, q⟩
  · obtain rfl : ov = Value.ref p := ro
    obtain ⟨t, rfl⟩ := ri
    obtain ⟨its, r, pl, hz⟩ := I.list hq
    obtain ⟨w, ew, rw'⟩ := r.get hx
    have hn := line63
    have hl := (List.getElem?_eq_some_iff.mp hx).1
    exact wpAny_getItem_list pl.isList h0 (by omega) (by simpa using ew) ⟨v, H, I, rw', q⟩
  · obtain rfl : ov = Value.ref a := ro
    exact d_getItem hu I g ri fun w' s' I' r' => ⟨v, H, I', r', q⟩
/-- the item of o at k, o a slot's own or the store's -/
def curD (r : DR) (env : EnvD) (st : Sto) (k : D) (P : D → Prop) : Prop := chg r env st (fun d Q => match d, k with
  | .lst xs, .int i => 0 ≤ i ∧ (match xs[i.toNat]? with
    | some x => P x ∧ Q d
    | none => False)
  | d, k => dGet d k fun o => match o with
    | some x => P x ∧ Q d
    | none => False) fun _ _ => True
def wAugIx (f : D → D → (D → Prop) → Prop) (wo : WO) (wi we : WE) : WS := fun env st Q Qx => wo env st (fun r e1 s1 => wi e1 s1 (fun k e2 s2 => curD r e2 s2 k fun d0 => we e2 s2 (fun d e3 s3 => f d0 d fun d' => chg r e3 s3 (setD k d') fun e4 s4 => Q .nx e4 s4) Qx) Qx) Qx
theorem cur_ok {G : Hp} {ι : List Addr} {env : EnvD} {st : Sto} {σ : L2.St} {H : Hp} {v i : V} {r : DR} {k : D} {P : D → Prop} {Q : VK} (eK : X.K = C.K) (hR : R C lk G ι env st σ H) (h : DRel C.K G ι σ r v) (hi : Rep C.K G ι i k) (g : curD r env st k P) (hQ : ∀ d z, P d → Rep C.K G ι z d → Q z H) : rGetA X.K v i H Q := by
  obtain ⟨a, o, d, P', rfl, ha, hr, hd, _⟩ := chg_ok hR h g
  split at hd
  · rename_i ds n
    cases hr with
    | lst hr =>
      obtain ⟨h0, hd⟩ := hd
      split at hd
      · rename_i x hx
        obtain ⟨z, hz, rz⟩ := hr.get hx
        rw [rep_int hi]
        exact .inl ⟨a, _, n, z, rfl, rfl, .of ha, h0, hz, hQ x z hd.1 rz⟩
      · exact hd.elim
  · have b1 : Bor C.K G ι H (.ref a) d := by
      cases hr with
      | lst q => exact .inr ⟨a, _, rfl, ha, True.intro, .lst q⟩
      | tup q => exact (dGet_tup hd).elim
      | dI q => exact .inr ⟨a, _, rfl, ha, True.intro, .dI q⟩
      | dT q => exact .inr ⟨a, _, rfl, ha, True.intro, .dT q⟩
    obtain ⟨l, o', u, e, gd, ro, p3⟩ := dGet_ok hR b1 (.inl hi) hd
    cases e
    cases u with
    | none => exact p3.elim
    | some d' =>
      cases o' with
      | none => exact ro.elim
      | some z => exact .inr ⟨a, z, rfl, gd, hQ d' z p3.1 ro⟩
theorem s_augIx {op : Operator} {r : R2} {f : D → D → (D → Prop) → Prop} {i : Expr} {tpos : Pos} (hu : X.A.units + 1 < cLine) (eK : X.K = C.K) (hop : PIp X op r) (ho2 : Op2 C r f) (ho : PE X o (liftO C lk wo)) (hi : PE X i (liftE C lk wi)) (he : PE X e (liftE C lk we))
    (ha : ∀ ov iv new, augStore i ov iv new = (do holding [new, ov, iv] (setItem ov iv new); release [new, ov, iv] []; pure .next) := by intros; rfl) : PS X (.AugAssign (.Subscript o i tpos) op e pos) (liftS C lk (wAugIx f wo wi we)) :=
  PSi (ps_augS ho hi (get_any hu) he hop (set_any hu) ha) (by
  rintro E σ H ⟨G, ι, env, st, P, Px, hR, hw, hS, hX⟩
  refine ⟨G, ι, env, st, _, Px, hR, hw, fun r0 e1 s1 G1 ι1 u H1 p1 g1 R1 ro => ?_, hX⟩
  refine ⟨G1, ι1, e1, s1, _, Px, R1, p1, fun k e2 s2 G2 ι2 y H2 p2 g2 R2 rk => ?_, hX.mono g1⟩
  refine cur_ok eK R2 (ro.mono g2.sub g2.pre) rk p2 fun d0 z p3 rz => ?_
  refine ⟨G2, ι2, e2, s2, _, Px, R2, p3, fun d e3 s3 G3 ι3 v H3 p4 g3 R3 rd => ?_, (hX.mono g1).mono g2⟩
  refine ho2 lk G3 ι3 e3 s3 σ H3 z v d0 d _ _ R3 (.inl (rz.grow g3)) (.inl rd) p4 fun d' G4 x H4 p5 g4 R4 rx => ?_
  exact set_ok R4 (ro.mono ((g2.trans g3).trans g4).sub ((g2.trans g3).trans g4).pre) (rk.grow (g3.trans g4)) rx p5 fun env' st' H' p R' => hS.nx env' st' G4 ι3 σ H' p (((g1.trans g2).trans g3).trans g4) R')
theorem s_augIxAdd {i : Expr} {tpos : Pos} (hu : X.A.units + 1 < cLine) (eK : X.K = C.K) (ho : PE X o (liftO C lk wo)) (hi : PE X i (liftE C lk wi)) (he : PE X e (liftE C lk we))
    (ha : ∀ ov iv new, augStore i ov iv new = (do holding [new, ov, iv] (setItem ov iv new); release [new, ov, iv] []; pure .next) := by intros; rfl) : PS X (.AugAssign (.Subscript o i tpos) .Add e pos) (liftS C lk (wAugIx addI wo wi we)) := s_augIx hu eK iop_add op2_addI ho hi he ha
theorem s_augIxSub {i : Expr} {tpos : Pos} (hu : X.A.units + 1 < cLine) (eK : X.K = C.K) (ho : PE X o (liftO C lk wo)) (hi : PE X i (liftE C lk wi)) (he : PE X e (liftE C lk we))
    (ha : ∀ ov iv new, augStore i ov iv new = (do holding [new, ov, iv] (setItem ov iv new); release [new, ov, iv] []; pure .next) := by intros; rfl) : PS X (.AugAssign (.Subscript o i tpos) .Sub e pos) (liftS C lk (wAugIx subD wo wi we)) := s_augIx hu eK iop_sub op2_sub ho hi he ha
end
end VL

/-! The value layer: built-in functions. -/
namespace VL
open PySem PySem.Spec PyProof.Rows L2
section
variable {X : Cx} {C : Ctx} {lk : Lks} {pos p : Pos} {e : Expr} {es : List Expr} {wo : WO} {wr : WA} {na : Nat}
/-- a call of one argument, by values -/
def Call1 (C : Ctx) (r : List V → Hp → VK → Prop) (f : D → (D → Prop) → Prop) : Prop := ∀ lk G ι env st σ H x d P (Q : VK), R C lk G ι env st σ H → Bor C.K G ι H x d → f d P → KV1 C lk G ι env st σ P Q → r [x] H Q
def KV1F (C : Ctx) (lk : Lks) (G : Hp) (ι : List Addr) (env : EnvD) (st : Sto) (σ : L2.St) (P : D → Prop) (Q : VK) : Prop := ∀ d G' a H', P d → Grow C G ι G' ι → R C lk G' ι env st σ H' → OwnAt C G' ι H' a d → NoSlot env σ a → Q (.ref a) H'
def Call1F (C : Ctx) (r : List V → Hp → VK → Prop) (f : D → (D → Prop) → Prop) : Prop := ∀ lk G ι env st σ H x d P (Q : VK), R C lk G ι env st σ H → Bor C.K G ι H x d → f d P → KV1F C lk G ι env st σ P Q → r [x] H Q
def wC1 (f : D → (D → Prop) → Prop) (wo : WO) : WE := fun env st Q Qx => wo env st (fun r e s => r.get e fun d => f d fun d' => Q d' e s) Qx
theorem pa1 {t : TE} (h : PE X e t) (hs : starEach [e] X.env = (false, eval e X.env) :: starEach [] X.env) : PA X [e] (tCons t tNil) := pa_cons h pa_nil hs
theorem c1Lift {r : List V → Hp → VK → Prop} {f : D → (D → Prop) → Prop} (hf : Call1 C r f) {σ : L2.St} {H : Hp} {Q : VK} (h : liftE C lk (wC1 f wo) σ H Q) : tCB r (tCons (liftO C lk wo) tNil) σ H Q := by
  obtain ⟨G, ι, env, st, P, Px, hR, hw, hQ, hX⟩ := h
  refine ⟨G, ι, env, st, _, Px, hR, hw, fun r1 e s G' ι' v H' p g r rp => ?_, hX⟩
  obtain ⟨d, p, b⟩ := r.bor rp p
  exact hf lk G' ι' e s σ H' v d _ Q r b p fun d' G2 z H2 p2 g2 r2 rp2 => hQ d' e s G2 ι' z H2 p2 (g.trans g2) r2 rp2
theorem c1LiftF {r : List V → Hp → VK → Prop} {f : D → (D → Prop) → Prop} (hf : Call1F C r f) {σ : L2.St} {H : Hp} {Q : VK} (h : liftF C lk (wC1 f wo) σ H Q) : tCB r (tCons (liftO C lk wo) tNil) σ H Q := by
  obtain ⟨G, ι, env, st, P, Px, hR, hw, hQ, hX⟩ := h
  refine ⟨G, ι, env, st, _, Px, hR, hw, fun r1 e s G' ι' v H' p g r rp => ?_, hX⟩
  obtain ⟨d, p, b⟩ := r.bor rp p
  exact hf lk G' ι' e s σ H' v d _ Q r b p fun d' G2 a H2 p2 g2 r2 o n => hQ d' e s G2 ι' a H2 p2 (g.trans g2) r2 o n
variable {x : Str}
theorem e_blt1 {id : String} {r : List V → Hp → VK → Prop} {f : D → (D → Prop) → Prop} (hc : CallR X (.builtin id) r) (hf : Call1 C r f) (hg : Gl X x) (hm : X.mg x = none) (hv : bootBuiltins x = some (.builtin id)) (ha : PE X e (liftO C lk wo)) (hn : x ≠ "__name__" := by decide) (hdb : (x == ("__debug__" : Str)) = false := by decide)
    (he : starEach [e] X.env = (false, eval e X.env) :: starEach [] X.env := by rfl) (hpl : (backTo pos (starEach [] X.env)).any (·.1) = false := by rfl) : PE X (.Call (.Name x p) [e] [] pos) (liftE C lk (wC1 f wo)) :=
  PEi (pe_callB hc hg hm hv (pa1 ha he) hn hdb he hpl) fun _ _ _ h => c1Lift hf h
theorem f_blt1 {id : String} {r : List V → Hp → VK → Prop} {f : D → (D → Prop) → Prop} (hc : CallR X (.builtin id) r) (hf : Call1F C r f) (hg : Gl X x) (hm : X.mg x = none) (hv : bootBuiltins x = some (.builtin id)) (ha : PE X e (liftO C lk wo)) (hn : x ≠ "__name__" := by decide) (hdb : (x == ("__debug__" : Str)) = false := by decide)
    (he : starEach [e] X.env = (false, eval e X.env) :: starEach [] X.env := by rfl) (hpl : (backTo pos (starEach [] X.env)).any (·.1) = false := by rfl) : PE X (.Call (.Name x p) [e] [] pos) (liftF C lk (wC1 f wo)) :=
  PEi (pe_callB hc hg hm hv (pa1 ha he) hn hdb he hpl) fun _ _ _ h => c1LiftF hf h
theorem e_ty1 {T : String} {r : List V → Hp → VK → Prop} {f : D → (D → Prop) → Prop} (hc : CallR X (.type T) r) (hf : Call1 C r f) (hg : Gl X x) (hm : X.mg x = none) (hv : bootBuiltins x = some (.type T)) (ha : PE X e (liftO C lk wo)) (hn : x ≠ "__name__" := by decide) (hdb : (x == ("__debug__" : Str)) = false := by decide)
    (he : starEach [e] X.env = (false, eval e X.env) :: starEach [] X.env := by rfl) (hpl : (backTo pos (starEach [] X.env)).any (·.1) = false := by rfl) : PE X (.Call (.Name x p) [e] [] pos) (liftE C lk (wC1 f wo)) :=
  PEi (pe_callTy hc hg hm hv (pa1 ha he) hn hdb he hpl) fun _ _ _ h => c1Lift hf h
theorem f_ty1 {T : String} {r : List V → Hp → VK → Prop} {f : D → (D → Prop) → Prop} (hc : CallR X (.type T) r) (hf : Call1F C r f) (hg : Gl X x) (hm : X.mg x = none) (hv : bootBuiltins x = some (.type T)) (ha : PE X e (liftO C lk wo)) (hn : x ≠ "__name__" := by decide) (hdb : (x == ("__debug__" : Str)) = false := by decide)
    (he : starEach [e] X.env = (false, eval e X.env) :: starEach [] X.env := by rfl) (hpl : (backTo pos (starEach [] X.env)).any (·.1) = false := by rfl) : PE X (.Call (.Name x p) [e] [] pos) (liftF C lk (wC1 f wo)) :=
  PEi (pe_callTy hc hg hm hv (pa1 ha he) hn hdb he hpl) fun _ _ _ h => c1LiftF hf h

/-! ### len -/
def lenD : D → (D → Prop) → Prop
  | .lst xs, P => P (.int xs.length)
  | .tup xs, P => P (.int xs.length)
  | .scr ns, P => P (.int ns.length)
  | .str s, P => s.length ≤ 16777216 ∧ P (.int s.length)
  | _, _ => False
theorem c1_len (eK : X.K = C.K) : Call1 C (fun xs H Q => ∃ x n, xs = [x] ∧ LenV X.K x H n ∧ Q (.int n) H) lenD := by
  intro lk G ι env st σ H x d P Q hR b hf k
  cases d with
  | lst ds =>
    obtain ⟨a, xs, rfl, h, r⟩ := b.lst hR
    exact ⟨_, _, rfl, .inl ⟨xs, .of h, rfl⟩, by rw [r.len]; exact k _ G _ H hf .refl hR .int⟩
  | tup ds =>
    obtain ⟨a, xs, rfl, h, r⟩ := b.tup hR
    exact ⟨_, _, rfl, .inr ⟨xs, .of h, rfl⟩, by rw [r.len]; exact k _ G _ H hf .refl hR .int⟩
  | scr ns =>
    obtain ⟨a, rfl, h⟩ := b.scr hR
    exact ⟨_, _, rfl, .inl ⟨_, by rw [eK]; exact h, rfl⟩, by rw [List.length_map]; exact k _ G _ H hf .refl hR .int⟩
  | str s =>
    rw [b.str]
    exact ⟨_, _, rfl, ⟨by rw [sizeLine_eq]; exact hf.1, rfl⟩, k _ G _ H hf.2 .refl hR .int⟩
  | _ => exact hf.elim
theorem e_len (eK : X.K = C.K) (hg : Gl X "len") (hm : X.mg "len" = none) (ha : PE X e (liftO C lk wo)) (he : starEach [e] X.env = (false, eval e X.env) :: starEach [] X.env := by rfl) (hpl : (backTo pos (starEach [] X.env)).any (·.1) = false := by rfl) :
    PE X (.Call (.Name "len" p) [e] [] pos) (liftE C lk (wC1 lenD wo)) := e_blt1 call_len (c1_len eK) hg hm PySem.boot_len ha (by decide) (by decide) he hpl

/-! ### sum, max, min of ints -/
def sumD : D → (D → Prop) → Prop
  | .lst xs, P => (match keyInts xs with
    | some ns => P (.int ns.sum)
    | none => False)
  | .tup xs, P => (match keyInts xs with
    | some ns => P (.int ns.sum)
    | none => False)
  | .scr ns, P => P (.int ns.sum)
  | _, _ => False
def rSumA (K : PySem.W.Frag) : List V → Hp → VK → Prop := fun vs H Q => rSum K vs H Q ∨ ∃ (a : Addr) (ns : List Int), vs = [V.ref a] ∧ SqT K H a (ns.map V.int) ∧ Q (.int ns.sum) H
theorem cr_sumA (hc : X.calm = true) : CallR X (.builtin "sum") (rSumA X.K) := by
  intro pins s σ H vs us Q I r h
  rcases h with h | ⟨a, ns, rfl, hs, q⟩
  · exact cr_sum hc pins s σ H vs us Q I r h
  · obtain ⟨its, rv, hl, _⟩ := I.tuple hs
    rw [Vals.ref1 r]
    obtain ⟨xs, e⟩ := rv.ints.allInts.items
    have hn : numsOf (intItems xs).toList = ns := by rw [← e]; exact rv.ints.numsOf
    rw [nums_intItems] at hn
    rw [e] at hl
    refine PySem.W.ktm_sumG (I.ok.hd hc) hl fun h' tk t' hk => ?_
    refine ⟨.int _, H, I.kept hk, ⟨_, rfl⟩, ?_⟩
    rw [preSum_eq, List.take_of_length_le (by simp), hn]; exact q
theorem c1_sum (eK : X.K = C.K) : Call1 C (rSumA X.K) sumD := by
  intro lk G ι env st σ H x d P Q hR b hf k
  cases d with
  | lst ds =>
    unfold sumD at hf
    dsimp only at hf
    split at hf
    · rename_i ns hns
      obtain ⟨a, xs, rfl, h, r⟩ := b.lst hR
      rw [keyInts_eq hns] at r
      rw [r.ints] at h
      exact .inl ⟨a, ns, rfl, .of h, k _ G _ H hf .refl hR .int⟩
    · exact hf.elim
  | tup ds =>
    unfold sumD at hf
    dsimp only at hf
    split at hf
    · rename_i ns hns
      obtain ⟨a, xs, rfl, h, r⟩ := b.tup hR
      rw [keyInts_eq hns] at r
      rw [r.ints] at h
      exact .inr ⟨a, ns, rfl, .of h, k _ G _ H hf .refl hR .int⟩
    · exact hf.elim
  | scr ns =>
    obtain ⟨a, rfl, h⟩ := b.scr hR
    exact .inl ⟨a, ns, rfl, by rw [eK]; exact h, k _ G _ H hf .refl hR .int⟩
  | _ => exact hf.elim
theorem e_sum (hc : X.calm = true) (eK : X.K = C.K) (hg : Gl X "sum") (hm : X.mg "sum" = none) (ha : PE X e (liftO C lk wo)) (he : starEach [e] X.env = (false, eval e X.env) :: starEach [] X.env := by rfl) (hpl : (backTo pos (starEach [] X.env)).any (·.1) = false := by rfl) :
    PE X (.Call (.Name "sum" p) [e] [] pos) (liftE C lk (wC1 sumD wo)) := e_blt1 (cr_sumA hc) (c1_sum eK) hg hm (by decide +kernel) ha (by decide) (by decide) he hpl
def maxD : D → (D → Prop) → Prop
  | .lst xs, P => (match keyInts xs with
    | some ns => 0 < ns.length ∧ ∀ m, m ∈ ns → (∀ y, y ∈ ns → y ≤ m) → P (.int m)
    | none => False)
  | _, _ => False
def minD : D → (D → Prop) → Prop
  | .lst xs, P => (match keyInts xs with
    | some ns => 0 < ns.length ∧ ∀ m, m ∈ ns → (∀ y, y ∈ ns → m ≤ y) → P (.int m)
    | none => False)
  | _, _ => False
theorem c1_max (eK : X.K = C.K) : Call1 C (rMax X.K) maxD := by
  intro lk G ι env st σ H x d P Q hR b hf k
  cases d with
  | lst ds =>
    unfold maxD at hf
    dsimp only at hf
    split at hf
    · rename_i ns hns
      obtain ⟨a, xs, rfl, h, r⟩ := b.lst hR
      rw [keyInts_eq hns] at r
      rw [r.ints] at h
      exact ⟨a, ns, rfl, .of h, hf.1, fun m h1 h2 => k _ G _ H (hf.2 m h1 h2) .refl hR .int⟩
    · exact hf.elim
  | _ => exact hf.elim
theorem c1_min (eK : X.K = C.K) : Call1 C (rMin X.K) minD := by
  intro lk G ι env st σ H x d P Q hR b hf k
  cases d with
  | lst ds =>
    unfold minD at hf
    dsimp only at hf
    split at hf
    · rename_i ns hns
      obtain ⟨a, xs, rfl, h, r⟩ := b.lst hR
      rw [keyInts_eq hns] at r
      rw [r.ints] at h
      exact ⟨a, ns, rfl, .of h, hf.1, fun m h1 h2 => k _ G _ H (hf.2 m h1 h2) .refl hR .int⟩
    · exact hf.elim
  | _ => exact hf.elim
theorem e_max1 (hc : X.calm = true) (eK : X.K = C.K) (hg : Gl X "max") (hm : X.mg "max" = none) (ha : PE X e (liftO C lk wo)) (he : starEach [e] X.env = (false, eval e X.env) :: starEach [] X.env := by rfl) (hpl : (backTo pos (starEach [] X.env)).any (·.1) = false := by rfl) :
    PE X (.Call (.Name "max" p) [e] [] pos) (liftE C lk (wC1 maxD wo)) := e_blt1 (cr_max hc) (c1_max eK) hg hm (by decide +kernel) ha (by decide) (by decide) he hpl
theorem e_min1 (hc : X.calm = true) (eK : X.K = C.K) (hg : Gl X "min") (hm : X.mg "min" = none) (ha : PE X e (liftO C lk wo)) (he : starEach [e] X.env = (false, eval e X.env) :: starEach [] X.env := by rfl) (hpl : (backTo pos (starEach [] X.env)).any (·.1) = false := by rfl) :
    PE X (.Call (.Name "min" p) [e] [] pos) (liftE C lk (wC1 minD wo)) := e_blt1 (cr_min hc) (c1_min eK) hg hm (by decide +kernel) ha (by decide) (by decide) he hpl
/-! ### two ints -/
def wC2 (f : Int → Int → Int) (wr : WA) : WE := fun env st Q Qx => wr env st (fun ds e s => match ds with | [.int i, .int j] => Q (.int (f i j)) e s | _ => False) Qx
def maxI (i j : Int) : Int := if j > i then j else i
def minI (i j : Int) : Int := if j < i then j else i
theorem c2Lift {f : Int → Int → Int} {σ : L2.St} {H : Hp} {Q : VK} (h : liftE C lk (wC2 f wr) σ H Q) : tCB (fun xs H Q => ∃ i j, xs = [.int i, .int j] ∧ Q (.int (f i j)) H) (liftA C lk na wr) σ H Q := by
  obtain ⟨G, ι, env, st, P, Px, hR, hw, hQ, hX⟩ := h
  refine ⟨G, ι, env, st, _, Px, hR, hw, fun ds e s G' ι' vs H' p _ g r rp => ?_, hX⟩
  split at p
  · cases rp with
    | cons r1 rr =>
      cases rr with
      | cons r2 rr =>
        cases rr
        rw [rep_int r1, rep_int r2]
        exact ⟨_, _, rfl, hQ _ e s G' ι' _ H' p g r .int⟩
  · exact p.elim
variable {a b : Expr}
theorem e_max2 (hc : X.calm = true) (hg : Gl X "max") (hm : X.mg "max" = none) (ha : PA X [a, b] (liftA C lk na wr)) (he : starEach [a, b] X.env = (false, eval a X.env) :: starEach [b] X.env := by rfl) (hpl : (backTo pos (starEach [b] X.env)).any (·.1) = false := by rfl) :
    PE X (.Call (.Name "max" p) [a, b] [] pos) (liftE C lk (wC2 maxI wr)) := PEi (pe_callB (call_max2 hc) hg hm (by decide +kernel) ha (by decide) (by decide) he hpl) fun _ _ _ h => c2Lift h
theorem e_min2 (hc : X.calm = true) (hg : Gl X "min") (hm : X.mg "min" = none) (ha : PA X [a, b] (liftA C lk na wr)) (he : starEach [a, b] X.env = (false, eval a X.env) :: starEach [b] X.env := by rfl) (hpl : (backTo pos (starEach [b] X.env)).any (·.1) = false := by rfl) :
    PE X (.Call (.Name "min" p) [a, b] [] pos) (liftE C lk (wC2 minI wr)) := PEi (pe_callB (call_min2 hc) hg hm (by decide +kernel) ha (by decide) (by decide) he hpl) fun _ _ _ h => c2Lift h
/-! ### int(x), str(n), abs(n) -/
def intD : D → (D → Prop) → Prop
  | .int i, P => P (.int i)
  | .bl b, P => P (.int (if b then 1 else 0))
  | _, _ => False
theorem c1_int : Call1 C (fun xs H Q => (∃ i, xs = [.int i] ∧ Q (.int i) H) ∨ ∃ k, xs = [.bl k] ∧ Q (.int (if k then 1 else 0)) H) intD := by
  intro lk G ι env st σ H x d P Q hR b hf k
  cases d with
  | int i => rw [b.int]; exact .inl ⟨i, rfl, k _ G _ H hf .refl hR .int⟩
  | bl i => rw [b.bl]; exact .inr ⟨i, rfl, k _ G _ H hf .refl hR .int⟩
  | _ => exact hf.elim
theorem e_toInt (hg : Gl X "int") (hm : X.mg "int" = none) (ha : PE X e (liftO C lk wo)) (he : starEach [e] X.env = (false, eval e X.env) :: starEach [] X.env := by rfl) (hpl : (backTo pos (starEach [] X.env)).any (·.1) = false := by rfl) :
    PE X (.Call (.Name "int" p) [e] [] pos) (liftE C lk (wC1 intD wo)) := e_ty1 call_int1 c1_int hg hm (by decide +kernel) ha (by decide) (by decide) he hpl
def absD : D → (D → Prop) → Prop
  | .int i, P => P (.int (if i < 0 then -i else i))
  | _, _ => False
theorem c1_abs : Call1 C (fun xs H Q => ∃ i, xs = [.int i] ∧ Q (.int (if i < 0 then -i else i)) H) absD := by
  intro lk G ι env st σ H x d P Q hR b hf k
  cases d with
  | int i => rw [b.int]; exact ⟨i, rfl, k _ G _ H hf .refl hR .int⟩
  | _ => exact hf.elim
theorem e_abs (hg : Gl X "abs") (hm : X.mg "abs" = none) (ha : PE X e (liftO C lk wo)) (he : starEach [e] X.env = (false, eval e X.env) :: starEach [] X.env := by rfl) (hpl : (backTo pos (starEach [] X.env)).any (·.1) = false := by rfl) :
    PE X (.Call (.Name "abs" p) [e] [] pos) (liftE C lk (wC1 absD wo)) := e_blt1 call_abs c1_abs hg hm (by decide +kernel) ha (by decide) (by decide) he hpl
/-! ### tuple(xs), list(xs), sorted(xs) -/
def tupD : D → (D → Prop) → Prop
  | .lst xs, P => P (.tup xs)
  | .tup xs, P => P (.tup xs)
  | _, _ => False
theorem c1_tup (eK : X.K = C.K) : Call1 C (fun xs H Q => ∃ p ys, xs = [.ref p] ∧ ((SqL X.K H p ys ∧ ∀ l, H l = none → Q (.ref l) (upd H l (.tup ys))) ∨ (SqT X.K H p ys ∧ Q (.ref p) H))) tupD := by
  intro lk G ι env st σ H x d P Q hR b hf k
  cases d with
  | lst ds =>
    obtain ⟨a, xs, rfl, h, r⟩ := b.lst hR
    exact ⟨a, xs, rfl, .inl ⟨.of h, fun l hl => newVal hR k hl hf (.tup r)⟩⟩
  | tup ds =>
    obtain ⟨a, xs, rfl, h, r⟩ := b.tup hR
    exact ⟨a, xs, rfl, .inr ⟨.of h, k _ G _ H hf .refl hR (b.rep fun o q m => by cases q; exact m)⟩⟩
  | _ => exact hf.elim
theorem e_tuple (eK : X.K = C.K) (hg : Gl X "tuple") (hm : X.mg "tuple" = none) (ha : PE X e (liftO C lk wo)) (he : starEach [e] X.env = (false, eval e X.env) :: starEach [] X.env := by rfl) (hpl : (backTo pos (starEach [] X.env)).any (·.1) = false := by rfl) :
    PE X (.Call (.Name "tuple" p) [e] [] pos) (liftE C lk (wC1 tupD wo)) := e_ty1 call_tuple_of (c1_tup eK) hg hm (by decide +kernel) ha (by decide) (by decide) he hpl
def lstD : D → (D → Prop) → Prop
  | .lst xs, P => P (.lst xs)
  | .tup xs, P => P (.lst xs)
  | _, _ => False
theorem newOwn {G : Hp} {ι : List Addr} {env : EnvD} {st : Sto} {σ : L2.St} {H : Hp} {P : D → Prop} {Q : VK} {p : Addr} {o : HO} {d : D} (hR : R C lk G ι env st σ H) (k : KV1F C lk G ι env st σ P Q) (hp : H p = none) (hd : P d) (h : HRep C.K G ι o d) (m : Mut (some o)) : Q (.ref p) (upd H p o) := by
  obtain ⟨r, o', n⟩ := newFresh hR hp h m
  exact k d G p _ hd .refl r o' n
theorem c1_lst (eK : X.K = C.K) : Call1F C (fun xs H Q => ∃ p ys, xs = [.ref p] ∧ (SqL X.K H p ys ∨ SqT X.K H p ys) ∧ ∀ l, H l = none → Q (.ref l) (upd H l (.lst ys))) lstD := by
  intro lk G ι env st σ H x d P Q hR b hf k
  cases d with
  | lst ds =>
    obtain ⟨a, xs, rfl, h, r⟩ := b.lst hR
    exact ⟨a, xs, rfl, .inl (.of h), fun l hl => newOwn hR k hl hf (.lst r) True.intro⟩
  | tup ds =>
    obtain ⟨a, xs, rfl, h, r⟩ := b.tup hR
    exact ⟨a, xs, rfl, .inr (.of h), fun l hl => newOwn hR k hl hf (.lst r) True.intro⟩
  | _ => exact hf.elim
theorem f_list (eK : X.K = C.K) (hg : Gl X "list") (hm : X.mg "list" = none) (ha : PE X e (liftO C lk wo)) (he : starEach [e] X.env = (false, eval e X.env) :: starEach [] X.env := by rfl) (hpl : (backTo pos (starEach [] X.env)).any (·.1) = false := by rfl) :
    PE X (.Call (.Name "list" p) [e] [] pos) (liftF C lk (wC1 lstD wo)) := f_ty1 call_list_of (c1_lst eK) hg hm (by decide +kernel) ha (by decide) (by decide) he hpl
/-! ### isinstance(x, T), T a built-in type -/
def tyN : D → Option String
  | .non => some "NoneType"
  | .bl _ => some "bool"
  | .int _ => some "int"
  | .str _ => some "str"
  | .lst _ => some "list"
  | .tup _ => some "tuple"
  | _ => none
/-- is a value of the type n one of T -/
def isT (T n : String) : Bool := n == T || (T == "int" && n == "bool")
def wIsi (T : String) (wo : WO) : WE := fun env st Q Qx => wo env st (fun r e s => r.get e fun d => match tyN d with
  | some n => Q (.bl (isT T n)) e s
  | none => False) Qx
theorem kit_tys (T : String) (h : T ∈ ["int", "bool", "str", "list", "tuple"]) (n : String) (hn : n ∈ ["NoneType", "bool", "int", "str", "list", "tuple"]) : kitB n T = some (isT T n) := by
  have h2 : ∀ n ∈ ["NoneType", "bool", "int", "str", "list", "tuple"], ∀ T ∈ ["int", "bool", "str", "list", "tuple"], kitB n T = some (isT T n) := by decide +kernel
  exact h2 n hn T h
theorem e_isi {T : String} {y : Str} {p2 : Pos} (eK : X.K = C.K) (hT : T ∈ ["int", "bool", "str", "list", "tuple"]) (hg : Gl X "isinstance") (hm : X.mg "isinstance" = none) (ha : PE X a (liftO C lk wo)) (hgT : Gl X y) (hmT : X.mg y = none) (hvT : bootBuiltins y = some (.type T)) (hnT : y ≠ "__name__" := by decide) (hdT : (y == ("__debug__" : Str)) = false := by decide)
    (he : starEach [a, .Name y p2] X.env = (false, eval a X.env) :: starEach [.Name y p2] X.env := by rfl) (he2 : starEach [.Name y p2] X.env = (false, eval (.Name y p2) X.env) :: starEach [] X.env := by rfl) (hpl : (backTo pos (starEach [.Name y p2] X.env)).any (·.1) = false := by rfl) :
    PE X (.Call (.Name "isinstance" p) [a, .Name y p2] [] pos) (liftE C lk (wIsi T wo)) :=
  PEi (pe_callB call_isi hg hm (by decide +kernel) (pa_cons ha (pa_cons (pe_bltn (v := .ty T) hgT hmT hvT rfl hnT hdT) pa_nil he2) he) (by decide) (by decide) he hpl) (by
  rintro σ H Q ⟨G, ι, env, st, P, Px, hR, hw, hQ, hX⟩
  refine ⟨G, ι, env, st, _, Px, hR, hw, fun r1 e s G' ι' v H' p g r rp => ?_, hX⟩
  obtain ⟨d, p, b⟩ := r.bor rp p
  have fin : ∀ n, tyN d = some n → n ∈ ["NoneType", "bool", "int", "str", "list", "tuple"] → TyX X.K H' v (.type n) → ∃ (x c : V) (t u : Value) (b : Bool), [v, V.ty T] = [x, c] ∧ ClsV c u ∧ TyX X.K H' x t ∧ PySem.W.kitOne X.K t u = some b ∧ Q (.bl b) H' := fun n e1 hn ty => by
    rw [e1] at p
    exact ⟨v, .ty T, .type n, .type T, isT T n, rfl, .ty T, ty, kit_ty (kit_tys T hT n hn), hQ _ e s G' ι' _ H' p g r .bl⟩
  cases d with
  | non => exact fin _ rfl (by decide) (by rw [b.non]; exact .base .non)
  | bl i => exact fin _ rfl (by decide) (by rw [b.bl]; exact .base (.bl i))
  | int i => exact fin _ rfl (by decide) (by rw [b.int]; exact .base (.int i))
  | str i => exact fin _ rfl (by decide) (by rw [b.str]; exact .base (.str i))
  | lst ds =>
    obtain ⟨a, xs, rfl, h, _⟩ := b.lst r
    exact fin _ rfl (by decide) (.base (.lst h))
  | tup ds =>
    obtain ⟨a, xs, rfl, h, _⟩ := b.tup r
    exact fin _ rfl (by decide) (.base (.tup h))
  | _ => exact p.elim)
/-! ### d.get(k), d.get(k, x) -/
variable {o : Expr} {wa wb : WE} {apos cpos : Pos}
def isDict (r : DR) (env : EnvD) : Prop := r.get env fun d => match d with
  | .dI _ => True
  | .dT _ => True
  | _ => False
def wGet1 (wo : WO) (wa : WE) : WE := fun env st Q Qx => wo env st (fun r e1 s1 => isDict r e1 ∧ wa e1 s1 (fun k e2 s2 => r.get e2 fun d => dGet d k fun o => Q (o.getD .non) e2 s2) Qx) Qx
def wGet2 (wo : WO) (wa wb : WE) : WE := fun env st Q Qx => wo env st (fun r e1 s1 => isDict r e1 ∧ wa e1 s1 (fun k e2 s2 => wb e2 s2 (fun z e3 s3 => r.get e3 fun d => dGet d k fun o => Q (o.getD z) e3 s3) Qx) Qx) Qx
theorem isDict_ok {G : Hp} {ι : List Addr} {env : EnvD} {st : Sto} {σ : L2.St} {H : Hp} {v : V} {r : DR} (hR : R C lk G ι env st σ H) (h : DRel C.K G ι σ r v) (g : isDict r env) : ∃ a, v = .ref a ∧ IsD H a := by
  obtain ⟨d, g, b⟩ := hR.bor h g
  cases d with
  | dI kvs =>
    obtain ⟨a, xs, rfl, h, _⟩ := b.dI hR
    exact ⟨a, rfl, .inl ⟨xs, h⟩⟩
  | dT kvs =>
    obtain ⟨a, xs, rfl, h, _⟩ := b.dT hR
    exact ⟨a, rfl, .inr ⟨xs, h⟩⟩
  | _ => exact g.elim
theorem RelOD.getD {G : Hp} {ι : List Addr} {o : Option V} {u : Option D} {v : V} {d : D} (r : RelOD C.K G ι o u) (h : Rep C.K G ι v d) : Rep C.K G ι (o.getD v) (u.getD d) := by
  cases o <;> cases u <;> first | exact h | exact r | exact r.elim
theorem e_get1 (hu : X.A.units + 1 < cLine) (ho : PE X o (liftO C lk wo)) (ha : PE X a (liftE C lk wa)) (m : M1 X o "get" apos a cpos) : PE X (.Call (.Attribute o "get" apos) [a] [] cpos) (liftE C lk (wGet1 wo wa)) := PEi (pe_dget1 hu ho ha m) (by
  rintro σ H Q ⟨G, ι, env, st, P, Px, hR, hw, hQ, hX⟩
  refine ⟨G, ι, env, st, _, Px, hR, hw, fun r1 e1 s1 G1 ι1 v H1 p1 g1 R1 rp1 => ?_, hX⟩
  obtain ⟨l, rfl, hd⟩ := isDict_ok R1 rp1 p1.1
  refine ⟨l, rfl, hd, G1, ι1, e1, s1, _, Px, R1, p1.2, fun k e2 s2 G2 ι2 y H2 p2 g2 R2 rp2 => ?_, hX.mono g1⟩
  obtain ⟨d, p2, b⟩ := R2.bor (rp1.mono g2.sub g2.pre) p2
  obtain ⟨a', o, u, e, gd, ro, p⟩ := dGet_ok R2 b (.inl rp2) p2
  cases e
  exact ⟨o, gd, hQ _ e2 s2 G2 ι2 _ H2 p (g1.trans g2) R2 (ro.getD .non)⟩)
theorem e_get2 (hu : X.A.units + 1 < cLine) (ho : PE X o (liftO C lk wo)) (ha : PE X a (liftE C lk wa)) (hb : PE X b (liftE C lk wb)) (m : M2 X o "get" apos a b cpos) : PE X (.Call (.Attribute o "get" apos) [a, b] [] cpos) (liftE C lk (wGet2 wo wa wb)) := PEi (pe_dget2 hu ho ha hb m) (by
  rintro σ H Q ⟨G, ι, env, st, P, Px, hR, hw, hQ, hX⟩
  refine ⟨G, ι, env, st, _, Px, hR, hw, fun r1 e1 s1 G1 ι1 v H1 p1 g1 R1 rp1 => ?_, hX⟩
  obtain ⟨l, rfl, hd⟩ := isDict_ok R1 rp1 p1.1
  refine ⟨l, rfl, hd, G1, ι1, e1, s1, _, Px, R1, p1.2, fun k e2 s2 G2 ι2 y H2 p2 g2 R2 rp2 => ?_, hX.mono g1⟩
  refine ⟨G2, ι2, e2, s2, _, Px, R2, p2, fun z e3 s3 G3 ι3 u H3 p3 g3 R3 rp3 => ?_, (hX.mono g1).mono g2⟩
  obtain ⟨d, p3, b⟩ := R3.bor (rp1.mono (g2.trans g3).sub (g2.trans g3).pre) p3
  obtain ⟨a', o, u', e, gd, ro, p⟩ := dGet_ok R3 b (.inl (rp2.grow g3)) p3
  cases e
  exact ⟨o, gd, hQ _ e3 s3 G3 ι3 _ H3 p ((g1.trans g2).trans g3) R3 (ro.getD rp3)⟩)
/-! ### dict displays -/
def wDI : WE := fun env st Q _ => Q (.dI []) env st
def wDT : WE := fun env st Q _ => Q (.dT []) env st
theorem f_dI : PE X (.Dict [] [] pos) (liftF C lk wDI) := PEi pe_dnewK (by
  rintro σ H Q ⟨G, ι, env, st, P, Px, hR, hw, hQ, hX⟩ q hq
  obtain ⟨r, o, n⟩ := newFresh (d := .dI []) hR hq (.dI .nil) True.intro
  exact hQ _ env st G ι _ _ hw .refl r o n)
theorem f_dT : PE X (.Dict [] [] pos) (liftF C lk wDT) := PEi pe_dnewT (by
  rintro σ H Q ⟨G, ι, env, st, P, Px, hR, hw, hQ, hX⟩ q hq
  obtain ⟨r, o, n⟩ := newFresh (d := .dT []) hR hq (.dT .nil) True.intro
  exact hQ _ env st G ι _ _ hw .refl r o n)
/-! ### a list into the store -/
/-- a list display that is shared: its handle -/
def wHl (w : WA) : WE := fun env st Q Qx => w env st (fun ds e s => ds.length ≤ 16777216 ∧ Q (.hnd s.length) e (s ++ [.dat (.lst ds)])) Qx
theorem e_hl (h : PA X es (liftA C lk na wr)) : PE X (.List es pos) (liftE C lk (wHl wr)) := PEi (pe_lst h) (by
  rintro σ H Q ⟨G, ι, env, st, P, Px, hR, hw, hQ, hX⟩
  refine ⟨G, ι, env, st, _, Px, hR, hw, fun ds e s G' ι' vs H' p _ g r rp => ⟨by rw [sizeLine_eq, rp.len]; exact p.1, fun q hq => ?_⟩, hX⟩
  obtain ⟨r2, g2⟩ := r.newSto (x := .dat (.lst ds)) (o := .lst vs) hq (.dat (.lst (rp.mono (Sub.refl _) (List.prefix_append _ _))) True.intro)
  refine hQ _ e _ G' _ _ _ p.2 (g.trans g2) r2 (.hnd ?_)
  rw [r.slen, List.getElem?_append_right (Nat.le_refl _)]; simp)
end
end VL

/-! The value layer: callees by name, the law's end. -/
namespace VL
open PySem PySem.Spec PyProof.Rows L2

structure Callee (P : Program) (wd : World) (K : PySem.W.Frag) (mg : Str → Option Value) (base : Heap) (Cl : Str → Option Addr) (x : Str) (k n : Nat) (fr : Bool) (Phi : Spec) : Prop where
  ex : ∃ f fd ps, FnOk P wd K mg base (L2.CX P wd) k f fd ps (spOf K Cl n fr Phi) ∧ mg x = some (.ref f) ∧ PySem.W.keepIn K (.ref f) = true ∧ Binds K fd ps []
abbrev FnP (K : PySem.W.Frag) (x : Str) (st : Stmt) (f : Addr) (fd : FuncData) : Prop := FunD K x x (defArgs st) (defBody st) (defScope st) [] [] f fd
section
variable {P : Program} {wd : World} {K : PySem.W.Frag} {mg : Str → Option Value} {base : Heap}
theorem fn_okD {x qual : Str} {params : Arguments} {body : List Stmt} {scope : Scope} {f : Addr} {fd : FuncData} {N ps : List Str} {k : Nat} {Cl : Str → Option Addr} {fr : Bool} {w : WS} (F : FunD K x qual params body scope [] [] f fd) (S : FnScope N ps scope)
    (hb : ∀ (cdv : Value) (A : Around) (outer : List Env) (s : Shared) (H : Hp) (E : XK) (Fr : Hp) (W : WX), Room k (A.deeper (envOfC qual scope s.heap.objs.size f cdv)) → Takes (cxOf (L2.CX P wd) P wd K mg base N qual scope f cdv A outer s H E) W →
      PassesOwn (model P wd) (A.deeper (envOfC qual scope s.heap.objs.size f cdv)) (envOfC qual scope s.heap.objs.size f cdv) (cxOf (L2.CX P wd) P wd K mg base N qual scope f cdv A outer s H E).xe →
      PSs (cxOf (L2.CX P wd) P wd K mg base N qual scope f cdv A outer s H E) body (liftS ⟨⟨K, Cl⟩, Fr, W, fr⟩ [] w)) :
    FnOk P wd K mg base (L2.CX P wd) (k + 1) f fd ps (spOf K Cl ps.length fr (specW fr N.length w)) := by
  refine F.ok S (fun vs H Q E h => h.1) (fun cdv A outer s H vs Q E hr h => ?_)
  obtain ⟨hl, G, ι, ds, sto, Pr, Px, hR, hrep, hw, hret, hexn⟩ := h
  refine ⟨_, hb cdv A outer s H E (hid H ι) (fun cls d _ H' => E cls d H') hr ?_ ?_, ?_⟩
  · exact takes_of rfl rfl rfl rfl
  · exact passes_of rfl
  · have hN : ps.length ≤ N.length := by
      have := congrArg List.length S.pre
      rw [List.length_take] at this
      omega
    have hR' : R (inCtx K Cl H ι E fr) [] G ι (envOf N.length ds) sto (L2.start N vs) H := by
      refine ⟨?_, hR.fF, hR.lkd, hR.fG, fun i s e => ?_, fun i j d e a q => ?_, hR.slen, hR.sto, hR.sg, hR.nd, hR.lk2⟩
      · unfold envOf L2.start
        simp only [List.length_append, List.length_map, List.length_replicate, hrep.len]
      · obtain ⟨d, hd, rfl⟩ := envOf_get e
        obtain ⟨v, hv, rp⟩ := hrep.get hd
        exact ⟨v, start_get hv, .sh rp⟩
      · obtain ⟨d', _, q2⟩ := envOf_get q
        cases q2
    have exn : XOk (inCtx K Cl H ι E fr) [] G ι (fun x _ s => Px x s) := fun x env st' G' ι' σ' H' cls d p g r q => hexn x st' G' ι' cls d H' p g r.bare q
    have ret : ∀ d env st' G' ι' σ' H' v, Pr d st' → Grow (inCtx K Cl H ι E fr) G ι G' ι' → R (inCtx K Cl H ι E fr) [] G' ι' env st' σ' H' → RetV (inCtx K Cl H ι E fr) G' ι' H' v d → Q v H' := fun d env st' G' ι' σ' H' v p g r q => hret d st' G' ι' v H' p g r.bare q
    cases fr with
    | true => exact ⟨G, ι, _, sto, _, _, hR', hw, ⟨fun env st' G' ι' σ' H' p => False.elim p, fun env st' G' ι' σ' H' p => False.elim p, fun env st' G' ι' σ' H' p => False.elim p, fun d env st' G' ι' σ' H' v p g r q => ret d env st' G' ι' σ' H' v p g r q⟩, exn⟩
    | false => exact ⟨G, ι, _, sto, _, _, hR', hw, ⟨fun env st' G' ι' σ' H' p g r => ret .non env st' G' ι' σ' H' .non p g r .non, fun env st' G' ι' σ' H' p => False.elim p, fun env st' G' ι' σ' H' p => False.elim p, fun d env st' G' ι' σ' H' v p g r q => ret d env st' G' ι' σ' H' v p g r q⟩, exn⟩
theorem mk_callee {x : Str} {st : Stmt} {f : Addr} {fd : FuncData} {N ps : List Str} {k : Nat} {Cl : Str → Option Addr} {fr : Bool} {w : WS} {Phi : Spec} (F : FnP K x st f fd) (S : FnScope N ps (defScope st)) (m : mg x = some (.ref f))
    (h : ∀ (kV doc pm : Value) (an : Option Addr) (cdv ct : Value) (us : List Value), us.length = ps.length → bindArgs (PySem.W.fnOf x x (defArgs st) (defBody st) (defScope st) .none kV doc pm an cdv ct) ⟨us, []⟩ = pure (ps.zip us))
    (hb : ∀ (cdv : Value) (A : Around) (outer : List Env) (s : Shared) (H : Hp) (E : XK) (Fr : Hp) (W : WX), Room k (A.deeper (envOfC x (defScope st) s.heap.objs.size f cdv)) → Takes (cxOf (L2.CX P wd) P wd K mg base N x (defScope st) f cdv A outer s H E) W →
      PassesOwn (model P wd) (A.deeper (envOfC x (defScope st) s.heap.objs.size f cdv)) (envOfC x (defScope st) s.heap.objs.size f cdv) (cxOf (L2.CX P wd) P wd K mg base N x (defScope st) f cdv A outer s H E).xe →
      PSs (cxOf (L2.CX P wd) P wd K mg base N x (defScope st) f cdv A outer s H E) (defBody st) (liftS ⟨⟨K, Cl⟩, Fr, W, fr⟩ [] w))
    (hPhi : ∀ ds st Q Qx, Phi ds st Q Qx → specW fr N.length w ds st Q Qx) : Callee P wd K mg base Cl x (k + 1) ps.length fr Phi :=
  ⟨f, fd, ps, fn_imp (fn_okD F S hb) hPhi, m, F.kp, FunD.bindsN F h⟩
end
section
variable {X : Cx} {C : Ctx} {lk : Lks} {pos p : Pos} {k k' n : Nat} {x : Str} {e : Expr} {es : List Expr} {wr : WA} {Phi : Spec}
theorem e_own (c : Callee X.prog X.w X.K X.mg X.base C.K.Cl x k n false Phi) (eK : X.K = C.K) (hr : Room k' X.A) (hk : k ≤ k') (hg : Gl X x) (tk : Takes X C.W) (ha : PA X (e :: es) (liftA C lk n wr)) (hdb : (x == ("__debug__" : Str)) = false := by decide)
    (he : starEach (e :: es) X.env = (false, eval e X.env) :: starEach es X.env := by rfl) (hpl : (backTo pos (starEach es X.env)).any (·.1) = false := by rfl) : PE X (.Call (.Name x p) (e :: es) [] pos) (liftE C lk (wCall Phi wr)) := by
  obtain ⟨f, fd, ps, F, hm, kp, hb⟩ := c.ex
  exact e_call eK (by rw [← eK]; exact F) (hr.mono hk) hg hm kp hb tk ha hdb he hpl
theorem f_own (c : Callee X.prog X.w X.K X.mg X.base C.K.Cl x k n true Phi) (eK : X.K = C.K) (hr : Room k' X.A) (hk : k ≤ k') (hg : Gl X x) (tk : Takes X C.W) (ha : PA X (e :: es) (liftA C lk n wr)) (hdb : (x == ("__debug__" : Str)) = false := by decide)
    (he : starEach (e :: es) X.env = (false, eval e X.env) :: starEach es X.env := by rfl) (hpl : (backTo pos (starEach es X.env)).any (·.1) = false := by rfl) : PE X (.Call (.Name x p) (e :: es) [] pos) (liftF C lk (wCall Phi wr)) := by
  obtain ⟨f, fd, ps, F, hm, kp, hb⟩ := c.ex
  exact f_call eK (by rw [← eK]; exact F) (hr.mono hk) hg hm kp hb tk ha hdb he hpl
theorem e_gI {i : Int} (hg : Gl X x) (hm : ∃ t, X.mg x = some (.int i t)) (hd : (x == ("__debug__" : Str)) = false := by decide) : PE X (.Name x pos) (liftE C lk (wC (.int i))) := by
  obtain ⟨t, hm⟩ := hm
  exact e_gInt hg hm hd
theorem e_gS {i : Str} (hg : Gl X x) (hm : ∃ t, X.mg x = some (.str i t)) (hd : (x == ("__debug__" : Str)) = false := by decide) : PE X (.Name x pos) (liftE C lk (wC (.str i))) := by
  obtain ⟨t, hm⟩ := hm
  exact e_gStr hg hm hd
/-! ### a, b = x, y; xs or ys -/
variable {a b c : Expr} {na : Nat}
def wPar2 (i j : Nat) (wr : WA) : WS := fun env st Q Qx => wr env st (fun ds e s => match ds with
  | [d1, d2] => Q .nx ((e.set i (some (.sh d1))).set j (some (.sh d2))) s
  | _ => False) Qx
theorem s_par2 {i j : Nat} {x y : Str} {px py pt : Pos} {kt k2 pt2} (hc : X.calm = true) (hN : X.N.Nodup) (hi : X.N[i]? = some x) (hj : X.N[j]? = some y) (hij : i ≠ j)
    (hx : X.env.scope.names.lookup x = some .local) (hy : X.env.scope.names.lookup y = some .local) (ha : PA X [a, b] (liftA C lk na wr))
    (hw : swappedStores [.Tuple [.Name x px, .Name y py] kt pt] (.Tuple [a, b] k2 pt2) X.env = pure (some [x, y]))
    (hs : swapsWithSole [.Tuple [.Name x px, .Name y py] kt pt] (.Tuple [a, b] k2 pt2) pos.line X.env = pure false := by rfl) :
    PS X (.Assign [.Tuple [.Name x px, .Name y py] kt pt] (.Tuple [a, b] k2 pt2) pos) (liftS C lk (wPar2 i j wr)) := PSi (ps_par hc hN hi hj hij hx hy ha hw hs) (by
  rintro E σ H ⟨G, ι, env, st, P, Px, hR, hw, hS, hX⟩
  refine ⟨G, ι, env, st, _, Px, hR, hw, fun ds e s G' ι' vs H' p _ g r rp => ?_, hX⟩
  split at p
  · cases rp with
    | cons r1 rr =>
      cases rr with
      | cons r2 rr =>
        cases rr
        exact ⟨_, _, rfl, hS.nx _ s G' ι' _ H' p g ((r.setSh r1).setSh r2)⟩
  · exact p.elim)
def wPar3 (i j l : Nat) (wr : WA) : WS := fun env st Q Qx => wr env st (fun ds e s => match ds with
  | [d1, d2, d3] => Q .nx (((e.set i (some (.sh d1))).set j (some (.sh d2))).set l (some (.sh d3))) s
  | _ => False) Qx
theorem s_par3 {i j l : Nat} {x y z : Str} {px py pz pt : Pos} {kt k2 pt2} (hc : X.calm = true) (hN : X.N.Nodup) (hi : X.N[i]? = some x) (hj : X.N[j]? = some y) (hl : X.N[l]? = some z) (hij : i ≠ j) (hil : i ≠ l) (hjl : j ≠ l)
    (hx : X.env.scope.names.lookup x = some .local) (hy : X.env.scope.names.lookup y = some .local) (hz : X.env.scope.names.lookup z = some .local) (ha : PA X [a, b, c] (liftA C lk na wr))
    (hw : swappedStores [.Tuple [.Name x px, .Name y py, .Name z pz] kt pt] (.Tuple [a, b, c] k2 pt2) X.env = pure (some [x, y, z]))
    (hs : swapsWithSole [.Tuple [.Name x px, .Name y py, .Name z pz] kt pt] (.Tuple [a, b, c] k2 pt2) pos.line X.env = pure false := by rfl) :
    PS X (.Assign [.Tuple [.Name x px, .Name y py, .Name z pz] kt pt] (.Tuple [a, b, c] k2 pt2) pos) (liftS C lk (wPar3 i j l wr)) := PSi (ps_par3 hc hN hi hj hl hij hil hjl hx hy hz ha hw hs) (by
  rintro E σ H ⟨G, ι, env, st, P, Px, hR, hw, hS, hX⟩
  refine ⟨G, ι, env, st, _, Px, hR, hw, fun ds e s G' ι' vs H' p _ g r rp => ?_, hX⟩
  split at p
  · cases rp with
    | cons r1 rr =>
      cases rr with
      | cons r2 rr =>
        cases rr with
        | cons r3 rr =>
          cases rr
          exact ⟨_, _, _, rfl, hS.nx _ s G' ι' _ H' p g (((r.setSh r1).setSh r2).setSh r3)⟩
  · exact p.elim)
/-- xs or e, xs an owned list -/
def wOrL (i : Nat) (w : WE) : WE := fun env st Q Qx => match env[i]? with
  | some (some (.ow (.lst xs))) => if xs.isEmpty = true then w env st Q Qx else Q (.lst xs) (env.set i (some (.sh (.lst xs)))) st
  | _ => False
theorem e_orL {i : Nat} {p2 : Pos} {we : WE} (he : PE X (.Name x p2) (tVar i)) (hb : PE X b (liftE C lk we)) : PE X (.BoolOp .Or [.Name x p2, b] pos) (liftE C lk (wOrL i we)) := PEi (pe_orT he (pe_one hb)) (by
  rintro σ H Q ⟨G, ι, env, st, P, Px, hR, hw, hQ, hX⟩
  unfold wOrL at hw
  split at hw
  · rename_i ds q
    obtain ⟨v, e1, h⟩ := hR.sl i _ q
    cases h with
    | ow h =>
      obtain ⟨⟨o, h1, h2, h3⟩, _⟩ := id h
      cases h2 with
      | @lst xs _ h2 =>
        refine ⟨_, e1, !xs.isEmpty, .inl ⟨xs, .of h1, rfl⟩, ?_⟩
        have em : xs.isEmpty = ds.isEmpty := by
          have := h2.len
          cases xs <;> cases ds <;> first | rfl | simp at this
        rw [em]
        by_cases c : ds.isEmpty = true
        · rw [if_pos c] at hw
          rw [c]
          exact ⟨G, ι, env, st, P, Px, hR, hw, hQ, hX⟩
        · rw [if_neg c] at hw
          have c2 : ds.isEmpty = false := by simpa using c
          rw [c2]
          obtain ⟨G', a, e2, r2, g2, rp⟩ := hR.freeze q
          rw [e1] at e2; cases e2
          exact hQ _ _ st G' ι _ H hw g2 r2 rp
  · exact hw.elim)
end
/-! ### the law's end -/
theorem walk_ofW {l : PySem.W.OpenLaw} {n k : Nat} {q : Program} {loose : List Str} {XP : (Str → Option Value) → Heap → Prop} {YP : World → Heap → Prop} {d : DefRec} {CX : World → CXT} {x : Str}
    (hn : l.most = some n) (hn2 : n ≤ sizeLine) (hdf : d.params.defaults = []) (hr : Room k callerA)
    (F : ∀ (w : World) (mg : Str → Option Value) (fa : Addr) (h : Heap), YP w h → h.Ns mainGlobals mg → mg d.name = some (.ref fa) →
      ∃ (K : PySem.W.Frag) (fd : FuncData) (sp : Sp), K.In h ∧ (∀ (s : Shared) (u : Value), BindsTo s fd ⟨[u], []⟩ [(x, u)]) ∧
        (∀ (H : Hp) (a : Addr) (ns : List Int), ns.length ≤ n → Only H → SqL K H a (ns.map V.int) → sp [.ref a] H (fun v _ => v = .bl true) fun _ _ _ => False) ∧
        ∀ base : Heap, K.In base → base.Ns mainGlobals mg → FnOk l.prog w K mg base (CX w) k fa fd [x] sp)
    (hCX : ∀ (w : World) (H : Hp) (s : Shared) (e : Value) (s' : Shared), CX w [] H s (fun _ _ _ => False) e s' → False) :
    PySem.W.WalkO q loose XP YP l.row.toRowW d [] (fun f vs => PySem.call f vs) := by
  refine Att.attach_call hn hdf fun w s₀ s₁ mg mb fa o pm cd doc a vs ns G Y ho hd hcd hmg hobj hints hlen hg => ?_
  obtain ⟨K, fd, sp, KX, hb, hsp, hF⟩ := F w mg fa _ Y G.T.g hmg
  exact law_call KX G.T.g G.T.b G.T.builtins G.T.nolimit hg hobj hints (Nat.le_trans hlen hn2) hr hF hb (fun H hO hS => hsp H a ns hlen hO hS) fun H e s' => hCX w H s₁ e s'
/-- what a law promises -/
def PhiLaw : Spec := fun ds st Q _ => ∃ ns : List Int, ds = [.scr ns] ∧ ns.length ≤ 63 ∧ st = [] ∧ ∀ st', Q (.bl true) st'
theorem law_sp {K : PySem.W.Frag} {Cl : Str → Option Addr} {H : Hp} {a : Addr} {ns : List Int} (hl : ns.length ≤ 63) (h : SqL K H a (ns.map V.int)) : spOf K Cl 1 false PhiLaw [.ref a] H (fun v _ => v = .bl true) fun _ _ _ => False := by
  refine ⟨rfl, H, [], [.scr ns], [], fun d _ => d = .bl true, fun _ _ => False, ?_, .cons (.scr h) .nil, ⟨ns, rfl, hl, rfl, fun _ => rfl⟩, fun d st' G' ι' v H' p _ _ r => ?_, fun _ _ _ _ _ _ _ p => False.elim p⟩
  · exact ⟨rfl, fun a u e => .inl e, fun a o u h => by simp at h, fun a u e => .inl e, fun i s e => by simp at e, fun i j d e a h => by simp at h, rfl, fun n a o e => by simp at e, fun a h => by simp at h, List.nodup_nil, fun a o u e1 e2 => by rw [e1] at e2; exact (frz_ne (Option.some.inj e2)).elim⟩
  · subst p
    have r : Rep ⟨K, Cl⟩ G' ι' v (.bl true) := r
    cases r with
    | bl => rfl
    | obj _ q => cases q
theorem cx_no {P : Program} {w : World} {H : Hp} {s : Shared} {e : Value} {s' : Shared} (h : L2.CX P w [] H s (fun _ _ _ => False) e s') : False := by
  obtain ⟨_, _, _, _, _, _, _, _, _, _, _, _, z⟩ := h
  exact z.elim
end VL

/-! The value layer: texts. -/
namespace VL
open PySem PySem.Spec PyProof.Rows L2

/-! ### enumerate(text) -/
def ItES (x : Str) : It := ⟨fun i _ => i < x.cps.size, fun i H v H' => ∃ T c, v = .ref T ∧ H T = none ∧ H' = upd H T (.tup [.int (i : Nat), .str ⟨#[c]⟩]) ∧ x.cps[i]? = some c, fun i _ => i = x.cps.size⟩
theorem turn_enumS {P : Program} {w : World} {K : PySem.W.Frag} {elts : List Expr} {kk : Nat} {tpos : Pos} (x : Str) (t : Tok) (ty : String) (hty : ty = "str_ascii_iterator" ∨ ty = "str_iterator") (e it : Addr) :
    Turn P w K (.Tuple elts kk tpos) (ItES x) [e, it] e (fun i h => (∃ old, IsEnum h e it ((i : Nat) : Int) old) ∧ h.IsStrIter it ty x t i ∧ e ≠ it) where
  mem := by simp
  obj := fun i h st b hb => by
    obtain ⟨⟨old, he⟩, ⟨o, ho, hc, hd⟩, _⟩ := st
    have e' : b = e ∨ b = it := by simpa using hb
    rcases e' with z | z
    · rw [z]; exact ⟨_, he, fun v q => nomatch q⟩
    · rw [z]; exact ⟨o, ho, fun v q => by rw [hd] at q; cases q⟩
  keep := fun i h h' st k => let ⟨⟨old, he⟩, hi, hne⟩ := st; ⟨⟨old, k e (by simp) _ he⟩, let ⟨o, ho, r⟩ := hi; ⟨o, k it (by simp) o ho, r⟩, hne⟩
  item := by
    intro X hP hw hK hc i pins s σ H E I hf st hg
    subst hP hw hK
    obtain ⟨⟨old, he⟩, hit, hne⟩ := st
    have D : Draws X.prog X.w X.A.in1 it [it] x.cps.size (fun i v => ∃ c u, x.cps[i]? = some c ∧ v = .str ⟨#[c]⟩ u) (fun i h => h.IsStrIter it ty x t i) := by
      rcases hty with q | q
      · rw [q]; exact Draws.strAscii (A := X.A.in1) (show X.A.in1.handled = none from I.ok.hd hc) it x t
      · rw [q]; exact Draws.strWide (A := X.A.in1) (show X.A.in1.handled = none from I.ok.hd hc) it x t
    have hel : e < s.heap.objs.size := Heap.lt_size he
    have hil : it < s.heap.objs.size := by obtain ⟨_, q, _⟩ := hit; exact Heap.lt_size q
    refine wpAny_pyNext_enum_itemD D he hit hg hne (by simpa using hne) fun v h' tk hv ho hit' hT hsz hk => ?_
    obtain ⟨c, u, hcx, rfl⟩ := hv
    refine ⟨_, rfl, wpAny_letOwnedTupleGo_enum (s := { s with heap := h', toks := tk + 1 }) ho fun h'' he' sb => ?_⟩
    have hT2 : h''.get? s.heap.objs.size = some { cls := .type "tuple", data := .seq #[.int i tk, .str ⟨#[c]⟩ u] } := (sb.2 _ (Nat.ne_of_gt hel)).trans hT
    have new : ObjOk X.prog X.w (upd H s.heap.objs.size (.tup [.int (i : Nat), .str ⟨#[c]⟩])) h'' s.heap.objs.size (.tup [.int (i : Nat), .str ⟨#[c]⟩]) :=
      ⟨by show 2 ≤ sizeLine; decide, [.int i tk, .str ⟨#[c]⟩ u], .cons ⟨_, rfl⟩ (.cons ⟨u, rfl⟩ .nil), ⟨_, hT2, rfl, _, rfl⟩⟩
    have I1 : Inv X pins σ (upd H s.heap.objs.size (.tup [.int (i : Nat), .str ⟨#[c]⟩])) { s with heap := h'', toks := tk + 1 } :=
      I.turnedNew (ch := [e, it]) (fun b ob hb q => (sb.2 b (fun z => hb (by simp [z]))).trans (hk b ob (fun z => hb (by simp [z])) (fun z => hb (by simp [z])) q)) hf (Nat.le_refl _) new
    refine ⟨.ref s.heap.objs.size, _, I1, rfl, ⟨_, c, rfl, I.hok.fresh (Nat.le_refl _), rfl, hcx⟩, ⟨⟨.str ⟨#[c]⟩ u, ?_⟩, ?_, hne⟩, fun b hb => ?_⟩
    · have e1 : ((i + 1 : Nat) : Int) = (i : Int) + 1 := by omega
      rw [e1]; exact he'
    · obtain ⟨o, ho', r⟩ := hit'
      exact ⟨o, (sb.2 it (Ne.symm hne)).trans ho', r⟩
    · have hb' : b < s.heap.objs.size := by
        have e' : b = e ∨ b = it := by simpa using hb
        rcases e' with z | z
        · rw [z]; exact hel
        · rw [z]; exact hil
      rw [upd_ne (Nat.ne_of_lt hb')]
      exact (hf b hb).1
  done := by
    intro X hP hw hK hc i pins s σ H E I hf st hg
    subst hP hw hK
    obtain ⟨⟨old, he⟩, hit, hne⟩ := st
    obtain ⟨f0, f1, f2, f3, f4, f5⟩ := hf it (by simp)
    have D : Draws X.prog X.w X.A.in1 it [it] x.cps.size (fun i v => ∃ c u, x.cps[i]? = some c ∧ v = .str ⟨#[c]⟩ u) (fun i h => h.IsStrIter it ty x t i) := by
      rcases hty with q | q
      · rw [q]; exact Draws.strAscii (A := X.A.in1) (show X.A.in1.handled = none from I.ok.hd hc) it x t
      · rw [q]; exact Draws.strWide (A := X.A.in1) (show X.A.in1.handled = none from I.ok.hd hc) it x t
    obtain rfl : i = x.cps.size := hg
    exact wpAny_pyNext_enum_endD D he hit fun h' eb => ⟨rfl, I.turned (t' := s.toks) (fun b o hb q => eb b o hb q) f0 f1 f3 f4 f5⟩
  self := fun A i s Q E st h => let ⟨⟨_, he⟩, _⟩ := st; wpAny_pyIter_enum he h
def iEnumS (ta : TA) : TI := fun σ H Rk => ta σ H fun vs H1 => ∃ x : Str, vs = [.str x] ∧ Rk (ItES x) H1
theorem pi_enumS {X : Cx} {e : Expr} {ta : TA} {p pos tpos : Pos} {elts : List Expr} {kk : Nat} (hg : Gl X "enumerate") (hm : X.mg "enumerate" = none) (ha : PA X [e] ta) (hs : starEach [e] X.env = [(false, eval e X.env)] := by rfl) :
    PI X (.Tuple elts kk tpos) (.Call (.Name "enumerate" p) [e] [] pos) (iEnumS ta) := by
  refine ⟨fun pins s σ H Rk I h => ?_⟩
  refine Call_ (ld_blt I hg hm boot_enumerate (PyProof.Rows.callWith_type1 (thn (ha.run pos pins s σ H _ I h) fun us s1 ⟨vs, H1, I1, r1, q1⟩ => ?_) hs rfl))
  obtain ⟨x, ex, q⟩ := q1
  subst ex
  cases r1 with
  | cons r rr =>
    cases rr
    obtain ⟨t, rfl⟩ := r
    refine call_enumerate_str fun h' he hit hsz hk => wpAny_pyIter_enum he ?_
    have I2 : Inv X pins σ H1 { s1 with heap := h' } := I1.kept (t' := s1.toks) hk
    have hty : strIterType x = "str_ascii_iterator" ∨ strIterType x = "str_iterator" := by unfold strIterType; split <;> simp
    refine ⟨s1.heap.objs.size + 1, [s1.heap.objs.size + 1, s1.heap.objs.size], _, _, H1, rfl, I2, turn_enumS x t (strIterType x) hty (s1.heap.objs.size + 1) s1.heap.objs.size, ⟨⟨.none, he⟩, hit, Nat.succ_ne_self _⟩, fun b hb => ?_, q⟩
    have e' : b = s1.heap.objs.size + 1 ∨ b = s1.heap.objs.size := by simpa using hb
    have hle : s1.heap.objs.size ≤ b := by
      rcases e' with z | z
      · rw [z]; exact Nat.le_add_right _ _
      · rw [z]; exact Nat.le_refl _
    exact I1.fpOk hle (I1.hok.fresh hle)

section
variable {X : Cx} {C : Ctx} {lk : Lks} {pos : Pos} {na : Nat} {wr : WA} {p : Pos}
def enumS (ds : List D) (P : List D → Prop) : Prop := match ds with
  | [.str x] => P (enumD (signs x))
  | _ => False
theorem walk_enumS {x : Str} : Walk (ItES x) x.cps.size (fun _ => True) (YPair (fun i => some (.int (i : Nat))) (fun i => (x.cps[i]?).map fun c => V.str ⟨#[c]⟩)) := by
  refine ⟨fun i _ hi q => hi, fun _ q => rfl, fun i H v H' _ q y => ?_⟩
  obtain ⟨T, c, h1, h2, h3, h4⟩ := y
  exact ⟨T, .int (i : Nat), .str ⟨#[c]⟩, h1, h2, h3, rfl, by show Option.map _ x.cps[i]? = _; rw [h4]; rfl⟩
theorem signs_len (x : Str) : (signs x).length = x.cps.size := by unfold signs; rw [List.length_map, Array.length_toList]
theorem i_enumS {tpos : Pos} {elts : List Expr} {kk : Nat} {e : Expr} (hg : Gl X "enumerate") (hm : X.mg "enumerate" = none) (ha : PA X [e] (liftA C lk na wr)) (hs : starEach [e] X.env = [(false, eval e X.env)] := by rfl) : PI X (.Tuple elts kk tpos) (.Call (.Name "enumerate" p) [e] [] pos) (liftI C lk (wIa enumS wr)) := PIi (pi_enumS hg hm ha hs) (by
  rintro σ H Rk ⟨G, ι, env, st, P, Px, hR, hw, hQ, hX⟩
  refine ⟨G, ι, env, st, _, Px, hR, hw, fun ds e s G' ι' vs H' p _ g r rp => ?_, hX⟩
  unfold enumS at p
  split at p
  · rename_i x _
    cases rp with
    | cons r1 rr =>
      cases rr
      have e1 := (show Bor C.K G' ι' H' _ (.str x) from .inl r1).str
      subst e1
      refine ⟨x, rfl, hQ _ e s G' ι' _ H' p g r (it_pair (f := fun i => some (.int (i : Nat))) (g := fun i => (x.cps[i]?).map fun c => V.str ⟨#[c]⟩) (Gd := fun _ => True) ?_ (fun G2 ι2 env2 st2 σ2 H2 g2 r2 => True.intro) fun i y z hi hx hy => ?_)⟩
      · unfold enumD
        rw [List.length_map, List.length_zipIdx, signs_len]
        exact walk_enumS
      · cases hx
        cases q : x.cps[i]? with
        | none => rw [q] at hy; cases hy
        | some c =>
          rw [q] at hy
          cases hy
          refine ⟨.int (i : Nat), .str ⟨#[c]⟩, ?_, .int, .str⟩
          unfold enumD signs
          rw [List.getElem?_map, List.getElem?_zipIdx, List.getElem?_map, Array.getElem?_toList, q]
          simp
  · exact p.elim)

/-! ### methods of a text -/
variable {o e : Expr} {wo wa : WE}
def wM1 (f : Str → D → (D → Prop) → Prop) (wo wa : WE) : WE := fun env st Q Qx => wo env st (fun d e1 s1 => match d with
  | .str a => wa e1 s1 (fun d2 e2 s2 => f a d2 fun v => Q v e2 s2) Qx
  | _ => False) Qx
def MS1 (C : Ctx) (r : V → List V → Hp → VK → Prop) (f : Str → D → (D → Prop) → Prop) : Prop := ∀ lk G ι env st σ H a y d P (Q : VK), R C lk G ι env st σ H → Bor C.K G ι H y d → f a d P → KV1 C lk G ι env st σ P Q → r (.str a) [y] H Q
theorem e_m1 {id : String} {name : Str} {apos : Pos} {r : V → List V → Hp → VK → Prop} {f : Str → D → (D → Prop) → Prop} (slot : PySem.Slot "str" name id) (ty : typeOf (.builtin id) = pure (.type "method_descriptor")) (rule : MtR X id r) (hf : MS1 C r f) (ho : PE X o (liftE C lk wo)) (he : PE X e (liftE C lk wa))
    (hs : starEach [e] X.env = [(false, eval e X.env)] := by rfl) (hbase : attributeBase o name X.env (eval o X.env) = eval o X.env := by rfl) (hline : (apos.endLine == pos.line) = true := by rfl) :
    PE X (.Call (.Attribute o name apos) [e] [] pos) (liftE C lk (wM1 f wo wa)) := PEi (pe_m1 slot ty rule ho he hs hbase hline) (by
  rintro σ H Q ⟨G, ι, env, st, P, Px, hR, hw, hQ, hX⟩
  refine ⟨G, ι, env, st, _, Px, hR, hw, fun d e1 s1 G1 ι1 v H1 p1 g1 R1 rp1 => ?_, hX⟩
  cases d with
  | str a =>
    have e1' := (show Bor C.K G1 ι1 H1 v (.str a) from .inl rp1).str
    subst e1'
    refine ⟨⟨a, rfl⟩, G1, ι1, e1, s1, _, Px, R1, p1, fun d2 e2 s2 G2 ι2 y H2 p2 g2 R2 rp2 => ?_, hX.mono g1⟩
    exact hf lk G2 ι2 e2 s2 σ H2 a y d2 _ Q R2 (.inl rp2) p2 fun d3 G3 v3 H3 p3 g3 R3 rp3 => hQ d3 e2 s2 G3 ι2 v3 H3 p3 ((g1.trans g2).trans g3) R3 rp3
  | _ => exact p1.elim)
def strsOf : List D → Option (List Str)
  | [] => some []
  | .str s :: r => (strsOf r).map (s :: ·)
  | _ :: _ => none
theorem strsOf_map (xs : List Str) : strsOf (xs.map D.str) = some xs := by
  induction xs with
  | nil => rfl
  | cons x xs ih => simp only [List.map_cons, strsOf, ih, Option.map_some]
theorem Reps.strs {K : KC} {G : Hp} {ι : List Addr} : ∀ {vs : List V} {ds : List D} {ys : List Str}, Reps K G ι vs ds → strsOf ds = some ys → vs = ys.map V.str
  | _, [], ys, r, h => by cases h; cases r; rfl
  | _, d :: ds, ys, r, h => by
    cases r with
    | cons r1 rr =>
      cases d with
      | str s =>
        cases q : strsOf ds with
        | none => simp only [strsOf, q, Option.map_none] at h; cases h
        | some l =>
          simp only [strsOf, q, Option.map_some] at h
          cases h
          rw [Reps.strs rr q]
          cases r1 with
          | str => rfl
          | obj _ q => cases q
      | _ => cases h
def joinS (a : Str) (d : D) (P : D → Prop) : Prop := match d with
  | .lst xs => (match strsOf xs with
    | some ys => (ys.map (·.length)).sum + ys.length * a.length ≤ 16777216 ∧ P (.str (Txt.join a ys))
    | none => False)
  | _ => False
theorem ms_join (eK : X.K = C.K) : MS1 C (fun x xs H Q => ∃ a p, ∃ ys : List Str, x = .str a ∧ xs = [.ref p] ∧ (SqL X.K H p (ys.map V.str) ∨ SqT X.K H p (ys.map V.str)) ∧
    (ys.map (·.length)).sum + ys.length * a.length ≤ 16777216 ∧ Q (.str (Txt.join a ys)) H) joinS := by
  intro lk G ι env st σ H a y d P Q hR b hf k
  cases d with
  | lst ds =>
    obtain ⟨q, xs, rfl, h1, r⟩ := b.lst hR
    unfold joinS at hf
    dsimp only at hf
    split at hf
    · rename_i ys e
      have e2 := r.strs e
      subst e2
      exact ⟨a, q, ys, rfl, rfl, .inl (.of h1), hf.1, k _ G _ H hf.2 .refl hR .str⟩
    · exact hf.elim
  | _ => exact hf.elim
theorem e_join {apos : Pos} (eK : X.K = C.K) (ho : PE X o (liftE C lk wo)) (he : PE X e (liftE C lk wa)) (hs : starEach [e] X.env = [(false, eval e X.env)] := by rfl) (hbase : attributeBase o "join" X.env (eval o X.env) = eval o X.env := by rfl) (hline : (apos.endLine == pos.line) = true := by rfl) :
    PE X (.Call (.Attribute o "join" apos) [e] [] pos) (liftE C lk (wM1 joinS wo wa)) := e_m1 F.slot_str_join F.type_str_join mt_join (ms_join eK) ho he hs hbase hline
def indexS (a : Str) (d : D) (P : D → Prop) : Prop := match d with
  | .str b => (match Builtin.Str.occurrences a b 0 a.length 1 with
    | i :: _ => P (.int (i : Nat))
    | [] => False)
  | _ => False
theorem ms_index : MS1 C (fun x xs H Q => ∃ a b i rest, x = .str a ∧ xs = [.str b] ∧ Builtin.Str.occurrences a b 0 a.length 1 = i :: rest ∧ Q (.int (i : Nat)) H) indexS := by
  intro lk G ι env st σ H a y d P Q hR b hf k
  cases d with
  | str z =>
    rw [b.str]
    unfold indexS at hf
    dsimp only at hf
    split at hf
    · rename_i i rest e
      exact ⟨a, z, i, rest, rfl, rfl, e, k _ G _ H hf .refl hR .int⟩
    · exact hf.elim
  | _ => exact hf.elim
theorem e_index {apos : Pos} (ho : PE X o (liftE C lk wo)) (he : PE X e (liftE C lk wa)) (hs : starEach [e] X.env = [(false, eval e X.env)] := by rfl) (hbase : attributeBase o "index" X.env (eval o X.env) = eval o X.env := by rfl) (hline : (apos.endLine == pos.line) = true := by rfl) :
    PE X (.Call (.Attribute o "index" apos) [e] [] pos) (liftE C lk (wM1 indexS wo wa)) := e_m1 F.slot_str_index F.type_str_index mt_sindex ms_index ho he hs hbase hline
def lstripS (a : Str) (d : D) (P : D → Prop) : Prop := match d with
  | .str b => a.length ≤ 16777216 ∧ P (.str (Txt.lstripChars a b))
  | _ => False
theorem ms_lstrip : MS1 C (fun x xs H Q => ∃ a b, x = .str a ∧ xs = [.str b] ∧ a.length ≤ sizeLine ∧ Q (.str (Txt.lstripChars a b)) H) lstripS := by
  intro lk G ι env st σ H a y d P Q hR b hf k
  cases d with
  | str z => rw [b.str]; exact ⟨a, z, rfl, rfl, by rw [sizeLine_eq]; exact hf.1, k _ G _ H hf.2 .refl hR .str⟩
  | _ => exact hf.elim
theorem e_lstrip {apos : Pos} (ho : PE X o (liftE C lk wo)) (he : PE X e (liftE C lk wa)) (hs : starEach [e] X.env = [(false, eval e X.env)] := by rfl) (hbase : attributeBase o "lstrip" X.env (eval o X.env) = eval o X.env := by rfl) (hline : (apos.endLine == pos.line) = true := by rfl) :
    PE X (.Call (.Attribute o "lstrip" apos) [e] [] pos) (liftE C lk (wM1 lstripS wo wa)) := e_m1 F.slot_str_lstrip F.type_str_lstrip mt_lstripChars ms_lstrip ho he hs hbase hline
/-! ### text[a:b] -/
variable {a b : Expr} {lo hi : Option Expr} {wl wh : WSl} {p2 : Pos} {wob : WO}
def slcS : D → Option Int → Option Int → (D → Prop) → Prop
  | .str s, lo, hi, P => s.length ≤ 16777216 ∧ P (.str (Txt.slice s lo hi))
  | _, _, _, _ => False
def wSlcS (wa : WO) (wl wh : WSl) : WE := fun env st Q Qx => wa env st (fun r1 e1 s1 => wl e1 s1 (fun l e2 s2 => wh e2 s2 (fun h e3 s3 => r1.get e3 fun d => slcS d l h fun d => Q d e3 s3) Qx) Qx) Qx
theorem e_slcS (ha : PE X a (liftO C lk wob)) (hl : PO X lo (liftSl C lk wl)) (hh : PO X hi (liftSl C lk wh)) : PE X (.Subscript a (.Slice lo hi none p2) pos) (liftE C lk (wSlcS wob wl wh)) := PEi (pe_slice C8.sl_txt ha hl hh) (by
  rintro σ H Q ⟨G, ι, env, st, P, Px, hR, hw, hQ, hX⟩
  refine ⟨G, ι, env, st, _, Px, hR, hw, fun r1 e1 s1 G1 ι1 x H1 p1 g1 R1 rep1 => ?_, hX⟩
  refine ⟨G1, ι1, e1, s1, _, Px, R1, p1, fun l e2 s2 G2 ι2 H2 p2 g2 R2 => ?_, hX.mono g1⟩
  refine ⟨G2, ι2, e2, s2, _, Px, R2, p2, fun h e3 s3 G3 ι3 H3 p3 g3 R3 => ?_, (hX.mono g1).mono g2⟩
  obtain ⟨d, p3, b⟩ := R3.bor (rep1.mono (g2.trans g3).sub (g2.trans g3).pre) p3
  cases d with
  | str s =>
    rw [b.str]
    exact ⟨s, rfl, by rw [sizeLine_eq]; exact p3.1, hQ _ e3 s3 G3 ι3 _ _ p3.2 ((g1.trans g2).trans g3) R3 .str⟩
  | _ => exact p3.elim)
/-! ### text * n -/
theorem op_mulStr : OpR X (binaryOp .Mult) (fun x y H Q => ∃ z n, x = .str z ∧ y = .int n ∧ MulOk z n ∧ Q (.str (Txt.mul z n)) H) := by
  intro pins s σ H x y v u Q I rx ry h
  obtain ⟨z, n, rfl, rfl, hm, q⟩ := h
  obtain ⟨t, rfl⟩ := rx
  obtain ⟨t', rfl⟩ := ry
  exact PySem.SB.mul hm fun t' k => ⟨.str _, H, I.tok k, ⟨t', rfl⟩, q⟩
def mulS : D → D → (D → Prop) → Prop
  | .str z, .int n, P => (0 ≤ n ∧ n ≤ 1000 ∧ z.length ≤ 1000) ∧ P (.str (Txt.mul z n))
  | _, _, _ => False
theorem mulOk_small {z : Str} {n : Int} (h0 : 0 ≤ n) (h1 : n ≤ 1000) (h2 : z.length ≤ 1000) : MulOk z n := by
  refine ⟨by simp; omega, fun g _ => ?_, fun g _ => ?_⟩
  · have hm : (z.length : Int) * n ≤ 1000 * 1000 := Int.mul_le_mul (by omega) h1 h0 (by decide)
    have : (z.length : Int) ≤ (2 ^ 63 - 1) / n := Int.le_ediv_of_mul_le (by omega) (by omega)
    omega
  · have hm : z.length * n.toNat ≤ 1000 * 1000 := Nat.mul_le_mul h2 (by omega)
    unfold Builtin.Str.tooLong
    rw [sizeLine_eq]
    exact decide_eq_false (by omega)
theorem op2_mulS : Op2 C (fun x y H Q => ∃ z n, x = .str z ∧ y = .int n ∧ MulOk z n ∧ Q (.str (Txt.mul z n)) H) mulS := by
  intro lk G ι env st σ H x y d1 d2 P Q hR b1 b2 hf k
  unfold mulS at hf
  split at hf
  · rw [b1.str, b2.int]; exact ⟨_, _, rfl, rfl, mulOk_small hf.1.1 hf.1.2.1 hf.1.2.2, k _ G _ H hf.2 .refl hR .str⟩
  · exact hf.elim
abbrev wMulS := wBin mulS
theorem e_mulS {wa wb : WO} (ha : PE X a (liftO C lk wa)) (hb : PE X b (liftO C lk wb)) : PE X (.BinOp a .Mult b pos) (liftE C lk (wMulS wa wb)) := e_bin op_mulStr op2_mulS ha hb
end

/-! ### a new list by * and + -/
section
variable {X : Cx} {C : Ctx} {lk : Lks} {pos : Pos} {a b : Expr} {wa wb : WO}
def Op2F (C : Ctx) (r : R2) (f : D → D → (D → Prop) → Prop) : Prop := ∀ lk G ι env st σ H x y d1 d2 P (Q : VK), R C lk G ι env st σ H → Bor C.K G ι H x d1 → Bor C.K G ι H y d2 → f d1 d2 P → KV1F C lk G ι env st σ P Q → r x y H Q
theorem f_bin {op : Operator} {r : R2} {f : D → D → (D → Prop) → Prop} (ho : OpR X (binaryOp op) r) (hf : Op2F C r f) (ha : PE X a (liftO C lk wa)) (hb : PE X b (liftO C lk wb)) : PE X (.BinOp a op b pos) (liftF C lk (wBin f wa wb)) :=
  PEi (pe_op ho ha hb) fun σ H Q h => by
    obtain ⟨G, ι, env, st, P, Px, hR, hw, hQ, hX⟩ := h
    refine ⟨G, ι, env, st, _, Px, hR, hw, fun r1 e1 s1 G1 ι1 x H1 p1 g1 R1 rep1 => ?_, hX⟩
    refine ⟨G1, ι1, e1, s1, _, Px, R1, p1, fun r2 e2 s2 G2 ι2 y H2 p2 g2 R2 rep2 => ?_, hX.mono g1⟩
    obtain ⟨d1, p2, b1⟩ := R2.bor (rep1.mono g2.sub g2.pre) p2
    obtain ⟨d2, p2, b2⟩ := R2.bor rep2 p2
    exact hf lk G2 ι2 e2 s2 σ H2 x y d1 d2 _ Q R2 b1 b2 p2 fun d G3 v H3 p g3 R3 own no => hQ d e2 s2 G3 ι2 v H3 p ((g1.trans g2).trans g3) R3 own no
def repD : D → D → (D → Prop) → Prop
  | .lst a, .int b, P => (b < 2 ^ 60 ∧ -(2 ^ 60) ≤ b ∧ a.length * b.toNat ≤ 16777216) ∧ P (.lst (List.replicate b.toNat a).flatten)
  | _, _, _ => False
def catD : D → D → (D → Prop) → Prop
  | .lst a, .lst b, P => a.length + b.length ≤ 16777216 ∧ P (.lst (a ++ b))
  | _, _, _ => False
theorem op2_rep : Op2F C rRep repD := by
  intro lk G ι env st σ H x y d1 d2 P Q hR b1 b2 hf k
  unfold repD at hf
  split at hf
  · obtain ⟨l, xs, rfl, h1, r1⟩ := b1.lst hR
    rw [b2.int]
    obtain ⟨⟨q1, q2, q3⟩, q4⟩ := hf
    exact ⟨l, _, xs, rfl, rfl, h1, Int.le_trans (by decide) q2, Int.lt_trans q1 (by decide), by rw [sizeLine_eq, r1.len]; exact q3, fun p hp => newOwn hR k hp q4 (.lst (r1.rep _)) True.intro⟩
  · exact hf.elim
theorem op2_cat : Op2F C rCat catD := by
  intro lk G ι env st σ H x y d1 d2 P Q hR b1 b2 hf k
  unfold catD at hf
  split at hf
  · obtain ⟨l, xs, rfl, h1, r1⟩ := b1.lst hR
    obtain ⟨m, ys, rfl, h2, r2⟩ := b2.lst hR
    exact ⟨l, m, xs, ys, rfl, rfl, h1, h2, by rw [sizeLine_eq, r1.len, r2.len]; exact hf.1, fun p hp => newOwn hR k hp hf.2 (.lst (r1.append r2)) True.intro⟩
  · exact hf.elim
abbrev wRepF := wBin repD
abbrev wCatF := wBin catD
theorem f_rep (ha : PE X a (liftO C lk wa)) (hb : PE X b (liftO C lk wb)) : PE X (.BinOp a .Mult b pos) (liftF C lk (wRepF wa wb)) := f_bin op_rep op2_rep ha hb
theorem f_cat (ha : PE X a (liftO C lk wa)) (hb : PE X b (liftO C lk wb)) : PE X (.BinOp a .Add b pos) (liftF C lk (wCatF wa wb)) := f_bin op_cat op2_cat ha hb
end
end VL

/-! The value layer: for the plain laws. -/
namespace VL
open PySem PySem.Spec PyProof.Rows L2

/-! ### plain data -/
def nd (b : Bool) : Nat → D → Bool
  | _, .non => true
  | _, .int _ => true
  | _, .bl _ => b
  | _, .str s => PyData.strOk s
  | n + 1, .lst xs => xs.all (nd b n)
  | n + 1, .tup xs => xs.all (nd b n)
  | _, _ => false
theorem nd_pd {b : Bool} : ∀ (n : Nat) (d : D), nd b n d = true → ∃ p, pd d = some p ∧ p.canLay0 = true ∧ p.depth ≤ n := by
  have all : ∀ (n : Nat), (∀ d, nd b n d = true → ∃ p, pd d = some p ∧ p.canLay0 = true ∧ p.depth ≤ n) → ∀ xs : List D, xs.all (nd b n) = true → ∃ ps, pds xs = some ps ∧ PyData.canLayAll0 ps = true ∧ PyData.depthAll ps ≤ n := by
    intro n ih xs
    induction xs with
    | nil => intro _; exact ⟨[], rfl, rfl, Nat.zero_le _⟩
    | cons x xs ihx =>
      intro h
      rw [List.all_cons, Bool.and_eq_true] at h
      obtain ⟨p, e1, e2, e3⟩ := ih x h.1
      obtain ⟨ps, f1, f2, f3⟩ := ihx h.2
      refine ⟨p :: ps, by simp only [pds, e1, f1], by simp only [PyData.canLayAll0, e2, f2, Bool.and_self], ?_⟩
      simp only [PyData.depthAll]; omega
  intro n
  induction n with
  | zero => intro d h; cases d with
    | non => exact ⟨_, rfl, rfl, Nat.zero_le _⟩
    | int i => exact ⟨_, rfl, rfl, Nat.zero_le _⟩
    | bl i => exact ⟨_, rfl, rfl, Nat.zero_le _⟩
    | str s => exact ⟨_, rfl, by simp only [PyData.canLay0]; exact h, Nat.zero_le _⟩
    | _ => exact absurd h (by simp [nd])
  | succ n ih => intro d h; cases d with
    | non => exact ⟨_, rfl, rfl, Nat.zero_le _⟩
    | int i => exact ⟨_, rfl, rfl, Nat.zero_le _⟩
    | bl i => exact ⟨_, rfl, rfl, Nat.zero_le _⟩
    | str s => exact ⟨_, rfl, by simp only [PyData.canLay0]; exact h, Nat.zero_le _⟩
    | lst xs =>
      obtain ⟨ps, f1, f2, f3⟩ := all n ih xs h
      exact ⟨.list ps, by simp only [pd, f1, Option.map_some], by simpa only [PyData.canLay0] using f2, by simp only [PyData.depth]; omega⟩
    | tup xs =>
      obtain ⟨ps, f1, f2, f3⟩ := all n ih xs h
      exact ⟨.tuple ps, by simp only [pd, f1, Option.map_some], by simpa only [PyData.canLay0] using f2, by simp only [PyData.depth]; omega⟩
    | _ => exact absurd h (by simp [nd])
theorem pd_inj : ∀ (n : Nat) (d e : D) (p q : PyData), nd false n d = true → nd false n e = true → pd d = some p → pd e = some q → PyData.eqv p q = true → d = e := by
  have all : ∀ (n : Nat), (∀ d e p q, nd false n d = true → nd false n e = true → pd d = some p → pd e = some q → PyData.eqv p q = true → d = e) → ∀ (xs ys : List D) ps qs, xs.all (nd false n) = true → ys.all (nd false n) = true → pds xs = some ps → pds ys = some qs → PyData.eqvAll ps qs = true → xs = ys := by
    intro n ih xs
    induction xs with
    | nil =>
      intro ys ps qs _ h e1 e2 e3
      cases e1
      cases ys with
      | nil => rfl
      | cons y ys =>
        rw [List.all_cons, Bool.and_eq_true] at h
        obtain ⟨q, f1, _⟩ := nd_pd n y h.1
        simp only [pds, f1] at e2
        split at e2
        · rename_i g1 g2; cases g1; cases e2; simp [PyData.eqvAll] at e3
        · cases e2
    | cons x xs ihx =>
      intro ys ps qs h h2 e1 e2 e3
      rw [List.all_cons, Bool.and_eq_true] at h
      simp only [pds] at e1
      split at e1
      · rename_i p ps' g1 g2
        cases e1
        cases ys with
        | nil => cases e2; simp [PyData.eqvAll] at e3
        | cons y ys =>
          rw [List.all_cons, Bool.and_eq_true] at h2
          simp only [pds] at e2
          split at e2
          · rename_i q qs' k1 k2
            cases e2
            simp only [PyData.eqvAll, Bool.and_eq_true] at e3
            rw [ih x y p q h.1 h2.1 g1 k1 e3.1, ihx ys ps' qs' h.2 h2.2 g2 k2 e3.2]
          · cases e2
      · cases e1
  intro n
  induction n with
  | zero =>
    intro d e p q hd he h1 h2 h
    cases d <;> cases e <;> first | (exfalso; revert hd; simp [nd]; done) | (exfalso; revert he; simp [nd]; done) | (cases h1; cases h2; simp [PyData.eqv] at h; done) | (cases h1; cases h2; simp [PyData.eqv] at h; simp [h]; done)
  | succ n ih =>
    intro d e p q hd he h1 h2 h
    cases d <;> cases e <;> first | (exfalso; revert hd; simp [nd]; done) | (exfalso; revert he; simp [nd]; done) | (cases h1; cases h2; simp [PyData.eqv] at h; done) | (cases h1; cases h2; simp [PyData.eqv] at h; simp [h]; done) |
      (simp only [pd, Option.map_eq_some_iff] at h1 h2; first | (obtain ⟨ps, e1, rfl⟩ := h1; obtain ⟨qs, e2, rfl⟩ := h2; first | (simp only [PyData.eqv] at h; cases all n ih _ _ _ _ hd he e1 e2 h; rfl) | (simp [PyData.eqv] at h; done)) | (obtain ⟨ps, e1, rfl⟩ := h1; cases h2; simp [PyData.eqv] at h; done) | (obtain ⟨ps, e1, rfl⟩ := h2; cases h1; simp [PyData.eqv] at h; done))
theorem shaped_nd {b : Bool} {n : Nat} (hn : n ≤ 64) {p : PyData} (h1 : p.canLay0 = true) (h2 : p.depth ≤ n) : SeqAt.shaped p = true := by
  show (p.canLay0 && decide (p.depth ≤ 64)) = true
  rw [h1, decide_eq_true (by omega)]; rfl
/-- equal data -/
theorem eqD_same {d : D} {P : D → Prop} (h : nd true 8 d = true) (hp : P (.bl true)) : eqD d d P := by
  obtain ⟨p, e1, e2, e3⟩ := nd_pd 8 d h
  refine ⟨p, p, e1, e1, shaped_nd (b := true) (n := 8) (by decide) e2 e3, shaped_nd (b := true) (n := 8) (by decide) e2 e3, ?_⟩
  rw [SeqAt.eqv_refl p e2]; exact hp
theorem neD_same {d : D} {P : D → Prop} (h : nd true 8 d = true) (hp : P (.bl false)) : neD d d P := by
  obtain ⟨p, e1, e2, e3⟩ := nd_pd 8 d h
  refine ⟨p, p, e1, e1, shaped_nd (b := true) (n := 8) (by decide) e2 e3, shaped_nd (b := true) (n := 8) (by decide) e2 e3, ?_⟩
  rw [SeqAt.eqv_refl p e2]; exact hp
theorem eqD_is {d e : D} {P : D → Prop} (he : d = e) (h : nd true 8 d = true) (hp : P (.bl true)) : eqD d e P := by subst he; exact eqD_same h hp
theorem neD_is {d e : D} {P : D → Prop} (he : d = e) (h : nd true 8 d = true) (hp : P (.bl false)) : neD d e P := by subst he; exact neD_same h hp
theorem eqv_nd {d e : D} (h : nd false 8 d = true) (g : nd false 8 e = true) : ∃ p q, pd d = some p ∧ pd e = some q ∧ SeqAt.shaped p = true ∧ SeqAt.shaped q = true ∧ (PyData.eqv p q = true ↔ d = e) := by
  obtain ⟨p, e1, e2, e3⟩ := nd_pd 8 d h
  obtain ⟨q, f1, f2, f3⟩ := nd_pd 8 e g
  refine ⟨p, q, e1, f1, shaped_nd (b := true) (n := 8) (by decide) e2 e3, shaped_nd (b := true) (n := 8) (by decide) f2 f3, pd_inj 8 d e p q h g e1 f1, fun z => ?_⟩
  subst z
  cases e1.symm.trans f1
  exact SeqAt.eqv_refl p e2
theorem eqD_nd {d e : D} {P : D → Prop} (h : nd false 8 d = true) (g : nd false 8 e = true) (h1 : d = e → P (.bl true)) (h2 : d ≠ e → P (.bl false)) : eqD d e P := by
  obtain ⟨p, q, e1, e2, e3, e4, e5⟩ := eqv_nd h g
  refine ⟨p, q, e1, e2, e3, e4, ?_⟩
  cases z : PyData.eqv p q with
  | true => exact h1 (e5.mp z)
  | false => exact h2 fun y => by rw [e5.mpr y] at z; cases z
theorem neD_nd {d e : D} {P : D → Prop} (h : nd false 8 d = true) (g : nd false 8 e = true) (h1 : d = e → P (.bl false)) (h2 : d ≠ e → P (.bl true)) : neD d e P := by
  obtain ⟨p, q, e1, e2, e3, e4, e5⟩ := eqv_nd h g
  refine ⟨p, q, e1, e2, e3, e4, ?_⟩
  cases z : PyData.eqv p q with
  | true => exact h1 (e5.mp z)
  | false => exact h2 fun y => by rw [e5.mpr y] at z; cases z
theorem eqD_int {a b : Int} {P : D → Prop} : eqD (.int a) (.int b) P ↔ P (.bl (decide (a = b))) := by
  have e : PyData.eqv (.int a) (.int b) = decide (a = b) := by simp only [PyData.eqv]; by_cases h : a = b <;> simp [h]
  constructor
  · rintro ⟨p, q, e1, e2, _, _, h⟩
    cases e1; cases e2; rw [e] at h; exact h
  · intro h
    exact ⟨_, _, rfl, rfl, rfl, rfl, by rw [e]; exact h⟩
theorem neD_int {a b : Int} {P : D → Prop} : neD (.int a) (.int b) P ↔ P (.bl (!decide (a = b))) := by
  have e : PyData.eqv (.int a) (.int b) = decide (a = b) := by simp only [PyData.eqv]; by_cases h : a = b <;> simp [h]
  constructor
  · rintro ⟨p, q, e1, e2, _, _, h⟩
    cases e1; cases e2; rw [e] at h; exact h
  · intro h
    exact ⟨_, _, rfl, rfl, rfl, rfl, by rw [e]; exact h⟩
theorem nd_ints {b : Bool} {n : Nat} (xs : List Int) : (xs.map D.int).all (nd b n) = true := by
  rw [List.all_map, List.all_eq_true]; intro x _; show nd b n (.int x) = true; cases n <;> rfl

/-! ### loops -/
theorem w_while {t : WB} {w : WS} {Q : KS} {Qx : KX} {α : Type} (I : α → Prop) (f : α → EnvD) (g : α → Sto) (μ : α → Nat) {env : EnvD} {st : Sto} (a0 : α) (he : env = f a0) (hs : st = g a0) (h0 : I a0)
    (step : ∀ a, I a → t (f a) (g a) (fun b e s => if b = true then w e s (Turn1 (fun e s => ∃ a', μ a' < μ a ∧ I a' ∧ e = f a' ∧ s = g a') Q) Qx else Q .nx e s) Qx) : wWhile t w env st Q Qx := by
  refine ⟨fun m e s => ∃ a, μ a = m ∧ I a ∧ e = f a ∧ s = g a, ⟨_, a0, rfl, h0, he, hs⟩, ?_⟩
  rintro m e s ⟨a, rfl, hI, rfl, rfl⟩
  have := step a hI
  refine cast ?_ this
  congr 1
  funext b e s
  congr 3
  funext e s
  apply propext
  constructor
  · rintro ⟨a', h1, h2, h3, h4⟩; exact ⟨_, h1, a', rfl, h2, h3, h4⟩
  · rintro ⟨_, h1, a', rfl, h2, h3, h4⟩; exact ⟨a', h1, h2, h3, h4⟩
theorem w_turns {g : WG} {w : WS} {Q : KS} {Qx : KX} {α β : Type} (enc : β → D) (I : List β → α → Prop) (f : α → EnvD) (gs : α → Sto) (bs : List β) (a : α) {env : EnvD} {st : Sto} (he : env = f a) (hs : st = gs a) (h0 : I bs a)
    (step : ∀ b bs a (N : EnvD → Sto → Prop), I (b :: bs) a → (∀ a', I bs a' → N (f a') (gs a')) → g (enc b) (f a) (gs a) fun e s => w e s (Turn1 N Q) Qx)
    (out : ∀ a, I [] a → Q .nx (f a) (gs a)) : wTurns g w Q Qx (bs.map enc) env st := by
  subst he hs
  induction bs generalizing a with
  | nil => exact out a h0
  | cons b bs ih => exact step b bs a _ h0 fun a' h => ih a' h
theorem rangeD_succ (lo : Int) (n : Nat) : rangeD lo (n + 1) = .int lo :: rangeD (lo + 1) n := by
  unfold rangeD
  rw [List.range_succ_eq_map, List.map_cons, List.map_map]
  simp only [Int.natCast_zero, Int.add_zero, List.cons.injEq, true_and]
  apply List.map_congr_left
  intro i _
  simp only [Function.comp, D.int.injEq]
  omega
/-- .. over a range -/
theorem w_range {g : WG} {w : WS} {Q : KS} {Qx : KX} {α : Type} (I : Nat → α → Prop) (f : α → EnvD) (gs : α → Sto) (a : α) {lo : Int} {n : Nat} {env : EnvD} {st : Sto} (he : env = f a) (hs : st = gs a) (h0 : I 0 a)
    (step : ∀ k a (N : EnvD → Sto → Prop), k < n → I k a → (∀ a', I (k + 1) a' → N (f a') (gs a')) → g (.int (lo + k)) (f a) (gs a) fun e s => w e s (Turn1 N Q) Qx)
    (out : ∀ a, I n a → Q .nx (f a) (gs a)) : wTurns g w Q Qx (rangeD lo n) env st := by
  subst he hs
  have go : ∀ (m k : Nat) (a : α), k + m = n → I k a → wTurns g w Q Qx (rangeD (lo + k) m) (f a) (gs a) := by
    intro m
    induction m with
    | zero => intro k a e h; obtain rfl : k = n := by omega
              exact out a h
    | succ m ih =>
      intro k a e h
      rw [rangeD_succ]
      refine step k a _ (by omega) h fun a' h' => ?_
      have := ih (k + 1) a' (by omega) h'
      rwa [show lo + ((k + 1 : Nat) : Int) = lo + (k : Int) + 1 by omega] at this
  have := go n 0 a (by omega) h0
  rwa [show lo + ((0 : Nat) : Int) = lo by omega] at this
/-- .. over a list, by what is done -/
theorem w_each {g : WG} {w : WS} {Q : KS} {Qx : KX} {α β : Type} (enc : β → D) (I : List β → α → Prop) (f : α → EnvD) (gs : α → Sto) (bs : List β) (a : α) {env : EnvD} {st : Sto} (he : env = f a) (hs : st = gs a) (h0 : I [] a)
    (step : ∀ done b rest a (N : EnvD → Sto → Prop), bs = done ++ b :: rest → I done a → (∀ a', I (done ++ [b]) a' → N (f a') (gs a')) → g (enc b) (f a) (gs a) fun e s => w e s (Turn1 N Q) Qx)
    (out : ∀ a, I bs a → Q .nx (f a) (gs a)) : wTurns g w Q Qx (bs.map enc) env st :=
  w_turns enc (fun rest a => ∃ done, bs = done ++ rest ∧ I done a) f gs bs a he hs ⟨[], rfl, h0⟩
    (fun b rest a N h hN => by
      obtain ⟨done, e, h⟩ := h
      exact step done b rest a N e h fun a' h' => hN a' ⟨done ++ [b], by rw [e, List.append_assoc]; rfl, h'⟩)
    fun a h => by
      obtain ⟨done, e, h⟩ := h
      rw [List.append_nil] at e
      subst e
      exact out a h
theorem w_enum {g : WG} {w : WS} {Q : KS} {Qx : KX} {α β : Type} (enc : β → D) (I : List β → α → Prop) (f : α → EnvD) (gs : α → Sto) (bs : List β) (a : α) {env : EnvD} {st : Sto} (he : env = f a) (hs : st = gs a) (h0 : I [] a)
    (step : ∀ done b rest a (N : EnvD → Sto → Prop), bs = done ++ b :: rest → I done a → (∀ a', I (done ++ [b]) a' → N (f a') (gs a')) → g (.tup [.int (done.length : Nat), enc b]) (f a) (gs a) fun e s => w e s (Turn1 N Q) Qx)
    (out : ∀ a, I bs a → Q .nx (f a) (gs a)) : wTurns g w Q Qx (enumD (bs.map enc)) env st := by
  subst he hs
  have go : ∀ (rest done : List β) (a : α), bs = done ++ rest → I done a → wTurns g w Q Qx (((rest.map enc).zipIdx done.length).map fun p => D.tup [.int (p.2 : Nat), p.1]) (f a) (gs a) := by
    intro rest
    induction rest with
    | nil => intro done a e h; rw [List.append_nil] at e; subst e; exact out a h
    | cons b rest ih =>
      intro done a e h
      refine step done b rest a _ e h fun a' h' => ?_
      have := ih (done ++ [b]) a' (by rw [e, List.append_assoc]; rfl) h'
      rwa [show (done ++ [b]).length = done.length + 1 by simp] at this
  exact go bs [] a rfl h0

/-! ### comprehensions -/
theorem w_lc {vs : List Nat} {g : WG} {t : WB} {w : WE} {Q : KE} {α β : Type} (enc : β → D) (I : List β → List D → α → Prop) (f : α → EnvD) (gs : α → Sto) (bs : List β) (acc : List D) (a : α) {env : EnvD} {st : Sto} (he : env = f a) (hs : st = gs a) (h0 : I bs acc a)
    (step : ∀ b bs acc a (N : List D → EnvD → Sto → Prop), I (b :: bs) acc a → (∀ acc' a', I bs acc' a' → N acc' (f a') (gs a')) → g (enc b) (f a) (gs a) fun e s => t e s (fun c e s => if c = true then w e s (fun y e s => acc.length < 16777216 ∧ N (acc ++ [y]) (wipeE e vs) s) noX else N acc (wipeE e vs) s) noX)
    (out : ∀ acc a, I [] acc a → Q (.lst acc) (f a) (gs a)) : lcT vs g t w Q (bs.map enc) acc env st := by
  subst he hs
  induction bs generalizing acc a with
  | nil => exact out acc a h0
  | cons b bs ih => exact step b bs acc a (fun acc e s => lcT vs g t w Q (bs.map enc) acc e s) h0 fun acc' a' h => ih acc' a' h
/-- .. without effect -/
theorem w_lcp {vs : List Nat} {g : WG} {t : WB} {w : WE} {Q : KE} {β : Type} (enc : β → D) (p : β → Bool) (F : β → D) {env : EnvD} {st : Sto} (bs : List β) (hl : bs.length ≤ 16777216)
    (step : ∀ b ∈ bs, ∀ (N : D → EnvD → Sto → Prop) (M : EnvD → Sto → Prop), (p b = true → N (F b) env st) → (p b = false → M env st) → g (enc b) env st fun e s => t e s (fun c e s => if c = true then w e s (fun y e s => N y (wipeE e vs) s) noX else M (wipeE e vs) s) noX)
    (out : Q (.lst ((bs.filter p).map F)) env st) : lcT vs g t w Q (bs.map enc) [] env st := by
  have go : ∀ (rest : List β) (acc : List D), acc.length + rest.length ≤ 16777216 → (∀ b ∈ rest, b ∈ bs) → Q (.lst (acc ++ (rest.filter p).map F)) env st → lcT vs g t w Q (rest.map enc) acc env st := by
    intro rest
    induction rest with
    | nil => intro acc _ _ h; rw [List.filter_nil, List.map_nil, List.append_nil] at h; exact h
    | cons b rest ih =>
      intro acc h1 h2 h
      rw [List.length_cons] at h1
      refine step b (h2 b List.mem_cons_self) (fun y e s => acc.length < 16777216 ∧ lcT vs g t w Q (rest.map enc) (acc ++ [y]) e s) (fun e s => lcT vs g t w Q (rest.map enc) acc e s) (fun hp => ⟨by omega, ih _ (by rw [List.length_append]; simp only [List.length_cons, List.length_nil]; omega) (fun b hb => h2 b (List.mem_cons_of_mem _ hb)) ?_⟩) fun hp => ih _ (by omega) (fun b hb => h2 b (List.mem_cons_of_mem _ hb)) ?_
      · rw [List.filter_cons_of_pos hp, List.map_cons] at h
        rw [List.append_assoc]; exact h
      · rw [List.filter_cons_of_neg (by rw [hp]; decide)] at h
        exact h
  exact go bs [] (by simpa using hl) (fun _ h => h) out

/-! ### places -/
theorem atI_0 {α : Type} {x : α} {xs : List α} : atI (x :: xs) 0 = some x := by
  unfold atI ixN; rw [if_pos (by decide), if_pos (by simp only [List.length_cons]; omega)]; rfl
theorem atI_1 {α : Type} {x y : α} {xs : List α} : atI (x :: y :: xs) 1 = some y := by
  unfold atI ixN; rw [if_pos (by decide), if_pos (by simp only [List.length_cons]; omega)]; rfl
theorem atI_2 {α : Type} {x y z : α} {xs : List α} : atI (x :: y :: z :: xs) 2 = some z := by
  unfold atI ixN; rw [if_pos (by decide), if_pos (by simp only [List.length_cons]; omega)]; rfl
theorem atI_3 {α : Type} {x y z u : α} {xs : List α} : atI (x :: y :: z :: u :: xs) 3 = some u := by
  unfold atI ixN; rw [if_pos (by decide), if_pos (by simp only [List.length_cons]; omega)]; rfl
theorem atI_4 {α : Type} {x y z u v : α} {xs : List α} : atI (x :: y :: z :: u :: v :: xs) 4 = some v := by
  unfold atI ixN; rw [if_pos (by decide), if_pos (by simp only [List.length_cons]; omega)]; rfl
theorem atI_5 {α : Type} {x y z u v w : α} {xs : List α} : atI (x :: y :: z :: u :: v :: w :: xs) 5 = some w := by
  unfold atI ixN; rw [if_pos (by decide), if_pos (by simp only [List.length_cons]; omega)]; rfl
theorem atI_lt {α : Type} {xs : List α} {i : Int} (h0 : 0 ≤ i) (h1 : i < xs.length) : atI xs i = xs[i.toNat]? := by
  unfold atI ixN; rw [if_pos h0, if_pos h1]; rfl
theorem atI_mem {α : Type} {xs : List α} {i : Int} (h0 : 0 ≤ i) (h1 : i < xs.length) : ∃ x, atI xs i = some x ∧ x ∈ xs := by
  have h : i.toNat < xs.length := by omega
  exact ⟨xs[i.toNat], by rw [atI_lt h0 h1, List.getElem?_eq_getElem h], List.getElem_mem h⟩
theorem atI_map {α β : Type} {f : α → β} {xs : List α} {i : Int} : atI (xs.map f) i = (atI xs i).map f := by
  unfold atI
  rw [List.length_map]
  cases ixN xs.length i with
  | none => rfl
  | some j => exact List.getElem?_map
/-! ### small numbers -/
theorem Sm.of {a : Int} (h1 : -(10 ^ 250) ≤ a) (h2 : a ≤ 10 ^ 250) : Sm a := by
  unfold Sm
  have : a.natAbs ≤ 10 ^ 250 := by
    rw [← Int.ofNat_le]
    have e : (((10 : Nat) ^ 250 : Nat) : Int) = (10 : Int) ^ 250 := Int.natCast_pow 10 250
    rw [e]
    omega
  exact Nat.lt_of_le_of_lt this (by decide +kernel)
theorem Sm.nn {a : Int} (h1 : 0 ≤ a) (h2 : a ≤ 10 ^ 100) : Sm a := Sm.of (Int.le_trans (by decide +kernel) h1) (Int.le_trans h2 (by decide +kernel))
end VL

/-! Plain laws that many claims share. -/
namespace VL
open PySem PySem.Spec PyProof.Rows L2

/-! ### the deck -/
def deckD (cells : List Int) (i c t s : Int) : D := .lst [.lst (cells.map .int), .int i, .int c, .int t, .int s]
/-- the deck is the store's first; what was drawn behind its end is at most T -/
def Dk (T : Int) (rest : Sto) (st : Sto) : Prop := ∃ cells i c t s, st = .dat (deckD cells i c t s) :: rest ∧ 0 ≤ i ∧ i ≤ cells.length ∧ cells.length ≤ 63 ∧ 0 ≤ c ∧ 0 ≤ t ∧ t ≤ T
theorem Dk.le {T T' : Int} {rest st : Sto} (h : Dk T rest st) (hT : T ≤ T') : Dk T' rest st := by
  obtain ⟨cells, i, c, t, s, e, h1, h2, h3, h4, h5, h6⟩ := h
  exact ⟨cells, i, c, t, s, e, h1, h2, h3, h4, h5, by omega⟩
/-- what a draw does -/
def PhiNext : VL.Spec := fun ds st Q _ => ∃ many T rest, ds = [.hnd 0, .int many] ∧ 0 < many ∧ many ≤ 10 ^ 100 ∧ T ≤ 10 ^ 9 ∧ Dk T rest st ∧ ∀ r st', 0 ≤ r → r < many → Dk (T + 1) rest st' → Q (.int r) st'
def PhiNext6 : VL.Spec := fun ds st Q _ => ∃ many T rest, ds = [.hnd 0, .int many] ∧ 0 < many ∧ many ≤ 10 ^ 100 ∧ T ≤ 5 * 10 ^ 8 ∧ Dk T rest st ∧ ∀ r st', 0 ≤ r → r < many → Dk (T + 6) rest st' → Q (.int r) st'
def PhiNumber : VL.Spec := fun ds st Q _ => ∃ base most T rest, ds = [.hnd 0, .int base, .int most] ∧ 2 ≤ base ∧ base ≤ 10 ^ 10 ∧ 0 ≤ most ∧ most ≤ 10 ^ 60 ∧ T ≤ 10 ^ 8 ∧ Dk T rest st ∧ ∀ r st', 0 ≤ r → r ≤ most → Dk (T + 20) rest st' → Q (.int r) st'
def PhiMix : VL.Spec := fun ds st Q _ => ∃ cell k, ds = [.int cell, .int k] ∧ 0 ≤ k ∧ k ≤ 10 ^ 10 ∧ ∀ r, 0 ≤ r → Q (.int r) st
def PhiDeck : VL.Spec := fun ds st Q _ => ∃ ns : List Int, ds = [.scr ns] ∧ ns.length ≤ 63 ∧ st = [] ∧ ∀ st', Dk 0 [] st' → Q (.hnd 0) st'

/-! ### seeds -/
def seedD (n f t c : Int) : D := .lst [.int n, .int f, .int t, .int c]
/-- a seed at p, drawn from at most T times -/
def Sd (T : Int) (p : Nat) (st : Sto) : Prop := ∃ pre post n f t c, p = pre.length ∧ st = pre ++ .dat (seedD n f t c) :: post ∧ 0 ≤ t ∧ t ≤ T ∧ 0 ≤ c ∧ c ≤ 2 * 10 ^ 9
theorem Sd.le {T T' : Int} {p : Nat} {st : Sto} (h : Sd T p st) (hT : T ≤ T') : Sd T' p st := by
  obtain ⟨pre, post, n, f, t, c, e1, e2, h1, h2, h3, h4⟩ := h
  exact ⟨pre, post, n, f, t, c, e1, e2, h1, by omega, h3, h4⟩
theorem Sm.pw {v b k : Nat} (h : v < b ^ k) (hb : b ≤ 16) (hk : k ≤ 1000) : Sm (v : Int) := by
  unfold Sm
  rw [Int.natAbs_natCast]
  exact Nat.lt_trans (Nat.lt_of_lt_of_le h (Nat.le_trans (Nat.pow_le_pow_left hb k) (Nat.pow_le_pow_right (by decide) hk))) (by decide +kernel)
/-! ### figures, the least first -/
def figs (b n : Nat) : List Nat := if h : 1 < b ∧ b ≤ n then n % b :: figs b (n / b) else [n]
  termination_by n
  decreasing_by exact Nat.div_lt_self (by omega) h.1
theorem figs_lt {b n : Nat} (h : n < b) : figs b n = [n] := by unfold figs; rw [dif_neg (by omega)]
theorem figs_ge {b n : Nat} (h : b ≤ n) (hb : 1 < b) : figs b n = n % b :: figs b (n / b) := by rw [figs, dif_pos ⟨hb, h⟩]
theorem figs_len {b : Nat} (hb : 1 < b) : ∀ (k n : Nat), n < 2 ^ k → (figs b n).length ≤ k + 1 := by
  intro k
  induction k with
  | zero => intro n h; rw [figs_lt (by omega)]; simp
  | succ k ih =>
    intro n h
    by_cases g : n < b
    · rw [figs_lt g]; simp
    · rw [figs_ge (by omega) hb, List.length_cons]
      have h2 : n / b ≤ n / 2 := Nat.div_le_div_left (by omega) (by decide)
      have := ih (n / b) (by rw [Nat.pow_succ] at h; omega)
      omega
theorem figs_small {b : Nat} (hb : 1 < b) : ∀ (n : Nat) , ∀ x ∈ figs b n, x < b := by
  intro n
  induction n using Nat.strongRecOn with
  | _ n ih =>
    intro x hx
    by_cases g : n < b
    · rw [figs_lt g] at hx; simp at hx; omega
    · rw [figs_ge (by omega) hb] at hx
      rcases List.mem_cons.mp hx with rfl | hx
      · exact Nat.mod_lt _ (by omega)
      · exact ih (n / b) (Nat.div_lt_self (by omega) hb) x hx
/-- the sum of the figures -/
def dsum (b n : Nat) : Nat := (figs b n).sum
theorem dsum_le {b : Nat} (hb : 1 < b) (n : Nat) : dsum b n ≤ n := by
  induction n using Nat.strongRecOn with
  | _ n ih =>
    unfold dsum
    by_cases g : n < b
    · rw [figs_lt g]; simp
    · rw [figs_ge (by omega) hb, List.sum_cons]
      have := ih (n / b) (Nat.div_lt_self (by omega) hb)
      unfold dsum at this
      have e := Nat.div_add_mod n b
      have : n / b ≤ b * (n / b) := Nat.le_mul_of_pos_left _ (by omega)
      omega
theorem dsum_lt {b : Nat} (hb : 1 < b) {n : Nat} (h : b ≤ n) : dsum b n < n := by
  unfold dsum
  rw [figs_ge h hb, List.sum_cons]
  have := dsum_le hb (n / b)
  unfold dsum at this
  have e := Nat.div_add_mod n b
  have h2 : 0 < n / b := Nat.div_pos h (by omega)
  have h3 : 2 * (n / b) ≤ b * (n / b) := Nat.mul_le_mul_right _ (by omega)
  omega
theorem dsum_step {b : Nat} (hb : 1 < b) (n : Nat) : dsum b n = n % b + dsum b (n / b) := by
  by_cases h : n < b
  · rw [Nat.mod_eq_of_lt h, Nat.div_eq_of_lt h]
    unfold dsum
    rw [figs_lt h, figs_lt (by omega)]; simp
  · unfold dsum
    rw [figs_ge (by omega) hb, List.sum_cons]
theorem dsum_small {b n : Nat} (h : n < b) : dsum b n = n := by unfold dsum; rw [figs_lt h]; simp
theorem dsum_snoc {b : Nat} (hb : 1 < b) (q d : Nat) (hd : d < b) : dsum b (q * b + d) = dsum b q + d := by
  rw [dsum_step hb, Nat.mul_comm q b, Nat.mul_add_mod, Nat.mod_eq_of_lt hd, Nat.mul_add_div (by omega), Nat.div_eq_of_lt hd, Nat.add_zero]
  omega
theorem dsum_cat {b : Nat} (hb : 1 < b) : ∀ (k q m : Nat), m < b ^ k → dsum b (q * b ^ k + m) = dsum b q + dsum b m := by
  intro k
  induction k with
  | zero => intro q m h; obtain rfl : m = 0 := by simpa using h
            rw [dsum_small (show 0 < b by omega)]; simp
  | succ k ih =>
    intro q m h
    have hm : m / b < b ^ k := Nat.div_lt_of_lt_mul (by rw [Nat.pow_succ, Nat.mul_comm] at h; exact h)
    have e : q * b ^ (k + 1) + m = b * (q * b ^ k + m / b) + m % b := by
      have := Nat.div_add_mod m b
      rw [Nat.pow_succ, Nat.mul_add]
      have : q * (b ^ k * b) = b * (q * b ^ k) := by rw [← Nat.mul_assoc, Nat.mul_comm]
      omega
    have l := Nat.mod_lt m (show 0 < b by omega)
    rw [e, dsum_step hb, Nat.mul_add_mod, Nat.mod_eq_of_lt l, Nat.mul_add_div (by omega), Nat.div_eq_of_lt l, Nat.add_zero, ih q _ hm, dsum_step hb m]
    omega
/-- what is lost when two are added with a carry -/
def lost (b x y c : Nat) : Int := (dsum b x : Int) + dsum b y + c - dsum b (x + y + c)
theorem lost_step {b : Nat} (hb : 1 < b) (x y c : Nat) (hc : c ≤ 1) : lost b x y c = ((b : Int) - 1) * (if b ≤ x % b + y % b + c then 1 else 0 : Nat) + lost b (x / b) (y / b) (if b ≤ x % b + y % b + c then 1 else 0) := by
  unfold lost
  rw [dsum_step hb x, dsum_step hb y, dsum_step hb (x + y + c)]
  have ex := Nat.div_add_mod x b
  have ey := Nat.div_add_mod y b
  have mx := Nat.mod_lt x (show 0 < b by omega)
  have my := Nat.mod_lt y (show 0 < b by omega)
  by_cases h : b ≤ x % b + y % b + c
  · have e : x + y + c = b * (x / b + y / b + 1) + (x % b + y % b + c - b) := by
      rw [Nat.mul_add, Nat.mul_add]; omega
    have l : x % b + y % b + c - b < b := by omega
    rw [if_pos h]
    rw [show (x + y + c) % b = x % b + y % b + c - b by rw [e, Nat.mul_add_mod, Nat.mod_eq_of_lt l], show (x + y + c) / b = x / b + y / b + 1 by rw [e, Nat.mul_add_div (by omega), Nat.div_eq_of_lt l, Nat.add_zero]]
    generalize dsum b (x / b) = p
    generalize dsum b (y / b) = q
    generalize dsum b (x / b + y / b + 1) = r
    push_cast
    omega
  · have e : x + y + c = b * (x / b + y / b) + (x % b + y % b + c) := by
      rw [Nat.mul_add]; omega
    have l : x % b + y % b + c < b := by omega
    rw [if_neg h]
    rw [show (x + y + c) % b = x % b + y % b + c by rw [e, Nat.mul_add_mod, Nat.mod_eq_of_lt l], show (x + y + c) / b = x / b + y / b by rw [e, Nat.mul_add_div (by omega), Nat.div_eq_of_lt l, Nat.add_zero]]
    generalize dsum b (x / b) = p
    generalize dsum b (y / b) = q
    rw [Nat.add_zero]
    generalize dsum b (x / b + y / b) = r
    push_cast
    omega
theorem lost_nn {b : Nat} (hb : 1 < b) : ∀ (x y c : Nat), c ≤ 1 → 0 ≤ lost b x y c := by
  intro x
  induction x using Nat.strongRecOn with
  | _ x ih =>
    intro y
    induction y using Nat.strongRecOn with
    | _ y ih2 =>
      intro c hc
      rw [lost_step hb x y c hc]
      have c1 : (if b ≤ x % b + y % b + c then 1 else 0 : Nat) ≤ 1 := by split <;> omega
      have m0 : 0 ≤ ((b : Int) - 1) * (if b ≤ x % b + y % b + c then 1 else 0 : Nat) := Int.mul_nonneg (by omega) (by omega)
      by_cases hx : x = 0
      · subst hx
        by_cases hy : y = 0
        · subst hy
          have hz : ¬ b ≤ 0 % b + 0 % b + c := by simp; omega
          rw [if_neg hz]
          simp only [Nat.zero_div]
          have : dsum b 0 = 0 := by unfold dsum; rw [figs_lt (by omega)]; rfl
          unfold lost; simp [this]
        · rw [Nat.zero_div]
          have := ih2 (y / b) (Nat.div_lt_self (by omega) hb) _ c1
          omega
      · have := ih (x / b) (Nat.div_lt_self (by omega) hb) (y / b) _ c1
        omega
theorem dsum_add_le {b : Nat} (hb : 1 < b) (x y : Nat) : dsum b (x + y) ≤ dsum b x + dsum b y := by
  have := lost_nn hb x y 0 (by omega)
  unfold lost at this
  rw [Nat.add_zero] at this
  omega
theorem dsum_mod {b : Nat} (hb : 1 < b) (n : Nat) : ∃ t, n = dsum b n + (b - 1) * t := by
  induction n using Nat.strongRecOn with
  | _ n ih =>
    by_cases h : n < b
    · exact ⟨0, by unfold dsum; rw [figs_lt h]; simp⟩
    · obtain ⟨t, ht⟩ := ih (n / b) (Nat.div_lt_self (by omega) hb)
      have e := Nat.div_add_mod n b
      refine ⟨n / b + t, ?_⟩
      rw [dsum_step hb n, Nat.mul_add]
      have e2 : (b - 1) * (n / b) + n / b = b * (n / b) := by
        obtain ⟨k, rfl⟩ : ∃ k, b = k + 1 := ⟨b - 1, by omega⟩
        rw [Nat.add_sub_cancel, Nat.add_mul, Nat.one_mul]
      omega
theorem dsum_0 {b : Nat} (hb : 1 < b) {n : Nat} (h : dsum b n = 0) : n = 0 := by
  induction n using Nat.strongRecOn with
  | _ n ih =>
    by_cases g : n < b
    · unfold dsum at h; rw [figs_lt g] at h; simpa using h
    · rw [dsum_step hb] at h
      have := ih (n / b) (Nat.div_lt_self (by omega) hb) (by omega)
      have := Nat.div_pos (show b ≤ n by omega) (show 0 < b by omega)
      omega
/-- the sums of all below -/
def TB (b : Nat) : Nat → Nat
  | 0 => 0
  | n + 1 => TB b n + dsum b n
theorem TB_add {b : Nat} (hb : 1 < b) (k q : Nat) : ∀ m, m ≤ b ^ k → TB b (q * b ^ k + m) = TB b (q * b ^ k) + m * dsum b q + TB b m := by
  intro m
  induction m with
  | zero => intro _; simp [TB]
  | succ m ih =>
    intro h
    rw [← Nat.add_assoc, TB, ih (by omega), dsum_cat hb k q m (by omega), TB, Nat.add_mul]
    omega
theorem TB_l {b : Nat} (hb : 1 < b) (k : Nat) : ∀ l, l ≤ b → 2 * TB b (l * b ^ k) + l * b ^ k = l * l * b ^ k + 2 * l * TB b (b ^ k) := by
  intro l
  induction l with
  | zero => intro _; simp [TB]
  | succ l ih =>
    intro h
    have e := ih (by omega)
    have f := TB_add hb k l (b ^ k) (Nat.le_refl _)
    rw [dsum_small (show l < b by omega)] at f
    rw [show (l + 1) * b ^ k = l * b ^ k + b ^ k by rw [Nat.add_mul, Nat.one_mul], f]
    generalize b ^ k = p at *
    generalize TB b (l * p) = X at *
    generalize TB b p = Y at *
    grind
theorem TB_pow {b : Nat} (hb : 1 < b) : ∀ k, 2 * TB b (b ^ k) + k * b ^ k = k * b * b ^ k := by
  intro k
  induction k with
  | zero => simp [TB, dsum_small (show 0 < b by omega)]
  | succ k ih =>
    have e := TB_l hb k b (Nat.le_refl _)
    rw [show b ^ (k + 1) = b * b ^ k by rw [Nat.pow_succ, Nat.mul_comm]]
    generalize b ^ k = p at *
    generalize TB b (b * p) = X at *
    generalize TB b p = Y at *
    grind
theorem TB_le {b : Nat} (hb : 1 < b) (n : Nat) : TB b n ≤ n * n := by
  induction n with
  | zero => simp [TB]
  | succ n ih =>
    rw [TB]
    have := dsum_le hb n
    have e : (n + 1) * (n + 1) = n * n + 2 * n + 1 := by grind
    omega
theorem TB_mono {b : Nat} {m n : Nat} (h : m ≤ n) : TB b m ≤ TB b n := by
  induction n with
  | zero => obtain rfl : m = 0 := by omega
            exact Nat.le_refl _
  | succ n ih =>
    by_cases g : m = n + 1
    · subst g; exact Nat.le_refl _
    · rw [TB]; have := ih (by omega); omega
/-- what figures come to, the greatest first -/
def valF (b : Nat) (ds : List Nat) : Nat := ds.foldl (fun a d => a * b + d) 0
theorem valF_snoc (b : Nat) (ds : List Nat) (d : Nat) : valF b (ds ++ [d]) = valF b ds * b + d := by unfold valF; rw [List.foldl_append]; rfl
theorem valF_figs {b : Nat} (hb : 1 < b) (n : Nat) : valF b (figs b n).reverse = n := by
  induction n using Nat.strongRecOn with
  | _ n ih =>
    by_cases g : n < b
    · rw [figs_lt g]; simp [valF]
    · rw [figs_ge (by omega) hb, List.reverse_cons, valF_snoc, ih (n / b) (Nat.div_lt_self (by omega) hb), Nat.mul_comm]
      exact Nat.div_add_mod n b
theorem valF_cat (b : Nat) (xs ys : List Nat) : valF b (xs ++ ys) = valF b xs * b ^ ys.length + valF b ys := by
  induction ys generalizing xs with
  | nil => simp [valF]
  | cons y ys ih =>
    have e1 := ih (xs ++ [y])
    have e2 := ih [y]
    rw [List.append_assoc] at e1
    rw [show xs ++ y :: ys = xs ++ ([y] ++ ys) from rfl, e1, show y :: ys = [y] ++ ys from rfl, e2, valF_snoc]
    simp only [List.length_append, List.length_singleton]
    rw [show valF b [y] = y by simp [valF], show 1 + ys.length = ys.length + 1 by omega, Nat.pow_succ]
    grind
/-- .. that can be computed -/
def figsF (b : Nat) : Nat → Nat → List Nat
  | 0, n => [n]
  | k + 1, n => if n < b then [n] else n % b :: figsF b k (n / b)
theorem figsF_eq {b : Nat} (hb : 1 < b) : ∀ (k n : Nat), n < 2 ^ k → figs b n = figsF b k n := by
  intro k
  induction k with
  | zero => intro n h; rw [figs_lt (by omega)]; rfl
  | succ k ih =>
    intro n h
    unfold figsF
    by_cases g : n < b
    · rw [figs_lt g, if_pos g]
    · rw [figs_ge (by omega) hb, if_neg g, ih]
      have h2 : n / b ≤ n / 2 := Nat.div_le_div_left (by omega) (by decide)
      rw [Nat.pow_succ] at h
      omega
theorem dsum_F {b : Nat} (k n : Nat) (hb : 1 < b) (h : n < 2 ^ k) : dsum b n = (figsF b k n).sum := by unfold dsum; rw [figsF_eq hb k n h]
theorem figs_len' {b : Nat} (hb : 1 < b) {n : Nat} (h : n < 2 ^ 1000) : (figs b n).length ≤ 1001 := figs_len hb 1000 n h
theorem filter_no {α : Type} (l : List α) : l.filter (fun _ => false) = [] := List.filter_eq_nil_iff.mpr (by simp)
def nI (n : Nat) : D := .int (n : Nat)
theorem nI_map (xs : List Nat) : xs.map nI = (xs.map (fun n : Nat => (n : Int))).map D.int := by rw [List.map_map]; rfl
theorem keyInts_nI (xs : List Nat) : keyInts (xs.map nI) = some (xs.map (fun n : Nat => (n : Int))) := by rw [nI_map]; exact keyInts_map _
theorem sum_cast (xs : List Nat) : (xs.map (fun n : Nat => (n : Int))).sum = ((xs.sum : Nat) : Int) := by
  induction xs with
  | nil => rfl
  | cons x xs ih => rw [List.map_cons, List.sum_cons, List.sum_cons, ih]; omega
theorem nd_nI {b : Bool} {n : Nat} (xs : List Nat) : (xs.map nI).all (nd b n) = true := by rw [nI_map]; exact nd_ints _
end VL

/-! Words read step by step: what stands behind a stuck step is pinned, so that it is not looked into. -/
namespace VL
open PySem PySem.Spec PyProof.Rows L2
inductive Pin {α : Sort _} (Q : α) : Type
  | mk
def pWhile (t : WB) (w : WS) (env : EnvD) (st : Sto) (Q : KS) (Qx : KX) (_ : Pin Q) (_ : Pin Qx) : Prop := wWhile t w env st Q Qx
theorem p_while {t w env st Q Qx} : wWhile t w env st Q Qx = pWhile t w env st Q Qx .mk .mk := rfl
def pTurns (g : WG) (w : WS) (Q : KS) (Qx : KX) (ds : List D) (env : EnvD) (st : Sto) (_ : Pin Q) (_ : Pin Qx) : Prop := wTurns g w Q Qx ds env st
theorem p_for {wi : WI} {g : WG} {w : WS} {env st Q Qx} : wFor wi g w env st Q Qx = wi env st (fun ds e s => pTurns g w Q Qx ds e s .mk .mk) Qx := rfl
def pLc (vs : List Nat) (g : WG) (t : WB) (w : WE) (Q : KE) (ds acc : List D) (env : EnvD) (st : Sto) (_ : Pin Q) : Prop := lcT vs g t w Q ds acc env st
theorem p_lc {vs : List Nat} {wi : WI} {g : WG} {t : WB} {w : WE} {env st Q Qx} : wLc vs wi g t w env st Q Qx = wi env st (fun ds e s => pLc vs g t w Q ds [] (wipeE e vs) s .mk) Qx := rfl
def pCall (Phi : Spec) (ds : List D) (s : Sto) (Q : D → Sto → Prop) (Qx : XD → Sto → Prop) (_ : Pin Q) (_ : Pin Qx) : Prop := Phi ds s Q Qx
theorem p_call {Phi : Spec} {wr : WA} {env st Q Qx} : wCall Phi wr env st Q Qx = wr env st (fun ds e s => pCall Phi ds s (fun d s' => Q d e s') (fun x s' => Qx x e s') .mk .mk) Qx := rfl
def pBin (f : D → D → (D → Prop) → Prop) (d e : D) (P : D → Prop) (_ : Pin P) : Prop := f d e P
def pUn (f : D → (D → Prop) → Prop) (d : D) (P : D → Prop) (_ : Pin P) : Prop := f d P
theorem p_eq {d e P} : eqD d e P = pBin eqD d e P .mk := rfl
theorem p_ne {d e P} : neD d e P = pBin neD d e P .mk := rfl
theorem p_in {d e P} : inD d e P = pBin inD d e P .mk := rfl
theorem p_nin {d e P} : ninD d e P = pBin ninD d e P .mk := rfl
theorem p_eqI {a b : Int} {P p} : pBin eqD (.int a) (.int b) P p = P (.bl (decide (a = b))) := propext eqD_int
theorem p_neI {a b : Int} {P p} : pBin neD (.int a) (.int b) P p = P (.bl (!decide (a = b))) := propext neD_int
theorem p_neB {a b : Bool} {P p} : pBin neD (.bl a) (.bl b) P p = P (.bl (!(a == b))) := by
  refine propext ⟨?_, fun h => ⟨_, _, rfl, rfl, rfl, rfl, h⟩⟩
  rintro ⟨p, q, e1, e2, _, _, h⟩
  cases e1; cases e2; exact h
theorem p_eqB {a b : Bool} {P p} : pBin eqD (.bl a) (.bl b) P p = P (.bl (a == b)) := by
  refine propext ⟨?_, fun h => ⟨_, _, rfl, rfl, rfl, rfl, h⟩⟩
  rintro ⟨p, q, e1, e2, _, _, h⟩
  cases e1; cases e2; exact h
def pAt (xs : List D) (i : Int) (P : D → Prop) (_ : Pin P) : Prop := match atI xs i with
  | some d => P d
  | none => False
theorem p_at {xs i P d} (h : atI xs i = some d) (hp : P d) : pAt xs i P .mk := by unfold pAt; rw [h]; exact hp
theorem p_ixl {st xs i P} : ixD st (.lst xs) (.int i) P = pAt xs i P .mk := rfl
theorem p_ixt {st xs i P} : ixD st (.tup xs) (.int i) P = pAt xs i P .mk := rfl
theorem p_at0 {x : D} {xs P} : pAt (x :: xs) 0 P .mk = P x := by unfold pAt; rw [atI_0]
theorem p_at1 {x y : D} {xs P} : pAt (x :: y :: xs) 1 P .mk = P y := by unfold pAt; rw [atI_1]
theorem p_at2 {x y z : D} {xs P} : pAt (x :: y :: z :: xs) 2 P .mk = P z := by unfold pAt; rw [atI_2]
theorem p_at3 {x y z u : D} {xs P} : pAt (x :: y :: z :: u :: xs) 3 P .mk = P u := by unfold pAt; rw [atI_3]
theorem p_at4 {x y z u v : D} {xs P} : pAt (x :: y :: z :: u :: v :: xs) 4 P .mk = P v := by unfold pAt; rw [atI_4]
theorem p_at5 {x y z u v w : D} {xs P} : pAt (x :: y :: z :: u :: v :: w :: xs) 5 P .mk = P w := by unfold pAt; rw [atI_5]
/-- in the store -/
theorem p_ixh {st n i xs P} (h : st[n]? = some (.dat (.lst xs))) : ixD st (.hnd n) (.int i) P = pAt xs i P .mk := by
  show (match st[n]? with
    | some (.dat (.lst xs)) => (match atI xs i with
      | some d => P d
      | none => False)
    | _ => False) = _
  rw [h]; rfl
theorem p_ixhm {pre post : Sto} {i xs P} : ixD (pre ++ .dat (.lst xs) :: post) (.hnd pre.length) (.int i) P = pAt xs i P .mk := p_ixh (by rw [List.getElem?_append_right (Nat.le_refl _), Nat.sub_self]; rfl)
theorem q_mid {pre post : Sto} {x : SO} : (pre ++ x :: post)[pre.length]? = some x := by rw [List.getElem?_append_right (Nat.le_refl _), Nat.sub_self]; rfl
theorem q_midset {pre post : Sto} {x y : SO} : (pre ++ x :: post).set pre.length y = pre ++ y :: post := by rw [List.set_append_right _ _ (Nat.le_refl _), Nat.sub_self]; rfl
theorem p_ixh0 {xs st i P} : ixD (.dat (.lst xs) :: st) (.hnd 0) (.int i) P = pAt xs i P .mk := p_ixh rfl
def pSum (xs : List D) (P : D → Prop) (_ : Pin P) : Prop := sumD (.lst xs) P
def pSumT (xs : List D) (P : D → Prop) (_ : Pin P) : Prop := sumD (.tup xs) P
theorem p_suml {xs P} : sumD (.lst xs) P = pSum xs P .mk := rfl
theorem p_sumt {xs P} : sumD (.tup xs) P = pSumT xs P .mk := rfl
theorem p_sums {ns P} : sumD (.scr ns) P = P (.int ns.sum) := rfl
theorem p_sumi {ns : List Int} {P} : pSum (ns.map .int) P .mk = P (.int ns.sum) := by unfold pSum sumD; simp only [keyInts_map]
theorem p_sumti {ns : List Int} {P} : pSumT (ns.map .int) P .mk = P (.int ns.sum) := by unfold pSumT sumD; simp only [keyInts_map]
theorem p_sumn {ns : List Nat} {P} : pSum (ns.map nI) P .mk = P (nI ns.sum) := by unfold pSum sumD; simp only [keyInts_nI, sum_cast]; rfl
theorem p_sumtn {ns : List Nat} {P} : pSumT (ns.map nI) P .mk = P (nI ns.sum) := by unfold pSumT sumD; simp only [keyInts_nI, sum_cast]; rfl
theorem ite_d {α : Sort _} {c : Prop} {inst : Decidable c} {p q : α} : (if @decide c inst = true then p else q) = @ite α c inst p q := by by_cases h : c <;> simp [h]
theorem ite_nd {α : Sort _} {c : Prop} {inst : Decidable c} {p q : α} : (if (!@decide c inst) = true then p else q) = @ite α c inst q p := by by_cases h : c <;> simp [h]

/-! ### one step each -/
variable {env : EnvD} {st : Sto} {Q : KS} {Qx : KX}
def kSeq (u : WS) (Q : KS) (Qx : KX) : KS := fun o e s => match o with
  | .nx => u e s Q Qx
  | o => Q o e s
theorem q_seq {w u : WS} : wSeq w u env st Q Qx = w env st (kSeq u Q Qx) Qx := rfl
theorem q_seq1 {u : WS} : kSeq u Q Qx .nx env st = u env st Q Qx := rfl
theorem q_seq2 {u : WS} : kSeq u Q Qx .bk env st = Q .bk env st := rfl
theorem q_seq3 {u : WS} : kSeq u Q Qx .ct env st = Q .ct env st := rfl
theorem q_seq4 {u : WS} {d : D} : kSeq u Q Qx (.rt d) env st = Q (.rt d) env st := rfl
def kRet (Q : D → Sto → Prop) : KS := fun o _ s => match o with
  | .nx => Q .non s
  | .rt d => Q d s
  | _ => False
def kRetF (Q : D → Sto → Prop) : KS := fun o _ s => match o with
  | .rt d => Q d s
  | _ => False
theorem q_specB {n : Nat} {w : WS} {ds : List D} {Q Qx} : specW false n w ds st Q Qx = w (envOf n ds) st (kRet Q) (fun x _ s => Qx x s) := rfl
theorem q_specF {n : Nat} {w : WS} {ds : List D} {Q Qx} : specW true n w ds st Q Qx = w (envOf n ds) st (kRetF Q) (fun x _ s => Qx x s) := rfl
theorem q_ret1 {Q : D → Sto → Prop} : kRet Q .nx env st = Q .non st := rfl
theorem q_ret2 {Q : D → Sto → Prop} {d : D} : kRet Q (.rt d) env st = Q d st := rfl
theorem q_ret3 {Q : D → Sto → Prop} {d : D} : kRetF Q (.rt d) env st = Q d st := rfl
theorem q_turn1 {N} : Turn1 N Q .nx env st = N env st := rfl
theorem q_turn2 {N} : Turn1 N Q .ct env st = N env st := rfl
theorem q_turn3 {N} : Turn1 N Q .bk env st = Q .nx env st := rfl
theorem q_turn4 {N} {d : D} : Turn1 N Q (.rt d) env st = Q (.rt d) env st := rfl
/-! ### an if, its tail apart -/
def pIf (t : WB) (a u : WS) (env : EnvD) (st : Sto) (Q : KS) (Qx : KX) (_ : Pin Q) (_ : Pin Qx) : Prop := wSeq (wIte t a wEnd) u env st Q Qx
theorem s_ite {t : WB} {a u : WS} : wSeq (wIte t a wEnd) u env st Q Qx = pIf t a u env st Q Qx .mk .mk := rfl
theorem r_if {t : WB} {a u : WS} {p q} (P : EnvD → Sto → Prop) (tail : ∀ e s, P e s → u e s Q Qx)
    (h : ∀ u : WS, (∀ e s, P e s → u e s Q Qx) → t env st (fun b e s => if b = true then a e s (kSeq u Q Qx) Qx else u e s Q Qx) Qx) : pIf t a u env st Q Qx p q := h u tail
/-- any statement, its tail apart -/
theorem r_cut {w u : WS} (P : EnvD → Sto → Prop) (tail : ∀ e s, P e s → u e s Q Qx) (h : ∀ u : WS, (∀ e s, P e s → u e s Q Qx) → w env st (kSeq u Q Qx) Qx) : wSeq w u env st Q Qx := h u tail
theorem s_set_ {i : Nat} {w : WE} {u : WS} : wSeq (wSet i w) u env st Q Qx = (wSet i w) env st (kSeq u Q Qx) Qx := rfl
theorem s_setF_ {i : Nat} {w : WE} {u : WS} : wSeq (wSetF i w) u env st Q Qx = (wSetF i w) env st (kSeq u Q Qx) Qx := rfl
theorem s_mov_ {i j : Nat} {u : WS} : wSeq (wMove i j) u env st Q Qx = wMove i j env st (kSeq u Q Qx) Qx := rfl
theorem s_aug_ {f : D → D → (D → Prop) → Prop} {i : Nat} {w : WE} {u : WS} : wSeq (wAug f i w) u env st Q Qx = wAug f i w env st (kSeq u Q Qx) Qx := rfl
theorem s_app_ {wo : WO} {wr : WA} {u : WS} : wSeq (wApp wo wr) u env st Q Qx = wApp wo wr env st (kSeq u Q Qx) Qx := rfl
theorem s_put_ {wo : WO} {wi we : WE} {u : WS} : wSeq (wPut wo wi we) u env st Q Qx = wPut wo wi we env st (kSeq u Q Qx) Qx := rfl
theorem s_for_ {wi : WI} {g : WG} {w u : WS} : wSeq (wFor wi g w) u env st Q Qx = wFor wi g w env st (kSeq u Q Qx) Qx := rfl
theorem s_while_ {t : WB} {w u : WS} : wSeq (wWhile t w) u env st Q Qx = wWhile t w env st (kSeq u Q Qx) Qx := rfl
theorem s_drop_ {w : WE} {u : WS} : wSeq (wDrop w) u env st Q Qx = wDrop w env st (kSeq u Q Qx) Qx := rfl
theorem s_asg_ {w : WE} {g : WG} {u : WS} : wSeq (wAsg w g) u env st Q Qx = wAsg w g env st (kSeq u Q Qx) Qx := rfl
theorem s_pop_ {i j : Nat} {u : WS} : wSeq (wPop i j) u env st Q Qx = wPop i j env st (kSeq u Q Qx) Qx := rfl
theorem s_par2_ {i j : Nat} {w : WA} {u : WS} : wSeq (wPar2 i j w) u env st Q Qx = wPar2 i j w env st (kSeq u Q Qx) Qx := rfl
theorem s_par3_ {i j l : Nat} {w : WA} {u : WS} : wSeq (wPar3 i j l w) u env st Q Qx = wPar3 i j l w env st (kSeq u Q Qx) Qx := rfl
theorem s_augix_ {f : D → D → (D → Prop) → Prop} {wo : WO} {wi we : WE} {u : WS} : wSeq (wAugIx f wo wi we) u env st Q Qx = wAugIx f wo wi we env st (kSeq u Q Qx) Qx := rfl
/-- a slot is read -/
def kSl (o : Option (Option Slot)) (P : D → Prop) (_ : Pin P) : Prop := match o with
  | some (some (.sh d)) => P d
  | some (some (.ow d)) => P d
  | _ => False
theorem q_sl1 {d : D} {P p} : kSl (some (some (.sh d))) P p = P d := rfl
theorem q_sl2 {d : D} {P p} : kSl (some (some (.ow d))) P p = P d := rfl
def kSh (o : Option (Option Slot)) (P : D → Prop) (_ : Pin P) : Prop := match o with
  | some (some (.sh d)) => P d
  | _ => False
theorem q_sh1 {d : D} {P p} : kSh (some (some (.sh d))) P p = P d := rfl
def kOw (o : Option (Option Slot)) (P : D → Prop) (_ : Pin P) : Prop := match o with
  | some (some (.ow d)) => P d
  | _ => False
theorem q_ow1 {d : D} {P p} : kOw (some (some (.ow d))) P p = P d := rfl
def kAny (o : Option (Option Slot)) (P : Prop) (_ : Pin P) : Prop := match o with
  | some (some _) => P
  | _ => False
theorem q_any1 {d : Slot} {P p} : kAny (some (some d)) P p = P := rfl
def kVar (o : Option (Option Slot)) (P1 P2 : D → Prop) (_ : Pin P1) (_ : Pin P2) : Prop := match o with
  | some (some (.sh d)) => P1 d
  | some (some (.ow d)) => P2 d
  | _ => False
theorem q_var {i : Nat} {Q : KE} : wVar i env st Q Qx = kVar (env[i]?) (fun d => Q d env st) (fun d => Q d (env.set i (some (.sh d))) st) .mk .mk := rfl
theorem q_var1 {d : D} {P1 P2 p1 p2} : kVar (some (some (.sh d))) P1 P2 p1 p2 = P1 d := rfl
theorem q_var2 {d : D} {P1 P2 p1 p2} : kVar (some (some (.ow d))) P1 P2 p1 p2 = P2 d := rfl
theorem q_get1 {d : D} {P : D → Prop} : DR.get (.val d) env P = P d := rfl
theorem q_get2 {i : Nat} {P : D → Prop} : DR.get (.slot i) env P = kSl (env[i]?) P .mk := by
  unfold DR.get kSl; (try dsimp only) <;> (rcases env[i]? with _ | _ | _ | _ <;> rfl)
theorem q_ws {i : Nat} {Q} : ws i env st Q Qx = kAny (env[i]?) (Q (.slot i) env st) .mk := by
  unfold ws kAny; (try dsimp only) <;> (rcases env[i]? with _ | _ | _ <;> rfl)
theorem q_move {i j : Nat} : wMove i j env st Q Qx = kOw (env[j]?) (fun d => Q .nx ((env.set j none).set i (some (.ow d))) st) .mk := by
  unfold wMove kOw; (try dsimp only) <;> (rcases env[j]? with _ | _ | _ | _ <;> rfl)
theorem q_aug {f : D → D → (D → Prop) → Prop} {i : Nat} {w : WE} : wAug f i w env st Q Qx = kSh (env[i]?) (fun d0 => w env st (fun d e s => f d0 d fun d' => Q .nx (e.set i (some (.sh d'))) s) Qx) .mk := by
  unfold wAug kSh; (try dsimp only) <;> (rcases env[i]? with _ | _ | _ | _ <;> rfl)
theorem q_retV {i : Nat} : wRetV i env st Q Qx = kOw (env[i]?) (fun d => Q (.rt d) env st) .mk := by
  unfold wRetV kOw; (try dsimp only) <;> (rcases env[i]? with _ | _ | _ | _ <;> rfl)
def kT (Q : KB) : KE := fun d e s => match d with | .bl b => Q b e s | _ => False
theorem q_t {w : WE} {Q : KB} : wT w env st Q Qx = w env st (kT Q) Qx := rfl
theorem q_t1 {b : Bool} {Q : KB} : kT Q (.bl b) env st = Q b env st := rfl
def kCh (g : D → D → (D → Prop) → Prop) (wc : WO) (r2 : DR) (e : EnvD) (s : Sto) (Q : KE) (Qx : KX) (d : D) : Prop := match d with
  | .bl true => wc e s (fun r3 e3 s3 => r2.get e3 fun d2 => r3.get e3 fun d3 => g d2 d3 fun d => Q d e3 s3) Qx
  | .bl false => Q (.bl false) e s
  | _ => False
theorem q_ch {f g : D → D → (D → Prop) → Prop} {wa wb wc : WO} {Q : KE} : wChain f g wa wb wc env st Q Qx = wa env st (fun r1 e1 s1 => wb e1 s1 (fun r2 e2 s2 => r1.get e2 fun d1 => r2.get e2 fun d2 => f d1 d2 (kCh g wc r2 e2 s2 Q Qx)) Qx) Qx := rfl
theorem q_ch1 {g : D → D → (D → Prop) → Prop} {wc : WO} {r2 : DR} {Q : KE} {b : Bool} : kCh g wc r2 env st Q Qx (.bl b) = if b = true then wc env st (fun r3 e3 s3 => r2.get e3 fun d2 => r3.get e3 fun d3 => g d2 d3 fun d => Q d e3 s3) Qx else Q (.bl false) env st := by cases b <;> rfl
def kNot (Q : KE) : KE := fun d e s => match d with | .bl b => Q (.bl (!b)) e s | _ => False
theorem q_not {w : WE} {Q : KE} : wNotV w env st Q Qx = w env st (kNot Q) Qx := rfl
theorem q_not1 {b : Bool} {Q : KE} : kNot Q (.bl b) env st = Q (.bl (!b)) env st := rfl
def kAnd (u : WE) (Q : KE) (Qx : KX) : KE := fun d e s => match d with | .bl true => u e s Q Qx | .bl false => Q (.bl false) e s | _ => False
theorem q_and {w u : WE} {Q : KE} : wAndV w u env st Q Qx = w env st (kAnd u Q Qx) Qx := rfl
theorem q_and1 {u : WE} {b : Bool} {Q : KE} : kAnd u Q Qx (.bl b) env st = if b = true then u env st Q Qx else Q (.bl false) env st := by cases b <;> rfl
def kOr (u : WE) (Q : KE) (Qx : KX) : KE := fun d e s => match d with | .bl true => Q (.bl true) e s | .bl false => u e s Q Qx | _ => False
theorem q_or {w u : WE} {Q : KE} : wOrV w u env st Q Qx = w env st (kOr u Q Qx) Qx := rfl
theorem q_or1 {u : WE} {b : Bool} {Q : KE} : kOr u Q Qx (.bl b) env st = if b = true then Q (.bl true) env st else u env st Q Qx := by cases b <;> rfl
def kNeg (Q : KE) : KE := fun d e s => match d with | .int i => Q (.int (-i)) e s | _ => False
theorem q_neg {w : WE} {Q : KE} : wNeg w env st Q Qx = w env st (kNeg Q) Qx := rfl
theorem q_neg1 {i : Int} {Q : KE} : kNeg Q (.int i) env st = Q (.int (-i)) env st := rfl
def kSome (Q : Option Int → EnvD → Sto → Prop) : KE := fun d e s => match d with | .int i => Q (some i) e s | _ => False
theorem q_some {w : WE} {Q} : wSome w env st Q Qx = w env st (kSome Q) Qx := rfl
theorem q_some1 {i : Int} {Q} : kSome Q (.int i) env st = Q (some i) env st := rfl
def kRev (Q : KE) (e : EnvD) (s : Sto) (d : D) : Prop := match d with | .lst xs => Q (.lst xs.reverse) e s | _ => False
theorem q_rev {wa : WO} {Q : KE} : wRev wa env st Q Qx = wa env st (fun r e s => r.get e (kRev Q e s)) Qx := rfl
theorem q_rev1 {xs : List D} {Q : KE} : kRev Q env st (.lst xs) = Q (.lst xs.reverse) env st := rfl
def kC2 (f : Int → Int → Int) (Q : KE) : KA := fun ds e s => match ds with | [.int i, .int j] => Q (.int (f i j)) e s | _ => False
theorem q_c2 {f : Int → Int → Int} {wr : WA} {Q : KE} : wC2 f wr env st Q Qx = wr env st (kC2 f Q) Qx := rfl
theorem q_c21 {f : Int → Int → Int} {i j : Int} {Q : KE} : kC2 f Q [.int i, .int j] env st = Q (.int (f i j)) env st := rfl
def kApp (r : DR) (Q : KS) : KA := fun ds e2 s2 => match ds with | [x] => chg r e2 s2 (appD x) fun e3 s3 => Q .nx e3 s3 | _ => False
theorem q_app {wo : WO} {wr : WA} : wApp wo wr env st Q Qx = wo env st (fun r e1 s1 => isLst r e1 s1 ∧ wr e1 s1 (kApp r Q) Qx) Qx := rfl
theorem q_app1 {r : DR} {x : D} : kApp r Q [x] env st = chg r env st (appD x) fun e3 s3 => Q .nx e3 s3 := rfl
def kLst (o : Option (Option Slot)) : Prop := match o with
  | some (some (.sh (.lst _))) => True
  | some (some (.ow (.lst _))) => True
  | _ => False
theorem q_lst {i : Nat} : isLst (.slot i) env st = kLst (env[i]?) := by
  unfold isLst kLst; (try dsimp only) <;> (rcases env[i]? with _ | _ | d | d <;> first | rfl | (cases d <;> rfl))
theorem q_lst1 {xs : List D} : kLst (some (some (.ow (.lst xs)))) = True := rfl
theorem q_lst2 {xs : List D} : kLst (some (some (.sh (.lst xs)))) = True := rfl
theorem q_lst3 {xs : List D} : isLst (.val (.lst xs)) env st = True := rfl
def kChgH (o : Option SO) (f : D → (D → Prop) → Prop) (Q : D → Prop) (_ : Pin Q) : Prop := match o with
  | some (.dat d) => f d Q
  | _ => False
theorem q_chg {i : Nat} {f : D → (D → Prop) → Prop} {Q} : chg (.slot i) env st f Q = kOw (env[i]?) (fun d => f d fun d' => Q (env.set i (some (.ow d'))) st) .mk := by
  unfold chg kOw; (try dsimp only) <;> (rcases env[i]? with _ | _ | _ | _ <;> rfl)
theorem q_chgh {n : Nat} {f : D → (D → Prop) → Prop} {Q} : chg (.val (.hnd n)) env st f Q = kChgH (st[n]?) f (fun d' => Q env (st.set n (.dat d'))) .mk := by
  unfold chg kChgH; (try dsimp only) <;> (rcases st[n]? with _ | _ | _ <;> rfl)
theorem q_chgh1 {d : D} {f : D → (D → Prop) → Prop} {P p} : kChgH (some (.dat d)) f P p = f d P := rfl
theorem q_appD {x : D} {xs : List D} {P : D → Prop} : appD x (.lst xs) P = (xs.length < 16777216 ∧ P (.lst (xs ++ [x]))) := rfl
def kSet (o : Option Nat) (P : Nat → Prop) (_ : Pin P) : Prop := match o with
  | some j => P j
  | none => False
theorem q_setl {xs : List D} {i : Int} {v : D} {P : D → Prop} : setD (.int i) v (.lst xs) P = kSet (ixN xs.length i) (fun j => P (.lst (xs.set j v))) .mk := by
  unfold setD kSet; (try dsimp only) <;> (rcases ixN xs.length i with _ | _ <;> rfl)
theorem q_set1 {j : Nat} {P p} : kSet (some j) P p = P j := rfl
theorem q_seti {kvs : List (Int × D)} {i : Int} {v : D} {P : D → Prop} : setD (.int i) v (.dI kvs) P = (kvs.length < 16777216 ∧ P (.dI (put kvs i v))) := rfl
def kKey (o : Option (List Int)) (P : List Int → Prop) (_ : Pin P) : Prop := match o with
  | some j => P j
  | none => False
theorem q_key1 {j : List Int} {P p} : kKey (some j) P p = P j := rfl
theorem q_sett {kvs : List (List Int × D)} {ks : List D} {v : D} {P : D → Prop} : setD (.tup ks) v (.dT kvs) P = kKey (keyInts ks) (fun l => kvs.length < 16777216 ∧ P (.dT (put kvs l v))) .mk := by
  unfold setD kKey; (try dsimp only) <;> (rcases keyInts ks with _ | _ <;> rfl)
theorem q_ki0 : keyInts [] = some [] := rfl
theorem q_ki1 {i : Int} : keyInts [.int i] = some [i] := rfl
theorem q_ki2 {i j : Int} : keyInts [.int i, .int j] = some [i, j] := rfl
theorem q_ki3 {i j k : Int} : keyInts [.int i, .int j, .int k] = some [i, j, k] := rfl
theorem q_dgi {kvs : List (Int × D)} {k : Int} {P} : dGet (.dI kvs) (.int k) P = P (lk kvs k) := rfl
theorem q_dgt {kvs : List (List Int × D)} {ks : List D} {P} : dGet (.dT kvs) (.tup ks) P = kKey (keyInts ks) (fun l => P (lk kvs l)) .mk := by
  unfold dGet kKey; (try dsimp only) <;> (rcases keyInts ks with _ | _ <;> rfl)
theorem q_ini {kvs : List (Int × D)} {k : Int} {P : D → Prop} : inD (.int k) (.dI kvs) P = P (.bl (lk kvs k).isSome) := rfl
theorem q_nini {kvs : List (Int × D)} {k : Int} {P : D → Prop} : ninD (.int k) (.dI kvs) P = P (.bl (!(lk kvs k).isSome)) := rfl
theorem q_int {kvs : List (List Int × D)} {ks : List D} {P : D → Prop} : inD (.tup ks) (.dT kvs) P = kKey (keyInts ks) (fun l => P (.bl (lk kvs l).isSome)) .mk := q_dgt (P := fun o => P (.bl o.isSome))
theorem q_nint {kvs : List (List Int × D)} {ks : List D} {P : D → Prop} : ninD (.tup ks) (.dT kvs) P = kKey (keyInts ks) (fun l => P (.bl (!(lk kvs l).isSome))) .mk := q_dgt (P := fun o => P (.bl (!o.isSome)))
theorem r_ini {kvs : List (Int × D)} {k : Int} {P p} : pBin inD (.int k) (.dI kvs) P p = P (.bl (lk kvs k).isSome) := rfl
theorem r_nini {kvs : List (Int × D)} {k : Int} {P p} : pBin ninD (.int k) (.dI kvs) P p = P (.bl (!(lk kvs k).isSome)) := rfl
theorem r_int {kvs : List (List Int × D)} {ks : List D} {P p} : pBin inD (.tup ks) (.dT kvs) P p = kKey (keyInts ks) (fun l => P (.bl (lk kvs l).isSome)) .mk := q_int
theorem r_nint {kvs : List (List Int × D)} {ks : List D} {P p} : pBin ninD (.tup ks) (.dT kvs) P p = kKey (keyInts ks) (fun l => P (.bl (!(lk kvs l).isSome))) .mk := q_nint
theorem q_ins {c s : Str} {P : D → Prop} : inD (.str c) (.str s) P = (c.cps.size = 1 ∧ P (.bl (decide (c.cps.getD 0 0 ∈ s.cps.toList)))) := rfl
theorem q_nins {c s : Str} {P : D → Prop} : ninD (.str c) (.str s) P = (c.cps.size = 1 ∧ P (.bl (!decide (c.cps.getD 0 0 ∈ s.cps.toList)))) := rfl
def kOpt (o : Option D) (P : D → Prop) (_ : Pin P) : Prop := match o with
  | some v => P v
  | none => False
theorem q_opt1 {d : D} {P p} : kOpt (some d) P p = P d := rfl
theorem q_ixi {st : Sto} {kvs : List (Int × D)} {k : Int} {P : D → Prop} : ixD st (.dI kvs) (.int k) P = kOpt (lk kvs k) P .mk := rfl
theorem q_ixt {st : Sto} {kvs : List (List Int × D)} {ks : List D} {P : D → Prop} : ixD st (.dT kvs) (.tup ks) P = kKey (keyInts ks) (fun l => kOpt (lk kvs l) P .mk) .mk := by
  show dGet (.dT kvs) (.tup ks) (fun o => match o with
    | some v => P v
    | none => False) = _
  rw [q_dgt]; rfl
def kIsi (T : String) (Q : KE) (e : EnvD) (s : Sto) (d : D) : Prop := match tyN d with
  | some n => Q (.bl (isT T n)) e s
  | none => False
theorem q_isi {T : String} {wo : WO} {Q : KE} : wIsi T wo env st Q Qx = wo env st (fun r e s => r.get e (kIsi T Q e s)) Qx := rfl
theorem q_isi1 {T : String} {Q : KE} {i : Int} : kIsi T Q env st (.int i) = Q (.bl (isT T "int")) env st := rfl
theorem q_isi2 {T : String} {Q : KE} {i : Bool} : kIsi T Q env st (.bl i) = Q (.bl (isT T "bool")) env st := rfl
theorem q_isi3 {T : String} {Q : KE} {i : Str} : kIsi T Q env st (.str i) = Q (.bl (isT T "str")) env st := rfl
theorem q_isi4 {T : String} {Q : KE} {i : List D} : kIsi T Q env st (.lst i) = Q (.bl (isT T "list")) env st := rfl
theorem q_isi5 {T : String} {Q : KE} {i : List D} : kIsi T Q env st (.tup i) = Q (.bl (isT T "tuple")) env st := rfl
theorem q_isi6 {T : String} {Q : KE} : kIsi T Q env st .non = Q (.bl (isT T "NoneType")) env st := rfl
def kOrL (o : Option (Option Slot)) (P : List D → Prop) (_ : Pin P) : Prop := match o with
  | some (some (.ow (.lst xs))) => P xs
  | _ => False
theorem q_orL {i : Nat} {w : WE} {Q : KE} : wOrL i w env st Q Qx = kOrL (env[i]?) (fun xs => if xs.isEmpty = true then w env st Q Qx else Q (.lst xs) (env.set i (some (.sh (.lst xs)))) st) .mk := by
  unfold wOrL kOrL; (try dsimp only) <;> (rcases env[i]? with _ | _ | d | d <;> first | rfl | (cases d <;> rfl))
theorem q_orL1 {xs : List D} {P p} : kOrL (some (some (.ow (.lst xs)))) P p = P xs := rfl
theorem q_pop {i j : Nat} : wPop i j env st Q Qx = kOrL (env[j]?) (fun xs => kOpt (xs[xs.length - 1]?) (fun x => Q .nx ((env.set j (some (.ow (.lst xs.dropLast)))).set i (some (.sh x))) st) .mk) .mk := by
  unfold wPop kOrL kOpt; (try dsimp only) <;> (rcases env[j]? with _ | _ | d | d <;> first | rfl | (cases d <;> first | rfl | (dsimp only; rename_i xs; rcases xs[xs.length - 1]? with _ | _ <;> rfl)))
def kP2 (i j : Nat) (Q : KS) : KA := fun ds e s => match ds with
  | [d1, d2] => Q .nx ((e.set i (some (.sh d1))).set j (some (.sh d2))) s
  | _ => False
theorem q_par2 {i j : Nat} {wr : WA} : wPar2 i j wr env st Q Qx = wr env st (kP2 i j Q) Qx := rfl
theorem q_par21 {i j : Nat} {d1 d2 : D} : kP2 i j Q [d1, d2] env st = Q .nx ((env.set i (some (.sh d1))).set j (some (.sh d2))) st := rfl
def kP3 (i j l : Nat) (Q : KS) : KA := fun ds e s => match ds with
  | [d1, d2, d3] => Q .nx (((e.set i (some (.sh d1))).set j (some (.sh d2))).set l (some (.sh d3))) s
  | _ => False
theorem q_par3 {i j l : Nat} {wr : WA} : wPar3 i j l wr env st Q Qx = wr env st (kP3 i j l Q) Qx := rfl
theorem q_par31 {i j l : Nat} {d1 d2 d3 : D} : kP3 i j l Q [d1, d2, d3] env st = Q .nx (((env.set i (some (.sh d1))).set j (some (.sh d2))).set l (some (.sh d3))) st := rfl
def kM1 (f : Str → D → (D → Prop) → Prop) (wa : WE) (Q : KE) (Qx : KX) : KE := fun d e1 s1 => match d with
  | .str a => wa e1 s1 (fun d2 e2 s2 => f a d2 fun v => Q v e2 s2) Qx
  | _ => False
theorem q_m1 {f : Str → D → (D → Prop) → Prop} {wo wa : WE} {Q : KE} : wM1 f wo wa env st Q Qx = wo env st (kM1 f wa Q Qx) Qx := rfl
theorem q_m11 {f : Str → D → (D → Prop) → Prop} {wa : WE} {Q : KE} {a : Str} : kM1 f wa Q Qx (.str a) env st = wa env st (fun d2 e2 s2 => f a d2 fun v => Q v e2 s2) Qx := rfl
def pMS (f : Str → D → (D → Prop) → Prop) (a : Str) (d : D) (P : D → Prop) (_ : Pin P) : Prop := f a d P
theorem p_join {a d P} : joinS a d P = pMS joinS a d P .mk := rfl
theorem p_index {a d P} : indexS a d P = pMS indexS a d P .mk := rfl
theorem o_lstrip {a b : Str} {P} : lstripS a (.str b) P = (a.length ≤ 16777216 ∧ P (.str (Txt.lstripChars a b))) := rfl
theorem o_slcS {x : Str} {lo hi : Option Int} {P} : slcS (.str x) lo hi P = (x.length ≤ 16777216 ∧ P (.str (Txt.slice x lo hi))) := rfl
theorem o_muls {z : Str} {n : Int} {P} : mulS (.str z) (.int n) P = ((0 ≤ n ∧ n ≤ 1000 ∧ z.length ≤ 1000) ∧ P (.str (Txt.mul z n))) := rfl
theorem o_enumS {x : Str} {PL : List D → Prop} : enumS [.str x] PL = PL (enumD (signs x)) := rfl
def pChr (x : Str) (i : Int) (P : D → Prop) (_ : Pin P) : Prop := match atI x.cps.toList i with
  | some c => P (.str ⟨#[c]⟩)
  | none => False
theorem p_chr {st x i P} : ixD st (.str x) (.int i) P = (x.length ≤ 16777216 ∧ pChr x i P .mk) := rfl
theorem p_chr_at {x i P c} (h : atI x.cps.toList i = some c) (hp : P (.str ⟨#[c]⟩)) : pChr x i P .mk := by unfold pChr; rw [h]; exact hp
def kCurL (d : D) (k : D) (P : D → Prop) (_ : Pin P) : Prop := match d, k with
  | .lst xs, .int i => 0 ≤ i ∧ (match xs[i.toNat]? with
    | some x => P x ∧ True
    | none => False)
  | d, k => dGet d k fun o => match o with
    | some x => P x ∧ True
    | none => False
theorem q_cur {i : Nat} {k : D} {P : D → Prop} : curD (.slot i) env st k P = kOw (env[i]?) (fun d => kCurL d k P .mk) .mk := by
  unfold curD chg kOw kCurL; (try dsimp only) <;> (rcases env[i]? with _ | _ | _ | _ <;> rfl)
theorem q_curh {n : Nat} {k : D} {P : D → Prop} : curD (.val (.hnd n)) env st k P = kChgH (st[n]?) (fun d _ => kCurL d k P .mk) (fun _ => True) .mk := by
  unfold curD chg kChgH kCurL; (try dsimp only) <;> (rcases st[n]? with _ | _ | _ <;> rfl)
theorem cur_at {xs : List D} {i : Int} {x : D} {P p} (h0 : 0 ≤ i) (hx : xs[i.toNat]? = some x) (hp : P x) : kCurL (.lst xs) (.int i) P p := by
  unfold kCurL; dsimp only; rw [hx]; exact ⟨h0, hp, trivial⟩
theorem ixN_n {n : Nat} {i : Int} (h0 : 0 ≤ i) (h1 : i < n) : ixN n i = some i.toNat := by unfold ixN; rw [if_pos h0, if_pos h1]
theorem set_at {xs : List D} {i : Int} {P : Nat → Prop} (h0 : 0 ≤ i) (h1 : i < xs.length) (hp : P i.toNat) : kSet (ixN xs.length i) P .mk := by
  rw [ixN_n h0 h1]; exact hp
theorem set_n {n : Nat} {i : Int} {P : Nat → Prop} (h0 : 0 ≤ i) (h1 : i < n) (hp : P i.toNat) : kSet (ixN n i) P .mk := by rw [ixN_n h0 h1]; exact hp
theorem q_gT {n : Nat} {g : WGs} {ds : List D} {Q} : gT n g (.tup ds) env st Q = (ds.length = n ∧ g ds env st Q) := rfl
theorem q_gL {n : Nat} {g : WGs} {ds : List D} {Q} : gL n g (.lst ds) env st Q = (ds.length = n ∧ g ds env st Q) := rfl
theorem q_gs {g : WG} {u : WGs} {d : D} {r : List D} {Q} : gsCons g u (d :: r) env st Q = g d env st fun e s => u r e s Q := rfl
theorem q_gsn {Q} : gsNil [] env st Q = Q env st := rfl
section
variable {a b : Int} {xs ys : List D} {P : D → Prop} {x y : Str} {PL : List D → Prop}
theorem o_addi : addD (.int a) (.int b) P = P (.int (a + b)) := rfl
theorem o_adds : addD (.str x) (.str y) P = (x.length + y.length ≤ 16777216 ∧ P (.str (x ++ y))) := rfl
theorem o_addl : addD (.lst xs) (.lst ys) P = (xs.length + ys.length ≤ 16777216 ∧ P (.lst (xs ++ ys))) := rfl
theorem o_addt : addD (.tup xs) (.tup ys) P = (xs.length + ys.length ≤ 16777216 ∧ P (.tup (xs ++ ys))) := rfl
theorem o_addI : addI (.int a) (.int b) P = P (.int (a + b)) := rfl
theorem o_mulI : mulI (.int a) (.int b) P = ((-(2 ^ 64) < b ∧ b < 2 ^ 64) ∧ P (.int (a * b))) := rfl
theorem o_sub : subD (.int a) (.int b) P = P (.int (a - b)) := rfl
theorem o_mul : mulD (.int a) (.int b) P = ((Sm a ∧ Sm b) ∧ P (.int (a * b))) := rfl
theorem o_rep : mulD (.lst xs) (.int b) P = ((b < 2 ^ 60 ∧ -(2 ^ 60) ≤ b ∧ xs.length * b.toNat ≤ 16777216) ∧ P (.lst (List.replicate b.toNat xs).flatten)) := rfl
theorem o_repT : mulD (.tup xs) (.int b) P = ((xs ≠ [] ∧ 2 ≤ b ∧ b ≤ 1000 ∧ xs.length ≤ 1000) ∧ P (.tup (List.replicate b.toNat xs).flatten)) := rfl
theorem o_repF : repD (.lst xs) (.int b) P = ((b < 2 ^ 60 ∧ -(2 ^ 60) ≤ b ∧ xs.length * b.toNat ≤ 16777216) ∧ P (.lst (List.replicate b.toNat xs).flatten)) := rfl
theorem o_catF : catD (.lst xs) (.lst ys) P = (xs.length + ys.length ≤ 16777216 ∧ P (.lst (xs ++ ys))) := rfl
theorem o_div : divD (.int a) (.int b) P = ((0 < b ∧ Sm b) ∧ P (.int (a / b))) := rfl
theorem o_mod : modD (.int a) (.int b) P = (0 < b ∧ P (.int (a % b))) := rfl
theorem o_pow : powD (.int a) (.int b) P = ((0 ≤ b ∧ b ≤ 1000 ∧ a.natAbs < 2 ^ 64) ∧ P (.int (a ^ b.toNat))) := rfl
theorem o_lt : ltD (.int a) (.int b) P = P (.bl (@decide (a < b) (Classical.propDecidable _))) := rfl
theorem o_le : leD (.int a) (.int b) P = P (.bl (@decide (a ≤ b) (Classical.propDecidable _))) := rfl
theorem o_gt : gtD (.int a) (.int b) P = P (.bl (@decide (b < a) (Classical.propDecidable _))) := rfl
theorem o_ge : geD (.int a) (.int b) P = P (.bl (@decide (b ≤ a) (Classical.propDecidable _))) := rfl
theorem o_is {d : D} : isD1 d .non P = P (.bl (isN d)) := rfl
theorem o_isnt {d : D} : isntD d .non P = P (.bl (!isN d)) := rfl
theorem o_isN0 : isN .non = true := rfl
theorem o_isN1 : isN (.int a) = false := rfl
theorem o_isN2 : isN (.lst xs) = false := rfl
theorem o_isN3 : isN (.tup xs) = false := rfl
theorem o_tupl : tupD (.lst xs) P = P (.tup xs) := rfl
theorem o_tupt : tupD (.tup xs) P = P (.tup xs) := rfl
theorem o_lstl : lstD (.lst xs) P = P (.lst xs) := rfl
theorem o_lstt : lstD (.tup xs) P = P (.lst xs) := rfl
theorem o_lenl : lenD (.lst xs) P = P (.int xs.length) := rfl
theorem o_lent : lenD (.tup xs) P = P (.int xs.length) := rfl
theorem o_lens {ns : List Int} : lenD (.scr ns) P = P (.int ns.length) := rfl
theorem o_lenx : lenD (.str x) P = (x.length ≤ 16777216 ∧ P (.int x.length)) := rfl
theorem o_inti : intD (.int a) P = P (.int a) := rfl
theorem o_intb {b : Bool} : intD (.bl b) P = P (.int (if b then 1 else 0)) := rfl
theorem o_abs : absD (.int a) P = P (.int (if a < 0 then -a else a)) := rfl
theorem o_slcl {lo hi : Option Int} : slcD (.lst xs) lo hi P = P (.lst (cutD xs lo hi)) := rfl
theorem o_slcs {lo hi : Option Int} {ns : List Int} : slcD (.scr ns) lo hi P = P (.lst (cutD (ns.map .int) lo hi)) := rfl
theorem o_itl : itemsOf (.lst xs) PL = PL xs := rfl
theorem o_itt : itemsOf (.tup xs) PL = PL xs := rfl
theorem o_its {ns : List Int} : itemsOf (.scr ns) PL = PL (ns.map .int) := rfl
theorem o_itx : itemsOf (.str x) PL = PL (signs x) := rfl
theorem o_rng1 {j : Int} : rng1 [.int j] PL = ((-(2 ^ 62) ≤ j ∧ j < 2 ^ 62) ∧ PL (rangeD 0 j.toNat)) := rfl
theorem o_rng2 {i j : Int} : rng2 [.int i, .int j] PL = PL (rangeD i (j - i).toNat) := rfl
theorem o_rng3 {i j : Int} : rng3 [.int i, .int j, .int (-1)] PL = ((-(2 ^ 62) ≤ i ∧ i < 2 ^ 62 ∧ -(2 ^ 62) ≤ j ∧ j < 2 ^ 62) ∧ PL (downD i (i - j).toNat)) := rfl
theorem o_enum : enum1 [.lst xs] PL = PL (enumD xs) := rfl
theorem o_zipl : zip2 [.lst xs, .lst ys] PL = PL (zipD xs ys) := rfl
theorem o_zipt : zip2 [.tup xs, .tup ys] PL = PL (zipD xs ys) := rfl
theorem o_zipm : zip2 [.tup xs, .lst ys] PL = PL (zipD xs ys) := rfl
def pMx (g : D → (D → Prop) → Prop) (xs : List D) (P : D → Prop) (_ : Pin P) : Prop := g (.lst xs) P
theorem o_max : maxD (.lst xs) P = pMx maxD xs P .mk := rfl
theorem o_min : minD (.lst xs) P = pMx minD xs P .mk := rfl
end
theorem ixN_50 : ixN 5 0 = some 0 := rfl
theorem ixN_51 : ixN 5 1 = some 1 := rfl
theorem ixN_52 : ixN 5 2 = some 2 := rfl
theorem ixN_53 : ixN 5 3 = some 3 := rfl
theorem ixN_54 : ixN 5 4 = some 4 := rfl
theorem ixN_10 : ixN 1 0 = some 0 := rfl
theorem ixN_20 : ixN 2 0 = some 0 := rfl
theorem ixN_21 : ixN 2 1 = some 1 := rfl
theorem ixN_30 : ixN 3 0 = some 0 := rfl
theorem ixN_31 : ixN 3 1 = some 1 := rfl
theorem ixN_32 : ixN 3 2 = some 2 := rfl
theorem ixN_40 : ixN 4 0 = some 0 := rfl
theorem ixN_41 : ixN 4 1 = some 1 := rfl
theorem ixN_42 : ixN 4 2 = some 2 := rfl
theorem ixN_43 : ixN 4 3 = some 3 := rfl
theorem ixN_60 : ixN 6 0 = some 0 := rfl
theorem ixN_61 : ixN 6 1 = some 1 := rfl
theorem ixN_62 : ixN 6 2 = some 2 := rfl
theorem ixN_63 : ixN 6 3 = some 3 := rfl
theorem ixN_64 : ixN 6 4 = some 4 := rfl
theorem ixN_65 : ixN 6 5 = some 5 := rfl
theorem ixN_70 : ixN 7 0 = some 0 := rfl
theorem ixN_71 : ixN 7 1 = some 1 := rfl
theorem ixN_72 : ixN 7 2 = some 2 := rfl
theorem ixN_73 : ixN 7 3 = some 3 := rfl
theorem ixN_74 : ixN 7 4 = some 4 := rfl
theorem ixN_75 : ixN 7 5 = some 5 := rfl
theorem ixN_76 : ixN 7 6 = some 6 := rfl
theorem cutD_lo (xs : List Int) (k : Nat) : cutD (xs.map D.int) none (some (k : Int)) = (xs.take k).map D.int := by
  unfold cutD
  have e0 : HT.sIx (xs.map D.int).length 0 none = 0 := rfl
  have e1 : HT.sIx (xs.map D.int).length (xs.map D.int).length (some (k : Int)) = min k xs.length := by
    rw [List.length_map, HT.sIx_nat]
  rw [e0, e1, List.drop_zero, Nat.sub_zero, ← List.map_take]
  by_cases h : k ≤ xs.length
  · rw [Nat.min_eq_left h]
  · rw [Nat.min_eq_right (by omega), List.take_of_length_le (Nat.le_refl _), List.take_of_length_le (by omega)]
theorem cutD_take (xs : List D) (k : Nat) : cutD xs none (some (k : Int)) = xs.take k := by
  unfold cutD
  have e0 : HT.sIx xs.length 0 none = 0 := rfl
  rw [e0, HT.sIx_nat, List.drop_zero, Nat.sub_zero]
  by_cases h : k ≤ xs.length
  · rw [Nat.min_eq_left h]
  · rw [Nat.min_eq_right (by omega), List.take_of_length_le (Nat.le_refl _), List.take_of_length_le (by omega)]
theorem p_cutL (xs : List D) (n : Nat) : cutD xs none (some (no_index (@OfNat.ofNat Int n _))) = xs.take n := cutD_take xs n
theorem p_cut63 (xs : List Int) : cutD (xs.map D.int) none (some 63) = (xs.take 63).map D.int := cutD_lo xs 63
theorem cutD_of {xs : List D} {lo hi : Option Int} {l h : Nat} (e1 : HT.sIx xs.length 0 lo = l) (e2 : HT.sIx xs.length xs.length hi = h) : cutD xs lo hi = (xs.drop l).take (h - l) := by unfold cutD; rw [e1, e2]
theorem if_intro {c : Prop} {inst : Decidable c} {p q : Prop} (h1 : c → p) (h2 : ¬c → q) : @ite Prop c inst p q := by by_cases h : c <;> simp [h, h1, h2]
end VL

/-! Texts of figures. -/
namespace VL
open PySem PySem.Spec PyProof.Rows L2

def hexc (d : Nat) : Nat := if d < 10 then 48 + d else 87 + d
def txt (ds : List Nat) : Str := SX.S (ds.map hexc)
def hexS : Str := "0123456789abcdef"
theorem hex_at {d : Nat} (h : d < 16) : atI hexS.cps.toList (d : Int) = some (hexc d) := by
  have : ∀ d : Nat, d < 16 → atI hexS.cps.toList (d : Int) = some (hexc d) := by decide +kernel
  exact this d h
theorem hex_idx {d : Nat} (h : d < 16) : Builtin.Str.occurrences hexS ⟨#[hexc d]⟩ 0 hexS.length 1 = [d] := by
  have : ∀ d < 16, Builtin.Str.occurrences hexS ⟨#[hexc d]⟩ 0 hexS.length 1 = [d] := by decide +kernel
  exact this d h
theorem hex_in {d b : Nat} (h : d < b) (hb : b ≤ 16) : hexc d ∈ (Txt.slice hexS none (some (b : Int))).cps.toList := by
  have e : hexS = SX.S ((List.range 16).map hexc) := by decide +kernel
  rw [e, SX.slice_to (by omega), Int.toNat_natCast]
  show hexc d ∈ (((List.range 16).map hexc).take b)
  rw [← List.map_take, List.take_range]
  exact List.mem_map.mpr ⟨d, by rw [List.mem_range]; omega, rfl⟩
theorem hexc_inj {d e : Nat} (hd : d < 16) (he : e < 16) (h : hexc d = hexc e) : d = e := by
  have : ∀ d < 16, ∀ e < 16, hexc d = hexc e → d = e := by decide +kernel
  exact this d hd e he h
theorem joinL_nil (xs : List Nat) : TL.joinL [] (xs.map fun c => [c]) = xs := by
  induction xs with
  | nil => rfl
  | cons x xs ih =>
    cases xs with
    | nil => rfl
    | cons y ys =>
      show [x] ++ ([] ++ TL.joinL [] ((y :: ys).map fun c => [c])) = _
      rw [ih]; rfl
theorem join_txt (ds : List Nat) : Txt.join ("" : Str) (ds.map fun d => (⟨#[hexc d]⟩ : Str)) = txt ds := by
  have e := SX.join_S [] ((ds.map hexc).map fun c => [c])
  rw [joinL_nil] at e
  rw [List.map_map, List.map_map] at e
  exact e
theorem txt_len (ds : List Nat) : (txt ds).length = ds.length := by unfold txt; rw [SX.S_len, List.length_map]
theorem txt_cons (d : Nat) (ds : List Nat) : (⟨#[hexc d]⟩ : Str) ++ txt ds = txt (d :: ds) := SX.S_cat [hexc d] (ds.map hexc)
theorem txt_cat (a b : List Nat) : txt a ++ txt b = txt (a ++ b) := by unfold txt; rw [SX.S_cat, List.map_append]
theorem txt_nil : txt [] = ("" : Str) := rfl
theorem txt_signs (ds : List Nat) : signs (txt ds) = ds.map fun d => D.str ⟨#[hexc d]⟩ := by
  unfold signs txt SX.S
  rw [List.map_map]; rfl
theorem txt_inj {a b : List Nat} (ha : ∀ d ∈ a, d < 16) (hb : ∀ d ∈ b, d < 16) (h : txt a = txt b) : a = b := by
  have e := SX.S_inj h
  clear h
  induction a generalizing b with
  | nil => cases b with
    | nil => rfl
    | cons y ys => cases e
  | cons x xs ih => cases b with
    | nil => cases e
    | cons y ys =>
      injection e with e1 e2
      rw [hexc_inj (ha x (by simp)) (hb y (by simp)) e1, ih (fun d h => ha d (by simp [h])) (fun d h => hb d (by simp [h])) e2]
theorem strOk_txt {ds : List Nat} (h : ∀ d ∈ ds, d < 16) : PyData.strOk (txt ds) = true := by
  unfold PyData.strOk txt SX.S
  rw [← Array.all_toList, List.all_map, List.all_eq_true]
  intro d hd
  have := h d hd
  simp only [Function.comp, decide_eq_true_eq]
  unfold hexc; split <;> omega
theorem nd_txt {b : Bool} {n : Nat} {ds : List Nat} (h : ∀ d ∈ ds, d < 16) : nd b n (.str (txt ds)) = true := by
  cases n <;> exact strOk_txt h
theorem txt_mul (n : Nat) : Txt.mul (Str.ofString "0") (n : Int) = txt (List.replicate n 0) := by
  unfold Txt.mul
  by_cases h : (n : Int) < 1
  · rw [if_pos h]
    obtain rfl : n = 0 := by omega
    rfl
  · rw [if_neg h]
    by_cases h1 : n = 1
    · subst h1; decide +kernel
    · rw [if_neg (by
        rw [Bool.or_eq_true]
        rintro (e | e)
        · have := eq_of_beq e; omega
        · revert e; decide +kernel), Int.toNat_natCast]
      have : ∀ (k : Nat) (a : List Nat), (List.replicate k (Str.ofString "0").cps).foldl (· ++ ·) a.toArray = (a ++ List.replicate k 48).toArray := by
        intro k
        induction k with
        | zero => intro a; simp
        | succ k ih =>
          intro a
          rw [List.replicate_succ, List.foldl_cons, show a.toArray ++ (Str.ofString "0").cps = (a ++ [48]).toArray by rw [show (Str.ofString "0").cps = [48].toArray by decide +kernel]; simp, ih, List.append_assoc, List.replicate_succ]
          rfl
      have := this n []
      unfold txt SX.S
      rw [List.map_replicate, show hexc 0 = 48 from rfl]
      exact congrArg _ (by simpa using this)
theorem txt_take (ds : List Nat) (i : Int) (h : 0 ≤ i) : Txt.slice (txt ds) none (some i) = txt (ds.take i.toNat) := by
  unfold txt; rw [SX.slice_to h, List.map_take]
theorem txt_drop (ds : List Nat) (i : Int) (h : 0 ≤ i) : Txt.slice (txt ds) (some i) none = txt (ds.drop i.toNat) := by
  unfold txt; rw [SX.slice_from h, List.map_drop]
theorem drop_takeWhile {α : Type} (p : α → Bool) (l : List α) : l.drop (l.takeWhile p).length = l.dropWhile p := by
  induction l with
  | nil => rfl
  | cons x xs ih =>
    rw [List.takeWhile_cons, List.dropWhile_cons]
    cases p x with
    | true => simp only [if_true, List.length_cons, List.drop_succ_cons]; exact ih
    | false => rfl
theorem dropWhile_map_ {α β : Type} (f : α → β) (p : β → Bool) (q : α → Bool) (l : List α) (h : ∀ x ∈ l, p (f x) = q x) : (l.map f).dropWhile p = (l.dropWhile q).map f := by
  induction l with
  | nil => rfl
  | cons x xs ih =>
    rw [List.map_cons, List.dropWhile_cons, List.dropWhile_cons, h x (by simp)]
    cases q x with
    | true => exact ih fun y hy => h y (by simp [hy])
    | false => rfl
theorem txt_lstrip {ds : List Nat} (h : ∀ d ∈ ds, d < 16) : Txt.lstripChars (txt ds) (Str.ofString "0") = txt (ds.dropWhile (· == 0)) := by
  unfold Txt.lstripChars
  rw [PyProof.Rows.stripBy_eq]
  have e : (Str.ofString "0").cps.contains = fun c : Nat => c == 48 := by
    funext c
    rw [show (Str.ofString "0").cps = #[48] by decide +kernel]
    by_cases hc : c = 48 <;> simp [hc]
  rw [e]
  unfold txt SX.S stripLo stripHi Builtin.Str.strSub
  simp only [if_true, Bool.false_eq_true, if_false, Str.length]
  rw [List.extract_toArray, List.extract_eq_take_drop, drop_takeWhile, List.take_of_length_le, dropWhile_map_ hexc (fun c => c == 48) (fun d => d == 0)]
  · intro d hd
    have := h d hd
    have h2 : ∀ d : Nat, d < 16 → (hexc d == 48) = (d == 0) := by decide +kernel
    exact h2 d this
  · rw [← drop_takeWhile, List.length_drop]; simp
/-! ### lists over a range -/
theorem at_range {α : Type} {b : Nat} {F : Nat → α} {i : Int} (h0 : 0 ≤ i) (h1 : i < b) : atI ((List.range b).map F) i = some (F i.toNat) := by
  rw [atI_lt h0 (by rw [List.length_map, List.length_range]; exact h1), List.getElem?_map, List.getElem?_range (by omega)]; rfl
theorem get_range {α : Type} {b : Nat} {F : Nat → α} {i : Nat} (h1 : i < b) : ((List.range b).map F)[i]? = some (F i) := by
  rw [List.getElem?_map, List.getElem?_range h1]; rfl
theorem set_range {α : Type} (b d : Nat) (F : Nat → α) (x : α) : ((List.range b).map F).set d x = (List.range b).map fun f => if f = d then x else F f := by
  apply List.ext_getElem?
  intro i
  rw [List.getElem?_set]
  simp only [List.getElem?_map, List.length_map, List.length_range]
  by_cases hi : i < b
  · rw [List.getElem?_range hi]
    by_cases hd : d = i
    · subst hd; rw [if_pos rfl, if_pos hi]; simp
    · rw [if_neg hd]; simp [Ne.symm hd]
  · rw [List.getElem?_eq_none (by simpa using hi)]
    by_cases hd : d = i
    · subst hd; rw [if_pos rfl, if_neg hi]; rfl
    · rw [if_neg hd]; rfl
theorem zipD_map {α : Type} (xs : List α) (F G : α → D) : zipD (xs.map F) (xs.map G) = xs.map fun x => .tup [F x, G x] := by
  unfold zipD
  induction xs with
  | nil => rfl
  | cons x xs ih => rw [List.map_cons, List.map_cons, List.zip_cons_cons, List.map_cons, ih, List.map_cons]
theorem zipD_two {α β : Type} (xs : List α) (ys : List β) (F : α → D) (G : β → D) : zipD (xs.map F) (ys.map G) = (xs.zip ys).map fun p => .tup [F p.1, G p.2] := by
  unfold zipD
  rw [List.zip_map, List.map_map]; rfl
theorem rep_range {α : Type} (b : Nat) (x : α) : (List.replicate b [x]).flatten = (List.range b).map fun _ => x := by
  rw [List.map_const', List.length_range, List.flatten_replicate_singleton]
theorem nd_range {b : Bool} {n : Nat} (k : Nat) (F : Nat → D) (h : ∀ f, nd b n (F f) = true) : ((List.range k).map F).all (nd b n) = true := by
  rw [List.all_map, List.all_eq_true]; intro x _; exact h x
theorem set_int (b d : Nat) (F : Nat → Int) (x : Int) : ((List.range b).map fun f => D.int (F f)).set d (.int x) = (List.range b).map fun f => D.int (if f = d then x else F f) := by
  rw [set_range]
  apply List.map_congr_left
  intro f _
  by_cases h : f = d <;> simp [h]
theorem filter_yes {α : Type} (l : List α) : l.filter (fun _ => true) = l := List.filter_eq_self.mpr (by simp)
theorem at_last {α : Type} {n : Nat} {F : Nat → α} (h : 0 < n) : atI ((List.range n).map F) (-1) = some (F (n - 1)) := by
  unfold atI ixN
  rw [List.length_map, List.length_range, if_neg (by omega), if_pos (by omega)]
  show ((List.range n).map F)[((-1 : Int) + n).toNat]? = _
  rw [show ((-1 : Int) + n).toNat = n - 1 by omega]
  exact get_range (by omega)
theorem at_snoc {α : Type} {xs : List α} {x : α} : atI (xs ++ [x]) (-1) = some x := by
  unfold atI ixN
  rw [List.length_append, List.length_singleton, if_neg (by omega), if_pos (by omega)]
  show (xs ++ [x])[((-1 : Int) + ((xs.length + 1 : Nat) : Int)).toNat]? = _
  rw [show ((-1 : Int) + ((xs.length + 1 : Nat) : Int)).toNat = xs.length by omega, List.getElem?_append_right (Nat.le_refl _)]
  simp
theorem downD_succ (hi : Int) (n : Nat) : downD hi (n + 1) = .int hi :: downD (hi - 1) n := by
  unfold downD
  rw [List.range_succ_eq_map, List.map_cons, List.map_map]
  simp only [Int.natCast_zero, Int.sub_zero, List.cons.injEq, true_and]
  apply List.map_congr_left
  intro i _
  simp only [Function.comp, D.int.injEq]
  omega
/-- .. over a range downwards -/
theorem w_down {g : WG} {w : WS} {Q : KS} {Qx : KX} {α : Type} (I : Nat → α → Prop) (f : α → EnvD) (gs : α → Sto) (a : α) {hi : Int} {n : Nat} {env : EnvD} {st : Sto} (he : env = f a) (hs : st = gs a) (h0 : I 0 a)
    (step : ∀ k a (N : EnvD → Sto → Prop), k < n → I k a → (∀ a', I (k + 1) a' → N (f a') (gs a')) → g (.int (hi - k)) (f a) (gs a) fun e s => w e s (Turn1 N Q) Qx)
    (out : ∀ a, I n a → Q .nx (f a) (gs a)) : wTurns g w Q Qx (downD hi n) env st := by
  subst he hs
  have go : ∀ (m k : Nat) (a : α), k + m = n → I k a → wTurns g w Q Qx (downD (hi - k) m) (f a) (gs a) := by
    intro m
    induction m with
    | zero => intro k a e h; obtain rfl : k = n := by omega
              exact out a h
    | succ m ih =>
      intro k a e h
      rw [downD_succ]
      refine step k a _ (by omega) h fun a' h' => ?_
      have := ih (k + 1) a' (by omega) h'
      rwa [show hi - ((k + 1 : Nat) : Int) = hi - (k : Int) - 1 by omega] at this
  have := go n 0 a (by omega) h0
  rwa [show hi - ((0 : Nat) : Int) = hi by omega] at this
/-- compared with an empty list -/
theorem ne_nil {xs : List Nat} {P : D → Prop} (h1 : xs = [] → P (.bl false)) (h2 : xs ≠ [] → P (.bl true)) : neD (.lst (xs.map nI)) (.lst []) P :=
  neD_nd (nd_nI _) rfl (fun e => h1 (by cases xs with
    | nil => rfl
    | cons x xs => cases e)) fun e => h2 fun z => e (by rw [z]; rfl)
theorem eq_nil {xs : List Nat} {P : D → Prop} (h1 : xs = [] → P (.bl true)) (h2 : xs ≠ [] → P (.bl false)) : eqD (.lst (xs.map nI)) (.lst []) P :=
  eqD_nd (nd_nI _) rfl (fun e => h1 (by cases xs with
    | nil => rfl
    | cons x xs => cases e)) fun e => h2 fun z => e (by rw [z]; rfl)
section
variable {X : Cx} {C : Ctx} {lk : Lks} {tg : Expr} {wr : WA} {na : Nat} {p pos : Pos}
theorem i_range3 {a b c : Expr} (hg : Gl X "range") (hm : X.mg "range" = none) (ha : PA X [a, b, c] (liftA C lk na wr)) (hs : starEach [a, b, c] X.env = (false, eval a X.env) :: starEach [b, c] X.env := by rfl) (hpl : (backTo pos (starEach [b, c] X.env)).any (·.1) = false := by rfl) : PI X tg (.Call (.Name "range" p) [a, b, c] [] pos) (liftI C lk (wIa rng3 wr)) := PIi (pi_range3 hg hm ha hs hpl) (by
  rintro σ H Rk ⟨G, ι, env, st, P, Px, hR, hw, hQ, hX⟩
  refine ⟨G, ι, env, st, _, Px, hR, hw, fun ds e s G' ι' vs H' p _ g r rp => ?_, hX⟩
  unfold rng3 at p
  split at p
  · cases rp with
    | cons r1 rr =>
      cases rr with
      | cons r2 rr =>
        cases rr with
        | cons r3 rr =>
          cases rr
          rw [rep_int r1, rep_int r2, rep_int r3]
          exact ⟨_, _, _, _, rfl, .neg p.1.1 p.1.2.1 p.1.2.2.1 p.1.2.2.2, hQ _ e s G' ι' _ H' p.2 g r itDown⟩
  · exact p.elim)
end
end VL

/-! The value layer: list(range(a, b)) of any bounds; insert, index, count of lists. -/
namespace PySem
open Sem (wp)
open AutoSeq1 (wpAny_loadPart')
namespace VLR
section
variable {prog : Program} {w : World} {A : Around} {E : Value → Shared → Prop} {s : Shared}
/-- what is promised of the new list at S -/
abbrev Made (s : Shared) (S : Addr) (a c : Int) (n : Nat) (K : Shared → Prop) : Prop :=
  ∀ h' tk acc' c', (∀ b o, b ≠ S → s.heap.get? b = some o → h'.get? b = some o) →
    h'.get? S = some { cls := .type "list", dict := none, data := .seq acc' c', slots := #[] } →
    ItemsOf (fun i v => ∃ t, v = .int (a + i * c) t) acc' n → K { s with heap := h', toks := tk }
theorem ext_long {R : Result → Shared → Prop} {r : Addr} {a b c : Int} {t u v : Tok} {n : Nat} (hh : A.handled = none)
    (hr : IsRange s.heap r a b c t u v) (hbig : Builtin.Range.small a b c = false) (hn : Builtin.Range.rangeSize a b c = n)
    (hlen : n ≤ 2 ^ 24) (S : Addr) (res : Value) (c₀ : Nat) (hS : s.heap.get? S = some { cls := .type "list", data := .seq #[] c₀ })
    (hR : Made s S a c n (R (.ok (.ret res)))) :
    wpAny (model prog w) A.in1 (Builtin.List.listExtendWith (.ref S) (.ref r) res)
      (fun fin s' => match fin with
        | .done f => R (.ok f) s'
        | .again c' => c'.quiet = true ∧ codeAny (model prog w) A c' R s') (fun e s' => R (.error e) s') s := by
  obtain ⟨it, hit⟩ : ∃ it, it = s.heap.objs.size := ⟨_, rfl⟩
  have ne1 : S ≠ r := fun e => by
    rw [e, hr] at hS
    simp at hS
  have ne2 : S ≠ it := by rw [hit]; exact Nat.ne_of_lt (Heap.lt_size hS)
  have out : S ∉ [it] := fun m => ne2 (List.mem_singleton.mp m)
  have W := (Walks.longrange (prog := prog) (w := w) (A := A.in1) hh it a c n).toS
  have loop : ∀ (h : Heap) (c₁ tk : Nat), IsLongIter h it (a + ((0 : Nat) : Int) * c) ((n : Int) - ((0 : Nat) : Int)) c →
      (∀ b o, b ≠ S → s.heap.get? b = some o → h.get? b = some o) → h.get? S = some { cls := .type "list", data := .seq #[] c₁ } →
      codeAny (model prog w) A (.builtin "list.extend.loop" ⟨[.ref S, .ref it, res], []⟩) R { s with heap := h, toks := tk } :=
    fun h c₁ tk st keep at1 =>
      codeAny_extend_loopS W (by rw [sizeLine_eq]; omega) S out res n 0 _ #[] c₁ rfl (Nat.zero_le _) st at1 (ItemsOf.nil _) fun s' acc' c' mv at2 items => by
        rw [Moved.eq_with mv]
        refine hR s'.heap s'.toks acc' c' (fun b o hb e => mv.heap b o (fun m => ?_) (keep b o hb e)) at2 items
        rcases List.mem_cons.mp m with z | z
        · exact hb z
        · have lt := Heap.lt_size e
          rw [List.mem_singleton.mp z, hit] at lt
          exact Nat.lt_irrefl _ lt
  subst hit
  have l1 : Builtin.List.listSameRef (.ref S) (.ref r) = false := by simp [Builtin.List.listSameRef, ne1]
  have l2 : (Value.type "range" == Value.type "list") = false := by decide
  have l3 : (Value.type "range" == Value.type "tuple") = false := by decide
  unfold Builtin.List.listExtendWith
  refine wpAny_bind (wpAny_typeOf (T := "range") ⟨_, hr, rfl⟩ ?_)
  simp only [l1, l2, l3, Bool.or_false, Bool.false_eq_true, if_false]
  refine wpAny_bind (wpAny_pyIter_longrange hr hbig ?_)
  refine wpAny_bind (wpAny_holding (wpAny_hint_range (n := n) (Heap.get?_push_of_some _ hr) hn hlen ?_))
  obtain ⟨ob, hob⟩ : ∃ ob : Obj, ob = { cls := .type "longrange_iterator", data := .fields #[rawInt a, rawInt (Builtin.Range.rangeSize a b c), rawInt c] } := ⟨_, rfl⟩
  rw [← hob]
  have st1 : IsLongIter (s.heap.push ob) s.heap.objs.size (a + ((0 : Nat) : Int) * c) ((n : Int) - ((0 : Nat) : Int)) c := by
    show IsLongIter _ _ _ _ _
    rw [hob, hn]
    simpa using Heap.get?_push_size _ rfl
  have at1 := Heap.get?_push_of_some ob hS
  refine wpAny_ite_split (fun _ => ?_) (fun _ =>
    wpAny_pure ⟨plainId_quiet F.plain_extend_loop _, loop _ c₀ _ st1 (fun b o _ e => Heap.get?_push_of_some _ e) at1⟩)
  refine wpAny_bind (wpAny_rule ?_)
  refine wpAny_bind ?_
  show wpAny _ _ (updateSeq S (·.push .none) >>= fun _ => updateSeq S (·.pop)) _ _ _
  refine wpAny_bind (wpAny_updateSeq at1 rfl ?_)
  have at2 := Heap.get?_update_self (Obj.mapSeq (·.push Value.none)) at1 rfl
  refine wpAny_updateSeq (hz := by seq_fits) at2 rfl ?_
  have at3 := Heap.get?_update_self (Obj.mapSeq (·.pop)) at2 rfl
  refine wpAny_pure ⟨plainId_quiet F.plain_extend_loop _, loop _ _ _ ?_ (fun b o hb e => ?_) at3⟩
  · exact (Heap.get?_update_other _ _ ne2).trans ((Heap.get?_update_other _ _ ne2).trans st1)
  · exact (Heap.get?_update_other _ _ (Ne.symm hb)).trans
      ((Heap.get?_update_other _ _ (Ne.symm hb)).trans (Heap.get?_push_of_some _ e))
theorem init_long {R : Result → Shared → Prop} {r : Addr} {a b c : Int} {t u v : Tok} {n : Nat} (hh : A.handled = none)
    (hr : IsRange s.heap r a b c t u v) (hbig : Builtin.Range.small a b c = false) (hn : Builtin.Range.rangeSize a b c = n)
    (hlen : n ≤ 2 ^ 24) (S : Addr) (hS : s.heap.get? S = some { cls := .type "list", data := .seq #[] })
    (hR : Made s S a c n (R (.ok (.ret .none)))) :
    wpAny (model prog w) A.in1 (Builtin.«list.__init__» ⟨[.ref S, .ref r], []⟩)
      (fun fin s' => match fin with
        | .done f => R (.ok f) s'
        | .again c' => c'.quiet = true ∧ codeAny (model prog w) A c' R s') (fun e s' => R (.error e) s') s := by
  have ne1 : S ≠ r := fun e => by
    rw [e, hr] at hS
    simp at hS
  show wpAny _ _ (do
    let old ← Builtin.List.listItems (.ref S)
    Builtin.List.listUpdate (.ref S) (fun _ => #[])
    letGo old.toList.reverse
    Builtin.List.listExtendWith (.ref S) (.ref r) .none) _ _ s
  refine wpAny_bind ?_
  unfold Builtin.List.listItems
  refine wpAny_bind (wpAny_seqItems hS rfl (wpAny_pure ?_))
  show wpAny _ _ (updateSeq S (fun _ => #[]) >>= fun _ =>
    letGo (#[] : Array Value).toList.reverse >>= fun _ => Builtin.List.listExtendWith (.ref S) (.ref r) .none) _ _ s
  refine wpAny_bind (wpAny_updateSeq hS rfl ?_)
  have at2 := Heap.get?_update_self (Obj.mapSeq (fun _ => (#[] : Array Value))) hS rfl
  have keep : ∀ b o, b ≠ S → s.heap.get? b = some o →
      (s.heap.update S (Obj.mapSeq (fun _ => (#[] : Array Value)))).get? b = some o :=
    fun b o hb e => (Heap.get?_update_other _ _ (Ne.symm hb)).trans e
  refine wpAny_bind (wpAny_letGo ?_)
  exact ext_long hh (keep r _ (Ne.symm ne1) hr) hbig hn hlen S .none _ at2 fun h' tk acc' c' hk at3 items =>
    hR h' tk acc' c' (fun b o hb e => hk b o hb (keep b o hb e)) at3 items
theorem list_long {Q : Value → Shared → Prop} {r : Addr} {a b c : Int} {t u v : Tok} {n : Nat} (hh : A.handled = none)
    (hr : IsRange s.heap r a b c t u v) (hbig : Builtin.Range.small a b c = false) (hn : Builtin.Range.rangeSize a b c = n) (hlen : n ≤ 2 ^ 24)
    (hQ : ∀ h' tk acc' c', (∀ b o, s.heap.get? b = some o → h'.get? b = some o) →
      h'.get? s.heap.objs.size = some { cls := .type "list", dict := none, data := .seq acc' c', slots := #[] } →
      ItemsOf (fun i v => ∃ t, v = .int (a + i * c) t) acc' n → Q (.ref s.heap.objs.size) { s with heap := h', toks := tk }) :
    wpAny (model prog w) A (call (.type "list") [.ref r]) Q E s := by
  refine callType_codes (Q₁ := fun obj s₁ => obj = .ref s.heap.objs.size ∧ s₁ = { s with heap := s.heap.push { cls := .type "list", data := .seq #[] } })
    F.called_list (F.typeCall_list_1 _) F.entry_list_init (code_list_new _ ⟨rfl, rfl⟩) fun obj s₁ h₁ => ?_
  obtain ⟨rfl, rfl⟩ := h₁
  have at1 : (s.heap.push { cls := .type "list", data := .seq #[] }).get? s.heap.objs.size = some { cls := .type "list", data := .seq #[] } := Heap.get?_push_size _ rfl
  refine ⟨⟨_, at1, rfl⟩, F.args_list_init_2 _ _, ?_⟩
  exact init_long (A := A.in1) hh (Heap.get?_push_of_some _ hr) hbig hn hlen _ at1 fun h' tk acc' c' hk at2 items =>
    ⟨rfl, hQ h' tk acc' c' (fun b o e => hk b o (Nat.ne_of_lt (Heap.lt_size e)) (Heap.get?_push_of_some _ e)) at2 items⟩
end
end VLR
end PySem
namespace VL
open PySem PySem.Spec PyProof.Rows L2
section
variable {X : Cx} {C : Ctx} {lk : Lks} {pos p : Pos} {e : Expr} {es : List Expr} {wo : WO} {wr : WA} {we : WE} {na : Nat}
/-! ### list(range(a, b)) -/
def tLstRgA (te : L2.St → Hp → (Int → Int → Hp → Prop) → Prop) : TE := fun σ H Q => te σ H fun a b H1 => (b - a).toNat ≤ 2 ^ 24 ∧ ∀ q, H1 q = none → Q (.ref q) (upd H1 q (.lst (rgV a b)))
theorem pe_listRgA {te : L2.St → Hp → (Int → Int → Hp → Prop) → Prop} (hc : X.calm = true) (hg : Gl X "list") (hm : X.mg "list" = none) (he : PRg X e te) (na : starEach [e] X.env = (false, eval e X.env) :: starEach [] X.env := by rfl) :
    PE X (.Call (.Name "list" p) [e] [] pos) (tLstRgA te) := by
  refine ⟨fun pins s σ H Q I h => Call_ (ld_blt I hg hm boot_list (PyProof.Rows.callWith_type1 (args_cons (thn (he pins s σ H _ I h) fun x s1 hx => args_nil ?_) na) na))⟩
  obtain ⟨r, a, b, t, u, v, H1, ex, hr, I1, ok, q⟩ := hx
  subst ex
  have fin : ∀ h' tk acc c', (∀ b o, s1.heap.get? b = some o → h'.get? b = some o) → h'.get? s1.heap.objs.size = some { cls := .type "list", dict := none, data := .seq acc c', slots := #[] } →
      ItemsOf (fun i v => ∃ t, v = .int (a + i * 1) t) acc (b - a).toNat → EP X pins σ Q (.ref s1.heap.objs.size) { s1 with heap := h', toks := tk } := fun h' tk acc c' hk e' hi => by
    refine ⟨.ref s1.heap.objs.size, upd H1 s1.heap.objs.size (.lst (rgV a b)), I1.laid hk (Nat.le_refl _) (show ObjOk X.prog X.w _ _ _ (.lst (rgV a b)) from ⟨?_, acc.toList, c', vals_rg hi, ?_⟩), rfl, q _ (I1.hok.fresh (Nat.le_refl _))⟩
    · rw [rgV_length, sizeLine_eq]; omega
    · rw [Array.toArray_toList]; exact e'
  cases hs : Builtin.Range.small a b 1 with
  | true => exact call_list_range (n := (b - a).toNat) (I1.ok.hd hc) hr hs (rangeSize_nat a b) ok fin
  | false => exact PySem.VLR.list_long (n := (b - a).toNat) (I1.ok.hd hc) hr hs (rangeSize_nat a b) ok fin
def wLR1 (wa : WE) : WE := fun env st Q Qx => wa env st (fun d e s => match d with | .int j => j ≤ 16777216 ∧ Q (.lst (rangeD 0 j.toNat)) e s | _ => False) Qx
def wLR2 (wa wb : WE) : WE := fun env st Q Qx => wa env st (fun d e s => wb e s (fun d2 e s => match d, d2 with | .int i, .int j => j - i ≤ 16777216 ∧ Q (.lst (rangeD i (j - i).toNat)) e s | _, _ => False) Qx) Qx
theorem reps_rg {K : KC} {G : Hp} {ι : List Addr} (a b : Int) : Reps K G ι (rgV a b) (rangeD a (b - a).toNat) := by
  have e1 : rgV a b = ((List.range (b - a).toNat).map fun i : Nat => a + (i : Int)).map V.int := by unfold rgV; rw [List.map_map]; rfl
  have e2 : rangeD a (b - a).toNat = ((List.range (b - a).toNat).map fun i : Nat => a + (i : Int)).map D.int := by unfold rangeD; rw [List.map_map]; rfl
  rw [e1, e2]; exact Reps.ofInts _
variable {a b : Expr} {wa wb : WE} {p1 p0 : Pos}
theorem f_lr1 (hc : X.calm = true) (hg : Gl X "list") (hm : X.mg "list" = none) (hgr : Gl X "range") (hmr : X.mg "range" = none) (ha : PE X a (liftE C lk wa))
    (na : starEach [a] X.env = (false, eval a X.env) :: starEach [] X.env := by rfl) (na2 : starEach [.Call (.Name "range" p1) [a] [] p] X.env = (false, eval (.Call (.Name "range" p1) [a] [] p) X.env) :: starEach [] X.env := by rfl) :
    PE X (.Call (.Name "list" p0) [.Call (.Name "range" p1) [a] [] p] [] pos) (liftF C lk (wLR1 wa)) := PEi (pe_listRgA hc hg hm (prg_1 hgr hmr ha na) na2) (by
  rintro σ H Q ⟨G, ι, env, st, P, Px, hR, hw, hQ, hX⟩
  refine ⟨G, ι, env, st, _, Px, hR, hw, fun d e s G' ι' v H' p g r rp => ?_, hX⟩
  cases d with
  | int j =>
    rw [rep_int rp]
    refine ⟨j, rfl, by have := p.1; omega, fun q hq => ?_⟩
    have e0 : rangeD 0 j.toNat = rangeD 0 (j - 0).toNat := by rw [Int.sub_zero]
    obtain ⟨r2, o, n⟩ := newFresh (d := .lst (rangeD 0 j.toNat)) r hq (.lst (by rw [e0]; exact reps_rg 0 j)) True.intro
    exact hQ _ e s _ ι' _ _ p.2 g r2 o n
  | _ => exact p.elim)
theorem f_lr2 (hc : X.calm = true) (hg : Gl X "list") (hm : X.mg "list" = none) (hgr : Gl X "range") (hmr : X.mg "range" = none) (ha : PE X a (liftE C lk wa)) (hb : PE X b (liftE C lk wb))
    (na : starEach [a, b] X.env = (false, eval a X.env) :: starEach [b] X.env := by rfl) (nb : starEach [b] X.env = (false, eval b X.env) :: starEach [] X.env := by rfl) (hp : (backTo p (starEach [b] X.env)).any (·.1) = false := by rfl)
    (na2 : starEach [.Call (.Name "range" p1) [a, b] [] p] X.env = (false, eval (.Call (.Name "range" p1) [a, b] [] p) X.env) :: starEach [] X.env := by rfl) :
    PE X (.Call (.Name "list" p0) [.Call (.Name "range" p1) [a, b] [] p] [] pos) (liftF C lk (wLR2 wa wb)) := PEi (pe_listRgA hc hg hm (prg_2 hgr hmr ha hb na nb hp) na2) (by
  rintro σ H Q ⟨G, ι, env, st, P, Px, hR, hw, hQ, hX⟩
  refine ⟨G, ι, env, st, _, Px, hR, hw, fun d e s G' ι' v H' p g r rp => ?_, hX⟩
  refine ⟨G', ι', e, s, _, Px, r, p, fun d2 e2 s2 G2 ι2 v2 H2 p2 g2 r2 rp2 => ?_, hX.mono g⟩
  split at p2
  · rename_i i j
    rw [rep_int rp, rep_int rp2]
    refine ⟨i, j, rfl, rfl, by have := p2.1; omega, fun q hq => ?_⟩
    obtain ⟨r3, o, n⟩ := newFresh (d := .lst (rangeD i (j - i).toNat)) r2 hq (.lst (reps_rg i j)) True.intro
    exact hQ _ e2 s2 _ ι2 _ _ p2.2 (g.trans g2) r3 o n
  · exact p2.elim)
/-! ### xs.insert(0, e) -/
def ins0D (x : D) : D → (D → Prop) → Prop
  | .lst xs, P => xs.length < 16777216 ∧ P (.lst (x :: xs))
  | _, _ => False
variable {o : Expr} {apos cpos : Pos}
def wIns (wo : WO) (wr : WA) : WS := fun env st Q Qx => wo env st (fun r e1 s1 => isLst r e1 s1 ∧ wr e1 s1 (fun ds e2 s2 => match ds with | [.int 0, x] => chg r e2 s2 (ins0D x) fun e3 s3 => Q .nx e3 s3 | _ => False) Qx) Qx
theorem s_ins {a e : Expr} (ho : PE X o (liftO C lk wo)) (ha : PA X [a, e] (liftA C lk na wr))
    (hbase : attributeBase o "insert" X.env (eval o X.env) = eval o X.env := by rfl)
    (hfew : ((backTo cpos (starEach [a, e] X.env)).all (fun x => !x.1) && (backToKw cpos (keywordEach [] X.env)).all (fun x => x.1.isSome)
      && decide ([a, e].length + ([] : List Keyword).length + (if ([] : List Keyword).isEmpty then 0 else 1) < 30)) = true := by rfl)
    (hline : (apos.endLine == cpos.line) = true := by rfl) (hs : starEach [a, e] X.env = (false, eval a X.env) :: starEach [e] X.env := by rfl) (hplain : (backTo cpos (starEach [e] X.env)).any (·.1) = false := by rfl)
    (hsw : swapsWith (.Call (.Attribute o "insert" apos) [a, e] [] cpos) none pos.line X.env = pure false := by rfl) : PS X (.Expr (.Call (.Attribute o "insert" apos) [a, e] [] cpos) pos) (liftS C lk (wIns wo wr)) :=
  PSi (ps_expr (pe_bm PySem.F.plainAttrs_list PySem.F.slot_list_insert PySem.F.type_list_insert mt_insert ho ha hbase hfew hline hs hplain) hsw) (by
  rintro E σ H ⟨G, ι, env, st, P, Px, hR, hw, hS, hX⟩
  refine ⟨G, ι, env, st, _, Px, hR, hw, fun r e1 s1 G1 ι1 x H1 p1 g1 R1 rep1 => ?_, hX⟩
  obtain ⟨l, xs, rfl, hl⟩ := isLst_ok R1 rep1 p1.1
  refine ⟨.inl ⟨rfl, xs, .of hl⟩, G1, ι1, e1, s1, _, Px, R1, p1.2, fun ds e2 s2 G2 ι2 vs H2 p2 _ g2 R2 rps => ?_, hX.mono g1⟩
  split at p2
  · rename_i x _
    cases rps with
    | cons r0 rr =>
      cases rr with
      | cons rx rr =>
        cases rr
        rw [rep_int r0]
        obtain ⟨q, o', d, K1, e1', hq, hr, hd, hP⟩ := chg_ok R2 (rep1.mono g2.sub g2.pre) p2
        cases e1'
        cases d with
        | lst ds =>
          cases hr with
          | @lst ys _ hr =>
            obtain ⟨env', st', p3, R3⟩ := hP (.lst (x :: ds)) (.lst (_ :: ys)) hd.2 (.lst (.cons rx hr)) True.intro
            exact ⟨l, ys, 0, _, rfl, rfl, hq, by rw [hr.len, sizeLine_eq]; exact hd.1, by decide, by decide, hS.nx env' st' G2 ι2 σ _ p3 (g1.trans g2) R3⟩
        | _ => exact hd.elim
  · exact p2.elim)
/-! ### xs.index(e), xs.count(e) -/
def fD : D → Bool
  | .non => true
  | .bl _ => true
  | .int _ => true
  | _ => false
def eqF : D → D → Bool
  | .non, .non => true
  | .bl a, .bl b => a == b
  | .bl a, .int b => (if a then 1 else 0) == b
  | .int a, .bl b => a == (if b then 1 else 0)
  | .int a, .int b => a == b
  | _, _ => false
theorem Rep.flat {K : KC} {G : Hp} {ι : List Addr} {v : V} {d : D} (h : Rep K G ι v d) (f : fD d = true) : flatV v = true := by
  cases h <;> first | rfl | (cases f; done) | (rename_i q; cases q <;> cases f)
theorem Rep.eqF {K : KC} {G : Hp} {ι : List Addr} {v u : V} {d e : D} (h : Rep K G ι v d) (g : Rep K G ι u e) (f1 : fD d = true) (f2 : fD e = true) : eqV v u = VL.eqF d e := by
  cases d <;> first | (cases f1; done) | skip
  all_goals cases e <;> first | (cases f2; done) | skip
  all_goals (cases h <;> first | skip | (rename_i q; cases q; done))
  all_goals (cases g <;> first | rfl | (rename_i q; cases q; done))
def idxD (xs : List D) (d : D) (P : D → Prop) : Prop := fD d = true ∧ xs.all fD = true ∧ ∃ (j : Nat) (z : D), xs[j]? = some z ∧ eqF z d = true ∧ (∀ (m : Nat) (z' : D), m < j → xs[m]? = some z' → eqF z' d = false) ∧ P (.int (j : Nat))
def kIdx (P : D → Prop) (r : DR) (e : EnvD) (d : D) : Prop := r.get e fun l => match l with | .lst xs => idxD xs d P | _ => False
def wIdx (wo : WO) (wr : WA) : WE := fun env st Q Qx => wo env st (fun r e1 s1 => isLst r e1 s1 ∧ wr e1 s1 (fun ds e2 s2 => match ds with | [d] => kIdx (fun v => Q v e2 s2) r e2 d | _ => False) Qx) Qx
theorem e_idx {e : Expr} (eK : X.K = C.K) (ho : PE X o (liftO C lk wo)) (ha : PA X [e] (liftA C lk na wr))
    (hbase : attributeBase o "index" X.env (eval o X.env) = eval o X.env := by rfl)
    (hfew : ((backTo cpos (starEach [e] X.env)).all (fun x => !x.1) && (backToKw cpos (keywordEach [] X.env)).all (fun x => x.1.isSome)
      && decide ([e].length + ([] : List Keyword).length + (if ([] : List Keyword).isEmpty then 0 else 1) < 30)) = true := by rfl)
    (hline : (apos.endLine == cpos.line) = true := by rfl) (hs : starEach [e] X.env = (false, eval e X.env) :: starEach [] X.env := by rfl) (hplain : (backTo cpos (starEach [] X.env)).any (·.1) = false := by rfl) :
    PE X (.Call (.Attribute o "index" apos) [e] [] cpos) (liftE C lk (wIdx wo wr)) :=
  PEi (pe_bm PySem.F.plainAttrs_list PySem.F.slot_list_index PySem.F.type_list_index mt_index ho ha hbase hfew hline hs hplain) (by
  rintro σ H Q ⟨G, ι, env, st, P, Px, hR, hw, hQ, hX⟩
  refine ⟨G, ι, env, st, _, Px, hR, hw, fun r e1 s1 G1 ι1 x H1 p1 g1 R1 rep1 => ?_, hX⟩
  obtain ⟨l, xs, rfl, hl⟩ := isLst_ok R1 rep1 p1.1
  refine ⟨.inl ⟨rfl, xs, .of hl⟩, G1, ι1, e1, s1, _, Px, R1, p1.2, fun ds e2 s2 G2 ι2 vs H2 p2 _ g2 R2 rps => ?_, hX.mono g1⟩
  split at p2
  · rename_i d _
    cases rps with
    | cons rx rr =>
      cases rr
      obtain ⟨dl, p3, b⟩ := R2.bor (rep1.mono g2.sub g2.pre) p2
      cases dl with
      | lst ds =>
        obtain ⟨a', ys, ea, hh, hr⟩ := b.lst R2
        cases ea
        obtain ⟨f1, f2, j, z, hz, e1', hno, hp⟩ := p3
        obtain ⟨u, hu, ru⟩ := hr.get hz
        have fy : ys.all flatV = true := List.all_eq_true.mpr fun y hy => by
          obtain ⟨n, hn⟩ := List.mem_iff_getElem?.mp hy
          obtain ⟨d', hd', rd⟩ := hr.getR hn
          exact rd.flat (List.all_eq_true.mp f2 d' (List.mem_of_getElem? hd'))
        refine ⟨l, ys, _, j, u, rfl, rfl, .of hh, rx.flat f1, fy, hu, ?_, fun m z' hm hz' => ?_, hQ _ e2 s2 G2 ι2 _ H2 hp (g1.trans g2) R2 .int⟩
        · rw [ru.eqF rx (List.all_eq_true.mp f2 z (List.mem_of_getElem? hz)) f1]; exact e1'
        · obtain ⟨d', hd', rd⟩ := hr.getR hz'
          rw [rd.eqF rx (List.all_eq_true.mp f2 d' (List.mem_of_getElem? hd')) f1]
          exact hno m d' hm hd'
      | _ => exact p3.elim
  · exact p2.elim)
end
/-! ### one step each -/
section
variable {env : EnvD} {st : Sto} {Q : KS} {Qx : KX}
def kLR1 (Q : KE) : KE := fun d e s => match d with | .int j => j ≤ 16777216 ∧ Q (.lst (rangeD 0 j.toNat)) e s | _ => False
theorem q_lr1 {wa : WE} {Q : KE} : wLR1 wa env st Q Qx = wa env st (kLR1 Q) Qx := rfl
theorem q_lr11 {Q : KE} {j : Int} : kLR1 Q (.int j) env st = (j ≤ 16777216 ∧ Q (.lst (rangeD 0 j.toNat)) env st) := rfl
def kLR2 (d : D) (Q : KE) : KE := fun d2 e s => match d, d2 with | .int i, .int j => j - i ≤ 16777216 ∧ Q (.lst (rangeD i (j - i).toNat)) e s | _, _ => False
theorem q_lr2 {wa wb : WE} {Q : KE} : wLR2 wa wb env st Q Qx = wa env st (fun d e s => wb e s (kLR2 d Q) Qx) Qx := rfl
theorem q_lr21 {Q : KE} {i j : Int} : kLR2 (.int i) Q (.int j) env st = (j - i ≤ 16777216 ∧ Q (.lst (rangeD i (j - i).toNat)) env st) := rfl
def kIns (r : DR) (Q : KS) : KA := fun ds e2 s2 => match ds with | [.int 0, x] => chg r e2 s2 (ins0D x) fun e3 s3 => Q .nx e3 s3 | _ => False
theorem q_insl {wo : WO} {wr : WA} : wIns wo wr env st Q Qx = wo env st (fun r e1 s1 => isLst r e1 s1 ∧ wr e1 s1 (kIns r Q) Qx) Qx := rfl
theorem q_insl1 {r : DR} {x : D} : kIns r Q [.int 0, x] env st = chg r env st (ins0D x) fun e3 s3 => Q .nx e3 s3 := rfl
theorem q_ins0 {x : D} {xs : List D} {P : D → Prop} : ins0D x (.lst xs) P = (xs.length < 16777216 ∧ P (.lst (x :: xs))) := rfl
theorem s_ins_ {wo : WO} {wr : WA} {u : WS} : wSeq (wIns wo wr) u env st Q Qx = wIns wo wr env st (kSeq u Q Qx) Qx := rfl
def kIx1 (r : DR) (Q : KE) : KA := fun ds e2 s2 => match ds with | [d] => kIdx (fun v => Q v e2 s2) r e2 d | _ => False
theorem q_idx {wo : WO} {wr : WA} {Q : KE} : wIdx wo wr env st Q Qx = wo env st (fun r e1 s1 => isLst r e1 s1 ∧ wr e1 s1 (kIx1 r Q) Qx) Qx := rfl
def pIdx (xs : List D) (d : D) (P : D → Prop) (_ : Pin P) : Prop := idxD xs d P
def kIx2 (d : D) (P : D → Prop) (l : D) : Prop := match l with | .lst xs => idxD xs d P | _ => False
theorem q_idx1 {r : DR} {Q : KE} {d : D} : kIx1 r Q [d] env st = r.get env (kIx2 d fun v => Q v env st) := rfl
theorem q_idx2 {d : D} {P : D → Prop} {xs : List D} : kIx2 d P (.lst xs) = pIdx xs d P .mk := rfl
theorem idx_at {ns : List Int} {n : Int} {P : D → Prop} {p} (j : Nat) (hj : ns[j]? = some n) (hno : ∀ m, m < j → ns[m]? ≠ some n) (hp : P (.int (j : Nat))) : pIdx (ns.map .int) (.int n) P p := by
  refine ⟨rfl, ?_, j, .int n, by rw [List.getElem?_map, hj]; rfl, by simp [eqF], fun m z' hm hz => ?_, hp⟩
  · rw [List.all_map, List.all_eq_true]; intro x _; rfl
  · rw [List.getElem?_map] at hz
    cases q : ns[m]? with
    | none => rw [q] at hz; cases hz
    | some k =>
      rw [q] at hz; cases hz
      have : k ≠ n := fun z => hno m hm (by rw [q, z])
      simpa [eqF] using this
end
end VL

/-! The value layer: enumerate of a tuple, slices of tuples; shifts; laws with the script's bits. -/
namespace VL
open PySem PySem.Spec PyProof.Rows L2
/-! ### enumerate(a tuple) -/
def eoT (l : Addr) : Obj := { cls := .type "tuple_iterator", data := .fields #[.ref l, .int 0 0] }
def eoE (i : Addr) : Obj := { cls := .type "enumerate", data := .fields #[.none, .bool false, .ref i, rawInt 0, .none, .none] }
open AutoSeq1 (wpAny_loadPart') in
theorem meets_enumT (l : Addr) (items : Array Value) (n : Nat) (dct : Option Addr) (sl : Array (Option Value)) :
    Meets (Builtin.«enumerate.__new__» ⟨[.type "enumerate", .ref l], []⟩) (fun _ R s => s.heap.get? l = some { cls := .type "tuple", dict := dct, data := .seq items n, slots := sl } ∧
      R (.ok (.ret (.ref (s.heap.push (eoT l)).objs.size))) { s with heap := (s.heap.push (eoT l)).push (eoE s.heap.objs.size) }) :=
  .of_wp fun prog w A R s h => by
    obtain ⟨hp, g, d, tk, os⟩ := s
    obtain ⟨hl, h⟩ := h
    have hsub := sub_enumerate
    have hT : Heap.IsTuple (Shared.heap ⟨hp, g, d, tk, os⟩) l items := ⟨_, hl, rfl, n, rfl⟩
    wp_walk using wpAny_loadPart' hl
    refine wpAny_stack_any fun st => wpAny_pure ?_
    split
    · rename_i c _ _ _ _ _
      cases (c == Value.type "enumerate") <;> (wp_walk using wpAny_loadPart' hl, wpAny_pyIter_tuple hT) <;> exact ⟨_, rfl, h⟩
    · wp_walk using wpAny_loadPart' hl, wpAny_pyIter_tuple hT
      exact ⟨_, rfl, h⟩
theorem call_enumT {prog : Program} {w : World} {A : Around} {E : Value → Shared → Prop} {s : Shared} {l : Addr} {items : Array Value} {Q : Value → Shared → Prop} (hL : s.heap.IsTuple l items)
    (h : ∀ h', IsEnum h' (s.heap.objs.size + 1) s.heap.objs.size 0 .none → h'.IsTupleIter s.heap.objs.size l 0 → h'.objs.size = s.heap.objs.size + 2 →
      (∀ b o, s.heap.get? b = some o → h'.get? b = some o) → Q (.ref (s.heap.objs.size + 1)) { s with heap := h' }) :
    wpAny (model prog w) A (call (.type "enumerate") [.ref l]) Q E s := by
  obtain ⟨⟨c, dct, dt, sl⟩, hl, hc, n, hd⟩ := hL
  replace hc : c = .type "tuple" := hc
  replace hd : dt = .seq items n := hd
  subst hc hd
  refine callType_new F.called_enumerate (by decide) (F.typeCall_enumerate_1 _) (F.newCall_enumerate_1 _) (fun obj => F.args_object_init_2 obj _) F.entry_enumerate_new (meets_enumT l items n dct sl) ⟨hl, ?_⟩
  have z1 : (s.heap.push (eoT l)).objs.size = s.heap.objs.size + 1 := Heap.size_push ..
  show _ ∧ _
  rw [z1]
  have he : IsEnum ((s.heap.push (eoT l)).push (eoE s.heap.objs.size)) (s.heap.objs.size + 1) s.heap.objs.size 0 .none := by
    have q := Heap.get?_push_size (s.heap.push (eoT l)) (o := eoE s.heap.objs.size) rfl
    rw [z1] at q
    exact q
  exact ⟨⟨_, he, rfl⟩, h _ he ⟨_, Heap.get?_push_of_some _ (Heap.get?_push_size _ rfl), rfl, rfl⟩ (by rw [Heap.size_push, z1]) fun b o x => Heap.get?_push_of_some _ (Heap.get?_push_of_some _ x)⟩
def ItET (K : PySem.W.Frag) (a : Addr) : It :=
  ⟨fun i H => ∃ (xs : List V) (x : V), SqT K H a xs ∧ xs[i]? = some x, fun i H v H' => ∃ T x, v = .ref T ∧ H T = none ∧ H' = upd H T (.tup [.int (i : Nat), x]) ∧ ∀ xs, SqT K H a xs → xs[i]? = some x, fun i H => ∃ xs : List V, SqT K H a xs ∧ i = xs.length⟩
theorem turn_enumT {P : Program} {w : World} {K : PySem.W.Frag} {elts : List Expr} {kk : Nat} {tpos : Pos} (a e it : Addr) :
    Turn P w K (.Tuple elts kk tpos) (ItET K a) [e, it] e (fun i h => (∃ old, IsEnum h e it ((i : Nat) : Int) old) ∧ h.IsTupleIter it a i ∧ e ≠ it ∧ a ≠ it ∧ e ≠ a) where
  mem := by simp
  obj := fun i h st b hb => by
    obtain ⟨⟨old, he⟩, ⟨o, ho, hc, hd⟩, _⟩ := st
    have e' : b = e ∨ b = it := by simpa using hb
    rcases e' with z | z
    · rw [z]; exact ⟨_, he, fun v q => nomatch q⟩
    · rw [z]; exact ⟨o, ho, fun v q => by rw [hd] at q; cases q⟩
  keep := fun i h h' st k => let ⟨⟨old, he⟩, hi, hn⟩ := st; ⟨⟨old, k e (by simp) _ he⟩, hi.at fun o q => k it (by simp) o q, hn⟩
  item := by
    intro X hP hw hK hc i pins s σ H E I hf st hg
    subst hP hw hK
    obtain ⟨⟨old, he⟩, hit, n1, n2, n3⟩ := st
    obtain ⟨xs, x, hq, hx⟩ := hg
    obtain ⟨its, rv, p, _⟩ := I.tuple hq
    obtain ⟨u, hu, ru⟩ := rv.get hx
    have D := Draws.tuple (prog := X.prog) (w := X.w) (A := X.A.in1) (show X.A.in1.handled = none from I.ok.hd hc) it a n2 its.toArray
    have hel : e < s.heap.objs.size := Heap.lt_size he
    have hil : it < s.heap.objs.size := by obtain ⟨_, q, _⟩ := hit; exact Heap.lt_size q
    refine wpAny_pyNext_enum_itemD D he ⟨hit, p⟩ (by rw [List.size_toArray]; exact (List.getElem?_eq_some_iff.mp hu).1) n1 (by simp only [List.mem_cons, List.not_mem_nil, or_false, not_or]; exact ⟨n1, n3⟩) fun v h' tk hv ho hit' hT hsz hk => ?_
    have ev : v = u := by
      have q : its.toArray[i]? = some v := hv
      rw [List.getElem?_toArray, hu] at q
      exact (Option.some.inj q).symm
    subst ev
    refine ⟨_, rfl, wpAny_letOwnedTupleGo_enum (s := { s with heap := h', toks := tk + 1 }) ho fun h'' he' sb => ?_⟩
    have hT2 : h''.get? s.heap.objs.size = some { cls := .type "tuple", data := .seq #[.int i tk, v] } := (sb.2 _ (Nat.ne_of_gt hel)).trans hT
    have new : ObjOk X.prog X.w (upd H s.heap.objs.size (.tup [.int (i : Nat), x])) h'' s.heap.objs.size (.tup [.int (i : Nat), x]) :=
      ⟨by show 2 ≤ sizeLine; decide, [.int i tk, v], .cons ⟨_, rfl⟩ (.cons ru .nil), ⟨_, hT2, rfl, _, rfl⟩⟩
    have I1 : Inv X pins σ (upd H s.heap.objs.size (.tup [.int (i : Nat), x])) { s with heap := h'', toks := tk + 1 } :=
      I.turnedNew (ch := [e, it]) (fun b ob hb q => (sb.2 b (fun z => hb (by simp [z]))).trans (hk b ob (fun z => hb (by simp [z])) (fun z => hb (by simp [z])) q)) hf (Nat.le_refl _) new
    refine ⟨.ref s.heap.objs.size, _, I1, rfl, ⟨_, x, rfl, I.hok.fresh (Nat.le_refl _), rfl, fun ys hy => by rw [I.tuple_inj hy hq]; exact hx⟩, ⟨⟨v, ?_⟩, hit'.1.at fun o q => (sb.2 it (Ne.symm n1)).trans q, n1, n2, n3⟩, fun b hb => ?_⟩
    · have e1 : ((i + 1 : Nat) : Int) = (i : Int) + 1 := by omega
      rw [e1]; exact he'
    · have hb' : b < s.heap.objs.size := by
        have e' : b = e ∨ b = it := by simpa using hb
        rcases e' with z | z
        · rw [z]; exact hel
        · rw [z]; exact hil
      rw [upd_ne (Nat.ne_of_lt hb')]
      exact (hf b hb).1
  done := by
    intro X hP hw hK hc i pins s σ H E I hf st hg
    subst hP hw hK
    obtain ⟨⟨old, he⟩, hit, n1, n2, n3⟩ := st
    obtain ⟨xs, hq, hx⟩ := hg
    obtain ⟨its, rv, p, _⟩ := I.tuple hq
    obtain ⟨f0, f1, f2, f3, f4, f5⟩ := hf it (by simp)
    have D := Draws.tuple (prog := X.prog) (w := X.w) (A := X.A.in1) (show X.A.in1.handled = none from I.ok.hd hc) it a n2 its.toArray
    have hl : i = its.toArray.size := by rw [List.size_toArray, hx, rv.length]
    subst hl
    exact wpAny_pyNext_enum_endD D he ⟨hit, p⟩ fun h' eb => ⟨rfl, I.turned (t' := s.toks) (fun b o hb q => eb b o hb q) f0 f1 f3 f4 f5⟩
  self := fun A i s Q E st h => let ⟨⟨_, he⟩, _⟩ := st; wpAny_pyIter_enum he h
def iEnumA (K : PySem.W.Frag) (ta : TA) : TI := fun σ H R => ta σ H fun vs H1 => ∃ a xs, vs = [.ref a] ∧ ((SqL K H1 a xs ∧ R (Ite K a) H1) ∨ (SqT K H1 a xs ∧ R (ItET K a) H1))
theorem pi_enumA {X : Cx} {e : Expr} {ta : TA} {p pos tpos : Pos} {elts : List Expr} {kk : Nat} (hg : Gl X "enumerate") (hm : X.mg "enumerate" = none) (ha : PA X [e] ta) (hs : starEach [e] X.env = [(false, eval e X.env)] := by rfl) :
    PI X (.Tuple elts kk tpos) (.Call (.Name "enumerate" p) [e] [] pos) (iEnumA X.K ta) := by
  refine ⟨fun pins s σ H R I h => Call_ (ld_blt I hg hm boot_enumerate (PyProof.Rows.callWith_type1 (thn (ha.run pos pins s σ H _ I h) fun us s1 hh => ?_) hs rfl))⟩
  obtain ⟨vs, H1, I1, r1, a, xs, ex, q1⟩ := hh
  subst ex
  cases r1 with
  | cons r rr =>
    cases rr
    cases r
    have fresh2 : ∀ b, b ∈ [s1.heap.objs.size + 1, s1.heap.objs.size] → FpOk X pins H1 b := fun b hb => by
      have hle : s1.heap.objs.size ≤ b := by
        have e' : b = s1.heap.objs.size + 1 ∨ b = s1.heap.objs.size := by simpa using hb
        rcases e' with z | z
        · rw [z]; exact Nat.le_add_right _ _
        · rw [z]; exact Nat.le_refl _
      exact I1.fpOk hle (I1.hok.fresh hle)
    rcases q1 with ⟨hq, q⟩ | ⟨hq, q⟩
    · obtain ⟨its, rv, p', hz⟩ := I1.list hq
      refine call_enumerate_list p'.isList fun h' he hit hsz hk => wpAny_pyIter_enum he ?_
      have I2 : Inv X pins σ H1 { s1 with heap := h' } := I1.kept (t' := s1.toks) hk
      exact ⟨s1.heap.objs.size + 1, [s1.heap.objs.size + 1, s1.heap.objs.size], _, _, H1, rfl, I2, turn_enum a (s1.heap.objs.size + 1) s1.heap.objs.size, ⟨⟨.none, he⟩, hit, Nat.succ_ne_self _⟩, fresh2, q⟩
    · obtain ⟨its, rv, p', _⟩ := I1.tuple hq
      obtain ⟨o1, ho1, _⟩ := id p'
      have la : a < s1.heap.objs.size := Heap.lt_size ho1
      refine call_enumT (show s1.heap.IsTuple a its.toArray from p') fun h' he hit hsz hk => wpAny_pyIter_enum he ?_
      have I2 : Inv X pins σ H1 { s1 with heap := h' } := I1.kept (t' := s1.toks) hk
      exact ⟨s1.heap.objs.size + 1, [s1.heap.objs.size + 1, s1.heap.objs.size], _, _, H1, rfl, I2, turn_enumT a (s1.heap.objs.size + 1) s1.heap.objs.size, ⟨⟨.none, he⟩, hit, Nat.succ_ne_self _, Nat.ne_of_lt la, Nat.ne_of_gt (Nat.lt_succ_of_lt la)⟩, fresh2, q⟩
section
variable {X : Cx} {C : Ctx} {lk : Lks} {pos p p2 : Pos} {e a b : Expr} {wr : WA} {na : Nat} {wa wb : WO}
def enumA (ds : List D) (P : List D → Prop) : Prop := match ds with
  | [.lst xs] => P (enumD xs)
  | [.tup xs] => P (enumD xs)
  | _ => False
theorem walk_enumT {K : PySem.W.Frag} {a : Addr} {xs : List V} : Walk (ItET K a) xs.length (fun H => SqT K H a xs) (YPair (fun i => some (.int (i : Nat))) (fun i => xs[i]?)) := by
  refine ⟨fun i _ hi q => ⟨xs, xs[i], q, by simp [hi]⟩, fun _ q => ⟨xs, q, rfl⟩, fun i H v H' _ q y => ?_⟩
  obtain ⟨T, x, h1, h2, h3, h4⟩ := y
  exact ⟨T, _, x, h1, h2, h3, rfl, h4 xs q⟩
theorem i_enumA {tpos : Pos} {elts : List Expr} {kk : Nat} (eK : X.K = C.K) (hg : Gl X "enumerate") (hm : X.mg "enumerate" = none) (ha : PA X [e] (liftA C lk na wr)) (hs : starEach [e] X.env = [(false, eval e X.env)] := by rfl) : PI X (.Tuple elts kk tpos) (.Call (.Name "enumerate" p) [e] [] pos) (liftI C lk (wIa enumA wr)) := PIi (pi_enumA hg hm ha hs) (by
  rintro σ H Rk ⟨G, ι, env, st, P, Px, hR, hw, hQ, hX⟩
  refine ⟨G, ι, env, st, _, Px, hR, hw, fun ds e s G' ι' vs H' p _ g r rp => ?_, hX⟩
  unfold enumA at p
  have pr : ∀ {ys : List V} {xs : List D}, Reps C.K G' ι' ys xs → ∀ i x y, i < (enumD xs).length → (fun i => some (V.int (i : Nat))) i = some x → ys[i]? = some y → ∃ d1 d2, (enumD xs)[i]? = some (.tup [d1, d2]) ∧ Rep C.K G' ι' x d1 ∧ Rep C.K G' ι' y d2 := fun {ys xs} q i x y hi hx hy => by
    cases hx
    obtain ⟨d, hd, rp⟩ := q.getR hy
    refine ⟨.int (i : Nat), d, ?_, .int, rp⟩
    unfold enumD
    rw [List.getElem?_map, List.getElem?_zipIdx, hd]
    simp
  split at p
  · rename_i xs
    cases rp with
    | cons r1 rr =>
      cases rr
      cases r1 with
      | obj h q => cases q with
        | @lst ys _ q =>
          refine ⟨_, ys, rfl, .inl ⟨.of (fGl r h fun z => z), hQ _ e s G' ι' _ H' p g r (it_pair (f := fun i => some (.int (i : Nat))) (g := fun i => ys[i]?) (Gd := fun H => SqL X.K H _ ys) ?_ (fun G2 ι2 env2 st2 σ2 H2 g2 r2 => .of (fGl r2 (g2.sub _ _ h) fun z => z)) (pr q))⟩⟩
          unfold enumD
          rw [List.length_map, List.length_zipIdx, ← q.len]
          exact walk_enum
  · rename_i xs
    cases rp with
    | cons r1 rr =>
      cases rr
      cases r1 with
      | obj h q => cases q with
        | @tup ys _ q =>
          refine ⟨_, ys, rfl, .inr ⟨.of (fGl r h fun z => z), hQ _ e s G' ι' _ H' p g r (it_pair (f := fun i => some (.int (i : Nat))) (g := fun i => ys[i]?) (Gd := fun H => SqT X.K H _ ys) ?_ (fun G2 ι2 env2 st2 σ2 H2 g2 r2 => .of (fGl r2 (g2.sub _ _ h) fun z => z)) (pr q))⟩⟩
          unfold enumD
          rw [List.length_map, List.length_zipIdx, ← q.len]
          exact walk_enumT
  · exact p.elim)
theorem o_enumA1 {xs : List D} {PL : List D → Prop} : enumA [.lst xs] PL = PL (enumD xs) := rfl
theorem o_enumA2 {xs : List D} {PL : List D → Prop} : enumA [.tup xs] PL = PL (enumD xs) := rfl
/-! ### n << k -/
def shlD : D → D → (D → Prop) → Prop
  | .int a, .int b, P => (0 ≤ b ∧ (Builtin.Int.intBits a : Int) + b ≤ 2 ^ 27) ∧ P (.int (a * 2 ^ b.toNat))
  | _, _, _ => False
theorem op2_shl : Op2 C (rI CShl fun i j => .int (i * 2 ^ j.toNat)) shlD := by
  intro lk G ι env st σ H x y d1 d2 P Q hR b1 b2 hf k
  unfold shlD at hf
  split at hf
  · rw [b1.int, b2.int]; exact ⟨_, _, rfl, rfl, hf.1, k _ G _ H hf.2 .refl hR .int⟩
  · exact hf.elim
abbrev wShl := wBin shlD
theorem e_shl (ha : PE X a (liftO C lk wa)) (hb : PE X b (liftO C lk wb)) : PE X (.BinOp a .LShift b pos) (liftE C lk (wShl wa wb)) := e_bin op_shlW op2_shl ha hb
theorem o_shl {a b : Int} {P : D → Prop} : shlD (.int a) (.int b) P = ((0 ≤ b ∧ (Builtin.Int.intBits a : Int) + b ≤ 2 ^ 27) ∧ P (.int (a * 2 ^ b.toNat))) := rfl
theorem bits_lt {a : Int} {k : Nat} (h0 : 0 ≤ a) (h : a < 2 ^ k) : Builtin.Int.intBits a ≤ k := by
  unfold Builtin.Int.intBits
  split
  · omega
  · rename_i z
    have z2 : a.natAbs ≠ 0 := fun e => z (by rw [Int.natAbs_eq_zero.mp e]; rfl)
    have : a.natAbs < 2 ^ k := by
      have e : (a.natAbs : Int) = a := Int.natAbs_of_nonneg h0
      rw [← e] at h
      exact_mod_cast h
    exact Nat.succ_le_of_lt ((Nat.log2_lt z2).mpr this)
theorem lt_bits {a : Int} {k : Nat} (h : Builtin.Int.intBits a ≤ k) : (a.natAbs : Int) < 2 ^ k := by
  unfold Builtin.Int.intBits at h
  have : a.natAbs < 2 ^ k := by
    by_cases z : a.natAbs = 0
    · rw [z]; exact Nat.pow_pos (by decide)
    · have z2 : (a == 0) = false := by
        rw [beq_eq_false_iff_ne]; intro e; rw [e] at z; exact z rfl
      rw [z2] at h
      exact (Nat.log2_lt z).mp (Nat.lt_of_succ_le (by simpa using h))
  exact_mod_cast this
end
/-- a def by another name -/
theorem mk_calleeQ {P : Program} {wd : World} {K : PySem.W.Frag} {mg : Str → Option Value} {base : Heap} {x q : Str} {st : Stmt} {f : Addr} {fd : FuncData} {N ps : List Str} {k : Nat} {Cl : Str → Option Addr} {fr : Bool} {w : WS} {Phi : Spec} (F : FnP K q st f fd) (S : FnScope N ps (defScope st)) (m : mg x = some (.ref f))
    (h : ∀ (kV doc pm : Value) (an : Option Addr) (cdv ct : Value) (us : List Value), us.length = ps.length → bindArgs (PySem.W.fnOf q q (defArgs st) (defBody st) (defScope st) .none kV doc pm an cdv ct) ⟨us, []⟩ = pure (ps.zip us))
    (hb : ∀ (cdv : Value) (A : Around) (outer : List Env) (s : Shared) (H : Hp) (E : XK) (Fr : Hp) (W : WX), Room k (A.deeper (envOfC q (defScope st) s.heap.objs.size f cdv)) → Takes (cxOf (L2.CX P wd) P wd K mg base N q (defScope st) f cdv A outer s H E) W →
      PassesOwn (model P wd) (A.deeper (envOfC q (defScope st) s.heap.objs.size f cdv)) (envOfC q (defScope st) s.heap.objs.size f cdv) (cxOf (L2.CX P wd) P wd K mg base N q (defScope st) f cdv A outer s H E).xe →
      PSs (cxOf (L2.CX P wd) P wd K mg base N q (defScope st) f cdv A outer s H E) (defBody st) (liftS ⟨⟨K, Cl⟩, Fr, W, fr⟩ [] w))
    (hPhi : ∀ ds st Q Qx, Phi ds st Q Qx → specW fr N.length w ds st Q Qx) : Callee P wd K mg base Cl x (k + 1) ps.length fr Phi :=
  ⟨f, fd, ps, fn_imp (fn_okD F S hb) hPhi, m, F.kp, FunD.bindsN F h⟩
/-- of what is not called -/
theorem mk_callee0 {P : Program} {wd : World} {K : PySem.W.Frag} {mg : Str → Option Value} {base : Heap} {x : Str} {st : Stmt} {f : Addr} {fd : FuncData} {ps : List Str} {k n : Nat} {Cl : Str → Option Addr} {fr : Bool} (F : FnP K x st f fd) (m : mg x = some (.ref f))
    (h : ∀ (kV doc pm : Value) (an : Option Addr) (cdv ct : Value) (us : List Value), us.length = ps.length → bindArgs (PySem.W.fnOf x x (defArgs st) (defBody st) (defScope st) .none kV doc pm an cdv ct) ⟨us, []⟩ = pure (ps.zip us)) : Callee P wd K mg base Cl x k n fr fun _ _ _ _ => False :=
  ⟨f, fd, ps, ⟨fun vs H Q E hs => by obtain ⟨_, _, _, _, _, _, _, _, _, z, _⟩ := hs; exact z.elim, fun A outer s H args us vs Q E hr he hb hv hs => by obtain ⟨_, _, _, _, _, _, _, _, _, z, _⟩ := hs; exact z.elim⟩, m, F.kp, FunD.bindsN F h⟩
/-! ### the law's end, by the script's bits -/
def PhiLawB : Spec := fun ds st Q _ => ∃ ns : List Int, ds = [.scr ns] ∧ ns.length ≤ 63 ∧ (∀ z ∈ ns, Builtin.Int.intBits z ≤ 1048576) ∧ st = [] ∧ ∀ st', Q (.bl true) st'
theorem walk_ofWB {l : PySem.W.OpenLaw} {n k : Nat} {q : Program} {loose : List Str} {XP : (Str → Option Value) → Heap → Prop} {YP : World → Heap → Prop} {d : DefRec} {CX : World → CXT} {x : Str}
    (hn : l.most = some n) (hn2 : n ≤ sizeLine) (hdf : d.params.defaults = []) (hr : Room k callerA)
    (F : ∀ (w : World) (mg : Str → Option Value) (fa : Addr) (h : Heap), YP w h → h.Ns mainGlobals mg → mg d.name = some (.ref fa) →
      ∃ (K : PySem.W.Frag) (fd : FuncData) (sp : Sp), K.In h ∧ (∀ (s : Shared) (u : Value), BindsTo s fd ⟨[u], []⟩ [(x, u)]) ∧
        (∀ (H : Hp) (a : Addr) (ns : List Int), ns.length ≤ n → (∀ z ∈ ns, Builtin.Int.intBits z ≤ 1048576) → Only H → SqL K H a (ns.map V.int) → sp [.ref a] H (fun v _ => v = .bl true) fun _ _ _ => False) ∧
        ∀ base : Heap, K.In base → base.Ns mainGlobals mg → FnOk l.prog w K mg base (CX w) k fa fd [x] sp)
    (hCX : ∀ (w : World) (H : Hp) (s : Shared) (e : Value) (s' : Shared), CX w [] H s (fun _ _ _ => False) e s' → False) :
    PySem.W.WalkO q loose XP YP l.row.toRowW d [] (fun f vs => PySem.call f vs) := by
  refine Att.attach_callB hn hdf fun w s₀ s₁ mg mb fa o pm cd doc a vs ns G Y ho hd hcd hmg hobj hints hlen hbits hg => ?_
  obtain ⟨K, fd, sp, KX, hb, hsp, hF⟩ := F w mg fa _ Y G.T.g hmg
  exact law_call KX G.T.g G.T.b G.T.builtins G.T.nolimit hg hobj hints (Nat.le_trans hlen hn2) hr hF hb (fun H hO hS => hsp H a ns hlen hbits hO hS) fun H e s' => hCX w H s₁ e s'
theorem law_spB {K : PySem.W.Frag} {Cl : Str → Option Addr} {H : Hp} {a : Addr} {ns : List Int} (hl : ns.length ≤ 63) (hb : ∀ z ∈ ns, Builtin.Int.intBits z ≤ 1048576) (h : SqL K H a (ns.map V.int)) : spOf K Cl 1 false PhiLawB [.ref a] H (fun v _ => v = .bl true) fun _ _ _ => False := by
  obtain ⟨h1, G, ι, ds, st, Pr, Px, hR, hrep, ⟨ns', e1, e2, e3, e4⟩, h3, h4⟩ := law_sp (Cl := Cl) hl h
  refine ⟨rfl, H, [], [.scr ns], [], fun d _ => d = .bl true, fun _ _ => False, ?_, .cons (.scr h) .nil, ⟨ns, rfl, hl, hb, rfl, fun _ => rfl⟩, fun d st' G' ι' v H' p _ _ r => ?_, fun _ _ _ _ _ _ _ p => False.elim p⟩
  · exact ⟨rfl, fun a u e => .inl e, fun a o u h => by simp at h, fun a u e => .inl e, fun i s e => by simp at e, fun i j d e a h => by simp at h, rfl, fun n a o e => by simp at e, fun a h => by simp at h, List.nodup_nil, fun a o u e1 e2 => by rw [e1] at e2; exact (frz_ne (Option.some.inj e2)).elim⟩
  · subst p
    have r : Rep ⟨K, Cl⟩ G' ι' v (.bl true) := r
    cases r with
    | bl => rfl
    | obj _ q => cases q
/-! ### loops over 0 .. n - 1 -/
theorem enumD_range (n : Nat) (F : Nat → D) : enumD ((List.range n).map F) = (List.range n).map fun i => D.tup [.int (i : Nat), F i] := by
  unfold enumD
  apply List.ext_getElem?
  intro i
  rw [List.getElem?_map, List.getElem?_zipIdx, List.getElem?_map, List.getElem?_map]
  by_cases h : i < n
  · rw [List.getElem?_range h]; simp
  · rw [List.getElem?_eq_none (by simpa using h)]; rfl
/-- a loop over 0 .. n - 1, whatever it hands out -/
theorem w_ix {g : WG} {w : WS} {Q : KS} {Qx : KX} {α : Type} (enc : Nat → D) (I : Nat → α → Prop) (f : α → EnvD) (gs : α → Sto) (a : α) {n : Nat} {env : EnvD} {st : Sto} (he : env = f a) (hs : st = gs a) (h0 : I 0 a)
    (step : ∀ k a (N : EnvD → Sto → Prop), k < n → I k a → (∀ a', I (k + 1) a' → N (f a') (gs a')) → g (enc k) (f a) (gs a) fun e s => w e s (Turn1 N Q) Qx)
    (out : ∀ a, I n a → Q .nx (f a) (gs a)) : wTurns g w Q Qx ((List.range n).map enc) env st := by
  refine w_each enc (fun done a => I done.length a) f gs (List.range n) a he hs h0 ?_ (fun a h => out a (by simpa using h))
  intro done b rest a N e h hN
  have hl : done.length < n := by
    have := congrArg List.length e
    simp at this; omega
  have hb : b = done.length := by
    have q : (List.range n)[done.length]? = some b := by rw [e, List.getElem?_append_right (Nat.le_refl _), Nat.sub_self]; rfl
    rw [List.getElem?_range hl] at q
    exact (Option.some.inj q).symm
  subst hb
  exact step _ a N hl h fun a' h' => hN a' (by simpa using h')
theorem rangeD_ix (n : Nat) : rangeD 0 n = (List.range n).map nI := by
  unfold rangeD
  exact List.map_congr_left fun i _ => by simp [nI]
theorem set_nI (b d : Nat) (F : Nat → Nat) (x : Nat) : ((List.range b).map fun f => nI (F f)).set d (nI x) = (List.range b).map fun f => nI (if f = d then x else F f) := by
  rw [set_range]
  apply List.map_congr_left
  intro f _
  by_cases h : f = d <;> simp [h]
theorem mod_lt {d : Nat} (hd : 0 < d) (x : Int) : ∃ j : Nat, x % (d : Int) = (j : Int) ∧ j < d := by
  have h0 := Int.emod_nonneg x (show (d : Int) ≠ 0 by omega)
  have h1 := Int.emod_lt_of_pos x (show (0 : Int) < d by omega)
  exact ⟨(x % (d : Int)).toNat, by omega, by omega⟩
end VL

/-! The value layer: slices of lists by steps. -/
namespace VL
open PySem PySem.Spec PyProof.Rows L2
def pickL {α : Type} (xs : List α) (lo hi st : Option Int) : List α :=
  (sliceRange (sliceBounds lo hi st xs.length).1 (sliceBounds lo hi st xs.length).2.1 (sliceBounds lo hi st xs.length).2.2).filterMap (xs[·]?)
theorem pick_vals {xs : List V} {its : List Value} (r : Vals xs its) (lo hi st : Option Int) : Vals (pickL xs lo hi st) (slicePick its.toArray lo hi st).toList := by
  unfold pickL slicePick
  rw [List.size_toArray, ← r.length]
  generalize sliceRange _ _ _ = ks
  induction ks with
  | nil => exact .nil
  | cons k ks ih =>
    rw [List.filterMap_cons, List.filterMap_cons]
    cases e : xs[k]? with
    | none =>
      have : its.toArray[k]? = none := by
        rw [List.getElem?_toArray, List.getElem?_eq_none_iff, ← r.length]
        exact List.getElem?_eq_none_iff.mp e
      rw [this]; exact ih
    | some v =>
      obtain ⟨u, hu, ru⟩ := r.get e
      have : its.toArray[k]? = some u := by rw [List.getElem?_toArray]; exact hu
      rw [this]
      exact .cons ru ih
theorem pick_reps {K : KC} {G : Hp} {ι : List Addr} {xs : List V} {ds : List D} (r : Reps K G ι xs ds) (lo hi st : Option Int) : Reps K G ι (pickL xs lo hi st) (pickL ds lo hi st) := by
  unfold pickL
  rw [r.len]
  generalize sliceRange _ _ _ = ks
  induction ks with
  | nil => exact .nil
  | cons k ks ih =>
    rw [List.filterMap_cons, List.filterMap_cons]
    cases e : ds[k]? with
    | none =>
      have : xs[k]? = none := by
        rw [List.getElem?_eq_none_iff, r.len]
        exact List.getElem?_eq_none_iff.mp e
      rw [this]; exact ih
    | some d =>
      obtain ⟨v, hv, rv⟩ := r.get e
      rw [hv]
      exact .cons rv ih
def tSlG (K : PySem.W.Frag) (te : TE) (tl th ts : TO) : TE := fun σ H Q => te σ H fun x H1 => tl σ H1 fun l H2 => th σ H2 fun u H3 => ts σ H3 fun o H4 => ∃ a xs, x = .ref a ∧ SqL K H4 a xs ∧ o ≠ some 0 ∧ ∀ p, H4 p = none → Q (.ref p) (upd H4 p (.lst (pickL xs l u o)))
theorem pe_slcG {X : Cx} {e st : Expr} {lo hi : Option Expr} {te : TE} {tl th ts : TO} {p3 pos : Pos} (he : PE X e te) (hl : PO X lo tl) (hu : PO X hi th) (hs : PO X (some st) ts) : PE X (.Subscript e (.Slice lo hi (some st) p3) pos) (tSlG X.K te tl th ts) := by
  refine ⟨fun pins s σ H Q I h => ?_⟩
  refine Subscript_ (thn (he.run pins s σ H _ I h) fun v s1 ⟨x, H1, I1, r1, q1⟩ => ?_)
  refine wpAny_Slice (thn (hl.run pins s1 σ H1 _ I1 q1) fun vl s2 ⟨l, H2, I2, pl, q2⟩ => thn (hu.run pins s2 σ H2 _ I2 q2) fun vu s3 ⟨u, H3, I3, pu, q3⟩ => thn (hs.run pins s3 σ H3 _ I3 q3) fun vs s4 ⟨o, H4, I4, ps, q4⟩ => ?_)
  obtain ⟨a, xs, ex, hx, h0, q⟩ := q4
  subst ex
  cases r1
  have I5 : Inv X pins σ H4 { s4 with heap := s4.heap.push { cls := .type "slice", data := .fields #[vl, vu, vs] } } := I4.kept (t' := s4.toks) fun b ob q => Heap.get?_push_of_some _ q
  obtain ⟨its, r, ht, hz⟩ := I5.list hx
  have hlen := r.length
  show wpAny (model X.prog X.w) X.A (subscriptTail e (.Slice lo hi (some st) p3) (.ref a) (.ref s4.heap.objs.size)) (EP X pins σ Q) X.xe { s4 with heap := s4.heap.push { cls := .type "slice", data := .fields #[vl, vu, vs] } }
  refine tail_any (ops := [.ref a, .ref s4.heap.objs.size]) ht.isList.typeIs (PySem.slot_list_getitem.lookup) ?_ (by with_unfolding_all rfl)
  refine wpAny_getItem_list_slice ht.isList (Heap.IsSliceOf.new _ vl vu vs) pl pu ps h0 ?_ (by rw [List.size_toArray]; omega)
  have rv := pick_vals r l u o
  have hl2 : (pickL xs l u o).length ≤ sizeLine := by
    rw [rv.length, Array.length_toList]
    refine Nat.le_trans (slicePick_size_le _ _ _ _) ?_
    rw [List.size_toArray]; omega
  refine ⟨.ref _, _, I5.laid (t' := s4.toks) (o := .lst (pickL xs l u o)) (fun b ob q => Heap.get?_push_of_some _ q) (Nat.le_refl _) ?_, rfl, q _ (I5.hok.fresh (Nat.le_refl _))⟩
  exact ⟨hl2, _, 0, rv, by rw [Array.toArray_toList]; exact Heap.get?_push_size _ rfl⟩
section
variable {X : Cx} {C : Ctx} {lk : Lks} {pos p2 : Pos} {a st : Expr} {lo hi : Option Expr} {wa : WO} {wl wh wt : WSl}
def kSlG (l h o : Option Int) (P : D → Prop) (d : D) : Prop := match d with | .lst xs => o ≠ some 0 ∧ P (.lst (pickL xs l h o)) | _ => False
/-- xs[a:b:c] of a list -/
def wSlG (wa : WO) (wl wh wt : WSl) : WE := fun env st Q Qx => wa env st (fun r1 e1 s1 => wl e1 s1 (fun l e2 s2 => wh e2 s2 (fun h e3 s3 => wt e3 s3 (fun o e4 s4 => r1.get e4 (kSlG l h o fun d => Q d e4 s4)) Qx) Qx) Qx) Qx
theorem f_slg (eK : X.K = C.K) (ha : PE X a (liftO C lk wa)) (hl : PO X lo (liftSl C lk wl)) (hh : PO X hi (liftSl C lk wh)) (ht : PO X (some st) (liftSl C lk wt)) : PE X (.Subscript a (.Slice lo hi (some st) p2) pos) (liftF C lk (wSlG wa wl wh wt)) := PEi (pe_slcG ha hl hh ht) (by
  rintro σ H Q ⟨G, ι, env, st, P, Px, hR, hw, hQ, hX⟩
  refine ⟨G, ι, env, st, _, Px, hR, hw, fun r1 e1 s1 G1 ι1 x H1 p1 g1 R1 rep1 => ?_, hX⟩
  refine ⟨G1, ι1, e1, s1, _, Px, R1, p1, fun l e2 s2 G2 ι2 H2 p2 g2 R2 => ?_, hX.mono g1⟩
  refine ⟨G2, ι2, e2, s2, _, Px, R2, p2, fun h e3 s3 G3 ι3 H3 p3 g3 R3 => ?_, (hX.mono g1).mono g2⟩
  refine ⟨G3, ι3, e3, s3, _, Px, R3, p3, fun o e4 s4 G4 ι4 H4 p4 g4 R4 => ?_, ((hX.mono g1).mono g2).mono g3⟩
  obtain ⟨d, p5, b⟩ := R4.bor (rep1.mono ((g2.trans g3).trans g4).sub ((g2.trans g3).trans g4).pre) p4
  cases d with
  | lst ds =>
    obtain ⟨q, xs, rfl, h1, q1⟩ := b.lst R4
    refine ⟨q, xs, rfl, .of h1, p5.1, fun z hz => ?_⟩
    obtain ⟨r, ow, n⟩ := newFresh (d := .lst (pickL ds l h o)) R4 hz (.lst (pick_reps q1 l h o)) True.intro
    exact hQ _ e4 s4 G4 ι4 _ _ p5.2 (((g1.trans g2).trans g3).trans g4) r ow n
  | _ => exact p5.elim)
variable {env : EnvD} {s : Sto} {Q : KE} {Qx : KX}
theorem q_slg {wa : WO} {wl wh wt : WSl} : wSlG wa wl wh wt env s Q Qx = wa env s (fun r1 e1 s1 => wl e1 s1 (fun l e2 s2 => wh e2 s2 (fun h e3 s3 => wt e3 s3 (fun o e4 s4 => r1.get e4 (kSlG l h o fun d => Q d e4 s4)) Qx) Qx) Qx) Qx := rfl
def pPick (xs : List D) (l h o : Option Int) (P : D → Prop) (_ : Pin P) : Prop := o ≠ some 0 ∧ P (.lst (pickL xs l h o))
theorem q_slg1 {l h o : Option Int} {P : D → Prop} {xs : List D} : kSlG l h o P (.lst xs) = pPick xs l h o P .mk := rfl
end
theorem range_back (n : Nat) : sliceRange ((n : Int) - 1) 0 (-1) = ((List.range n).drop 1).reverse := by
  unfold sliceRange
  rw [if_neg (by decide)]
  cases n with
  | zero => rfl
  | succ m =>
    by_cases h : m = 0
    · subst h; rfl
    · have e1 : (((m + 1 : Nat) : Int) - 1 - 0 - -1 - 1) / -(-1) = (m : Int) := by
        rw [show (-(-1) : Int) = 1 by decide, Int.ediv_one]; omega
      rw [if_pos (by omega), e1]
      show List.map _ (List.range ((m : Int)).toNat) = _
      rw [Int.toNat_natCast]
      apply List.ext_getElem?
      intro i
      rw [List.getElem?_map]
      by_cases hi : i < m
      · rw [List.getElem?_range hi, List.getElem?_reverse (by simp; omega), List.getElem?_drop, List.length_drop, List.length_range, List.getElem?_range (by omega)]
        simp only [Option.map_some]
        congr 1
        omega
      · rw [List.getElem?_eq_none (by simpa using hi), List.getElem?_eq_none (by simp; omega)]; rfl
theorem filterMap_range {α : Type} (xs : List α) (ks : List Nat) (h : ∀ k ∈ ks, k < xs.length) : (ks.filterMap (xs[·]?)).length = ks.length ∧ ∀ i : Nat, (ks.filterMap (xs[·]?))[i]? = (ks[i]?).bind (xs[·]?) := by
  induction ks with
  | nil => exact ⟨rfl, fun i => by simp⟩
  | cons k ks ih =>
    have hk := h k (by simp)
    obtain ⟨h1, h2⟩ := ih fun j hj => h j (by simp [hj])
    rw [List.filterMap_cons, List.getElem?_eq_getElem hk]
    refine ⟨by simp [h1], fun i => ?_⟩
    cases i with
    | zero => simp [List.getElem?_eq_getElem hk]
    | succ i => simpa using h2 i
theorem pick_back {α : Type} (xs : List α) : pickL xs none (some 0) (some (-1)) = (xs.drop 1).reverse := by
  unfold pickL
  have e : sliceBounds none (some 0) (some (-1)) xs.length = ((xs.length : Int) - 1, max (-1) (min 0 ((xs.length : Int) - 1)), -1) := rfl
  rw [e]
  dsimp only
  cases xs with
  | nil => rfl
  | cons x xs =>
    rw [show max (-1) (min 0 (((x :: xs).length : Int) - 1)) = 0 by simp only [List.length_cons]; omega, range_back]
    obtain ⟨h1, h2⟩ := filterMap_range (x :: xs) ((List.range (x :: xs).length).drop 1).reverse (fun k hk => by
      rw [List.mem_reverse] at hk
      exact List.mem_range.mp (List.mem_of_mem_drop hk))
    apply List.ext_getElem?
    intro i
    rw [h2]
    by_cases hi : i < xs.length
    · rw [List.getElem?_reverse (by simpa using hi), List.getElem?_reverse (by simpa using hi), List.getElem?_drop, List.getElem?_drop]
      simp only [List.length_drop, List.length_range, List.length_cons]
      rw [List.getElem?_range (by omega)]
      rfl
    · rw [List.getElem?_eq_none (by simpa using hi), List.getElem?_eq_none (by simpa using hi)]; rfl
end VL

/-! The value layer: dicts in the store, by handle. -/
namespace VL
open PySem PySem.Spec PyProof.Rows L2
section
variable {X : Cx} {C : Ctx} {lk' : Lks} {pos : Pos} {a b : Expr} {wa wb : WO}
def dGetS (st : Sto) : D → D → (Option D → Prop) → Prop
  | .hnd n, k, P => match st[n]? with
    | some (.dat d) => dGet d k P
    | _ => False
  | d, k, P => dGet d k P
theorem dGetS_ok {G : Hp} {ι : List Addr} {env : EnvD} {st : Sto} {σ : L2.St} {H : Hp} {x y : V} {d e : D} {P : Option D → Prop} (hR : R C lk' G ι env st σ H) (b1 : Bor C.K G ι H x d) (b2 : Bor C.K G ι H y e) (h : dGetS st d e P) :
    ∃ a o u, x = .ref a ∧ DGet H a y o ∧ RelOD C.K G ι o u ∧ P u := by
  unfold dGetS at h
  split at h
  · split at h
    · rename_i d es
      obtain ⟨l, rfl, hl⟩ := b1.hnd
      obtain ⟨o, h1, h2⟩ := hR.sto _ _ _ hl es
      cases h2 with
      | dat q m => exact dGet_ok hR (.inr ⟨l, o, rfl, h1, m, q⟩) b2 h
    · exact h.elim
  · exact dGet_ok hR b1 b2 h
/-- d[k], d a handle or not -/
def wIxS (wa wb : WO) : WE := fun env st Q Qx => wa env st (fun r1 e1 s1 => wb e1 s1 (fun r2 e2 s2 => r1.get e2 fun d1 => r2.get e2 fun d2 => dGetS s2 d1 d2 fun o => match o with
  | some d => Q d e2 s2
  | none => False) Qx) Qx
theorem e_ixS (hu : X.A.units + 1 < cLine) (ha : PE X a (liftO C lk' wa)) (hb : PE X b (liftO C lk' wb)) (hs : PlainIx b := by intro _ _; rfl) : PE X (.Subscript a b pos) (liftE C lk' (wIxS wa wb)) :=
  PEi (pe_ix (ix_dict hu) ha hb hs) (by
  rintro σ H Q ⟨G, ι, env, st, P, Px, hR, hw, hQ, hX⟩
  refine ⟨G, ι, env, st, _, Px, hR, hw, fun r1 e1 s1 G1 ι1 x H1 p1 g1 R1 rep1 => ?_, hX⟩
  refine ⟨G1, ι1, e1, s1, _, Px, R1, p1, fun r2 e2 s2 G2 ι2 y H2 p2 g2 R2 rep2 => ?_, hX.mono g1⟩
  obtain ⟨d1, p2, b1⟩ := R2.bor (rep1.mono g2.sub g2.pre) p2
  obtain ⟨d2, p2, b2⟩ := R2.bor rep2 p2
  obtain ⟨l, o, u, rfl, g, ro, p3⟩ := dGetS_ok R2 b1 b2 p2
  cases u with
  | none => exact p3.elim
  | some d =>
    cases o with
    | none => exact ro.elim
    | some v => exact ⟨l, v, rfl, g, hQ d e2 s2 G2 ι2 v H2 p3 (g1.trans g2) R2 ro⟩)
/-! ### in -/
def inS (st : Sto) (d e : D) (P : D → Prop) : Prop := dGetS st e d fun o => P (.bl o.isSome)
def ninS (st : Sto) (d e : D) (P : D → Prop) : Prop := dGetS st e d fun o => P (.bl (!o.isSome))
def wBinS (f : Sto → D → D → (D → Prop) → Prop) (wa wb : WO) : WE := fun env st Q Qx => wa env st (fun r1 e1 s1 => wb e1 s1 (fun r2 e2 s2 => r1.get e2 fun d1 => r2.get e2 fun d2 => f s2 d1 d2 fun d => Q d e2 s2) Qx) Qx
def Op2S (C : Ctx) (r : R2) (f : Sto → D → D → (D → Prop) → Prop) : Prop := ∀ lk G ι env st σ H x y d1 d2 P (Q : VK), R C lk G ι env st σ H → Bor C.K G ι H x d1 → Bor C.K G ι H y d2 → f st d1 d2 P → KV1 C lk G ι env st σ P Q → r x y H Q
theorem opLiftS {r : R2} {f : Sto → D → D → (D → Prop) → Prop} (hf : Op2S C r f) {σ : L2.St} {H : Hp} {Q : VK} (h : liftE C lk' (wBinS f wa wb) σ H Q) : tOp r (liftO C lk' wa) (liftO C lk' wb) σ H Q := by
  obtain ⟨G, ι, env, st, P, Px, hR, hw, hQ, hX⟩ := h
  refine ⟨G, ι, env, st, _, Px, hR, hw, fun r1 e1 s1 G1 ι1 x H1 p1 g1 R1 rep1 => ?_, hX⟩
  refine ⟨G1, ι1, e1, s1, _, Px, R1, p1, fun r2 e2 s2 G2 ι2 y H2 p2 g2 R2 rep2 => ?_, hX.mono g1⟩
  obtain ⟨d1, p2, b1⟩ := R2.bor (rep1.mono g2.sub g2.pre) p2
  obtain ⟨d2, p2, b2⟩ := R2.bor rep2 p2
  exact hf lk' G2 ι2 e2 s2 σ H2 x y d1 d2 _ Q R2 b1 b2 p2 fun d G3 v H3 p g3 R3 rep3 => hQ d e2 s2 G3 ι2 v H3 p ((g1.trans g2).trans g3) R3 rep3
theorem op2_inS : Op2S C (fun x y H Q => ∃ a o, y = .ref a ∧ DGet H a x o ∧ Q (.bl o.isSome) H) inS := by
  intro lk' G ι env st σ H x y d1 d2 P Q hR b1 b2 hf k
  obtain ⟨a, o, u, rfl, g, ro, p⟩ := dGetS_ok hR b2 b1 hf
  exact ⟨a, o, rfl, g, by rw [ro.isSome]; exact k _ G _ H p .refl hR .bl⟩
theorem op2_ninS : Op2S C (fun x y H Q => ∃ a o, y = .ref a ∧ DGet H a x o ∧ Q (.bl (!o.isSome)) H) ninS := by
  intro lk' G ι env st σ H x y d1 d2 P Q hR b1 b2 hf k
  obtain ⟨a, o, u, rfl, g, ro, p⟩ := dGetS_ok hR b2 b1 hf
  exact ⟨a, o, rfl, g, by rw [ro.isSome]; exact k _ G _ H p .refl hR .bl⟩
abbrev wInS := wBinS inS
abbrev wNinS := wBinS ninS
theorem e_inS (hu : X.A.units + 1 < cLine) (ha : PE X a (liftO C lk' wa)) (hb : PE X b (liftO C lk' wb)) (hm : behindInMarks .In b = false := by rfl) : PE X (.Compare a [.In] [b] pos) (liftE C lk' (wInS wa wb)) :=
  PEi (pe_cmpR (op_dIn hu) ha hb hm) fun σ H Q h => opLiftS op2_inS h
theorem t_inS (hu : X.A.units + 1 < cLine) (ha : PE X a (liftO C lk' wa)) (hb : PE X b (liftO C lk' wb)) (hm : behindInMarks .In b = false := by rfl) : PT X (.Compare a [.In] [b] pos) (liftB C lk' (wT (wInS wa wb))) :=
  PTi (pt_cmpR (op_dIn hu) ha hb hm) fun σ H Q h => tstLift (t := tOp _ (liftO C lk' wa) (liftO C lk' wb)) (fun σ H Q h => opLiftS op2_inS h) h
theorem e_ninS (hu : X.A.units + 1 < cLine) (ha : PE X a (liftO C lk' wa)) (hb : PE X b (liftO C lk' wb)) (hm : behindInMarks .NotIn b = false := by rfl) : PE X (.Compare a [.NotIn] [b] pos) (liftE C lk' (wNinS wa wb)) :=
  PEi (pe_cmpR (op_dNotIn hu) ha hb hm) fun σ H Q h => opLiftS op2_ninS h
theorem t_ninS (hu : X.A.units + 1 < cLine) (ha : PE X a (liftO C lk' wa)) (hb : PE X b (liftO C lk' wb)) (hm : behindInMarks .NotIn b = false := by rfl) : PT X (.Compare a [.NotIn] [b] pos) (liftB C lk' (wT (wNinS wa wb))) :=
  PTi (pt_cmpR (op_dNotIn hu) ha hb hm) fun σ H Q h => tstLift (t := tOp _ (liftO C lk' wa) (liftO C lk' wb)) (fun σ H Q h => opLiftS op2_ninS h) h
/-! ### d.get(k) -/
def isDictS (st : Sto) (r : DR) (env : EnvD) : Prop := r.get env fun d => match d with
  | .hnd n => (match st[n]? with
    | some (.dat (.dI _)) => True
    | some (.dat (.dT _)) => True
    | _ => False)
  | .dI _ => True
  | .dT _ => True
  | _ => False
variable {o : Expr} {wo : WO} {we we2 : WE} {apos cpos : Pos}
def wGetS (wo : WO) (wa : WE) : WE := fun env st Q Qx => wo env st (fun r e1 s1 => isDictS s1 r e1 ∧ wa e1 s1 (fun k e2 s2 => r.get e2 fun d => dGetS s2 d k fun o => Q (o.getD .non) e2 s2) Qx) Qx
theorem isDictS_ok {G : Hp} {ι : List Addr} {env : EnvD} {st : Sto} {σ : L2.St} {H : Hp} {v : V} {r : DR} (hR : R C lk' G ι env st σ H) (h : DRel C.K G ι σ r v) (g : isDictS st r env) : ∃ a, v = .ref a ∧ IsD H a := by
  obtain ⟨d, g, b⟩ := hR.bor h g
  cases d with
  | dI kvs =>
    obtain ⟨a, xs, rfl, h, _⟩ := b.dI hR
    exact ⟨a, rfl, .inl ⟨xs, h⟩⟩
  | dT kvs =>
    obtain ⟨a, xs, rfl, h, _⟩ := b.dT hR
    exact ⟨a, rfl, .inr ⟨xs, h⟩⟩
  | hnd n =>
    obtain ⟨l, rfl, hl⟩ := b.hnd
    dsimp only at g
    split at g
    · rename_i kvs es
      obtain ⟨o, h1, h2⟩ := hR.sto _ _ _ hl es
      cases h2 with
      | dat q m =>
        obtain ⟨a, xs, e, h, _⟩ := Bor.dI hR (.inr ⟨l, o, rfl, h1, m, q⟩)
        exact ⟨a, e, .inl ⟨xs, h⟩⟩
    · rename_i kvs es
      obtain ⟨o, h1, h2⟩ := hR.sto _ _ _ hl es
      cases h2 with
      | dat q m =>
        obtain ⟨a, xs, e, h, _⟩ := Bor.dT hR (.inr ⟨l, o, rfl, h1, m, q⟩)
        exact ⟨a, e, .inr ⟨xs, h⟩⟩
    · exact g.elim
  | _ => exact g.elim
theorem e_getS {k : Expr} (hu : X.A.units + 1 < cLine) (ho : PE X o (liftO C lk' wo)) (ha : PE X k (liftE C lk' we)) (m : M1 X o "get" apos k cpos) : PE X (.Call (.Attribute o "get" apos) [k] [] cpos) (liftE C lk' (wGetS wo we)) := PEi (pe_dget1 hu ho ha m) (by
  rintro σ H Q ⟨G, ι, env, st, P, Px, hR, hw, hQ, hX⟩
  refine ⟨G, ι, env, st, _, Px, hR, hw, fun r1 e1 s1 G1 ι1 v H1 p1 g1 R1 rp1 => ?_, hX⟩
  obtain ⟨l, rfl, hd⟩ := isDictS_ok R1 rp1 p1.1
  refine ⟨l, rfl, hd, G1, ι1, e1, s1, _, Px, R1, p1.2, fun k e2 s2 G2 ι2 y H2 p2 g2 R2 rp2 => ?_, hX.mono g1⟩
  obtain ⟨d, p2, b⟩ := R2.bor (rp1.mono g2.sub g2.pre) p2
  obtain ⟨a', o, u, e, gd, ro, p⟩ := dGetS_ok R2 b (.inl rp2) p2
  cases e
  exact ⟨o, gd, hQ _ e2 s2 G2 ι2 _ H2 p (g1.trans g2) R2 (ro.getD .non)⟩)
/-! ### a new dict in the store -/
def wHdI : WE := fun env st Q _ => Q (.hnd st.length) env (st ++ [.dat (.dI [])])
def wHdT : WE := fun env st Q _ => Q (.hnd st.length) env (st ++ [.dat (.dT [])])
theorem e_hdI : PE X (.Dict [] [] pos) (liftE C lk' wHdI) := PEi pe_dnewK (by
  rintro σ H Q ⟨G, ι, env, st, P, Px, hR, hw, hQ, hX⟩ q hq
  obtain ⟨r2, g2⟩ := hR.newSto (x := .dat (.dI [])) (o := .dK []) hq (.dat (.dI .nil) True.intro)
  refine hQ _ env _ G _ _ _ hw g2 r2 (.hnd ?_)
  rw [hR.slen, List.getElem?_append_right (Nat.le_refl _)]; simp)
theorem e_hdT : PE X (.Dict [] [] pos) (liftE C lk' wHdT) := PEi pe_dnewT (by
  rintro σ H Q ⟨G, ι, env, st, P, Px, hR, hw, hQ, hX⟩ q hq
  obtain ⟨r2, g2⟩ := hR.newSto (x := .dat (.dT [])) (o := .dT []) hq (.dat (.dT .nil) True.intro)
  refine hQ _ env _ G _ _ _ hw g2 r2 (.hnd ?_)
  rw [hR.slen, List.getElem?_append_right (Nat.le_refl _)]; simp)
end
/-! ### steps -/
section
variable {env : EnvD} {st : Sto} {Q : KE} {Qx : KX}
def pGetS (st : Sto) (d k : D) (P : Option D → Prop) (_ : Pin P) : Prop := dGetS st d k P
def kHas (Q : D → Prop) (o : Option D) : Prop := match o with
  | some d => Q d
  | none => False
theorem q_ixS {wa wb : WO} : wIxS wa wb env st Q Qx = wa env st (fun r1 e1 s1 => wb e1 s1 (fun r2 e2 s2 => r1.get e2 fun d1 => r2.get e2 fun d2 => pGetS s2 d1 d2 (kHas fun d => Q d e2 s2) .mk) Qx) Qx := rfl
theorem q_inS {wa wb : WO} : wInS wa wb env st Q Qx = wa env st (fun r1 e1 s1 => wb e1 s1 (fun r2 e2 s2 => r1.get e2 fun d1 => r2.get e2 fun d2 => pGetS s2 d2 d1 (fun o => Q (.bl o.isSome) e2 s2) .mk) Qx) Qx := rfl
theorem q_ninS {wa wb : WO} : wNinS wa wb env st Q Qx = wa env st (fun r1 e1 s1 => wb e1 s1 (fun r2 e2 s2 => r1.get e2 fun d1 => r2.get e2 fun d2 => pGetS s2 d2 d1 (fun o => Q (.bl (!o.isSome)) e2 s2) .mk) Qx) Qx := rfl
theorem q_getS {wo : WO} {wa : WE} : wGetS wo wa env st Q Qx = wo env st (fun r e1 s1 => isDictS s1 r e1 ∧ wa e1 s1 (fun k e2 s2 => r.get e2 fun d => pGetS s2 d k (fun o => Q (o.getD .non) e2 s2) .mk) Qx) Qx := rfl
theorem q_kHas {P : D → Prop} {d : D} : kHas P (some d) = P d := rfl
/-- a dict of whole keys stands at n -/
theorem getS_int {n : Nat} {kvs : List (Int × D)} {k : Int} {P : Option D → Prop} {p} (h : st[n]? = some (.dat (.dI kvs))) (hp : P (lk kvs k)) : pGetS st (.hnd n) (.int k) P p := by
  unfold pGetS dGetS; dsimp only; rw [h]; exact hp
theorem getS_tup {n : Nat} {kvs : List (List Int × D)} {k : List Int} {P : Option D → Prop} {p} (h : st[n]? = some (.dat (.dT kvs))) (hp : P (lk kvs k)) : pGetS st (.hnd n) (.tup (k.map .int)) P p := by
  unfold pGetS dGetS; dsimp only; rw [h]; dsimp only; unfold dGet; dsimp only; rw [keyInts_map]; exact hp
end
end VL

/-! The value layer: a loop over the keys of a dict that stands in a slot; the dict is locked meanwhile. -/
namespace VL
open PySem PySem.Spec PyProof.Rows L2
section
variable {X : Cx} {C : Ctx} {lk : Lks} {pos : Pos}
theorem for_it2 {g : WG} {w : WS} {E : Ends} {σ : L2.St} {H' : Hp} {G' : Hp} {ι' : List Addr} {e : EnvD} {s : Sto} {P : KS} {Px : KX} {ds : List D} {J : It} (r : R C lk G' ι' e s σ H') (p : wTurns g w P Px ds e s) (hS : SOk C lk G' ι' P E) (hX : XOk C lk G' ι' Px) (it : ItOk C lk G' ι' J ds) :
    tFor (fun _ H Rk => Rk J H) (liftG C lk none g) (liftS C lk w) E σ H' := by
  have gr : Grow C G' ι' G' ι' := .refl
  obtain ⟨Gd, Y, W, hG, hY⟩ := it.ex
  refine for_it W (fun i σ H => ∃ G2 ι2 e2 s2, Grow C G' ι' G2 ι2 ∧ R C lk G2 ι2 e2 s2 σ H ∧ wTurns g w P Px (ds.drop i) e2 s2) ⟨G', ι', e, s, .refl, r, p⟩ (fun i σ H _ ⟨G2, ι2, e2, s2, g2, r2, _⟩ => hG G2 ι2 e2 s2 σ H g2 r2) ?_ ?_
  · rintro i x σ1 H1 H2 hi ⟨G2, ι2, e2, s2, g2, r2, p2⟩ y
    obtain ⟨G3, g3, r3, ⟨d, hd, rp⟩, _⟩ := hY i G2 ι2 e2 s2 σ1 H1 x H2 hi g2 r2 y
    have hdrop : ds.drop i = d :: ds.drop (i + 1) := by
      rw [List.drop_eq_getElem_cons hi]
      congr 1
      exact (List.getElem?_eq_some_iff.mp hd).2
    rw [hdrop] at p2
    refine ⟨G3, ι2, e2, s2, _, d, r3, rp, p2, fun e4 s4 σ4 H4 G4 ι4 p4 g4 r4 _ => ?_⟩
    have gg := ((gr.trans g2).trans g3).trans g4
    have nxt : ∀ env st G' ι'' σ H, wTurns g w P Px (ds.drop (i + 1)) env st → Grow C G4 ι4 G' ι'' → R C lk G' ι'' env st σ H → ∃ G2 ι2 e2 s2, Grow C _ ι' G2 ι2 ∧ R C lk G2 ι2 e2 s2 σ H ∧ wTurns g w P Px (ds.drop (i + 1)) e2 s2 := fun env st G' ι'' σ H p g r => ⟨G', ι'', env, st, ((g2.trans g3).trans g4).trans g, r, p⟩
    exact ⟨G4, ι4, e4, s4, _, Px, r4, p4, ⟨fun env st G' ι' σ H p g r => nxt env st G' ι' σ H p g r, fun env st G' ι' σ H p g r => hS.nx env st G' ι' σ H p (gg.trans g) r, fun env st G' ι' σ H p g r => nxt env st G' ι' σ H p g r,
      fun d env st G' ι' σ H v p g r q => hS.rt d env st G' ι' σ H v p (gg.trans g) r q⟩, hX.mono gg⟩
  · rintro σ1 H1 ⟨G2, ι2, e2, s2, g2, r2, p2⟩
    rw [List.drop_length] at p2
    exact hS.nx e2 s2 G2 ι2 σ1 H1 p2 (gr.trans g2) r2
theorem ps_lockA {st : Stmt} {t : Addr → Obj → HO → TS} (h : ∀ d od u, PS X st (t d od u)) : PS X st (fun D σ H => ∃ d u, H d = some u ∧ Mut (some u) ∧ ∀ od, t d od u ⟨fun σ' H' => H' d = some (.frz od u) ∧ D.nx σ' (upd H' d u), fun v H' => H' d = some (.frz od u) ∧ D.rt v (upd H' d u), fun σ' H' => H' d = some (.frz od u) ∧ D.bk σ' (upd H' d u), fun σ' H' => H' d = some (.frz od u) ∧ D.ct σ' (upd H' d u)⟩ σ (upd H d (.frz od u))) := by
  refine ⟨fun pins s σ H D I hw => ?_⟩
  obtain ⟨d, u, hd, mu, hw⟩ := hw
  obtain ⟨od, I1⟩ := I.lock hd mu
  refine thn ((h d od u).run pins s σ _ _ I1 (hw od)) fun f s1 q => ?_
  cases f with
  | next => obtain ⟨σ', H', I2, e, q⟩ := q; exact ⟨σ', _, I2.unlock e (I.nofrz hd mu), q⟩
  | brk => obtain ⟨σ', H', I2, e, q⟩ := q; exact ⟨σ', _, I2.unlock e (I.nofrz hd mu), q⟩
  | cont => obtain ⟨σ', H', I2, e, q⟩ := q; exact ⟨σ', _, I2.unlock e (I.nofrz hd mu), q⟩
  | ret v => obtain ⟨x, σ', H', I2, r, e, q⟩ := q; exact ⟨x, σ', _, I2.unlock e (I.nofrz hd mu), r, q⟩
theorem ps_or {st : Stmt} {t1 t2 : TS} (h1 : PS X st t1) (h2 : PS X st t2) : PS X st (fun D σ H => t1 D σ H ∨ t2 D σ H) :=
  ⟨fun pins s σ H D I hw => hw.elim (h1.run pins s σ H D I) (h2.run pins s σ H D I)⟩
theorem ps_ex {st : Stmt} {α : Type} {t : α → TS} (h : ∀ a, PS X st (t a)) : PS X st (fun D σ H => ∃ a, t a D σ H) :=
  ⟨fun pins s σ H D I ⟨a, hw⟩ => (h a).run pins s σ H D I hw⟩
variable {G : Hp} {ι : List Addr} {env : EnvD} {st : Sto} {σ : L2.St} {H : Hp}
theorem nofrzD {u : HO} {o : Obj} {w : HO} (h : isD u) (e : u = .frz o w) : False := by subst e; exact h
theorem R.lock {a : Addr} {u : HO} (o : Obj) (r : R C lk G ι env st σ H) (hg : G a = some u) (hh : H a = some u) (hd : isD u) : R C ((a, o, u) :: lk) G ι env st σ (upd H a (.frz o u)) := by
  have nl : ∀ o' w, (a, o', w) ∉ lk := fun o' w q => by
    have := (r.lkd a o' w q).1
    rw [hh] at this
    exact nofrzD hd (Option.some.inj this)
  refine ⟨r.len, fun b w q => ?_, fun b o' w q => ?_, fun b w q => ?_, fun j s q => ?_, r.inj, r.slen, fun n b x q1 q2 => ?_, r.sg, r.nd, fun b x w e1 e2 => by
    by_cases z : b = a
    · subst z; rw [upd_same] at e1; cases e1; exact .inl List.mem_cons_self
    · rw [upd_ne z] at e1; exact (r.lk2 b x w e1 e2).imp (List.mem_cons_of_mem _) id⟩
  · by_cases z : b = a
    · subst z
      rcases r.fF b w q with h | ⟨o', h⟩
      · rw [hh] at h; cases h; exact .inr ⟨o, List.mem_cons_self⟩
      · exact absurd h (nl o' w)
    · rw [upd_ne z]
      rcases r.fF b w q with h | ⟨o', h⟩
      · exact .inl h
      · exact .inr ⟨o', List.mem_cons_of_mem _ h⟩
  · rcases List.mem_cons.mp q with e | q
    · cases e; exact ⟨upd_same, hg, hd⟩
    · obtain ⟨h1, h2, h3⟩ := r.lkd b o' w q
      have z : b ≠ a := fun z => nl o' w (by rw [← z]; exact q)
      exact ⟨by rw [upd_ne z]; exact h1, h2, h3⟩
  · by_cases z : b = a
    · subst z; rw [hg] at q; cases q; exact .inr ⟨hd, o, upd_same⟩
    · rw [upd_ne z]; exact r.fG b w q
  · obtain ⟨v, q1, h⟩ := r.sl j s q
    refine ⟨v, q1, ?_⟩
    cases h with
    | sh h => exact .sh h
    | @ow d b h =>
      obtain ⟨⟨o', g1, g2, g3⟩, g4, g5, g6⟩ := h
      have z : b ≠ a := fun z => by subst z; rw [hg] at g4; cases g4
      exact .ow ⟨⟨o', by rw [upd_ne z]; exact g1, g2, g3⟩, g4, g5, g6⟩
  · obtain ⟨h, q3, q4⟩ := r.sto n b x q1 q2
    have z : b ≠ a := fun z => by
      have := (r.sg b (List.mem_of_getElem? q1)).1
      subst z; rw [hg] at this; cases this
    exact ⟨h, by rw [upd_ne z]; exact q3, q4⟩
theorem R.unlock {a : Addr} {u : HO} {o : Obj} (r : R C ((a, o, u) :: lk) G ι env st σ H) (nl : ∀ o' w, (a, o', w) ∉ lk) (hF : ∀ w, C.F a = some w → w = u) : R C lk G ι env st σ (upd H a u) := by
  obtain ⟨k1, k2, k3⟩ := r.lkd a o u List.mem_cons_self
  refine ⟨r.len, fun b w q => ?_, fun b o' w q => ?_, fun b w q => ?_, fun j s q => ?_, r.inj, r.slen, fun n b x q1 q2 => ?_, r.sg, r.nd, fun b x w e1 e2 => by
    by_cases z : b = a
    · subst z; rw [upd_same] at e1; rw [k2] at e2; rw [Option.some.inj e1] at k3; exact k3.elim
    · rw [upd_ne z] at e1
      rcases r.lk2 b x w e1 e2 with h | h
      · rcases List.mem_cons.mp h with e | h
        · cases e; exact absurd rfl z
        · exact .inl h
      · exact .inr h⟩
  · by_cases z : b = a
    · subst z
      rcases r.fF b w q with h | ⟨o', h⟩
      · rw [k1] at h; cases h
        exact (nofrzD k3 (hF _ q).symm).elim
      · rcases List.mem_cons.mp h with e | h
        · cases e; exact .inl upd_same
        · exact absurd h (nl o' w)
    · rw [upd_ne z]
      rcases r.fF b w q with h | ⟨o', h⟩
      · exact .inl h
      · rcases List.mem_cons.mp h with e | h
        · cases e; exact absurd rfl z
        · exact .inr ⟨o', h⟩
  · obtain ⟨h1, h2, h3⟩ := r.lkd b o' w (List.mem_cons_of_mem _ q)
    have z : b ≠ a := fun z => nl o' w (by rw [← z]; exact q)
    exact ⟨by rw [upd_ne z]; exact h1, h2, h3⟩
  · by_cases z : b = a
    · subst z; rw [k2] at q; cases q; exact .inl upd_same
    · rw [upd_ne z]; exact r.fG b w q
  · obtain ⟨v, q1, h⟩ := r.sl j s q
    refine ⟨v, q1, ?_⟩
    cases h with
    | sh h => exact .sh h
    | @ow d b h =>
      obtain ⟨⟨o', g1, g2, g3⟩, g4, g5, g6⟩ := h
      have z : b ≠ a := fun z => by subst z; rw [k2] at g4; cases g4
      exact .ow ⟨⟨o', by rw [upd_ne z]; exact g1, g2, g3⟩, g4, g5, g6⟩
  · obtain ⟨h, q3, q4⟩ := r.sto n b x q1 q2
    have z : b ≠ a := fun z => by
      have := (r.sg b (List.mem_of_getElem? q1)).1
      subst z; rw [k2] at this; cases this
    exact ⟨h, by rw [upd_ne z]; exact q3, q4⟩
theorem R.nolk {a : Addr} {u : HO} (r : R C lk G ι env st σ H) (hh : H a = some u) (hd : isD u) : (∀ o' w, (a, o', w) ∉ lk) ∧ ∀ w, C.F a = some w → w = u := by
  have nl : ∀ o' w, (a, o', w) ∉ lk := fun o' w q => by
    have := (r.lkd a o' w q).1
    rw [hh] at this
    exact nofrzD hd (Option.some.inj this)
  refine ⟨nl, fun w q => ?_⟩
  rcases r.fF a w q with h | ⟨o', h⟩
  · rw [hh] at h; exact (Option.some.inj h).symm
  · exact absurd h (nl o' w)
/-- the keys of a dict of whole keys -/
def keysI (kvs : List (Int × D)) : List D := kvs.map fun kv => .int kv.1
def dictSl : Option (Option Slot) → Option (List (Int × D))
  | some (some (.ow (.dI kvs))) => some kvs
  | _ => none
/-- for .. in the dict that slot i owns: frozen from then on -/
def wForD (i : Nat) (g : WG) (w : WS) : WS := fun env st Q _ => match dictSl env[i]? with
  | some kvs => wTurns g w Q noX (keysI kvs) (env.set i (some (.sh (.dI kvs)))) st
  | none => False
theorem RepI.ats {K : KC} : ∀ {xs : List (Key × V)} {ds : List (Int × D)} {j : Nat} {k : Key} {v : V}, RepI K G ι xs ds → xs[j]? = some (k, v) → ∃ n : Int, k = .inl n ∧ (keysI ds)[j]? = some (.int n)
  | _, _, 0, _, _, .cons (k := n) h t, e => by cases e; exact ⟨n, rfl, rfl⟩
  | _, _, j + 1, _, _, .cons h t, e => RepI.ats (j := j) t (by rw [List.getElem?_cons_succ] at e; exact e)
theorem itKeys {a : Addr} {od : Obj} {xs : List (Key × V)} {ds : List (Int × D)} (hm : (a, od, HO.dK xs) ∈ lk) (hr : RepI C.K G ι xs ds) : ItOk C lk G ι (Itk a od xs) (keysI ds) := by
  have hl : (keysI ds).length = xs.length := by unfold keysI; rw [List.length_map, hr.len]
  refine ⟨fun H => H a = some (.frz od (.dK xs)), fun i H x H' => H' = H ∧ ∃ k v, xs[i]? = some (k, v) ∧ x = kV k, ⟨fun i H hi h => ⟨h, by omega⟩, fun H h => ⟨h, by omega⟩, fun i H x H' hi h y => y⟩, fun G' ι' env st σ H g r => (r.lkd _ _ _ hm).1, ?_⟩
  rintro i G' ι' env st σ H x H' hi g r ⟨rfl, k, v, hk, rfl⟩
  obtain ⟨n, rfl, hn⟩ := hr.ats hk
  exact ⟨G', .refl, r, ⟨_, hn, .int⟩, fun _ _ h => h, fun _ _ h => .inl h⟩
/-- the loop, the dict at a locked -/
def tiD (C : Ctx) (lk : Lks) (i : Nat) (a : Addr) (ks : List D) : TI := fun σ H Rk => σ[i]? = some (some (.ref a)) ∧ ∃ (od : Obj) (xs : List (Key × V)) , H a = some (.frz od (.dK xs)) ∧ Rk (Itk a od xs) H
theorem s_forD {tg e : Expr} {body : List Stmt} {g : WG} {w : WS} {i : Nat} (hp : PassesOwn (model X.prog X.w) X.A X.env X.xe) (hc : X.calm = true) (hv : PE X e (tVar i)) (hg : ∀ lk, PG X tg (liftG C lk none g)) (hb : ∀ lk, PSs X body (liftS C lk w))
    (hs : ∀ x, foldedSetIterable e X.env x = pure x := by intro _; rfl) : PS X (.For tg e body [] pos) (liftS C lk (wForD i g w)) := by
  have loop : ∀ lk', PS X (.For tg e body [] pos) (tFor (iKeys (tVar i)) (liftG C lk' none g) (liftS C lk' w)) := fun lk' => ps_for hp hc (pi_keys hv) (hg lk') (hb lk') hs
  refine PSi (ps_lockA (t := fun d od u => tFor (iKeys (tVar i)) (liftG C ((d, od, u) :: lk) none g) (liftS C ((d, od, u) :: lk) w)) fun d od u => loop _) ?_
  rintro E σ H ⟨G, ι, env, st, P, Px, hR, hw, hS, hX⟩
  unfold wForD at hw
  -- the slot holds a dict that is shared
  obtain ⟨kvs, G1, a, xs, hsl, hR1, hg1, h1, hh, h2, hw⟩ : ∃ kvs G1 a xs, σ[i]? = some (some (.ref a)) ∧ R C lk G1 ι (env.set i (some (.sh (.dI kvs)))) st σ H ∧ Grow C G ι G1 ι ∧ G1 a = some (.dK xs) ∧ H a = some (.dK xs) ∧ RepI C.K G1 ι xs kvs ∧ wTurns g w P noX (keysI kvs) (env.set i (some (.sh (.dI kvs)))) st := by
    unfold dictSl at hw
    split at hw
    · rename_i kvs hk
      split at hk
      · rename_i kvs' he
        cases hk
        obtain ⟨v, e0, hv⟩ := hR.sl i _ he
        obtain ⟨G1, a, e1, hR1, gr, rp⟩ := hR.freeze he
        rw [e1] at e0; cases e0
        cases hv with
        | ow hv =>
          obtain ⟨⟨o, k1, k2, k3⟩, _⟩ := hv
          cases rp with
          | obj ha hr => cases hr with
            | @dI xs _ hr =>
              refine ⟨kvs, G1, a, xs, e1, hR1, gr, ha, ?_, hr, hw⟩
              rcases hR1.fG a _ ha with h | ⟨_, o', h⟩
              · exact h
              · rw [k1] at h; cases h; exact k3.elim
      · cases hk
    · exact hw.elim
  have fin : ∀ {lk' : Lks} {E' : Ends} {H' : Hp} {od : Obj}, R C lk' G1 ι (env.set i (some (.sh (.dI kvs)))) st σ H' → (a, od, HO.dK xs) ∈ lk' → SOk C lk' G1 ι P E' → tFor (iKeys (tVar i)) (liftG C lk' none g) (liftS C lk' w) E' σ H' := fun {lk' E' H' od} hR' hm hS' => by
    have hh := (hR'.lkd _ _ _ hm).1
    exact ⟨_, hsl, a, od, rfl, .inl ⟨xs, hh, for_it2 hR' hw hS' xok_no (itKeys hm h2)⟩⟩
  have hd : isD (.dK xs) := True.intro
  obtain ⟨nl, hF⟩ := hR1.nolk hh hd
  refine ⟨a, .dK xs, hh, True.intro, fun od => fin (od := od) (hR1.lock od h1 hh hd) List.mem_cons_self ?_⟩
  have hS1 := hS.mono hg1
  refine ⟨fun env st G' ι' σ H p gr r => ⟨(r.lkd _ _ _ List.mem_cons_self).1, hS1.nx _ _ _ _ _ _ p gr (r.unlock nl hF)⟩, fun env st G' ι' σ H p gr r => ⟨(r.lkd _ _ _ List.mem_cons_self).1, hS1.bk _ _ _ _ _ _ p gr (r.unlock nl hF)⟩, fun env st G' ι' σ H p gr r => ⟨(r.lkd _ _ _ List.mem_cons_self).1, hS1.ct _ _ _ _ _ _ p gr (r.unlock nl hF)⟩, fun d env st G' ι' σ H v p gr r q => ⟨(r.lkd _ _ _ List.mem_cons_self).1, hS1.rt _ _ _ _ _ _ _ _ p gr (r.unlock nl hF) ?_⟩⟩
  unfold RetV at q ⊢
  generalize C.fr = fr at q ⊢
  cases fr with
  | false => exact q
  | true =>
    obtain ⟨b, rfl, ⟨o', g1, g2, g3⟩, g4, g5, g6⟩ := q
    have z : b ≠ a := fun z => by have := (r.lkd _ _ _ List.mem_cons_self).2.1; rw [← z, g4] at this; cases this
    exact ⟨b, rfl, ⟨o', by rw [upd_ne z]; exact g1, g2, g3⟩, g4, g5, g6⟩
/-- list(d): its keys -/
def lstKD : D → (D → Prop) → Prop
  | .dI kvs, P => P (.lst (keysI kvs))
  | _, _ => False
theorem RepI.keysR {K : KC} : ∀ {xs : List (Key × V)} {ds : List (Int × D)}, RepI K G ι xs ds → Reps K G ι (xs.map fun kv => kV kv.1) (keysI ds)
  | _, _, .nil => .nil
  | _, _, .cons h t => .cons .int (RepI.keysR t)
theorem c1_lstK : Call1F C (fun xs H Q => ∃ (a : Addr) (kvs : List (Key × V)), xs = [.ref a] ∧ Rd H a (.dK kvs) ∧ ∀ p, H p = none → Q (.ref p) (upd H p (.lst (kvs.map fun kv => kV kv.1)))) lstKD := by
  intro lk G ι env st σ H x d P Q hR b hf k
  cases d with
  | dI ds =>
    obtain ⟨a, xs, rfl, h, r⟩ := b.dI hR
    exact ⟨a, xs, rfl, h, fun l hl => newOwn hR k hl hf (.lst r.keysR) True.intro⟩
  | _ => exact hf.elim
theorem f_listK {e : Expr} {wo : WO} {p : Pos} (hc : X.calm = true) (hg : Gl X "list") (hm : X.mg "list" = none) (ha : PE X e (liftO C lk wo)) (he : starEach [e] X.env = (false, eval e X.env) :: starEach [] X.env := by rfl) (hpl : (backTo pos (starEach [] X.env)).any (·.1) = false := by rfl) :
    PE X (.Call (.Name "list" p) [e] [] pos) (liftF C lk (wC1 lstKD wo)) := f_ty1 (call_listD hc) c1_lstK hg hm (by decide +kernel) ha (by decide) (by decide) he hpl
end
/-! ### steps -/
section
variable {env : EnvD} {st : Sto} {Q : KS} {Qx : KX}
def kForD (s : Option (Option Slot)) (i : Nat) (g : WG) (w : WS) (Q : KS) (env : EnvD) (st : Sto) : Prop := match dictSl s with
  | some kvs => pTurns g w Q noX (keysI kvs) (env.set i (some (.sh (.dI kvs)))) st .mk .mk
  | none => False
theorem q_forD {i : Nat} {g : WG} {w : WS} : wForD i g w env st Q Qx = kForD env[i]? i g w Q env st := rfl
theorem q_forD1 {i : Nat} {g : WG} {w : WS} {kvs : List (Int × D)} : kForD (some (some (.ow (.dI kvs)))) i g w Q env st = pTurns g w Q noX (keysI kvs) (env.set i (some (.sh (.dI kvs)))) st .mk .mk := rfl
theorem s_forD_ {i : Nat} {g : WG} {w u : WS} : wSeq (wForD i g w) u env st Q Qx = wForD i g w env st (kSeq u Q Qx) Qx := rfl
theorem o_lstK {kvs : List (Int × D)} {P : D → Prop} : lstKD (.dI kvs) P = P (.lst (keysI kvs)) := rfl
end
end VL

/-! The value layer: a whole number in a list of whole numbers. -/
namespace VL
open PySem PySem.Spec PyProof.Rows L2
section
variable {X : Cx} {C : Ctx} {lk : Lks} {pos : Pos} {a b : Expr} {wa wb : WO}
def isI (i : Int) : Value → Bool := fun v => match v with
  | .int j _ => j == i
  | _ => false
theorem isI_vals {i : Int} : ∀ {ns : List Int} {its : List Value}, Vals (ns.map V.int) its → its.any (isI i) = decide (i ∈ ns)
  | [], _, h => by cases h; rfl
  | n :: ns, _, h => by
    cases h with
    | cons h1 h2 =>
      obtain ⟨t, rfl⟩ := h1
      rw [List.any_cons, isI_vals h2]
      by_cases e : n = i
      · subst e; simp [isI]
      · simp [isI, e, Ne.symm e]
theorem ints_of : ∀ {ns : List Int} {its : List Value}, Vals (ns.map V.int) its → ∀ y ∈ its, ∃ k t, y = .int k t
  | [], _, h, y, hy => by cases h; cases hy
  | n :: ns, _, h, y, hy => by
    cases h with
    | cons h1 h2 =>
      rcases List.mem_cons.mp hy with e | hy
      · obtain ⟨t, e2⟩ := h1; exact ⟨n, t, by rw [e, e2]⟩
      · exact ints_of h2 y hy
theorem op_inL : OpR X (compareOp .In) (fun y x H Q => ∃ (a : Addr) (ns : List Int) (i : Int), x = .ref a ∧ y = .int i ∧ SqL X.K H a (ns.map V.int) ∧ Q (.bl (decide (i ∈ ns))) H) := by
  intro pins s σ H y x iv u Q I ry rx h
  obtain ⟨a, ns, i, rfl, rfl, hq, q⟩ := h
  obtain rfl : u = Value.ref a := rx
  obtain ⟨t, rfl⟩ := ry
  obtain ⟨its, rv, ⟨o, n, e, c, d, q'⟩, hz⟩ := I.list hq
  obtain ⟨cls, dict, data, slots⟩ := o
  subst c d q'
  refine SeqRoads2.in_meets ⟨_, e, rfl⟩ F.slot_list_contains F.entry_list_contains (F.args_list_contains_2 _ _) (SeqAt.list_containsAt a its.toArray n none slots (.int i t) (isI i)) ⟨e, fun y hy => ?_, ?_⟩
  · obtain ⟨k, u, rfl⟩ := ints_of rv y (by simpa using hy)
    exact (MeetsSeq.EqGives.int k i u t).at _ _
  · refine ⟨_, rfl, ?_⟩
    rw [List.any_toArray, isI_vals rv]
    exact ⟨.bl (decide (i ∈ ns)), H, I, rfl, q⟩
theorem op_ninL : OpR X (compareOp .NotIn) (fun y x H Q => ∃ (a : Addr) (ns : List Int) (i : Int), x = .ref a ∧ y = .int i ∧ SqL X.K H a (ns.map V.int) ∧ Q (.bl (!decide (i ∈ ns))) H) := by
  intro pins s σ H y x iv u Q I ry rx h
  obtain ⟨a, ns, i, rfl, rfl, hq, q⟩ := h
  obtain rfl : u = Value.ref a := rx
  obtain ⟨t, rfl⟩ := ry
  obtain ⟨its, rv, ⟨o, n, e, c, d, q'⟩, hz⟩ := I.list hq
  obtain ⟨cls, dict, data, slots⟩ := o
  subst c d q'
  refine SeqRoads2.notIn_meets ⟨_, e, rfl⟩ F.slot_list_contains F.entry_list_contains (F.args_list_contains_2 _ _) (SeqAt.list_containsAt a its.toArray n none slots (.int i t) (isI i)) ⟨e, fun y hy => ?_, ?_⟩
  · obtain ⟨k, u, rfl⟩ := ints_of rv y (by simpa using hy)
    exact (MeetsSeq.EqGives.int k i u t).at _ _
  · refine ⟨_, rfl, ?_⟩
    rw [List.any_toArray, isI_vals rv]
    exact ⟨.bl (!decide (i ∈ ns)), H, I, rfl, q⟩
def inLD : D → D → (D → Prop) → Prop
  | .int i, .lst xs, P => (match keyInts xs with
    | some ns => P (.bl (decide (i ∈ ns)))
    | none => False)
  | _, _, _ => False
def ninLD : D → D → (D → Prop) → Prop
  | .int i, .lst xs, P => (match keyInts xs with
    | some ns => P (.bl (!decide (i ∈ ns)))
    | none => False)
  | _, _, _ => False
theorem op2_inL : Op2 C (fun y x H Q => ∃ (a : Addr) (ns : List Int) (i : Int), x = .ref a ∧ y = .int i ∧ SqL X.K H a (ns.map V.int) ∧ Q (.bl (decide (i ∈ ns))) H) inLD := by
  intro lk' G ι env st σ H x y d1 d2 P Q hR b1 b2 hf k
  unfold inLD at hf
  split at hf
  · split at hf
    · rename_i ns hn
      obtain ⟨l, vs, rfl, h1, rr⟩ := b2.lst hR
      rw [keyInts_eq hn] at rr
      have e := rr.ints
      subst e
      rw [b1.int]
      exact ⟨l, ns, _, rfl, rfl, .of h1, k _ G _ H hf .refl hR .bl⟩
    · exact hf.elim
  · exact hf.elim
theorem op2_ninL : Op2 C (fun y x H Q => ∃ (a : Addr) (ns : List Int) (i : Int), x = .ref a ∧ y = .int i ∧ SqL X.K H a (ns.map V.int) ∧ Q (.bl (!decide (i ∈ ns))) H) ninLD := by
  intro lk' G ι env st σ H x y d1 d2 P Q hR b1 b2 hf k
  unfold ninLD at hf
  split at hf
  · split at hf
    · rename_i ns hn
      obtain ⟨l, vs, rfl, h1, rr⟩ := b2.lst hR
      rw [keyInts_eq hn] at rr
      have e := rr.ints
      subst e
      rw [b1.int]
      exact ⟨l, ns, _, rfl, rfl, .of h1, k _ G _ H hf .refl hR .bl⟩
    · exact hf.elim
  · exact hf.elim
abbrev wInL := wBin inLD
abbrev wNinL := wBin ninLD
theorem e_inL (ha : PE X a (liftO C lk wa)) (hb : PE X b (liftO C lk wb)) (hm : behindInMarks .In b = false := by rfl) : PE X (.Compare a [.In] [b] pos) (liftE C lk (wInL wa wb)) := e_cmp op_inL op2_inL ha hb hm
theorem t_inL (ha : PE X a (liftO C lk wa)) (hb : PE X b (liftO C lk wb)) (hm : behindInMarks .In b = false := by rfl) : PT X (.Compare a [.In] [b] pos) (liftB C lk (wT (wInL wa wb))) := t_cmp op_inL op2_inL ha hb hm
theorem e_ninL (ha : PE X a (liftO C lk wa)) (hb : PE X b (liftO C lk wb)) (hm : behindInMarks .NotIn b = false := by rfl) : PE X (.Compare a [.NotIn] [b] pos) (liftE C lk (wNinL wa wb)) := e_cmp op_ninL op2_ninL ha hb hm
theorem t_ninL (ha : PE X a (liftO C lk wa)) (hb : PE X b (liftO C lk wb)) (hm : behindInMarks .NotIn b = false := by rfl) : PT X (.Compare a [.NotIn] [b] pos) (liftB C lk (wT (wNinL wa wb))) := t_cmp op_ninL op2_ninL ha hb hm
theorem p_inL {ns : List Nat} {i : Nat} {P : D → Prop} : inLD (.int (i : Nat)) (.lst (ns.map nI)) P = P (.bl (decide (i ∈ ns))) := by
  unfold inLD; dsimp only
  rw [show ns.map nI = (ns.map fun x : Nat => (x : Int)).map D.int by rw [List.map_map]; rfl, keyInts_map]
  dsimp only
  congr 2
  exact decide_eq_decide.mpr ⟨fun h => by
    obtain ⟨x, hx, e⟩ := List.mem_map.mp h
    rwa [← show x = i by omega], fun h => List.mem_map.mpr ⟨i, h, rfl⟩⟩
abbrev wMulB := wBin mulI
theorem e_mulB (ha : PE X a (liftO C lk wa)) (hb : PE X b (liftO C lk wb)) : PE X (.BinOp a .Mult b pos) (liftE C lk (wMulB wa wb)) := e_bin op_mul op2_mulI ha hb
end
end VL

/-! The value layer: dict displays of one entry. -/
namespace VL
open PySem PySem.Spec PyProof.Rows L2
/-- {k: v}, the key a tuple -/
theorem pe_disp1T {X : Cx} {pos : Pos} {k v : Expr} {tk tv : TE} (hu : X.A.units + 1 < cLine) (hk : PE X k tk) (hv : PE X v tv) : PE X (.Dict [some k] [v] pos) (fun σ H Q => ∀ p, H p = none → tk σ (upd H p (.dT [])) fun x H1 => tv σ H1 fun y H2 => H2 p = some (.dT []) ∧ ∃ ks b, x = .ref b ∧ H2 b = some (.tup (ks.map kV)) ∧ Q (.ref p) (upd H2 p (.dT [(ks, y)]))) := by
  refine ⟨fun pins s σ H Q I q => ?_⟩
  have hn := I.hok.fresh (Nat.le_refl s.heap.objs.size)
  have I1 := I.laid (a := s.heap.objs.size) (o := .dT []) (h' := s.heap.push { cls := .type "dict", data := .dict #[] }) (t' := s.toks) (fun _ _ q => Heap.get?_push_of_some _ q) (Nat.le_refl _) (dt_empty s.heap I.big)
  have hp := (pps_cons hk hv (pps_nil (X := X) (pos := pos))).run pins _ σ _ (fun ps H' => match ps with
    | [(x, y)] => H' s.heap.objs.size = some (.dT []) ∧ ∃ ks b, x = .ref b ∧ H' b = some (.tup (ks.map kV)) ∧ Q (.ref s.heap.objs.size) (upd H' s.heap.objs.size (.dT [(ks, y)]))
    | _ => False) I1 (by
    have q1 := q _ hn
    exact q1)
  rw [arm_eval_Dict, zip_pairTrees _ _ _ _ rfl rfl, dictDisplay_pairs _ (by simp [pairTrees]) (by simp [pairTrees])]
  refine wpAny_bind (wpAny_standAt (wpAny_bind ?_))
  unfold subDict
  refine wpAny_bind (wpAny_alloc ?_)
  refine wpAny_bind (wpAny_holding ?_)
  rw [if_pos (by simp [pairTrees])]
  refine wpAny_bind (thn hp fun ws s2 ⟨ps, H2, I2, rel, hm⟩ => ?_)
  split at hm
  · rename_i x y
    obtain ⟨e2, ks, b, e3, e4, q2⟩ := hm
    obtain ⟨⟨ky, vl⟩, bs, rfl, h, t⟩ : ∃ c bs, ws = c :: bs ∧ (RelV x c.1 ∧ RelV y c.2) ∧ VV [] bs := by
      cases rel with
      | cons h t => exact ⟨_, _, rfl, h, t⟩
    cases t
    obtain ⟨rx, ry⟩ := h
    subst e3
    cases (show ky = Value.ref b from rx)
    obtain ⟨z, hd, xs, rel2, dd⟩ := dt_of I2.hok e2
    cases rel2
    have hz : ([] : List (List Key × Addr × Value)).length ≤ sizeLine := Nat.zero_le _
    refine wpAny_holding ?_
    rw [List.forIn_cons]
    refine wpAny_bind (wpAny_bind (wpAny_bind (wpAny_dictSet_heap (hsz := hz) (show X.A.units < cLine by omega) (key_of I2.hok e4) dd fun h' dd' hs => wpAny_pure ?_)))
    dsimp only
    rw [List.forIn_nil]
    refine wpAny_pure (wpAny_pure (wpAny_pure (wpAny_pure ?_)))
    obtain ⟨q, es, ep, hq, h2, h3, h4, _, h5⟩ := dd'
    have r1 : KT H2 [(ks, y)] (storedH [] ks b vl) := by
      have := KT.put (H := H2) (kvs := []) (xs := []) .nil ks (y := y) e4 ry
      exact this
    have new : ObjOk X.prog X.w (upd H2 s.heap.objs.size (.dT [(ks, y)])) h' s.heap.objs.size (.dT [(ks, y)]) := ⟨by rw [sizeLine_eq]; simp, hd, _, r1.keeps fun c ys ec => by
      rw [upd_ne (ne_of ec e2 (fun z => nomatch z))]; exact ec, q, es, ep, hq, h2, h3, h4, h5⟩
    exact ⟨.ref s.heap.objs.size, _, d_write I2 (by rw [e2]; exact True.intro) hs ⟨q, hq⟩ new, rfl, q2⟩
  · exact hm.elim
/-! ### simple expressions: they change nothing -/
abbrev WSi := EnvD → Option D
def evS : List WSi → EnvD → Option (List D)
  | [], _ => some []
  | w :: ws, env => match w env, evS ws env with
    | some d, some ds => some (d :: ds)
    | _, _ => none
section
variable {X : Cx} {C : Ctx} {lk : Lks} {pos : Pos} {e v : Expr} {es : List Expr} {w wv : WSi} {ws : List WSi}
def SimE (X : Cx) (C : Ctx) (e : Expr) (w : WSi) : Prop := ∃ f : L2.St → Option V, PE X e (fun σ H Q => ∃ v, f σ = some v ∧ Q v H) ∧
  ∀ lk G ι env st σ H d, R C lk G ι env st σ H → w env = some d → ∃ v, f σ = some v ∧ Rep C.K G ι v d
def SimA (X : Cx) (C : Ctx) (es : List Expr) (ws : List WSi) : Prop := ∃ f : L2.St → Option (List V), PA X es (fun σ H Q => ∃ vs, f σ = some vs ∧ Q vs H) ∧
  ∀ lk G ι env st σ H ds, R C lk G ι env st σ H → evS ws env = some ds → ∃ vs, f σ = some vs ∧ Reps C.K G ι vs ds
def siC (d : D) : WSi := fun _ => some d
def siV (i : Nat) : WSi := fun env => match env[i]? with
  | some (some (.sh d)) => some d
  | _ => none
theorem si_int {i : Int} {j : Nat} : SimE X C (.Constant (.int i) j pos) (siC (.int i)) :=
  ⟨fun _ => some (.int i), PEi pe_int (by rintro σ H Q ⟨v, e, q⟩; cases e; exact q), by
    intro lk G ι env st σ H d _ e
    cases e
    exact ⟨_, rfl, .int⟩⟩
theorem si_bl {b : Bool} {j : Nat} : SimE X C (.Constant (.bool b) j pos) (siC (.bl b)) :=
  ⟨fun _ => some (.bl b), PEi pe_bl (by rintro σ H Q ⟨v, e, q⟩; cases e; exact q), by
    intro lk G ι env st σ H d _ e
    cases e
    exact ⟨_, rfl, .bl⟩⟩
theorem si_var {i : Nat} {x : Str} (h : PE X (.Name x pos) (tVar i)) : SimE X C (.Name x pos) (siV i) :=
  ⟨fun σ => (σ[i]?).bind id, PEi h (by
    rintro σ H Q ⟨v, e, q⟩
    refine ⟨v, ?_, q⟩
    dsimp only at e
    cases z : σ[i]? with
    | none => rw [z] at e; cases e
    | some y => rw [z] at e; rw [show y = some v from e]), by
    intro lk G ι env st σ H d hR e
    unfold siV at e
    split at e
    · rename_i d2 h2
      cases e
      obtain ⟨v, e1, hs⟩ := hR.sl _ _ h2
      cases hs with
      | sh r => exact ⟨v, by dsimp only; rw [e1]; rfl, r⟩
    · cases e⟩
theorem sa_nil : SimA X C [] [] := ⟨fun _ => some [], PAi pa_nil (by rintro σ H Q ⟨v, e, q⟩; cases e; exact q), by
  intro lk G ι env st σ H d _ e
  cases e
  exact ⟨_, rfl, .nil⟩⟩
theorem sa_cons (h : SimE X C e w) (t : SimA X C es ws) (hs : starEach (e :: es) X.env = (false, eval e X.env) :: starEach es X.env := by rfl) : SimA X C (e :: es) (w :: ws) := by
  obtain ⟨f, p1, r1⟩ := h
  obtain ⟨g, p2, r2⟩ := t
  refine ⟨fun σ => match f σ, g σ with
    | some v, some vs => some (v :: vs)
    | _, _ => none, PAi (pa_cons p1 p2 hs) ?_, ?_⟩
  · rintro σ H Q ⟨vs, e, q⟩
    dsimp only at e
    split at e
    · rename_i v vs' e1 e2
      cases e
      exact ⟨v, e1, vs', e2, q⟩
    · cases e
  · intro lk G ι env st σ H ds hR e
    unfold evS at e
    split at e
    · rename_i d ds' e1 e2
      cases e
      obtain ⟨v, f1, q1⟩ := r1 lk G ι env st σ H d hR e1
      obtain ⟨vs, f2, q2⟩ := r2 lk G ι env st σ H ds' hR e2
      exact ⟨v :: vs, by dsimp only; rw [f1, f2], .cons q1 q2⟩
    · cases e
/-- {(k, ..): v} -/
def wDT1 (ks : List WSi) (wv : WSi) : WE := fun env st Q _ => ∃ (js : List Int) (d : D), js.length ≤ 100 ∧ evS ks env = some (js.map .int) ∧ wv env = some d ∧ Q (.dT [(js, d)]) env st
/-- {k: v} -/
def wDI1 (wk wv : WSi) : WE := fun env st Q _ => ∃ (j : Int) (d : D), wk env = some (.int j) ∧ wv env = some d ∧ Q (.dI [(j, d)]) env st
theorem q_dT1 {ks : List WSi} {wv : WSi} {env : EnvD} {st : Sto} {Q : KE} {Qx : KX} : wDT1 ks wv env st Q Qx = ∃ (js : List Int) (d : D), js.length ≤ 100 ∧ evS ks env = some (js.map .int) ∧ wv env = some d ∧ Q (.dT [(js, d)]) env st := rfl
theorem q_dI1 {wk wv : WSi} {env : EnvD} {st : Sto} {Q : KE} {Qx : KX} : wDI1 wk wv env st Q Qx = ∃ (j : Int) (d : D), wk env = some (.int j) ∧ wv env = some d ∧ Q (.dI [(j, d)]) env st := rfl
theorem upd_swap {H : Hp} {p q : Addr} {a b c : HO} (h : p ≠ q) : upd (upd (upd H p a) q b) p c = upd (upd H q b) p c := by
  funext x
  by_cases e : x = p
  · subst e; rw [upd_same, upd_same]
  · rw [upd_ne e, upd_ne e]
    by_cases e2 : x = q
    · subst e2; rw [upd_same, upd_same]
    · rw [upd_ne e2, upd_ne e2, upd_ne e]
theorem upd_twice {H : Hp} {p : Addr} {a c : HO} : upd (upd H p a) p c = upd H p c := by
  funext x
  by_cases e : x = p
  · subst e; rw [upd_same, upd_same]
  · rw [upd_ne e, upd_ne e, upd_ne e]
theorem dT1_core {k : Nat} {pos2 : Pos} (hu : X.A.units + 1 < cLine) (hk : SimA X C es ws) (hv : SimE X C v wv) : PE X (.Dict [some (.Tuple es k pos2)] [v] pos) (fun σ H Q => ∃ G ι env st, ∃ lk, R C lk G ι env st σ H ∧ ∃ (js : List Int) (d : D), js.length ≤ 100 ∧ evS ws env = some (js.map .int) ∧ wv env = some d ∧
    ∀ q H0 p o, R C lk G ι env st σ H0 → H0 p = none → q ≠ p → HRep C.K G ι o (.dT [(js, d)]) → Mut (some o) → Q (.ref p) (upd H0 p o)) := by
  obtain ⟨f, p1, r1⟩ := hk
  obtain ⟨g, p2, r2⟩ := hv
  refine PEi (pe_disp1T hu (pe_tup p1) p2) ?_
  rintro σ H Q ⟨G, ι, env, st, lk, hR, js, d, hl, e1, e2, hQ⟩ p hp
  obtain ⟨vs, f1, q1⟩ := r1 lk G ι env st σ H _ hR e1
  obtain ⟨y, f2, q2⟩ := r2 lk G ι env st σ H _ hR e2
  refine ⟨vs, f1, by rw [q1.len, List.length_map, sizeLine_eq]; omega, fun q hq => ⟨y, f2, ?_, js.map .inl, q, rfl, ?_, ?_⟩⟩
  · have : p ≠ q := fun z => by subst z; rw [upd_same] at hq; cases hq
    rw [upd_ne this, upd_same]
  · have e := q1.ints
    rw [upd_same, e, List.map_map]; rfl
  · have hpq : p ≠ q := fun z => by subst z; rw [upd_same] at hq; cases hq
    have hq2 : H q = none := by rw [upd_ne (Ne.symm hpq)] at hq; exact hq
    rw [upd_swap hpq]
    refine hQ q _ p _ (hR.newOw hq2) (by rw [upd_ne hpq]; exact hp) (Ne.symm hpq) (.dT (.cons q2 .nil)) True.intro
theorem f_dT1 {k : Nat} {pos2 : Pos} (hu : X.A.units + 1 < cLine) (hk : SimA X C es ws) (hv : SimE X C v wv) : PE X (.Dict [some (.Tuple es k pos2)] [v] pos) (liftF C lk (wDT1 ws wv)) := PEi (dT1_core hu hk hv) (by
  rintro σ H Q ⟨G, ι, env, st, P, Px, hR, ⟨js, d, h1, h2, h3, h4⟩, hQ, hX⟩
  refine ⟨G, ι, env, st, lk, hR, js, d, h1, h2, h3, fun q H0 p o r0 hp hne h m => ?_⟩
  obtain ⟨r, o2, n⟩ := newFresh r0 hp h m
  exact hQ _ env st G ι _ _ h4 .refl r o2 n)
theorem e_dT1 {k : Nat} {pos2 : Pos} (hu : X.A.units + 1 < cLine) (hk : SimA X C es ws) (hv : SimE X C v wv) : PE X (.Dict [some (.Tuple es k pos2)] [v] pos) (liftE C lk (wDT1 ws wv)) := PEi (dT1_core hu hk hv) (by
  rintro σ H Q ⟨G, ι, env, st, P, Px, hR, ⟨js, d, h1, h2, h3, h4⟩, hQ, hX⟩
  refine ⟨G, ι, env, st, lk, hR, js, d, h1, h2, h3, fun q H0 p o r0 hp hne h m => ?_⟩
  obtain ⟨r2, g2⟩ := r0.newSh (o := o) hp
  exact hQ _ env st _ ι _ _ h4 g2 r2 (.obj upd_same (h.mono g2.sub g2.pre)))
theorem dI1_core {ek : Expr} {wk : WSi} (hk : SimE X C ek wk) (hv : SimE X C v wv) : PE X (.Dict [some ek] [v] pos) (fun σ H Q => ∃ G ι env st, ∃ lk, R C lk G ι env st σ H ∧ ∃ (j : Int) (d : D), wk env = some (.int j) ∧ wv env = some d ∧
    ∀ p o, H p = none → HRep C.K G ι o (.dI [(j, d)]) → Mut (some o) → Q (.ref p) (upd H p o)) := by
  obtain ⟨f, p1, r1⟩ := hk
  obtain ⟨g, p2, r2⟩ := hv
  refine PEi (pe_disp (pps_cons p1 p2 pps_nil) rfl rfl (by simp) (by simp)) ?_
  rintro σ H Q ⟨G, ι, env, st, lk, hR, j, d, e1, e2, hQ⟩ p hp
  obtain ⟨x, f1, q1⟩ := r1 lk G ι env st σ H _ hR e1
  obtain ⟨y, f2, q2⟩ := r2 lk G ι env st σ H _ hR e2
  cases q1 with
  | obj _ z => cases z
  | int =>
    refine ⟨_, f1, y, f2, upd_same, [(.inl j, y)], rfl, by simp, ?_⟩
    rw [upd_twice]
    exact hQ p _ hp (.dI (.cons q2 .nil)) True.intro
theorem f_dI1 {ek : Expr} {wk : WSi} (hk : SimE X C ek wk) (hv : SimE X C v wv) : PE X (.Dict [some ek] [v] pos) (liftF C lk (wDI1 wk wv)) := PEi (dI1_core hk hv) (by
  rintro σ H Q ⟨G, ι, env, st, P, Px, hR, ⟨j, d, h2, h3, h4⟩, hQ, hX⟩
  refine ⟨G, ι, env, st, lk, hR, j, d, h2, h3, fun p o hp h m => ?_⟩
  obtain ⟨r, o2, n⟩ := newFresh hR hp h m
  exact hQ _ env st G ι _ _ h4 .refl r o2 n)
theorem e_dI1 {ek : Expr} {wk : WSi} (hk : SimE X C ek wk) (hv : SimE X C v wv) : PE X (.Dict [some ek] [v] pos) (liftE C lk (wDI1 wk wv)) := PEi (dI1_core hk hv) (by
  rintro σ H Q ⟨G, ι, env, st, P, Px, hR, ⟨j, d, h2, h3, h4⟩, hQ, hX⟩
  refine ⟨G, ι, env, st, lk, hR, j, d, h2, h3, fun p o hp h m => ?_⟩
  obtain ⟨r2, g2⟩ := hR.newSh (o := o) hp
  exact hQ _ env st _ ι _ _ h4 g2 r2 (.obj upd_same (h.mono g2.sub g2.pre)))
end
end VL

/-! The value layer: loops over the items of a dict that is shared. -/
namespace VL
open PySem PySem.Spec PyProof.Rows L2
/-! ### the items of a dict of tuple keys -/
section
variable {X : Cx} {pins : List (Addr × Obj)} {σ : L2.St} {H : Hp} {s : Shared} {d : Addr} {o : Obj}
theorem frzT2 {kvs : List (List Key × V)} (I : Inv X pins σ H s) (h : H d = some (.frz o (.dT kvs))) :
    (d == sysModules) = false ∧ s.heap.get? d = some o ∧ o.ExactDict ∧ ∃ (es : Array DictEntry) (ep : Nat), o.data = .dict es ep ∧ es.size = kvs.length ∧
      ∀ (i : Nat) (k : List Key) (v : V), kvs[i]? = some (k, v) → ∃ (en : DictEntry) (q : Addr), es[i]? = some en ∧ en.key = .ref q ∧ H q = some (.tup (k.map kV)) ∧ RelV v en.val := by
  obtain ⟨hd, z, hs, xs, pr, o', es, ep, ho, hx, hdt, he, _⟩ := I.hok d _ h
  rw [hd] at ho
  cases ho
  refine ⟨hs, hd, hx, es, ep, hdt, ?_, fun i k v e => ?_⟩
  · have l1 : es.size = xs.length := size_of_entries he
    have l2 : kvs.length = xs.length := Paired.length pr
    omega
  · obtain ⟨b, hb, e1, e2, e3⟩ := paired_get pr e
    have q := entry_at he i
    rw [hb] at q
    exact ⟨_, b.2.1, q, rfl, e2, e3⟩
/-- the pairs, each a new tuple; the key its own one -/
def ItiT (d : Addr) (o : Obj) (kvs : List (List Key × V)) : It :=
  ⟨fun i H => H d = some (.frz o (.dT kvs)) ∧ i < kvs.length, fun i H x H' => ∃ T q k v, kvs[i]? = some (k, v) ∧ x = .ref T ∧ H T = none ∧ H q = some (.tup (k.map kV)) ∧ H' = upd H T (.tup [.ref q, v]), fun i H => H d = some (.frz o (.dT kvs)) ∧ kvs.length ≤ i⟩
end
section
variable {P : Program} {w : World} {K : PySem.W.Frag} {d : Addr} {o : Obj} {es : Array DictEntry} {ep : Nat}
theorem turn_itemsT {kvs : List (List Key × V)} {elts : List Expr} {kk : Nat} {tpos : Pos} (it : Addr) (hod : o.data = .dict es ep) :
    Turn P w K (.Tuple elts kk tpos) (ItiT d o kvs) [it] it (fun i h => ∃ ok ov, IsItemIter h it d i kvs.length ep ok ov) where
  mem := by simp
  obj := fun i h st b hb => by
    have e : b = it := by simpa using hb
    subst e
    obtain ⟨ok, ov, e⟩ := st
    exact ⟨_, e, fun v z => nomatch z⟩
  keep := fun i h h' st k => let ⟨ok, ov, e⟩ := st; ⟨ok, ov, k it (by simp) _ e⟩
  item := by
    intro X hP hw hK hc i pins s σ H E I hf st hg
    subst hP hw hK
    obtain ⟨hd, hi⟩ := hg
    obtain ⟨hs, hgd, hx, es', ep', hdt, hsz, ent⟩ := frzT2 I hd
    obtain ⟨rfl, rfl⟩ := dict_ep hod hdt
    obtain ⟨⟨k, v⟩, hkv⟩ : ∃ p, kvs[i]? = some p := ⟨kvs[i], List.getElem?_eq_getElem hi⟩
    obtain ⟨en, q, hen, hkey, hq, ru⟩ := ent i k v hkv
    have hie : i < es'.size := by omega
    have een : es'[i] = en := by
      have := Array.getElem?_eq_getElem hie
      rw [this] at hen; exact Option.some.inj hen
    obtain ⟨ok, ov, he⟩ := st
    rw [← hsz] at he
    have hlt : it < s.heap.objs.size := Heap.lt_size he
    refine DT.nextI he ⟨o, hgd, hx, hdt⟩ hie fun h' ho hT hz hk => ?_
    rw [een] at ho hT
    refine ⟨_, rfl, wpAny_letOwnedTupleGo_items (s := { s with heap := h' }) ho fun h'' he' sb => ?_⟩
    have hT2 : h''.get? s.heap.objs.size = some { cls := .type "tuple", data := .seq #[en.key, en.val] } := (sb.2 _ (Nat.ne_of_gt hlt)).trans hT
    have new : ObjOk X.prog X.w (upd H s.heap.objs.size (.tup [.ref q, v])) h'' s.heap.objs.size (.tup [.ref q, v]) :=
      ⟨by show 2 ≤ sizeLine; decide, [en.key, en.val], .cons hkey (.cons ru .nil), ⟨_, hT2, rfl, _, rfl⟩⟩
    have I1 : Inv X pins σ (upd H s.heap.objs.size (.tup [.ref q, v])) { s with heap := h'' } :=
      I.turnedNew (t' := s.toks) (ch := [it]) (fun b ob hb e => (sb.2 b (by simpa using hb)).trans (hk b ob (by simpa using hb) e)) hf (Nat.le_refl _) new
    refine ⟨.ref s.heap.objs.size, _, I1, rfl, ⟨_, q, k, v, hkv, rfl, I.hok.fresh (Nat.le_refl _), hq, rfl⟩, ⟨en.key, en.val, ?_⟩, fun b hb => ?_⟩
    · rw [← hsz]; exact he'
    · have e : b = it := by simpa using hb
      rw [e, upd_ne (Nat.ne_of_lt hlt)]
      exact (hf it (by simp)).1
  done := by
    intro X hP hw hK hc i pins s σ H E I hf st hg
    subst hP hw hK
    obtain ⟨hd, hi⟩ := hg
    obtain ⟨f0, f1, f2, f3, f4, f5⟩ := hf it (by simp)
    obtain ⟨hs, hgd, hx, es', ep', hdt, hsz, ent⟩ := frzT2 I hd
    obtain ⟨rfl, rfl⟩ := dict_ep hod hdt
    obtain ⟨ok, ov, he⟩ := st
    rw [← hsz] at he
    exact DT.endI (I.ok.hd hc) he ⟨o, hgd, hx, hdt⟩ (by omega) fun h' eb => ⟨rfl, I.turned (t' := s.toks) (fun b ob hb e => eb b ob hb e) f0 f1 f3 f4 f5⟩
  self := fun A i s Q E st h => let ⟨_, _, e⟩ := st; PySem.W.kcp_self e h
end
/-- the items, the keys whole or tuples -/
def iItemsA (td : TE) : TI := fun σ H R => td σ H fun x H1 => ∃ d o, x = .ref d ∧ ((∃ kvs, H1 d = some (.frz o (.dK kvs)) ∧ R (Iti d o kvs) H1) ∨ ∃ kvs, H1 d = some (.frz o (.dT kvs)) ∧ R (ItiT d o kvs) H1)
section
variable {X : Cx} {tg e : Expr} {td : TE} {apos cpos : Pos}
theorem pi_itemsA {elts : List Expr} {kk : Nat} {tpos : Pos} (he : PE X e td) (hbase : attributeBase e "items" X.env (eval e X.env) = eval e X.env := by rfl) (hline : (apos.endLine == cpos.line) = true := by rfl) :
    PI X (.Tuple elts kk tpos) (.Call (.Attribute e "items" apos) [] [] cpos) (iItemsA td) := by
  refine ⟨fun pins s σ H R I h => ?_⟩
  refine wpAny_Call_method (T := "dict") (id := "dict.items") hbase rfl hline PySem.F.plainAttrs_dict PySem.F.slot_dict_items PySem.F.type_dict_items (thn (he.run pins s σ H _ I h) fun u s1 ⟨x, H1, I1, rx, d, o, ex, q⟩ => ?_)
  subst ex
  obtain rfl : u = Value.ref d := rx
  have I2 : Inv X pins σ H1 { s1 with heap := s1.heap.push { cls := .type "dict_items", data := .fields #[.ref d] } } := I1.kept (t' := s1.toks) fun b ob q => Heap.get?_push_of_some _ q
  rcases q with ⟨kvs, hd, q⟩ | ⟨kvs, hd, q⟩
  · obtain ⟨hs, hgd, hx, es, ep, vs, hdt, hsz, kv, hm⟩ := I1.frzK hd
    have hl : kvs.length = vs.length := Paired.length kv
    refine ⟨hm.dictOf.typeIs, hm.dictOf.mapOf.noDict, ?_⟩
    have fin : wpAny (model X.prog X.w) X.A (pyIter (.ref s1.heap.objs.size)) (PIE X pins σ (.Tuple elts kk tpos) R) X.xe { s1 with heap := s1.heap.push { cls := .type "dict_items", data := .fields #[.ref d] } } := by
      refine wpAny_pyIter_items (d := d) (knd := mixKind X.prog X.w) ⟨_, Heap.get?_push_size _ rfl, rfl, rfl⟩ (hm.push _) (pi_one (tk := s1.toks) I2 _ (turn_items _ hdt) ⟨.none, .none, ?_⟩ q)
      rw [hl]
      exact Heap.get?_push_size _ rfl
    show wpAny _ _ (callWith cpos (.builtin "dict.items") [.ref d] [] []) _ X.xe s1
    exact method_meetsIn PySem.F.slot_dict_items PySem.F.entry_dict_items rfl (PySem.evalArgs_none ⟨rfl, hm.dictOf.typeIs, PySem.F.args_dict_items_1 _, _, meets_dict_items (mixKind X.prog X.w) d hs, ⟨vs, hm.dictOf⟩, fin⟩)
  · obtain ⟨hs, hgd, hx, es, ep, hdt, hsz, ent⟩ := frzT2 I1 hd
    have raw : DT.Raw s1.heap d es ep := ⟨o, hgd, hx, hdt⟩
    refine ⟨raw.typeIs, (fun b z => by cases z; exact ⟨o, hgd, hx.2.1⟩), ?_⟩
    have fin : wpAny (model X.prog X.w) X.A (pyIter (.ref s1.heap.objs.size)) (PIE X pins σ (.Tuple elts kk tpos) R) X.xe { s1 with heap := s1.heap.push { cls := .type "dict_items", data := .fields #[.ref d] } } := by
      refine DT.iterI (d := d) ⟨_, Heap.get?_push_size _ rfl, rfl, rfl⟩ (raw.push _) (pi_one (tk := s1.toks) I2 _ (turn_itemsT _ hdt) ⟨.none, .none, ?_⟩ q)
      rw [← hsz]
      exact Heap.get?_push_size _ rfl
    show wpAny _ _ (callWith cpos (.builtin "dict.items") [.ref d] [] []) _ X.xe s1
    exact method_meetsIn PySem.F.slot_dict_items PySem.F.entry_dict_items rfl (PySem.evalArgs_none ⟨rfl, raw.typeIs, PySem.F.args_dict_items_1 _, _, DT.meetsItems (es := es) (ep := ep) hs, raw, fin⟩)
end
section
variable {X : Cx} {C : Ctx} {lk : Lks} {pos : Pos} {G : Hp} {ι : List Addr} {env : EnvD} {st : Sto} {σ : L2.St} {H : Hp}
/-- the iterator gives ds; what it gives may be frozen only then -/
structure ItOkF (C : Ctx) (lk : Lks) (G : Hp) (ι : List Addr) (J : It) (ds : List D) : Prop where
  ex : ∃ Gd Y, Walk J ds.length Gd Y ∧ (∀ G' ι' env st σ H, Grow C G ι G' ι' → R C lk G' ι' env st σ H → Gd H) ∧
    ∀ i G' ι' env st σ H x H', i < ds.length → Grow C G ι G' ι' → R C lk G' ι' env st σ H → Y i H x H' → ∃ G2, Grow C G' ι' G2 ι' ∧ R C lk G2 ι' env st σ H' ∧ ∃ d, ds[i]? = some d ∧ Rep C.K G2 ι' x d
theorem for_it3 {g : WG} {w : WS} {E : Ends} {σ : L2.St} {H' : Hp} {G' : Hp} {ι' : List Addr} {e : EnvD} {s : Sto} {P : KS} {Px : KX} {ds : List D} {J : It} (r : R C lk G' ι' e s σ H') (p : wTurns g w P Px ds e s) (hS : SOk C lk G' ι' P E) (hX : XOk C lk G' ι' Px) (it : ItOkF C lk G' ι' J ds) :
    tFor (fun _ H Rk => Rk J H) (liftG C lk none g) (liftS C lk w) E σ H' := by
  have gr : Grow C G' ι' G' ι' := .refl
  obtain ⟨Gd, Y, W, hG, hY⟩ := it.ex
  refine for_it W (fun i σ H => ∃ G2 ι2 e2 s2, Grow C G' ι' G2 ι2 ∧ R C lk G2 ι2 e2 s2 σ H ∧ wTurns g w P Px (ds.drop i) e2 s2) ⟨G', ι', e, s, .refl, r, p⟩ (fun i σ H _ ⟨G2, ι2, e2, s2, g2, r2, _⟩ => hG G2 ι2 e2 s2 σ H g2 r2) ?_ ?_
  · rintro i x σ1 H1 H2 hi ⟨G2, ι2, e2, s2, g2, r2, p2⟩ y
    obtain ⟨G3, g3, r3, d, hd, rp⟩ := hY i G2 ι2 e2 s2 σ1 H1 x H2 hi g2 r2 y
    have hdrop : ds.drop i = d :: ds.drop (i + 1) := by
      rw [List.drop_eq_getElem_cons hi]
      congr 1
      exact (List.getElem?_eq_some_iff.mp hd).2
    rw [hdrop] at p2
    refine ⟨G3, ι2, e2, s2, _, d, r3, rp, p2, fun e4 s4 σ4 H4 G4 ι4 p4 g4 r4 _ => ?_⟩
    have gg := ((gr.trans g2).trans g3).trans g4
    have nxt : ∀ env st G' ι'' σ H, wTurns g w P Px (ds.drop (i + 1)) env st → Grow C G4 ι4 G' ι'' → R C lk G' ι'' env st σ H → ∃ G2 ι2 e2 s2, Grow C _ ι' G2 ι2 ∧ R C lk G2 ι2 e2 s2 σ H ∧ wTurns g w P Px (ds.drop (i + 1)) e2 s2 := fun env st G' ι'' σ H p g r => ⟨G', ι'', env, st, ((g2.trans g3).trans g4).trans g, r, p⟩
    exact ⟨G4, ι4, e4, s4, _, Px, r4, p4, ⟨fun env st G' ι' σ H p g r => nxt env st G' ι' σ H p g r, fun env st G' ι' σ H p g r => hS.nx env st G' ι' σ H p (gg.trans g) r, fun env st G' ι' σ H p g r => nxt env st G' ι' σ H p g r,
      fun d env st G' ι' σ H v p g r q => hS.rt d env st G' ι' σ H v p (gg.trans g) r q⟩, hX.mono gg⟩
  · rintro σ1 H1 ⟨G2, ι2, e2, s2, g2, r2, p2⟩
    rw [List.drop_length] at p2
    exact hS.nx e2 s2 G2 ι2 σ1 H1 p2 (gr.trans g2) r2
/-- a tuple that stands there is frozen -/
theorem R.addT {q : Addr} {xs : List V} (r : R C lk G ι env st σ H) (h : H q = some (.tup xs)) : ∃ G2, R C lk G2 ι env st σ H ∧ Grow C G ι G2 ι ∧ G2 q = some (.tup xs) := by
  by_cases g : G q = none
  · have nm : ∀ {b : Addr} {o : HO}, H b = some o → Mut (some o) → b ≠ q := fun {b o} e m z => by
      rw [z, h] at e; cases e; exact m
    have sb : Sub G (upd G q (.tup xs)) := Sub.new g
    have nι : q ∉ ι := fun hm => by
      obtain ⟨n, hn⟩ := List.mem_iff_getElem?.mp hm
      have hl : n < st.length := by rw [r.slen]; exact (List.getElem?_eq_some_iff.mp hn).1
      obtain ⟨h', e3, e4⟩ := r.sto n q st[n] hn (List.getElem?_eq_getElem hl)
      rw [h] at e3; cases e3
      cases hs : st[n] with
      | dat d =>
        rw [hs] at e4
        cases e4 with
        | dat _ m => exact m
      | ins c fs =>
        rw [hs] at e4
        cases e4
    refine ⟨upd G q (.tup xs), ⟨r.len, r.fF, fun a o u h2 => ?_, fun a u h2 => ?_, fun i s h2 => ?_, r.inj, r.slen, fun n a x e1 e2 => ?_, fun a ha => ?_, r.nd, fun a x u e1 e2 => ?_⟩, ⟨sb, fun a u h2 => ?_, List.prefix_refl _⟩, upd_same⟩
    · obtain ⟨h1, h2, h3⟩ := r.lkd a o u h2
      exact ⟨h1, sb _ _ h2, h3⟩
    · by_cases z : a = q
      · subst z; rw [upd_same] at h2; cases h2; exact .inl h
      · rw [upd_ne z] at h2; exact r.fG a u h2
    · obtain ⟨v, e1, hs⟩ := r.sl i s h2
      refine ⟨v, e1, ?_⟩
      clear h2
      cases hs with
      | sh h => exact .sh (h.mono sb (List.prefix_refl _))
      | ow h =>
        obtain ⟨⟨o', g1, g2, g3⟩, g4, g5, g6⟩ := h
        exact .ow ⟨⟨o', g1, g2.mono sb (List.prefix_refl _), g3⟩, by rw [upd_ne (nm g1 g3)]; exact g4, g5, g6⟩
    · obtain ⟨h', q3, q4⟩ := r.sto n a x e1 e2
      exact ⟨h', q3, q4.mono sb (List.prefix_refl _)⟩
    · obtain ⟨q1, q2⟩ := r.sg a ha
      exact ⟨by rw [upd_ne (show a ≠ q from fun z => nι (by rw [← z]; exact ha))]; exact q1, q2⟩
    · have z : a ≠ q := fun z => by subst z; rw [h] at e1; cases e1
      rw [upd_ne z] at e2; exact r.lk2 a x u e1 e2
    · by_cases z : a = q
      · subst z; rw [upd_same] at h2; cases h2; exact .inr (.inr (fun m => m))
      · rw [upd_ne z] at h2; exact .inl h2
  · obtain ⟨u, hu⟩ : ∃ u, G q = some u := by
      cases z : G q with
      | none => exact absurd z g
      | some u => exact ⟨u, rfl⟩
    refine ⟨G, r, .refl, ?_⟩
    rcases r.fG q u hu with h2 | ⟨_, o, h2⟩
    · rw [h] at h2; cases h2; exact hu
    · rw [h] at h2; cases h2
def itemsI (kvs : List (Int × D)) : List D := kvs.map fun kv => .tup [.int kv.1, kv.2]
def itemsT (kvs : List (List Int × D)) : List D := kvs.map fun kv => .tup [.tup (kv.1.map .int), kv.2]
theorem RepI.atp {K : KC} : ∀ {xs : List (Key × V)} {ds : List (Int × D)} {j : Nat} {k : Key} {v : V}, RepI K G ι xs ds → xs[j]? = some (k, v) → ∃ (n : Int) (d : D), k = .inl n ∧ (itemsI ds)[j]? = some (.tup [.int n, d]) ∧ Rep K G ι v d
  | _, _, 0, _, _, .cons (k := n) h t, e => by cases e; exact ⟨n, _, rfl, rfl, h⟩
  | _, _, j + 1, _, _, .cons h t, e => RepI.atp (j := j) t (by rw [List.getElem?_cons_succ] at e; exact e)
theorem RepT.atp {K : KC} : ∀ {xs : List (List Key × V)} {ds : List (List Int × D)} {j : Nat} {k : List Key} {v : V}, RepT K G ι xs ds → xs[j]? = some (k, v) → ∃ (n : List Int) (d : D), k = n.map .inl ∧ (itemsT ds)[j]? = some (.tup [.tup (n.map .int), d]) ∧ Rep K G ι v d
  | _, _, 0, _, _, .cons (k := n) h t, e => by cases e; exact ⟨n, _, rfl, rfl, h⟩
  | _, _, j + 1, _, _, .cons h t, e => RepT.atp (j := j) t (by rw [List.getElem?_cons_succ] at e; exact e)
theorem reps_ints {K : KC} : ∀ (n : List Int), Reps K G ι ((n.map (Sum.inl : Int → Key)).map kV) (n.map .int)
  | [] => .nil
  | i :: n => .cons .int (reps_ints n)
theorem itItemsI {a : Addr} {od : Obj} {xs : List (Key × V)} {ds : List (Int × D)} (hm : ∀ G' ι' env st σ H, Grow C G ι G' ι' → R C lk G' ι' env st σ H → H a = some (.frz od (.dK xs))) (hr : RepI C.K G ι xs ds) : ItOkF C lk G ι (Iti a od xs) (itemsI ds) := by
  have hl : (itemsI ds).length = xs.length := by unfold itemsI; rw [List.length_map, hr.len]
  refine ⟨fun H => H a = some (.frz od (.dK xs)), fun i H x H' => ∃ T k v, xs[i]? = some (k, v) ∧ x = .ref T ∧ H T = none ∧ H' = upd H T (.tup [kV k, v]), ⟨fun i H hi h => ⟨h, by omega⟩, fun H h => ⟨h, by omega⟩, fun i H x H' hi h y => y⟩, fun G' ι' env st σ H g r => hm G' ι' env st σ H g r, ?_⟩
  rintro i G' ι' env st σ H x H' hi g r ⟨T, k, v, hk, rfl, hT, rfl⟩
  obtain ⟨n, d, rfl, hn, rp⟩ := hr.atp hk
  obtain ⟨r2, g2⟩ := r.newSh (o := .tup [kV (.inl n), v]) hT
  exact ⟨_, g2, r2, _, hn, .obj upd_same (.tup (.cons .int (.cons ((rp.mono g.sub g.pre).grow g2) .nil)))⟩
theorem itItemsT {a : Addr} {od : Obj} {xs : List (List Key × V)} {ds : List (List Int × D)} (hm : ∀ G' ι' env st σ H, Grow C G ι G' ι' → R C lk G' ι' env st σ H → H a = some (.frz od (.dT xs))) (hr : RepT C.K G ι xs ds) : ItOkF C lk G ι (ItiT a od xs) (itemsT ds) := by
  have hl : (itemsT ds).length = xs.length := by unfold itemsT; rw [List.length_map, hr.len]
  refine ⟨fun H => H a = some (.frz od (.dT xs)), fun i H x H' => ∃ T q k v, xs[i]? = some (k, v) ∧ x = .ref T ∧ H T = none ∧ H q = some (.tup (k.map kV)) ∧ H' = upd H T (.tup [.ref q, v]), ⟨fun i H hi h => ⟨h, by omega⟩, fun H h => ⟨h, by omega⟩, fun i H x H' hi h y => y⟩, fun G' ι' env st σ H g r => hm G' ι' env st σ H g r, ?_⟩
  rintro i G' ι' env st σ H x H' hi g r ⟨T, q, k, v, hk, rfl, hT, hq, rfl⟩
  obtain ⟨n, d, rfl, hn, rp⟩ := hr.atp hk
  obtain ⟨G2, r2, g2, hG2⟩ := r.addT hq
  obtain ⟨r3, g3⟩ := r2.newSh (o := .tup [.ref q, v]) hT
  refine ⟨_, g2.trans g3, r3, _, hn, .obj upd_same (.tup (.cons ?_ (.cons (((rp.mono g.sub g.pre).grow g2).grow g3) .nil)))⟩
  exact .obj (g3.sub _ _ hG2) (.tup (reps_ints n))
/-! ### expressions that change nothing -/
def SimH (X : Cx) (C : Ctx) (e : Expr) (w : WSi) : Prop := ∃ f : L2.St → Hp → Option V, PE X e (fun σ H Q => ∃ v, f σ H = some v ∧ Q v H) ∧
  (∀ σ H d u o v, H d = some u → isD u → f σ H = some v → f σ (upd H d (.frz o u)) = some v) ∧
  ∀ lk G ι env st σ H d, R C lk G ι env st σ H → w env = some d → ∃ v, f σ H = some v ∧ Rep C.K G ι v d
theorem SimE.toH {e : Expr} {w : WSi} (h : SimE X C e w) : SimH X C e w := by
  obtain ⟨f, p, r⟩ := h
  exact ⟨fun σ _ => f σ, p, fun σ H d u o v _ _ h => h, r⟩
/-- the last of a list that stands in a slot -/
def siL (i : Nat) : WSi := fun env => match env[i]? with
  | some (some (.ow (.lst ds))) => atI ds (-1)
  | some (some (.sh (.lst ds))) => atI ds (-1)
  | _ => none
def fLast (i : Nat) : L2.St → Hp → Option V := fun σ H => match σ[i]? with
  | some (some (.ref a)) => (match H a with
    | some (.lst xs) => atI xs (-1)
    | _ => none)
  | _ => none
theorem sh_last {i j : Nat} {x : Str} {p p2 p3 : Pos} (h : PE X (.Name x p) (tVar i)) : SimH X C (.Subscript (.Name x p) (.UnaryOp .USub (.Constant (.int 1) j p2) p3) pos) (siL i) := by
  refine ⟨fLast i, PEi (pe_ix ix_list h (pe_un un_neg pe_int) (by intro _ _; rfl)) ?_, ?_, ?_⟩
  · rintro σ H Q ⟨v, e, q⟩
    unfold fLast at e
    split at e
    · rename_i a e1
      split at e
      · rename_i xs e2
        exact ⟨_, e1, 1, rfl, a, xs, -1, v, rfl, rfl, .of e2, e, q⟩
      · cases e
    · cases e
  · intro σ H d u o v hd hu e
    unfold fLast at e ⊢
    split at e
    · rename_i a e1
      split at e
      · rename_i xs e2
        have z : a ≠ d := fun z => by rw [z, hd] at e2; cases e2; exact hu
        rw [upd_ne z, e2]
        exact e
      · cases e
    · cases e
  · intro lk G ι env st σ H d hR e
    unfold siL at e
    split at e
    · rename_i ds h2
      obtain ⟨v, e1, hs⟩ := hR.sl _ _ h2
      cases hs with
      | ow hs =>
        obtain ⟨⟨o, k1, k2, _⟩, _⟩ := hs
        cases k2 with
        | lst rr =>
          obtain ⟨v, q1, q2⟩ := atI_reps rr e
          exact ⟨v, by unfold fLast; rw [e1]; dsimp only; rw [k1]; exact q1, q2⟩
    · rename_i ds h2
      obtain ⟨v, e1, hs⟩ := hR.sl _ _ h2
      cases hs with
      | sh rp =>
        cases rp with
        | obj ha hr =>
          cases hr with
          | lst rr =>
            obtain ⟨v, q1, q2⟩ := atI_reps rr e
            rcases hR.fG _ _ ha with k1 | ⟨k1, _⟩
            · exact ⟨v, by unfold fLast; rw [e1]; dsimp only; rw [k1]; exact q1, q2⟩
            · exact k1.elim
    · cases e
/-! ### for .. in d.items() -/
def itemsD : Option D → Option (List D)
  | some (.dI kvs) => some (itemsI kvs)
  | some (.dT kvs) => some (itemsT kvs)
  | _ => none
def wForI (wd : WSi) (g : WG) (w : WS) : WS := fun env st Q _ => match itemsD (wd env) with
  | some ds => wTurns g w Q noX ds env st
  | none => False
theorem s_forI {elts : List Expr} {kk : Nat} {tpos apos cpos : Pos} {e : Expr} {body : List Stmt} {g : WG} {w : WS} {wd : WSi} (hp : PassesOwn (model X.prog X.w) X.A X.env X.xe) (hc : X.calm = true) (hv : SimH X C e wd) (hg : ∀ lk, PG X (.Tuple elts kk tpos) (liftG C lk none g)) (hb : ∀ lk, PSs X body (liftS C lk w))
    (hbase : attributeBase e "items" X.env (eval e X.env) = eval e X.env := by rfl) (hline : (apos.endLine == cpos.line) = true := by rfl)
    (hs : ∀ x, foldedSetIterable (.Call (.Attribute e "items" apos) [] [] cpos) X.env x = pure x := by intro _; rfl) : PS X (.For (.Tuple elts kk tpos) (.Call (.Attribute e "items" apos) [] [] cpos) body [] pos) (liftS C lk (wForI wd g w)) := by
  obtain ⟨f, he, hfr, hrep⟩ := hv
  have loop : ∀ lk', PS X (.For (.Tuple elts kk tpos) (.Call (.Attribute e "items" apos) [] [] cpos) body [] pos) (tFor (iItemsA (fun σ H Q => ∃ v, f σ H = some v ∧ Q v H)) (liftG C lk' none g) (liftS C lk' w)) := fun lk' => ps_for hp hc (pi_itemsA he hbase hline) (hg lk') (hb lk') hs
  refine PSi (ps_or (ps_lockA (t := fun d od u => tFor (iItemsA (fun σ H Q => ∃ v, f σ H = some v ∧ Q v H)) (liftG C ((d, od, u) :: lk) none g) (liftS C ((d, od, u) :: lk) w)) fun d od u => loop _) (loop lk)) ?_
  rintro E σ H ⟨G, ι, env, st, P, Px, hR, hw, hS, hX⟩
  unfold wForI at hw
  -- what the dict is, and how a loop over it goes once it is locked
  obtain ⟨a, u, ds, hf, hGa, hu, hw, fin⟩ : ∃ a u ds, f σ H = some (.ref a) ∧ G a = some u ∧ isD u ∧ wTurns g w P noX ds env st ∧
      ∀ {lk' : Lks} {E' : Ends} {H' : Hp} {od : Obj}, R C lk' G ι env st σ H' → f σ H' = some (.ref a) → (∀ G' ι' env st σ H, Grow C G ι G' ι' → R C lk' G' ι' env st σ H → H a = some (.frz od u)) → SOk C lk' G ι P E' → tFor (iItemsA (fun σ H Q => ∃ v, f σ H = some v ∧ Q v H)) (liftG C lk' none g) (liftS C lk' w) E' σ H' := by
    cases hd : wd env with
    | none => rw [hd] at hw; exact hw.elim
    | some d =>
      rw [hd] at hw
      obtain ⟨v, e1, rp⟩ := hrep lk G ι env st σ H d hR hd
      cases d with
      | dI kvs =>
        cases rp with
        | obj ha hr => cases hr with
          | @dI xs _ hr =>
            refine ⟨_, _, _, e1, ha, True.intro, hw, fun {lk' E' H' od} hR' hf' hm hS' => ?_⟩
            exact ⟨_, hf', _, od, rfl, .inl ⟨xs, hm G ι env st σ H' .refl hR', for_it3 hR' hw hS' xok_no (itItemsI hm hr)⟩⟩
      | dT kvs =>
        cases rp with
        | obj ha hr => cases hr with
          | @dT xs _ hr =>
            refine ⟨_, _, _, e1, ha, True.intro, hw, fun {lk' E' H' od} hR' hf' hm hS' => ?_⟩
            exact ⟨_, hf', _, od, rfl, .inr ⟨xs, hm G ι env st σ H' .refl hR', for_it3 hR' hw hS' xok_no (itItemsT hm hr)⟩⟩
      | _ => exact hw.elim
  rcases hR.fG a u hGa with hh | ⟨_, o, hh⟩
  · -- plain: locked for the loop
    left
    obtain ⟨nl, hF⟩ := hR.nolk hh hu
    refine ⟨a, u, hh, isD_mut hu, fun od => fin (od := od) (hR.lock od hGa hh hu) (hfr σ H a u od _ hh hu hf) (fun G' ι' env st σ H g r => (r.lkd _ _ _ List.mem_cons_self).1) ?_⟩
    refine ⟨fun env st G' ι' σ H p gr r => ⟨(r.lkd _ _ _ List.mem_cons_self).1, hS.nx _ _ _ _ _ _ p gr (r.unlock nl hF)⟩, fun env st G' ι' σ H p gr r => ⟨(r.lkd _ _ _ List.mem_cons_self).1, hS.bk _ _ _ _ _ _ p gr (r.unlock nl hF)⟩, fun env st G' ι' σ H p gr r => ⟨(r.lkd _ _ _ List.mem_cons_self).1, hS.ct _ _ _ _ _ _ p gr (r.unlock nl hF)⟩, fun d env st G' ι' σ H v p gr r q => ⟨(r.lkd _ _ _ List.mem_cons_self).1, hS.rt _ _ _ _ _ _ _ _ p gr (r.unlock nl hF) ?_⟩⟩
    unfold RetV at q ⊢
    generalize C.fr = fr at q ⊢
    cases fr with
    | false => exact q
    | true =>
      obtain ⟨b, rfl, ⟨o', g1, g2, g3⟩, g4, g5, g6⟩ := q
      have z : b ≠ a := fun z => by have := (r.lkd _ _ _ List.mem_cons_self).2.1; rw [← z, g4] at this; cases this
      exact ⟨b, rfl, ⟨o', by rw [upd_ne z]; exact g1, g2, g3⟩, g4, g5, g6⟩
  · -- locked by a loop around
    right
    refine fin (od := o) hR hf (fun G' ι' env st σ H' g r => ?_) hS
    rcases hR.lk2 a o u hh hGa with h | h
    · exact (r.lkd _ _ _ h).1
    · rcases r.fF a _ h with h2 | ⟨o2, h2⟩
      · exact h2
      · exact ((r.lkd _ _ _ h2).2.2).elim
end
/-! ### xs[a:b] of a tuple -/
section
variable {X : Cx} {C : Ctx} {lk : Lks} {pos : Pos} {a : Expr} {wa : WO} {lo hi : Option Expr} {wl wh : WSl} {p2 : Pos}
def slcTD : D → Option Int → Option Int → (D → Prop) → Prop
  | .tup xs, lo, hi, P => P (.tup (cutD xs lo hi))
  | _, _, _, _ => False
def wSlcT (wa : WO) (wl wh : WSl) : WE := fun env st Q Qx => wa env st (fun r1 e1 s1 => wl e1 s1 (fun l e2 s2 => wh e2 s2 (fun h e3 s3 => r1.get e3 fun d => slcTD d l h fun d => Q d e3 s3) Qx) Qx) Qx
theorem e_slcT (eK : X.K = C.K) (ha : PE X a (liftO C lk wa)) (hl : PO X lo (liftSl C lk wl)) (hh : PO X hi (liftSl C lk wh)) : PE X (.Subscript a (.Slice lo hi none p2) pos) (liftE C lk (wSlcT wa wl wh)) := PEi (pe_slice sl_tupA ha hl hh) (by
  rintro σ H Q ⟨G, ι, env, st, P, Px, hR, hw, hQ, hX⟩
  refine ⟨G, ι, env, st, _, Px, hR, hw, fun r1 e1 s1 G1 ι1 x H1 p1 g1 R1 rep1 => ?_, hX⟩
  refine ⟨G1, ι1, e1, s1, _, Px, R1, p1, fun l e2 s2 G2 ι2 H2 p2 g2 R2 => ?_, hX.mono g1⟩
  refine ⟨G2, ι2, e2, s2, _, Px, R2, p2, fun h e3 s3 G3 ι3 H3 p3 g3 R3 => ?_, (hX.mono g1).mono g2⟩
  obtain ⟨d, p3, b⟩ := R3.bor (rep1.mono (g2.trans g3).sub (g2.trans g3).pre) p3
  cases d with
  | tup ds =>
    obtain ⟨q, xs, rfl, h1, q1⟩ := b.tup R3
    have rq : Rep C.K G3 ι3 (.ref q) (.tup ds) := b.rep fun o ho => by cases ho; exact fun m => m
    refine ⟨q, xs, rfl, .of h1, fun hw => ?_, fun _ z hz => ?_⟩
    · have e : cutD ds l h = ds := by
        unfold cutD
        rw [← q1.len, hw.1, hw.2, List.drop_zero, Nat.sub_zero, q1.len, List.take_length]
      have p4 : P (.tup (cutD ds l h)) e3 s3 := p3
      rw [e] at p4
      exact hQ _ e3 s3 G3 ι3 _ _ p4 ((g1.trans g2).trans g3) R3 rq
    · obtain ⟨r2, g4⟩ := R3.newSh (o := .tup (cutV xs l h)) hz
      exact hQ _ e3 s3 _ ι3 _ _ p3 (((g1.trans g2).trans g3).trans g4) r2 (.obj upd_same (.tup ((q1.cut l h).grow g4)))
  | _ => exact p3.elim)
end
section
variable {env : EnvD} {st : Sto} {Q : KE} {Qx : KX}
theorem q_slcT {wa : WO} {wl wh : WSl} : wSlcT wa wl wh env st Q Qx = wa env st (fun r1 e1 s1 => wl e1 s1 (fun l e2 s2 => wh e2 s2 (fun h e3 s3 => r1.get e3 fun d => slcTD d l h fun d => Q d e3 s3) Qx) Qx) Qx := rfl
theorem o_slcT {xs : List D} {lo hi : Option Int} {P : D → Prop} : slcTD (.tup xs) lo hi P = P (.tup (cutD xs lo hi)) := rfl
theorem cutD_1 (x : D) (xs : List D) : cutD (x :: xs) (some 1) none = xs := by
  unfold cutD
  have e1 : HT.sIx (x :: xs).length 0 (some 1) = 1 := by
    simp [HT.sIx]
    try omega
  have e2 : HT.sIx (x :: xs).length (x :: xs).length none = (x :: xs).length := by simp [HT.sIx]
  rw [e1, e2, List.drop_one, List.tail_cons, List.length_cons, Nat.add_sub_cancel, List.take_length]
end
/-! ### steps -/
section
variable {env : EnvD} {st : Sto} {Q : KS} {Qx : KX}
def kForI (s : Option D) (g : WG) (w : WS) (Q : KS) (env : EnvD) (st : Sto) : Prop := match itemsD s with
  | some ds => pTurns g w Q noX ds env st .mk .mk
  | none => False
theorem q_forI {wd : WSi} {g : WG} {w : WS} : wForI wd g w env st Q Qx = kForI (wd env) g w Q env st := rfl
theorem q_forI1 {g : WG} {w : WS} {kvs : List (Int × D)} : kForI (some (.dI kvs)) g w Q env st = pTurns g w Q noX (itemsI kvs) env st .mk .mk := rfl
theorem q_forI2 {g : WG} {w : WS} {kvs : List (List Int × D)} : kForI (some (.dT kvs)) g w Q env st = pTurns g w Q noX (itemsT kvs) env st .mk .mk := rfl
theorem forI_T {s : Option D} {g : WG} {w : WS} {kvs : List (List Int × D)} (h : s = some (.dT kvs)) (hp : wTurns g w Q noX (itemsT kvs) env st) : kForI s g w Q env st := by subst h; exact hp
theorem forI_I {s : Option D} {g : WG} {w : WS} {kvs : List (Int × D)} (h : s = some (.dI kvs)) (hp : wTurns g w Q noX (itemsI kvs) env st) : kForI s g w Q env st := by subst h; exact hp
theorem s_forI_ {wd : WSi} {g : WG} {w u : WS} : wSeq (wForI wd g w) u env st Q Qx = wForI wd g w env st (kSeq u Q Qx) Qx := rfl
end
end VL

/-! The value layer: objects. An instance stands in the store; its handle is passed about. -/
namespace VL
open PySem PySem.Spec PyProof.Rows L2
/-! ### fields -/
def putD (f : Str) (d : D) : List (Str × D) → List (Str × D)
  | [] => [(f, d)]
  | (g, x) :: r => if g = f then (g, d) :: r else (g, x) :: putD f d r
section
variable {K : KC} {G : Hp} {ι : List Addr}
theorem RepF.get {f : Str} {d : D} : ∀ {xs : List (Str × V)} {ds : List (Str × D)}, RepF K G ι xs ds → ds.lookup f = some d → ∃ v, xs.lookup f = some v ∧ Rep K G ι v d
  | _, _, .nil, e => by cases e
  | _, _, .cons (k := k) (x := x) (d := d1) h t, e => by
    by_cases z : f = k
    · subst z
      rw [List.lookup_cons_self] at e ⊢
      cases e
      exact ⟨_, rfl, h⟩
    · have hb : (f == k) = false := beq_eq_false_iff_ne.mpr z
      rw [List.lookup_cons, hb] at e
      obtain ⟨v, h1, h2⟩ := RepF.get t e
      exact ⟨v, by rw [List.lookup_cons, hb]; exact h1, h2⟩
theorem RepF.no {f : Str} : ∀ {xs : List (Str × V)} {ds : List (Str × D)}, RepF K G ι xs ds → ds.lookup f = none → xs.lookup f = none
  | _, _, .nil, _ => rfl
  | _, _, .cons (k := k) h t, e => by
    by_cases z : f = k
    · subst z
      rw [List.lookup_cons_self] at e
      cases e
    · have hb : (f == k) = false := beq_eq_false_iff_ne.mpr z
      rw [List.lookup_cons, hb] at e ⊢
      exact RepF.no t e
theorem RepF.put {f : Str} {v : V} {d : D} (r : Rep K G ι v d) : ∀ {xs : List (Str × V)} {ds : List (Str × D)}, RepF K G ι xs ds → RepF K G ι (putF f v xs) (putD f d ds)
  | _, _, .nil => .cons r .nil
  | _, _, .cons (k := k) h t => by
    unfold putF putD
    by_cases z : k = f
    · rw [if_pos z, if_pos z]; exact .cons r t
    · rw [if_neg z, if_neg z]; exact .cons h (RepF.put r t)
theorem RepF.len : ∀ {xs : List (Str × V)} {ds : List (Str × D)}, RepF K G ι xs ds → xs.length = ds.length
  | _, _, .nil => rfl
  | _, _, .cons h t => by rw [List.length_cons, List.length_cons, RepF.len t]
end
/-- the object o is an instance of the class c with these fields -/
def insS (st : Sto) (c : Str) : D → (Nat → List (Str × D) → Prop) → Prop
  | .hnd n, P => match st[n]? with
    | some (.ins c' fs) => c' = c ∧ P n fs
    | _ => False
  | _, _ => False
section
variable {X : Cx} {C : Ctx} {lk : Lks} {pos : Pos}
theorem insS_ok {G : Hp} {ι : List Addr} {env : EnvD} {st : Sto} {σ : L2.St} {H : Hp} {v : V} {d : D} {c : Str} {P : Nat → List (Str × D) → Prop} (hR : R C lk G ι env st σ H) (rp : Rep C.K G ι v d) (h : insS st c d P) :
    ∃ n a A dx fs ds, d = .hnd n ∧ v = .ref a ∧ ι[n]? = some a ∧ st[n]? = some (.ins c ds) ∧ H a = some (.ins A dx fs) ∧ C.K.Cl c = some A ∧ RepF C.K G ι fs ds ∧ P n ds := by
  cases d with
  | hnd n =>
    unfold insS at h
    dsimp only at h
    split at h
    · rename_i c' fs es
      obtain ⟨e, p⟩ := h
      subst e
      cases rp with
      | obj _ z => cases z
      | hnd hl =>
        obtain ⟨o, h1, h2⟩ := hR.sto _ _ _ hl es
        cases h2 with
        | ins h3 h4 => exact ⟨n, _, _, _, _, _, rfl, rfl, hl, es, h1, h3, h4, p⟩
    · exact h.elim
  | _ => exact h.elim
/-- o.f -/
def fldS (st : Sto) (c f : Str) (o : D) (P : D → Prop) : Prop := insS st c o fun _ fs => match fs.lookup f with
  | some d => P d
  | none => False
def wFld (c f : Str) (wo : WE) : WE := fun env st Q Qx => wo env st (fun o e s => fldS s c f o fun d => Q d e s) Qx
theorem e_fld {o : Expr} {c f : Str} {wo : WE} (hf : ∀ A, C.K.Cl c = some A → Cls X.K A ∧ NoAttr X.K A f) (ho : PE X o (liftE C lk wo)) (hb : attributeBase o f X.env (eval o X.env) = eval o X.env := by rfl) : PE X (.Attribute o f pos) (liftE C lk (wFld c f wo)) := PEi (pe_fld ho hb) (by
  rintro σ H Q ⟨G, ι, env, st, P, Px, hR, hw, hQ, hX⟩
  refine ⟨G, ι, env, st, _, Px, hR, hw, fun d e1 s1 G1 ι1 v H1 p1 g1 R1 rp1 => ?_, hX⟩
  obtain ⟨n, a, A, dx, fs, ds, rfl, rfl, hl, es, h1, h2, h3, p⟩ := insS_ok R1 rp1 p1
  cases hv : ds.lookup f with
  | none => rw [hv] at p; exact p.elim
  | some d =>
    rw [hv] at p
    obtain ⟨v, q1, q2⟩ := h3.get hv
    obtain ⟨k1, k2⟩ := hf A h2
    exact ⟨a, A, dx, fs, v, rfl, h1, k1, k2, q1, hQ d e1 s1 G1 ι1 v H1 p g1 R1 q2⟩)
/-- o.f = e -/
def wPutF (c f : Str) (wo we : WE) : WS := fun env st Q Qx => we env st (fun d e1 s1 => wo e1 s1 (fun o e2 s2 => insS s2 c o fun n fs => fs.length < 900 ∧ Q .nx e2 (s2.set n (.ins c (putD f d fs)))) Qx) Qx
theorem s_fld {o e : Expr} {c f : Str} {wo we : WE} {pos' : Pos} (hf : ∀ A, C.K.Cl c = some A → Cls X.K A ∧ NoAttr X.K A f) (ho : PE X o (liftE C lk wo)) (he : PE X e (liftE C lk we)) (hs : swapsWith e (some (.Attribute o f pos')) pos.line X.env = pure false := by rfl) : PS X (.Assign [.Attribute o f pos'] e pos) (liftS C lk (wPutF c f wo we)) := PSi (ps_fld ho he hs) (by
  rintro E σ H ⟨G, ι, env, st, P, Px, hR, hw, hS, hX⟩
  refine ⟨G, ι, env, st, _, Px, hR, hw, fun d e1 s1 G1 ι1 y H1 p1 g1 R1 rp1 => ?_, hX⟩
  refine ⟨G1, ι1, e1, s1, _, Px, R1, p1, fun o e2 s2 G2 ι2 x H2 p2 g2 R2 rp2 => ?_, hX.mono g1⟩
  obtain ⟨n, a, A, dx, fs, ds, rfl, rfl, hl, es, h1, h2, h3, p3, p4⟩ := insS_ok R2 rp2 p2
  obtain ⟨k1, k2⟩ := hf A h2
  refine ⟨a, A, dx, fs, rfl, h1, k1, k2, by rw [h3.len]; omega, ?_⟩
  exact hS.nx e2 _ G2 ι2 σ _ p4 (g1.trans g2) (R2.putSto hl (.ins h2 (h3.put (rp1.grow g2)))))
end
/-! ### a method's call, a new instance: what they may raise is told at the slots -/
section
variable {X : Cx} {CX : CXT} {k : Nat} {f C : Addr} {fd : FuncData} {ps : List Str} {sp : Sp} {E : L2.St → XK} {x m : Str} {p pos apos : Pos} {e o : Expr} {es : List Expr} {ta : TE} {t : TA}
def tMethP (C : Addr) (m : Str) (sp : Sp) (E : L2.St → XK) (ta : TE) (t : TA) : TE := fun σ H Q => ta σ H fun x H1 => ∃ a dx fs, x = .ref a ∧ H1 a = some (.ins C dx fs) ∧ fs.lookup m = none ∧ t σ H1 fun vs H2 => sp (x :: vs) H2 Q (E σ)
theorem pe_methP {pl : Sem Bool} (he : PE X o ta) (c : Cls X.K C) (hm : Meth X.K C m f) (F : FnOk X.prog X.w X.K X.mg X.base CX k f fd ps sp) (hr : Room k X.A) (hb : Binds X.K fd ps []) (hx : ∀ σ, PassesAt CX X σ (E σ)) (ha : PA X (e :: es) t)
    (hst : starEach (e :: es) X.env = (false, eval e X.env) :: starEach es X.env) (hpl : (backTo pos (starEach es X.env)).any (·.1) = false)
    (ht : eval (.Call (.Attribute o m apos) (e :: es) [] pos) X.env = (do
      let ov ← eval o X.env
      standAt apos.atName
      let (f, first) ← holding [ov] (getMethod ov m pl)
      callWith pos f first (backTo pos (starEach (e :: es) X.env)) (backToKw pos (keywordEach [] X.env)))) :
    PE X (.Call (.Attribute o m apos) (e :: es) [] pos) (tMethP C m sp E ta t) := by
  refine ⟨fun pins s σ H Q I h => ?_⟩
  refine PySem.W.methodCall_KW (pl := pl) (thn (he.run pins s σ H _ I h) fun u s1 ⟨x, H1, I1, rx, a, dx, fs, ex, ea, l, q⟩ => ?_) ht
  subst ex
  obtain rfl : u = Value.ref a := rx
  refine getmeth_ok I1 ea c hm l ?_
  refine PySem.W.callWith_K (first := [.ref a]) (h₀ := X.base) I.ok.mod.kin hm.kp (thn (ha.run pos pins s1 σ H1 _ I1 q) fun us s2 ⟨vs, H2, I2, r, q2⟩ => ⟨I2.kIn, ?_⟩) hst hpl
  exact run_fnS (us := .ref a :: us) (vs := .ref a :: vs) F hr hb (hx σ) I2 (.cons rfl r) q2
theorem pe_methP0 {pl : Sem Bool} (he : PE X o ta) (c : Cls X.K C) (hm : Meth X.K C m f) (F : FnOk X.prog X.w X.K X.mg X.base CX k f fd ps sp) (hr : Room k X.A) (hb : Binds X.K fd ps []) (hx : ∀ σ, PassesAt CX X σ (E σ))
    (ht : eval (.Call (.Attribute o m apos) [] [] pos) X.env = (do
      let ov ← eval o X.env
      standAt apos.atName
      let (f, first) ← holding [ov] (getMethod ov m pl)
      callWith pos f first (backTo pos (starEach [] X.env)) (backToKw pos (keywordEach [] X.env)))) :
    PE X (.Call (.Attribute o m apos) [] [] pos) (tMethP C m sp E ta tNil) := by
  refine ⟨fun pins s σ H Q I h => ?_⟩
  refine PySem.W.methodCall_KW (pl := pl) (thn (he.run pins s σ H _ I h) fun u s1 ⟨x, H1, I1, rx, a, dx, fs, ex, ea, l, q⟩ => ?_) ht
  subst ex
  obtain rfl : u = Value.ref a := rx
  refine getmeth_ok I1 ea c hm l ?_
  exact PySem.W.callWith_K0 (first := [.ref a]) I1.kIn hm.kp (run_fnS (us := [.ref a]) (vs := [.ref a]) F hr hb (hx σ) I1 (.cons rfl .nil) q)
def tMakeP (C : Addr) (sp : Sp) (E : L2.St → XK) (t : TA) : TE := fun σ H Q => t σ H fun vs H1 => ∀ x dx, H1 x = none → H1 dx = none → dx ≠ x →
  sp (.ref x :: vs) (upd (upd H1 dx (.own x)) x (.ins C dx [])) (fun v H2 => v = .non ∧ Q (.ref x) H2) (E σ)
theorem run_makeP {pins : List (Addr × Obj)} {σ : L2.St} {H : Hp} {s : Shared} {Q : VK} {us : List Value} {vs : List V} (M : Mk X.K C f) (F : FnOk X.prog X.w X.K X.mg X.base CX k f fd ps sp) (hr : Room (k + 1) X.A) (hb : Binds X.K fd ps [])
    (hx : PassesAt CX X σ (E σ)) (I : Inv X pins σ H s) (r : Vals vs us)
    (h : ∀ x dx, H x = none → H dx = none → dx ≠ x → sp (.ref x :: vs) (upd (upd H dx (.own x)) x (.ins C dx [])) (fun v H2 => v = .non ∧ Q (.ref x) H2) (E σ)) :
    wpAny (model X.prog X.w) X.A (call (.ref C) us) (EP X pins σ Q) X.xe s := by
  have hq := h (s.heap.objs.size + 1) s.heap.objs.size (I.hok.fresh (Nat.le_succ _)) (I.hok.fresh (Nat.le_refl _)) (Nat.ne_of_lt (Nat.lt_succ_self _))
  have I2 := Inv.made (C := C) I
  have r2 : Vals (V.ref (s.heap.objs.size + 1) :: vs) (Value.ref (s.heap.objs.size + 1) :: us) := .cons rfl r
  have hl : (Value.ref (s.heap.objs.size + 1) :: us).length = ps.length := by
    have e := r2.length
    rw [F.len _ _ _ _ hq] at e
    exact e.symm
  have b := hb { s with heap := _ } (Value.ref (s.heap.objs.size + 1) :: us) I2.kIn (by rw [List.append_nil]; exact hl)
  rw [List.append_nil] at b
  refine wpAny_call (make_map (f := f) I.kIn M.makes M.init (beq_iff_eq.mp M.fn) (codeAny_mono (F.run _ X.stack _ _ ⟨Value.ref (s.heap.objs.size + 1) :: us, []⟩ (Value.ref (s.heap.objs.size + 1) :: us) _ _ (E σ) (hr.make C us [])
    (I2.env0.make C us []) b r2 hq) fun r s' hq' => ?_))
  cases r with
  | error e => exact hx pins _ _ e s' I2 hq'
  | ok fl =>
    cases fl with
    | ret u =>
      obtain ⟨v, H', I3, rv, ev, q3⟩ := I2.after hq'
      subst ev
      exact ⟨rv, ⟨V.ref (s.heap.objs.size + 1), H', I3, rfl, q3⟩⟩
    | next => exact False.elim hq'
    | brk => exact False.elim hq'
    | cont => exact False.elim hq'
theorem pe_makeP (M : Mk X.K C f) (F : FnOk X.prog X.w X.K X.mg X.base CX k f fd ps sp) (hr : Room (k + 1) X.A) (hg : Gl X x) (hm : X.mg x = some (.ref C)) (hb : Binds X.K fd ps []) (hx : ∀ σ, PassesAt CX X σ (E σ))
    (ha : PA X (e :: es) t) (hdb : (x == ("__debug__" : Str)) = false) (he : starEach (e :: es) X.env = (false, eval e X.env) :: starEach es X.env) (hpl : (backTo pos (starEach es X.env)).any (·.1) = false) :
    PE X (.Call (.Name x p) (e :: es) [] pos) (tMakeP C sp E t) := by
  refine ⟨fun pins s σ H Q I h => ?_⟩
  refine wpAny_Call_Name_kw (ld_glob I hg hm ?_ hdb)
  refine PySem.W.callWith_K (h₀ := X.base) I.ok.mod.kin M.kp (thn (ha.run pos pins s σ H _ I h) fun us s1 ⟨vs, H1, I1, r, q⟩ => ⟨I1.kIn, ?_⟩) he hpl
  exact run_makeP M F hr hb (hx σ) I1 r q
end
/-! ### methods and makers -/
structure CalleeM (P : Program) (wd : World) (K : PySem.W.Frag) (mg : Str → Option Value) (base : Heap) (Cl : Str → Option Addr) (c m : Str) (k n : Nat) (Phi : Spec) : Prop where
  ex : ∃ A f fd ps, FnOk P wd K mg base (L2.CX P wd) k f fd ps (spOf K Cl n false Phi) ∧ Cl c = some A ∧ Cls K A ∧ Meth K A m f ∧ Binds K fd ps []
structure CalleeI (P : Program) (wd : World) (K : PySem.W.Frag) (mg : Str → Option Value) (base : Heap) (Cl : Str → Option Addr) (c : Str) (k n : Nat) (Phi : Spec) : Prop where
  ex : ∃ A f fd ps, FnOk P wd K mg base (L2.CX P wd) k f fd ps (spOf K Cl n false Phi) ∧ Cl c = some A ∧ mg c = some (.ref A) ∧ Mk K A f ∧ Binds K fd ps []
section
variable {X : Cx} {C : Ctx} {lk : Lks} {pos apos p : Pos} {k n : Nat} {c m x : Str} {o e : Expr} {es : List Expr} {wo : WE} {wr : WA} {Phi : Spec} {G : Hp} {ι : List Addr} {env : EnvD} {st : Sto} {σ : L2.St} {H : Hp}
def wMeth (c m : Str) (Phi : Spec) (wo : WE) (wr : WA) : WE := fun env st Q Qx => wo env st (fun o e1 s1 => insS s1 c o fun _ fs => fs.lookup m = none ∧ wr e1 s1 (fun ds e2 s2 => Phi (o :: ds) s2 (fun d s' => Q d e2 s') (fun x s' => Qx x e2 s')) Qx) Qx
theorem methLift {A : Addr} {Q : VK} {ta : TA} {n : Nat} (hA : C.K.Cl c = some A) (hta : ∀ σ H Q, liftA C lk n wr σ H Q → ta σ H Q) (h : liftE C lk (wMeth c m Phi wo wr) σ H Q) :
    tMethP A m (spOf C.K.f C.K.Cl (n + 1) false Phi) (fun σ cls d H => C.W cls d σ H) (liftE C lk wo) ta σ H Q := by
  obtain ⟨G, ι, env, st, P, Px, hR, hw, hQ, hX⟩ := h
  refine ⟨G, ι, env, st, _, Px, hR, hw, fun d e1 s1 G1 ι1 v H1 p1 g1 R1 rp1 => ?_, hX⟩
  obtain ⟨i, a, A', dx, fs, ds, rfl, rfl, hl, es, h1, h2, h3, p2, p3⟩ := insS_ok R1 rp1 p1
  obtain rfl : A' = A := Option.some.inj (h2.symm.trans hA)
  refine ⟨a, dx, fs, rfl, h1, h3.no p2, hta _ _ _ ⟨G1, ι1, e1, s1, _, Px, R1, p3, fun ds e2 s2 G2 ι2 vs H2 p4 hn g2 R2 rp => ?_, hX.mono g1⟩⟩
  exact callLift (n := n + 1) R2 (.cons (rp1.grow g2) rp) (by rw [List.length_cons, rp.len, hn]) p4 ((hX.mono g1).mono g2) fun d st' G' ι' v H' p5 g3 R3 q => hQ d e2 st' G' ι' v H' p5 ((g1.trans g2).trans g3) R3 q
theorem e_meth (F : CalleeM X.prog X.w X.K X.mg X.base C.K.Cl c m k (n + 1) Phi) (eK : X.K = C.K.f) (hr : Room k X.A) (tk : Takes X C.W) (ho : PE X o (liftE C lk wo)) (ha : PA X (e :: es) (liftA C lk n wr))
    (hst : starEach (e :: es) X.env = (false, eval e X.env) :: starEach es X.env := by rfl) (hpl : (backTo pos (starEach es X.env)).any (·.1) = false := by rfl) {pl : Sem Bool}
    (ht : eval (.Call (.Attribute o m apos) (e :: es) [] pos) X.env = (do
      let ov ← eval o X.env
      standAt apos.atName
      let (f, first) ← holding [ov] (getMethod ov m pl)
      callWith pos f first (backTo pos (starEach (e :: es) X.env)) (backToKw pos (keywordEach [] X.env))) := by rfl) :
    PE X (.Call (.Attribute o m apos) (e :: es) [] pos) (liftE C lk (wMeth c m Phi wo wr)) := by
  obtain ⟨A, f, fd, ps, hF, hA, cl, hm, hb⟩ := F.ex
  rw [eK] at hF
  exact PEi (pe_methP (pl := pl) ho cl hm (by rw [eK]; exact hF) hr hb (fun σ => passAt tk σ) ha hst hpl ht) fun σ H Q h => methLift hA (fun _ _ _ h => h) h
theorem e_meth0 (F : CalleeM X.prog X.w X.K X.mg X.base C.K.Cl c m k 1 Phi) (eK : X.K = C.K.f) (hr : Room k X.A) (tk : Takes X C.W) (ho : PE X o (liftE C lk wo)) {pl : Sem Bool}
    (ht : eval (.Call (.Attribute o m apos) [] [] pos) X.env = (do
      let ov ← eval o X.env
      standAt apos.atName
      let (f, first) ← holding [ov] (getMethod ov m pl)
      callWith pos f first (backTo pos (starEach [] X.env)) (backToKw pos (keywordEach [] X.env))) := by rfl) :
    PE X (.Call (.Attribute o m apos) [] [] pos) (liftE C lk (wMeth c m Phi wo wNil)) := by
  obtain ⟨A, f, fd, ps, hF, hA, cl, hm, hb⟩ := F.ex
  rw [eK] at hF
  refine PEi (pe_methP0 (pl := pl) ho cl hm (by rw [eK]; exact hF) hr hb (fun σ => passAt tk σ) ht) fun σ H Q h => methLift (n := 0) hA (fun σ H Q h => ?_) h
  obtain ⟨G, ι, env, st, P, Px, hR, hw, hQ, hX⟩ := h
  exact hQ [] env st G ι [] H hw rfl .refl hR .nil
def wMake (c : Str) (Phi : Spec) (wr : WA) : WE := fun env st Q Qx => wr env st (fun ds e s => Phi (.hnd s.length :: ds) (s ++ [.ins c []]) (fun d s' => d = .non ∧ Q (.hnd s.length) e s') (fun x s' => Qx x e s')) Qx
theorem e_make (F : CalleeI X.prog X.w X.K X.mg X.base C.K.Cl c k (n + 1) Phi) (eK : X.K = C.K.f) (hr : Room (k + 1) X.A) (tk : Takes X C.W) (hg : Gl X c) (ha : PA X (e :: es) (liftA C lk n wr)) (hdb : (c == ("__debug__" : Str)) = false := by decide)
    (he : starEach (e :: es) X.env = (false, eval e X.env) :: starEach es X.env := by rfl) (hpl : (backTo pos (starEach es X.env)).any (·.1) = false := by rfl) :
    PE X (.Call (.Name c p) (e :: es) [] pos) (liftE C lk (wMake c Phi wr)) := by
  obtain ⟨A, f, fd, ps, hF, hA, hmg, mk, hb⟩ := F.ex
  rw [eK] at hF
  refine PEi (pe_makeP mk (by rw [eK]; exact hF) hr hg hmg hb (fun σ => passAt tk σ) ha hdb he hpl) fun σ H Q h => ?_
  obtain ⟨G, ι, env, st, P, Px, hR, hw, hQ, hX⟩ := h
  refine ⟨G, ι, env, st, _, Px, hR, hw, fun ds e1 s1 G1 ι1 vs H1 p1 hn g1 R1 rp x dx hx hdx hne => ?_, hX⟩
  have R2 := R1.newOw (o := .own x) hdx
  obtain ⟨R3, g3⟩ := R2.newSto (p := x) (x := .ins c []) (o := .ins A dx []) (by rw [upd_ne (Ne.symm hne)]; exact hx) (.ins hA .nil)
  have hl : (ι1 ++ [x])[s1.length]? = some x := by rw [R1.slen, List.getElem?_append_right (Nat.le_refl _), Nat.sub_self]; rfl
  refine callLift (n := n + 1) (P := fun d e s => d = .non ∧ P (.hnd s1.length) e s) R3 (.cons (.hnd hl) (rp.grow g3)) (by rw [List.length_cons, rp.len, hn]) p1 ((hX.mono g1).mono g3) fun d st' G' ι' v H' p5 g4 R4 q => ?_
  obtain ⟨rfl, p6⟩ := p5
  have q2 : Rep C.K G' ι' v .non := q
  have ev : v = .non := by
    cases q2 with
    | non => rfl
    | obj _ z => cases z
  exact ⟨ev, hQ _ e1 st' G' ι' _ H' p6 ((g1.trans g3).trans g4) R4 (.hnd (pre_get g4.pre hl))⟩
end
/-! ### what a law's text gives -/
def obCl (os : List Str) (K : PySem.W.Frag) : Str → Option Addr := fun c => if c ∈ os then some (He.ga K c) else none
structure ObF (K : PySem.W.Frag) (mg : Str → Option Value) (Cl : Str → Option Addr) (c : Str) (fl : List Str) : Prop where
  ex : ∃ A, Cl c = some A ∧ mg c = some (.ref A) ∧ Cls K A ∧ ∀ f ∈ fl, NoAttr K A f
theorem ObF.fld {K : PySem.W.Frag} {mg : Str → Option Value} {Cl : Str → Option Addr} {c : Str} {fl : List Str} (o : ObF K mg Cl c fl) {f : Str} (h : f ∈ fl) : ∀ A, Cl c = some A → Cls K A ∧ NoAttr K A f := by
  obtain ⟨A, h1, h2, h3, h4⟩ := o.ex
  intro A' e
  rw [h1] at e; cases e
  exact ⟨h3, h4 f h⟩
section
variable {P : Program} {wd : World} {K : PySem.W.Frag} {mg : Str → Option Value} {base : Heap}
theorem mk_calleeM {c m q : Str} {st : Stmt} {f A : Addr} {fd : FuncData} {N ps : List Str} {k : Nat} {Cl : Str → Option Addr} {w : WS} {Phi : Spec} (F : FunD K m q (defArgs st) (defBody st) (defScope st) [] [] f fd) (S : FnScope N ps (defScope st)) (hA : Cl c = some A) (cl : Cls K A) (hm : Meth K A m f)
    (h : ∀ (kV doc pm : Value) (an : Option Addr) (cdv ct : Value) (us : List Value), us.length = ps.length → bindArgs (PySem.W.fnOf m q (defArgs st) (defBody st) (defScope st) .none kV doc pm an cdv ct) ⟨us, []⟩ = pure (ps.zip us))
    (hb : ∀ (cdv : Value) (A : Around) (outer : List Env) (s : Shared) (H : Hp) (E : XK) (Fr : Hp) (W : WX), Room k (A.deeper (envOfC q (defScope st) s.heap.objs.size f cdv)) → Takes (cxOf (L2.CX P wd) P wd K mg base N q (defScope st) f cdv A outer s H E) W →
      PassesOwn (model P wd) (A.deeper (envOfC q (defScope st) s.heap.objs.size f cdv)) (envOfC q (defScope st) s.heap.objs.size f cdv) (cxOf (L2.CX P wd) P wd K mg base N q (defScope st) f cdv A outer s H E).xe →
      PSs (cxOf (L2.CX P wd) P wd K mg base N q (defScope st) f cdv A outer s H E) (defBody st) (liftS ⟨⟨K, Cl⟩, Fr, W, false⟩ [] w))
    (hPhi : ∀ ds st Q Qx, Phi ds st Q Qx → specW false N.length w ds st Q Qx) : CalleeM P wd K mg base Cl c m (k + 1) ps.length Phi :=
  ⟨A, f, fd, ps, fn_imp (fn_okD F S hb) hPhi, hA, cl, hm, FunD.bindsN F h⟩
theorem mk_calleeI {c q : Str} {st : Stmt} {f A : Addr} {fd : FuncData} {N ps : List Str} {k : Nat} {Cl : Str → Option Addr} {w : WS} {Phi : Spec} (F : FunD K "__init__" q (defArgs st) (defBody st) (defScope st) [] [] f fd) (S : FnScope N ps (defScope st)) (hA : Cl c = some A) (hmg : mg c = some (.ref A)) (mk : Mk K A f)
    (h : ∀ (kV doc pm : Value) (an : Option Addr) (cdv ct : Value) (us : List Value), us.length = ps.length → bindArgs (PySem.W.fnOf "__init__" q (defArgs st) (defBody st) (defScope st) .none kV doc pm an cdv ct) ⟨us, []⟩ = pure (ps.zip us))
    (hb : ∀ (cdv : Value) (A : Around) (outer : List Env) (s : Shared) (H : Hp) (E : XK) (Fr : Hp) (W : WX), Room k (A.deeper (envOfC q (defScope st) s.heap.objs.size f cdv)) → Takes (cxOf (L2.CX P wd) P wd K mg base N q (defScope st) f cdv A outer s H E) W →
      PassesOwn (model P wd) (A.deeper (envOfC q (defScope st) s.heap.objs.size f cdv)) (envOfC q (defScope st) s.heap.objs.size f cdv) (cxOf (L2.CX P wd) P wd K mg base N q (defScope st) f cdv A outer s H E).xe →
      PSs (cxOf (L2.CX P wd) P wd K mg base N q (defScope st) f cdv A outer s H E) (defBody st) (liftS ⟨⟨K, Cl⟩, Fr, W, false⟩ [] w))
    (hPhi : ∀ ds st Q Qx, Phi ds st Q Qx → specW false N.length w ds st Q Qx) : CalleeI P wd K mg base Cl c (k + 1) ps.length Phi :=
  ⟨A, f, fd, ps, fn_imp (fn_okD F S hb) hPhi, hA, hmg, mk, FunD.bindsN F h⟩
end
/-! ### steps -/
section
variable {env : EnvD} {st : Sto} {Q : KE} {Qx : KX}
theorem q_fld {c f : Str} {wo : WE} : wFld c f wo env st Q Qx = wo env st (fun o e s => fldS s c f o fun d => Q d e s) Qx := rfl
theorem q_meth {c m : Str} {Phi : Spec} {wo : WE} {wr : WA} : wMeth c m Phi wo wr env st Q Qx = wo env st (fun o e1 s1 => insS s1 c o fun _ fs => fs.lookup m = none ∧ wr e1 s1 (fun ds e2 s2 => pCall Phi (o :: ds) s2 (fun d s' => Q d e2 s') (fun x s' => Qx x e2 s') .mk .mk) Qx) Qx := rfl
theorem q_make {c : Str} {Phi : Spec} {wr : WA} : wMake c Phi wr env st Q Qx = wr env st (fun ds e s => pCall Phi (.hnd s.length :: ds) (s ++ [.ins c []]) (fun d s' => d = .non ∧ Q (.hnd s.length) e s') (fun x s' => Qx x e s') .mk .mk) Qx := rfl
theorem q_putF {c f : Str} {wo we : WE} {Q : KS} : wPutF c f wo we env st Q Qx = we env st (fun d e1 s1 => wo e1 s1 (fun o e2 s2 => insS s2 c o fun n fs => fs.length < 900 ∧ Q .nx e2 (s2.set n (.ins c (putD f d fs)))) Qx) Qx := rfl
theorem s_putF_ {c f : Str} {wo we : WE} {u : WS} {Q : KS} : wSeq (wPutF c f wo we) u env st Q Qx = wPutF c f wo we env st (kSeq u Q Qx) Qx := rfl
theorem fld_at {n : Nat} {c f : Str} {fs : List (Str × D)} {d : D} {P : D → Prop} (h : st[n]? = some (.ins c fs)) (hd : fs.lookup f = some d) (hp : P d) : fldS st c f (.hnd n) P := by
  unfold fldS insS; dsimp only; rw [h]; dsimp only; rw [hd]; exact ⟨rfl, hp⟩
theorem ins_at {n : Nat} {c : Str} {fs : List (Str × D)} {P : Nat → List (Str × D) → Prop} (h : st[n]? = some (.ins c fs)) (hp : P n fs) : insS st c (.hnd n) P := by
  unfold insS; dsimp only; rw [h]; exact ⟨rfl, hp⟩
end
end VL

/-! The value layer: texts split, told, read; f-strings; a text in a tuple of texts; methods that give a fresh object; a comprehension over a list of the store. -/
namespace VL
open PySem PySem.Spec PyProof.Rows L2
section
variable {X : Cx} {C : Ctx} {lk : Lks} {pos p apos : Pos} {o e a b : Expr} {wo wa : WE} {wb wc : WO}
theorem reps_strs {K : KC} {G : Hp} {ι : List Addr} : ∀ (ys : List Str), Reps K G ι (ys.map V.str) (ys.map D.str)
  | [] => .nil
  | _ :: ys => .cons .str (reps_strs ys)
/-! ### split -/
def splS (a : Str) (d : D) (P : D → Prop) : Prop := match d with
  | .str b => ((b.length == 0) = false ∧ a.length ≤ 16777214) ∧ P (.lst ((Txt.split a b).map .str))
  | _ => False
theorem f_split (ho : PE X o (liftE C lk wo)) (he : PE X e (liftE C lk wa)) (hs : starEach [e] X.env = [(false, eval e X.env)] := by rfl) (hbase : attributeBase o "split" X.env (eval o X.env) = eval o X.env := by rfl) (hline : (apos.endLine == pos.line) = true := by rfl) :
    PE X (.Call (.Attribute o "split" apos) [e] [] pos) (liftF C lk (wM1 splS wo wa)) := PEi (pe_split ho he hs hbase hline) (by
  rintro σ H Q ⟨G, ι, env, st, P, Px, hR, hw, hQ, hX⟩
  refine ⟨G, ι, env, st, _, Px, hR, hw, fun d e1 s1 G1 ι1 v H1 p1 g1 R1 rp1 => ?_, hX⟩
  cases d with
  | str a =>
    have e1' := (show Bor C.K G1 ι1 H1 v (.str a) from .inl rp1).str
    subst e1'
    refine ⟨⟨a, rfl⟩, G1, ι1, e1, s1, _, Px, R1, p1, fun d2 e2 s2 G2 ι2 y H2 p2 g2 R2 rp2 => ?_, hX.mono g1⟩
    cases d2 with
    | str b =>
      have e2' := (show Bor C.K G2 ι2 H2 y (.str b) from .inl rp2).str
      subst e2'
      obtain ⟨⟨q1, q2⟩, q3⟩ := p2
      refine ⟨a, b, rfl, rfl, q1, by rw [sizeLine_eq]; omega, fun z hz => ?_⟩
      obtain ⟨r, o, n⟩ := newFresh (d := .lst ((Txt.split a b).map .str)) R2 hz (.lst (reps_strs _)) True.intro
      exact hQ _ e2 s2 G2 ι2 _ _ q3 (g1.trans g2) r o n
    | _ => exact p2.elim
  | _ => exact p1.elim)
/-! ### int(text), str(n) -/
def intTD : D → (D → Prop) → Prop
  | .str a, P => a.length ≤ 640 ∧ (match PySem.intText? a with
    | some n => P (.int n)
    | none => False)
  | _, _ => False
theorem c1_intT : Call1 C (fun xs H Q => ∃ a n, xs = [.str a] ∧ PySem.intText? a = some n ∧ a.length ≤ 640 ∧ Q (.int n) H) intTD := by
  intro lk G ι env st σ H x d P Q hR b hf k
  cases d with
  | str i =>
    rw [b.str]
    unfold intTD at hf
    dsimp only at hf
    obtain ⟨h1, h2⟩ := hf
    split at h2
    · rename_i n e
      exact ⟨i, n, rfl, e, h1, k _ G _ H h2 .refl hR .int⟩
    · exact h2.elim
  | _ => exact hf.elim
theorem e_toIntT (hg : Gl X "int") (hm : X.mg "int" = none) (ha : PE X e (liftO C lk wb)) (he : starEach [e] X.env = (false, eval e X.env) :: starEach [] X.env := by rfl) (hpl : (backTo pos (starEach [] X.env)).any (·.1) = false := by rfl) :
    PE X (.Call (.Name "int" p) [e] [] pos) (liftE C lk (wC1 intTD wb)) := e_ty1 call_int_str c1_intT hg hm (by decide +kernel) ha (by decide) (by decide) he hpl
def strD : D → (D → Prop) → Prop
  | .int i, P => i.natAbs.log2 < 1920 ∧ P (.str (toString i))
  | _, _ => False
theorem c1_str : Call1 C (fun xs H Q => ∃ i, xs = [.int i] ∧ i.natAbs.log2 < 1920 ∧ Q (.str (toString i)) H) strD := by
  intro lk G ι env st σ H x d P Q hR b hf k
  cases d with
  | int i => rw [b.int]; exact ⟨i, rfl, hf.1, k _ G _ H hf.2 .refl hR .str⟩
  | _ => exact hf.elim
theorem e_str1 (hg : Gl X "str") (hm : X.mg "str" = none) (ha : PE X e (liftO C lk wb)) (he : starEach [e] X.env = (false, eval e X.env) :: starEach [] X.env := by rfl) (hpl : (backTo pos (starEach [] X.env)).any (·.1) = false := by rfl) :
    PE X (.Call (.Name "str" p) [e] [] pos) (liftE C lk (wC1 strD wb)) := e_ty1 call_str_int c1_str hg hm (by decide +kernel) ha (by decide) (by decide) he hpl
/-! ### f-strings -/
def fmtD : D → (D → Prop) → Prop
  | .str y, P => y.length ≤ 16777216 ∧ P (.str y)
  | .int i, P => i.natAbs.log2 < 1920 ∧ P (.str (toString i))
  | _, _ => False
def wFmt (we : WE) : WE := fun env st Q Qx => we env st (fun d e s => fmtD d fun v => Q v e s) Qx
theorem e_fmt (he : PE X e (liftE C lk wo)) : PE X (.FormattedValue e (-1) none pos) (liftE C lk (wFmt wo)) := PEi (pe_fmt he) (by
  rintro σ H Q ⟨G, ι, env, st, P, Px, hR, hw, hQ, hX⟩
  refine ⟨G, ι, env, st, _, Px, hR, hw, fun d e s G' ι' v H' p g r rp => ?_, hX⟩
  cases d with
  | str y =>
    have e1 := (show Bor C.K G' ι' H' v (.str y) from .inl rp).str
    subst e1
    exact .inl ⟨y, rfl, by rw [sizeLine_eq]; exact p.1, hQ _ e s G' ι' _ H' p.2 g r .str⟩
  | int i =>
    have e1 := (show Bor C.K G' ι' H' v (.int i) from .inl rp).int
    subst e1
    exact .inr ⟨i, rfl, p.1, hQ _ e s G' ι' _ H' p.2 g r .str⟩
  | _ => exact p.elim)
inductive FJ (X : Cx) (C : Ctx) (lk : Lks) : List Expr → List WE → Prop where
  | nil : FJ X C lk [] []
  | cons {e : Expr} {w : WE} {es : List Expr} {ws : List WE} (h : PE X e (liftE C lk w)) (r : FJ X C lk es ws) : FJ X C lk (e :: es) (w :: ws)
def wJs : List WE → Str → WE
  | [], acc => fun env st Q _ => Q (.str acc) env st
  | w :: ws, acc => fun env st Q Qx => w env st (fun d e s => match d with
    | .str y => (acc ++ y).length ≤ 16777216 ∧ wJs ws (acc ++ y) e s Q Qx
    | _ => False) Qx
theorem fj_pj {es : List Expr} {ws : List WE} (h : FJ X C lk es ws) : PJ X es (ws.map (liftE C lk)) := by
  induction h with
  | nil => exact .nil
  | cons h _ ih => exact .cons h ih
theorem js_lift : ∀ (ws : List WE) (acc : Str) {σ : L2.St} {H : Hp} {Q : VK}, liftE C lk (wJs ws acc) σ H Q → tJs (ws.map (liftE C lk)) acc σ H (fun out H1 => Q (.str out) H1)
  | [], acc, σ, H, Q, h => by
    obtain ⟨G, ι, env, st, P, Px, hR, hw, hQ, hX⟩ := h
    exact hQ _ env st G ι _ H hw .refl hR .str
  | w :: ws, acc, σ, H, Q, h => by
    obtain ⟨G, ι, env, st, P, Px, hR, hw, hQ, hX⟩ := h
    refine ⟨G, ι, env, st, _, Px, hR, hw, fun d e s G' ι' v H' p g r rp => ?_, hX⟩
    cases d with
    | str y =>
      have e1 := (show Bor C.K G' ι' H' v (.str y) from .inl rp).str
      subst e1
      refine ⟨y, rfl, by rw [sizeLine_eq]; exact p.1, js_lift ws (acc ++ y) ⟨G', ι', e, s, _, Px, r, p.2, fun d e s G2 ι2 v H2 p2 g2 r2 rp2 => hQ d e s G2 ι2 v H2 p2 (g.trans g2) r2 rp2, hX.mono g⟩⟩
    | _ => exact p.elim
theorem e_joined {v1 v2 : Expr} {rest : List Expr} {ws : List WE} (h : FJ X C lk (v1 :: v2 :: rest) ws) : PE X (.JoinedStr (v1 :: v2 :: rest) pos) (liftE C lk (wJs ws Str.empty)) := PEi (pe_joined (fj_pj h)) fun σ H Q h => js_lift ws Str.empty h
theorem e_joined1 (he : PE X e (liftE C lk wo)) : PE X (.JoinedStr [e] pos) (liftE C lk wo) := pe_joined1 he
/-! ### a text in a tuple or list of texts -/
theorem inV_strs {c : Str} : ∀ (l : List Str), inV (.str c) (l.map V.str) = decide (c ∈ l)
  | [] => rfl
  | y :: l => by
    unfold inV
    rw [List.map_cons, List.any_cons]
    have ih := inV_strs (c := c) l
    unfold inV at ih
    rw [ih]
    by_cases e : y = c
    · subst e; simp [eqV]
    · have e2 : c ≠ y := fun z => e z.symm
      simp [eqV, e, e2]
theorem flat_strs : ∀ (l : List Str), (l.map V.str).all flatV = true
  | [] => rfl
  | _ :: l => by rw [List.map_cons, List.all_cons, flat_strs l]; rfl
def inTD (d e : D) (P : D → Prop) : Prop := match d, e with
  | .str c, .tup xs => (match strsOf xs with
    | some l => P (.bl (decide (c ∈ l)))
    | none => False)
  | .str c, .lst xs => (match strsOf xs with
    | some l => P (.bl (decide (c ∈ l)))
    | none => False)
  | _, _ => False
theorem op2_inT (eK : X.K = C.K) : Op2 C (rIn X.K false) inTD := by
  intro lk' G ι env st σ H x y d1 d2 P Q hR b1 b2 hf k
  unfold inTD at hf
  split at hf
  · rename_i c xs _
    split at hf
    · rename_i l e
      obtain ⟨q, vs, rfl, h1, r⟩ := b2.tup hR
      have e2 := r.strs e
      subst e2
      rw [b1.str]
      exact ⟨q, _, rfl, .inr (.of h1), rfl, flat_strs l, by rw [inV_strs]; exact k _ G _ H hf .refl hR .bl⟩
    · exact hf.elim
  · rename_i c xs _
    split at hf
    · rename_i l e
      obtain ⟨q, vs, rfl, h1, r⟩ := b2.lst hR
      have e2 := r.strs e
      subst e2
      rw [b1.str]
      exact ⟨q, _, rfl, .inl (.of h1), rfl, flat_strs l, by rw [inV_strs]; exact k _ G _ H hf .refl hR .bl⟩
    · exact hf.elim
  · exact hf.elim
abbrev wInT := wBin inTD
theorem e_inT (eK : X.K = C.K) (ha : PE X a (liftO C lk wb)) (hb : PE X b (liftO C lk wc)) (hm : behindInMarks .In b = false := by rfl) : PE X (.Compare a [.In] [b] pos) (liftE C lk (wInT wb wc)) := e_cmp op_in_seq (op2_inT eK) ha hb hm
theorem t_inT (eK : X.K = C.K) (ha : PE X a (liftO C lk wb)) (hb : PE X b (liftO C lk wc)) (hm : behindInMarks .In b = false := by rfl) : PT X (.Compare a [.In] [b] pos) (liftB C lk (wT (wInT wb wc))) := t_cmp op_in_seq (op2_inT eK) ha hb hm
end
/-! ### n ** 3 -/
section
variable {X : Cx} {C : Ctx} {lk : Lks} {pos : Pos} {a b : Expr} {wa wb : WO}
def pow3D : D → D → (D → Prop) → Prop
  | .int a, .int b, P => (b = 3 ∧ a.natAbs < 2 ^ 400) ∧ P (.int (a ^ 3))
  | _, _, _ => False
theorem bits_400 {a : Int} (h : a.natAbs < 2 ^ 400) : (Builtin.Int.intBits a : Int) * 3 ≤ 2 ^ 27 := by
  have : Builtin.Int.intBits a ≤ 401 := by
    unfold Builtin.Int.intBits
    split
    · omega
    · rename_i z
      have z' : a.natAbs ≠ 0 := fun e => z (by rw [Int.natAbs_eq_zero.mp e]; rfl)
      have := (Nat.log2_lt z').mpr h
      omega
  omega
theorem op_pow3 : OpR X (binaryOp .Pow) (rI (fun i j => j = 3 ∧ i.natAbs < 2 ^ 400) fun i j => .int (i ^ j.toNat)) := opI fun _ _ _ _ _ _ _ hc q => pow_int (by rw [hc.1]; decide) (by rw [hc.1]; exact bits_400 hc.2) q
theorem op2_pow3 : Op2 C (rI (fun i j => j = 3 ∧ i.natAbs < 2 ^ 400) fun i j => .int (i ^ j.toNat)) pow3D := by
  intro lk G ι env st σ H x y d1 d2 P Q hR b1 b2 hf k
  unfold pow3D at hf
  split at hf
  · rw [b1.int, b2.int]
    obtain ⟨⟨q1, q2⟩, q⟩ := hf
    subst q1
    exact ⟨_, _, rfl, rfl, ⟨rfl, q2⟩, k _ G _ H q .refl hR .int⟩
  · exact hf.elim
abbrev wPow3 := wBin pow3D
theorem e_pow3 (ha : PE X a (liftO C lk wa)) (hb : PE X b (liftO C lk wb)) : PE X (.BinOp a .Pow b pos) (liftE C lk (wPow3 wa wb)) := e_bin op_pow3 op2_pow3 ha hb
theorem o_pow3 {a b : Int} {P : D → Prop} : pow3D (.int a) (.int b) P = ((b = 3 ∧ a.natAbs < 2 ^ 400) ∧ P (.int (a ^ 3))) := rfl
end
/-! ### a method that gives a fresh object; a maker without arguments -/
structure CalleeMF (P : Program) (wd : World) (K : PySem.W.Frag) (mg : Str → Option Value) (base : Heap) (Cl : Str → Option Addr) (c m : Str) (k n : Nat) (Phi : Spec) : Prop where
  ex : ∃ A f fd ps, FnOk P wd K mg base (L2.CX P wd) k f fd ps (spOf K Cl n true Phi) ∧ Cl c = some A ∧ Cls K A ∧ Meth K A m f ∧ Binds K fd ps []
section
variable {X : Cx} {C : Ctx} {lk : Lks} {pos apos p : Pos} {k n : Nat} {c m x : Str} {o e : Expr} {es : List Expr} {wo : WE} {wr : WA} {Phi : Spec} {G : Hp} {ι : List Addr} {env : EnvD} {st : Sto} {σ : L2.St} {H : Hp}
theorem methLiftF {A : Addr} {Q : VK} {ta : TA} {n : Nat} (hA : C.K.Cl c = some A) (hta : ∀ σ H Q, liftA C lk n wr σ H Q → ta σ H Q) (h : liftF C lk (wMeth c m Phi wo wr) σ H Q) :
    tMethP A m (spOf C.K.f C.K.Cl (n + 1) true Phi) (fun σ cls d H => C.W cls d σ H) (liftE C lk wo) ta σ H Q := by
  obtain ⟨G, ι, env, st, P, Px, hR, hw, hQ, hX⟩ := h
  refine ⟨G, ι, env, st, _, Px, hR, hw, fun d e1 s1 G1 ι1 v H1 p1 g1 R1 rp1 => ?_, hX⟩
  obtain ⟨i, a, A', dx, fs, ds, rfl, rfl, hl, es, h1, h2, h3, p2, p3⟩ := insS_ok R1 rp1 p1
  obtain rfl : A' = A := Option.some.inj (h2.symm.trans hA)
  refine ⟨a, dx, fs, rfl, h1, h3.no p2, hta _ _ _ ⟨G1, ι1, e1, s1, _, Px, R1, p3, fun ds e2 s2 G2 ι2 vs H2 p4 hn g2 R2 rp => ?_, hX.mono g1⟩⟩
  refine callLift (n := n + 1) (fr := true) R2 (.cons (rp1.grow g2) rp) (by rw [List.length_cons, rp.len, hn]) p4 ((hX.mono g1).mono g2) fun d st' G' ι' v H' p5 g3 R3 q => ?_
  obtain ⟨b, rfl, o⟩ := q
  obtain ⟨o2, n2⟩ := retOwn R2 g3.pre o
  exact hQ d e2 st' G' ι' b H' p5 ((g1.trans g2).trans g3) R3 o2 n2
theorem f_meth (F : CalleeMF X.prog X.w X.K X.mg X.base C.K.Cl c m k (n + 1) Phi) (eK : X.K = C.K.f) (hr : Room k X.A) (tk : Takes X C.W) (ho : PE X o (liftE C lk wo)) (ha : PA X (e :: es) (liftA C lk n wr))
    (hst : starEach (e :: es) X.env = (false, eval e X.env) :: starEach es X.env := by rfl) (hpl : (backTo pos (starEach es X.env)).any (·.1) = false := by rfl) {pl : Sem Bool}
    (ht : eval (.Call (.Attribute o m apos) (e :: es) [] pos) X.env = (do
      let ov ← eval o X.env
      standAt apos.atName
      let (f, first) ← holding [ov] (getMethod ov m pl)
      callWith pos f first (backTo pos (starEach (e :: es) X.env)) (backToKw pos (keywordEach [] X.env))) := by rfl) :
    PE X (.Call (.Attribute o m apos) (e :: es) [] pos) (liftF C lk (wMeth c m Phi wo wr)) := by
  obtain ⟨A, f, fd, ps, hF, hA, cl, hm, hb⟩ := F.ex
  rw [eK] at hF
  exact PEi (pe_methP (pl := pl) ho cl hm (by rw [eK]; exact hF) hr hb (fun σ => passAt tk σ) ha hst hpl ht) fun σ H Q h => methLiftF hA (fun _ _ _ h => h) h
theorem pe_makeP0 {CX : CXT} {f A : Addr} {fd : FuncData} {ps : List Str} {sp : Sp} {E : L2.St → XK} (M : Mk X.K A f) (F : FnOk X.prog X.w X.K X.mg X.base CX k f fd ps sp) (hr : Room (k + 1) X.A) (hg : Gl X x) (hm : X.mg x = some (.ref A)) (hb : Binds X.K fd ps []) (hx : ∀ σ, PassesAt CX X σ (E σ))
    (hdb : (x == ("__debug__" : Str)) = false) :
    PE X (.Call (.Name x p) [] [] pos) (tMakeP A sp E tNil) := by
  refine ⟨fun pins s σ H Q I h => ?_⟩
  refine wpAny_Call_Name_kw (ld_glob I hg hm ?_ hdb)
  exact PySem.W.callWith_K0 I.kIn M.kp (run_makeP (us := []) (vs := []) M F hr hb (hx σ) I .nil h)
theorem e_make0 (F : CalleeI X.prog X.w X.K X.mg X.base C.K.Cl c k 1 Phi) (eK : X.K = C.K.f) (hr : Room (k + 1) X.A) (tk : Takes X C.W) (hg : Gl X c) (hdb : (c == ("__debug__" : Str)) = false := by decide) :
    PE X (.Call (.Name c p) [] [] pos) (liftE C lk (wMake c Phi wNil)) := by
  obtain ⟨A, f, fd, ps, hF, hA, hmg, mk, hb⟩ := F.ex
  rw [eK] at hF
  refine PEi (pe_makeP0 mk (by rw [eK]; exact hF) hr hg hmg hb (fun σ => passAt tk σ) hdb) fun σ H Q h => ?_
  obtain ⟨G, ι, env, st, P, Px, hR, hw, hQ, hX⟩ := h
  intro x dx hx hdx hne
  have R2 := hR.newOw (o := .own x) hdx
  obtain ⟨R3, g3⟩ := R2.newSto (p := x) (x := .ins c []) (o := .ins A dx []) (by rw [upd_ne (Ne.symm hne)]; exact hx) (.ins hA .nil)
  have hl : (ι ++ [x])[st.length]? = some x := by rw [hR.slen, List.getElem?_append_right (Nat.le_refl _), Nat.sub_self]; rfl
  refine callLift (n := 1) (P := fun d e s => d = .non ∧ P (.hnd st.length) e s) R3 (.cons (.hnd hl) .nil) (by rfl) hw (hX.mono g3) fun d st' G' ι' v H' p5 g4 R4 q => ?_
  obtain ⟨rfl, p6⟩ := p5
  have q2 : Rep C.K G' ι' v .non := q
  have ev : v = .non := by
    cases q2 with
    | non => rfl
    | obj _ z => cases z
  exact ⟨ev, hQ _ env st' G' ι' _ H' p6 (g3.trans g4) R4 (.hnd (pre_get g4.pre hl))⟩
end
section
variable {P : Program} {wd : World} {K : PySem.W.Frag} {mg : Str → Option Value} {base : Heap}
theorem mk_calleeMF {c m q : Str} {st : Stmt} {f A : Addr} {fd : FuncData} {N ps : List Str} {k : Nat} {Cl : Str → Option Addr} {w : WS} {Phi : Spec} (F : FunD K m q (defArgs st) (defBody st) (defScope st) [] [] f fd) (S : FnScope N ps (defScope st)) (hA : Cl c = some A) (cl : Cls K A) (hm : Meth K A m f)
    (h : ∀ (kV doc pm : Value) (an : Option Addr) (cdv ct : Value) (us : List Value), us.length = ps.length → bindArgs (PySem.W.fnOf m q (defArgs st) (defBody st) (defScope st) .none kV doc pm an cdv ct) ⟨us, []⟩ = pure (ps.zip us))
    (hb : ∀ (cdv : Value) (A : Around) (outer : List Env) (s : Shared) (H : Hp) (E : XK) (Fr : Hp) (W : WX), Room k (A.deeper (envOfC q (defScope st) s.heap.objs.size f cdv)) → Takes (cxOf (L2.CX P wd) P wd K mg base N q (defScope st) f cdv A outer s H E) W →
      PassesOwn (model P wd) (A.deeper (envOfC q (defScope st) s.heap.objs.size f cdv)) (envOfC q (defScope st) s.heap.objs.size f cdv) (cxOf (L2.CX P wd) P wd K mg base N q (defScope st) f cdv A outer s H E).xe →
      PSs (cxOf (L2.CX P wd) P wd K mg base N q (defScope st) f cdv A outer s H E) (defBody st) (liftS ⟨⟨K, Cl⟩, Fr, W, true⟩ [] w))
    (hPhi : ∀ ds st Q Qx, Phi ds st Q Qx → specW true N.length w ds st Q Qx) : CalleeMF P wd K mg base Cl c m (k + 1) ps.length Phi :=
  ⟨A, f, fd, ps, fn_imp (fn_okD F S hb) hPhi, hA, cl, hm, FunD.bindsN F h⟩
end
/-! ### a comprehension over a list of the store -/
structure ItOkS (C : Ctx) (lk : Lks) (G : Hp) (ι : List Addr) (I : Sto → Prop) (J : It) (ds : List D) : Prop where
  ex : ∃ Gd Y, Walk J ds.length Gd Y ∧ (∀ G' ι' env st σ H, I st → Grow C G ι G' ι' → R C lk G' ι' env st σ H → Gd H) ∧
    ∀ i G' ι' env st σ H x H', I st → i < ds.length → Grow C G ι G' ι' → R C lk G' ι' env st σ H → Y i H x H' → ∃ G2, Grow C G' ι' G2 ι' ∧ R C lk G2 ι' env st σ H' ∧ (∃ d, ds[i]? = some d ∧ Rep C.K G2 ι' x d) ∧ Sub H H' ∧ ∀ a u, G2 a = some u → G' a = some u ∨ H a = none
abbrev WIS := EnvD → Sto → ((Sto → Prop) → List D → EnvD → Sto → Prop) → KX → Prop
def liftIS (C : Ctx) (lk : Lks) (w : WIS) : TI := fun σ H Rk => ∃ G ι env st P Px, R C lk G ι env st σ H ∧ w env st P Px ∧
  (∀ I ds env' st' G' ι' J H', P I ds env' st' → Grow C G ι G' ι' → R C lk G' ι' env' st' σ H' → ItOkS C lk G' ι' I J ds → Rk J H') ∧ XOk C lk G ι Px
def lcTS (I : Sto → Prop) (vs : List Nat) (g : WG) (t : WB) (w : WE) (Q : KE) : List D → List D → EnvD → Sto → Prop
  | [], acc, env, st => I st ∧ Q (.lst acc) env st
  | d :: ds, acc, env, st => I st ∧ g d env st fun e s => t e s (fun b e s => if b = true then w e s (fun y e s => acc.length < 16777216 ∧ lcTS I vs g t w Q ds (acc ++ [y]) (wipeE e vs) s) noX else lcTS I vs g t w Q ds acc (wipeE e vs) s) noX
theorem lcTS_I {I : Sto → Prop} {vs : List Nat} {g : WG} {t : WB} {w : WE} {Q : KE} {ds acc : List D} {env : EnvD} {st : Sto} (h : lcTS I vs g t w Q ds acc env st) : I st := by
  cases ds with
  | nil => exact h.1
  | cons _ _ => exact h.1
def wLcS (vs : List Nat) (wi : WIS) (g : WG) (t : WB) (w : WE) : WE := fun env st Q Qx => wi env st (fun I ds e s => lcTS I vs g t w Q ds [] (wipeE e vs) s) Qx
section
variable {X : Cx} {C : Ctx} {lk : Lks} {pos : Pos} {e : Expr} {we : WE} {tg : Expr}
def wItH (we : WE) : WIS := fun env st Q Qx => we env st (fun d e s => match d with
  | .hnd n => (match s[n]? with
    | some (.dat (.lst ds)) => Q (fun s => s[n]? = some (.dat (.lst ds))) ds e s
    | _ => False)
  | _ => False) Qx
theorem i_hnd (eK : X.K = C.K) (he : PE X e (liftE C lk we)) : PI X tg e (liftIS C lk (wItH we)) := PIi (pi_any he) (by
  rintro σ H Rk ⟨G, ι, env, st, P, Px, hR, hw, hQ, hX⟩
  refine ⟨G, ι, env, st, _, Px, hR, hw, fun d e s G' ι' v H' p g r rp => ?_, hX⟩
  cases d with
  | hnd n =>
    dsimp only at p
    split at p
    · rename_i ds es
      cases rp with
      | obj _ q => cases q
      | @hnd a _ hl =>
        have sq : ∀ {G2 ι2 env2 st2 σ2 H2}, st2[n]? = some (.dat (.lst ds)) → Grow C G' ι' G2 ι2 → R C lk G2 ι2 env2 st2 σ2 H2 → ∃ xs, H2 a = some (.lst xs) ∧ Reps C.K G2 ι2 xs ds := fun {G2 ι2 env2 st2 σ2 H2} e2 g2 r2 => by
          obtain ⟨o, h1, h2⟩ := r2.sto _ _ _ (pre_get g2.pre hl) e2
          cases h2 with
          | dat h2 m => cases h2 with
            | lst q => exact ⟨_, h1, q⟩
        obtain ⟨xs, h1, _⟩ := sq es .refl r
        refine .inl ⟨a, rfl, ⟨xs, .of h1⟩, hQ _ _ e s G' ι' _ H' p g r ⟨fun H => ∃ xs, xs.length = ds.length ∧ SqL X.K H a xs, fun i H x H' => H' = H ∧ ∀ xs, SqL X.K H a xs → xs[i]? = some x, ?_, ?_, ?_⟩⟩
        · exact ⟨fun i _ hi ⟨xs, hn, q⟩ => ⟨xs, xs[i]'(by omega), q, by simp [show i < xs.length by omega]⟩, fun _ ⟨xs, hn, q⟩ => ⟨xs, q, Nat.le_of_eq hn⟩, fun _ _ _ _ _ _ y => y⟩
        · intro G2 ι2 env2 st2 σ2 H2 e2 g2 r2
          obtain ⟨xs, h1, q⟩ := sq e2 g2 r2
          exact ⟨xs, q.len, .of h1⟩
        · intro i G2 ι2 env2 st2 σ2 H2 x H3 e2 hi g2 r2 y
          obtain ⟨rfl, y⟩ := y
          obtain ⟨xs, h1, q⟩ := sq e2 g2 r2
          obtain ⟨d, hd, rp⟩ := q.getR (y xs (.of h1))
          exact ⟨G2, .refl, r2, ⟨d, hd, rp⟩, Sub.refl _, fun _ _ h => .inl h⟩
    · exact p.elim
  | _ => exact p.elim)
variable {wi : WIS} {wg : WG} {wt : WB} {vs : List Nat}
theorem lcLiftS {σ : L2.St} {H : Hp} {Q : VK} (h : liftF C lk (wLcS vs wi wg wt we) σ H Q) : tLc (liftIS C lk wi) (liftGx C lk vs wg) (liftBx C lk wt) (liftEx C lk we) vs σ H Q := by
  obtain ⟨G, ι, env, st, P, Px, hR, hw, hQ, hX⟩ := h
  refine ⟨G, ι, env, st, _, Px, hR, hw, fun I ds e s G1 ι1 J H1 p g1 R1 it D hD => ?_, hX⟩
  obtain ⟨Gd, Y, W, hG, hY⟩ := it.ex
  obtain ⟨n1, n2, n3⟩ := R1.noG hD
  have R1' : R C lk G1 ι1 e s σ (upd H1 D (.lst [])) := R1.newOw hD
  have ns : NoSlot e σ D := fun i d q q2 => by
    obtain ⟨v, e1, hs⟩ := R1.sl i _ q
    rw [q2] at e1; cases e1
    cases hs with
    | ow hs => obtain ⟨⟨x, z, _⟩, _⟩ := hs; rw [hD] at z; cases z
  have nw : ∀ {e' : EnvD} {τ : L2.St}, NoSlot e' τ D → NoSlot (wipeE e' vs) τ D := fun {e' τ} h i d q => by
    refine h i d ?_
    have hi := wipeE_none q
    have : ∀ (us : List Nat), i ∉ us → (wipeE e' us)[i]? = e'[i]? := by
      intro us
      induction us with
      | nil => intro _; rfl
      | cons k us ih =>
        intro hk
        unfold wipeE
        rw [List.getElem?_set_ne (fun z => hk (by rw [z]; exact List.mem_cons_self)), ih (fun z => hk (List.mem_cons_of_mem _ z))]
    rw [← this vs hi]; exact q
  refine lc_it (g := liftGx C lk vs wg) (tt := liftBx C lk wt) (te := liftEx C lk we) (vs := vs) (σ := σ) (Qd := Q (.ref D)) W (fun i H => ∃ G2 ι2 e0 s2 accv accd, Grow C G1 ι1 G2 ι2 ∧ R C lk G2 ι2 (wipeE e0 vs) s2 σ H ∧ H D = some (.lst accv) ∧ Reps C.K G2 ι2 accv accd ∧ G2 D = none ∧ D ∉ ι2 ∧ NoSlot (wipeE e0 vs) σ D ∧ lcTS I vs wg wt we P (ds.drop i) accd (wipeE e0 vs) s2)
    ⟨G1, ι1, e, s, [], [], .refl, R1'.wipeF, upd_same, .nil, n1, n3, nw ns, p⟩ (fun i H _ ⟨G2, ι2, e0, s2, accv, accd, g2, r2, _, _, _, _, _, p2⟩ => hG G2 ι2 _ s2 σ H (lcTS_I p2) g2 r2) ?_ ?_
  · rintro i x H2 H3 hi ⟨G2, ι2, e0, s2, accv, accd, g2, r2, hDv, ra, k1, k2, k3, p2⟩ y
    obtain ⟨G3, g3, r3, ⟨d, hd, rp⟩, sb, gn⟩ := hY i G2 ι2 _ s2 σ H2 x H3 (lcTS_I p2) hi g2 r2 y
    have hdrop : ds.drop i = d :: ds.drop (i + 1) := by
      rw [List.drop_eq_getElem_cons hi]
      congr 1
      exact (List.getElem?_eq_some_iff.mp hd).2
    rw [hdrop] at p2
    have hD3 : H3 D = some (.lst accv) := sb _ _ hDv
    have gD3 : G3 D = none := by
      cases q : G3 D with
      | none => rfl
      | some u =>
        rcases gn D u q with q | q
        · rw [k1] at q; cases q
        · rw [hDv] at q; cases q
    have r3w : R C lk G3 ι2 (wipeE e0 vs) s2 (L2.wipe σ vs) H3 := r3.slots (L2.wipe_length _ _) fun j s e => L2.wipe_out (wipeE_none e)
    have k3w : NoSlot (wipeE e0 vs) (L2.wipe σ vs) D := fun j d q q2 => k3 j d q ((L2.wipe_out (wipeE_none q)).symm.trans q2)
    refine ⟨upd C.F D (.lst accv), G3, ι2, wipeE e0 vs, s2, _, d, r3w.prot hD3 k2 k3w, rp, p2.2, fun e4 s4 σ4 H4 G4 ι4 p4 g4 r4 hw4 => ?_⟩
    have ew : L2.wipe σ4 vs = L2.wipe σ vs := by
      have h1 := hw4 vs rfl
      rw [h1]
      apply List.ext_getElem?
      intro j
      by_cases q : j ∈ vs
      · have nn : ∀ (τ : L2.St), τ.length = σ.length → (L2.wipe τ vs)[j]? = (if j < σ.length then some none else none) := by
          intro τ hτ
          have : ∀ (us : List Nat), j ∈ us → (L2.wipe τ us)[j]? = (if j < σ.length then some none else none) := by
            intro us
            induction us with
            | nil => intro h; cases h
            | cons k us ih =>
              intro h
              show ((L2.wipe τ us).set k none)[j]? = _
              by_cases z : k = j
              · subst z
                rw [List.getElem?_set]
                simp only [if_pos]
                rw [L2.wipe_length, hτ]
              · rw [List.getElem?_set_ne z]
                exact ih (by
                  rcases List.mem_cons.mp h with h | h
                  · exact absurd h.symm z
                  · exact h)
          exact this vs q
        rw [nn _ (L2.wipe_length _ _), nn _ rfl]
      · rw [L2.wipe_out q]
    obtain ⟨q4, gg4, hD4, gD4, iD4, n4⟩ := R.unprot (o := .lst _) True.intro n2 gD3 g4 r4
    refine ⟨ew, upd C.F D (.lst accv), G4, ι4, e4, s4, _, noX, q4.prot hD4 iD4 n4, p4, fun b e5 s5 G5 ι5 H5 p5 g5 r5 => ?_, xok_no⟩
    obtain ⟨q5, gg5, hD5, gD5, iD5, n5⟩ := R.unprot (o := .lst _) True.intro n2 gD4 g5 r5
    have gA := ((g2.trans g3).trans gg4).trans gg5
    cases b with
    | false =>
      exact ⟨G5, ι5, e5, s5, accv, accd, gA, q5.swap ew, hD5, ra.grow ((g3.trans gg4).trans gg5), gD5, iD5, fun j d q q2 => by
        have hj := wipeE_none q
        refine nw n5 j d q ?_
        rw [← L2.wipe_out hj, ew, L2.wipe_out hj]; exact q2, p5⟩
    | true =>
      refine ⟨upd C.F D (.lst accv), G5, ι5, e5, s5, _, noX, q5.prot hD5 iD5 n5, p5, fun y e6 s6 G6 ι6 v H6 p6 g6 r6 rp6 => ?_, xok_no⟩
      obtain ⟨q6, gg6, hD6, gD6, iD6, n6⟩ := R.unprot (o := .lst _) True.intro n2 gD5 g6 r6
      have n6w : NoSlot (wipeE e6 vs) σ D := fun j d q q2 => by
        have hj := wipeE_none q
        refine nw n6 j d q ?_
        rw [← L2.wipe_out hj, ew, L2.wipe_out hj]; exact q2
      have ra6 := ra.grow (((g3.trans gg4).trans gg5).trans gg6)
      exact ⟨accv, hD6, by rw [ra.len, sizeLine_eq]; exact p6.1, G6, ι6, e6, s6, _, _, gA.trans gg6, (q6.swap ew).chg gD6 n2 iD6 (fun j d q q2 => n6w j d q q2), upd_same, ra6.append (.cons rp6 .nil), gD6, iD6, n6w, p6.2⟩
  · rintro H2 ⟨G2, ι2, e0, s2, accv, accd, g2, r2, hDv, ra, k1, k2, k3, p2⟩
    rw [List.drop_length] at p2
    exact hQ (.lst accd) _ s2 G2 ι2 D H2 p2.2 (g1.trans g2) r2 ⟨⟨_, hDv, .lst ra, True.intro⟩, k1, n2, k2⟩ k3
variable {elt iter : Expr} {ifs : List Expr} {scope : Scope} {own : List (Str × Nat)}
theorem f_lcS (hc : X.calm = true) (hN : X.N.Nodup) (hi : PI X tg iter (liftIS C lk wi)) (ok : BlkOk X.N X.env.scope scope own)
    (hg : ∀ (F : Hp) (s : Shared) (H : Hp) (A : Addr) (cl : List (Str × Addr)) (fp : List Addr), PG (X.blk s H scope (compEnvC scope cl A X.env) fp) tg (liftG (C.blk F) lk (some (own.map (·.2))) wg))
    (ht : ∀ (F : Hp) (s : Shared) (H : Hp) (A : Addr) (cl : List (Str × Addr)) (fp : List Addr), PTs (X.blk s H scope (compEnvC scope cl A X.env) fp) ifs (liftB (C.blk F) lk wt))
    (he : ∀ (F : Hp) (s : Shared) (H : Hp) (A : Addr) (cl : List (Str × Addr)) (fp : List Addr), PE (X.blk s H scope (compEnvC scope cl A X.env) fp) elt (liftE (C.blk F) lk we)) (hs : ∀ x, foldedSetIterable iter X.env x = pure x := by intro _; rfl) :
    PE X (.ListComp elt [⟨tg, iter, ifs, 0⟩] scope pos) (liftF C lk (wLcS (own.map (·.2)) wi wg wt we)) :=
  PEi (pe_lc hc hN hi ok (g := liftGx C lk (own.map (·.2)) wg) (tt := liftBx C lk wt) (te := liftEx C lk we) (fun s H A cl fp => ⟨fun pins s2 σ H2 v u Q I r ⟨F, q⟩ => (hg F s H A cl fp).run pins s2 σ H2 v u Q I r q⟩)
    (fun s H A cl fp => ⟨fun pins s2 σ H2 Q I ⟨F, q⟩ => (ht F s H A cl fp).run pins s2 σ H2 Q I q⟩) (fun s H A cl fp => ⟨fun pins s2 σ H2 Q I ⟨F, q⟩ => (he F s H A cl fp).run pins s2 σ H2 Q I q⟩) hs) fun σ H Q h => lcLiftS h
end
/-! ### steps -/
section
variable {env : EnvD} {st : Sto} {Q : KE} {Qx : KX} {P : D → Prop}
theorem o_spl {a b : Str} : splS a (.str b) P = (((b.length == 0) = false ∧ a.length ≤ 16777214) ∧ P (.lst ((Txt.split a b).map .str))) := rfl
def pIntT (a : Str) (P : D → Prop) (_ : Pin P) : Prop := intTD (.str a) P
theorem p_intT {a : Str} : intTD (.str a) P = pIntT a P .mk := rfl
theorem p_intT_at {a : Str} {n : Int} {p} (h0 : a.length ≤ 640) (h : PySem.intText? a = some n) (hp : P (.int n)) : pIntT a P p := by unfold pIntT intTD; dsimp only; rw [h]; exact ⟨h0, hp⟩
theorem o_str {i : Int} : strD (.int i) P = (i.natAbs.log2 < 1920 ∧ P (.str (toString i))) := rfl
theorem q_fmt {we : WE} : wFmt we env st Q Qx = we env st (fun d e s => fmtD d fun v => Q v e s) Qx := rfl
theorem o_fmtS {y : Str} : fmtD (.str y) P = (y.length ≤ 16777216 ∧ P (.str y)) := rfl
theorem o_fmtI {i : Int} : fmtD (.int i) P = (i.natAbs.log2 < 1920 ∧ P (.str (toString i))) := rfl
def kJs (ws : List WE) (acc : Str) (Q : KE) (Qx : KX) : KE := fun d e s => match d with
  | .str y => (acc ++ y).length ≤ 16777216 ∧ wJs ws (acc ++ y) e s Q Qx
  | _ => False
theorem q_js0 {acc : Str} : wJs [] acc env st Q Qx = Q (.str acc) env st := rfl
theorem q_js1 {w : WE} {ws : List WE} {acc : Str} : wJs (w :: ws) acc env st Q Qx = w env st (kJs ws acc Q Qx) Qx := rfl
theorem q_js2 {ws : List WE} {acc y : Str} : kJs ws acc Q Qx (.str y) env st = ((acc ++ y).length ≤ 16777216 ∧ wJs ws (acc ++ y) env st Q Qx) := rfl
def pInT (c : Str) (xs : List D) (P : D → Prop) (_ : Pin P) : Prop := inTD (.str c) (.tup xs) P
theorem p_inT {c : Str} {xs : List D} : inTD (.str c) (.tup xs) P = pInT c xs P .mk := rfl
theorem p_inT_at {c : Str} {l : List Str} {p} : pInT c (l.map .str) P p = P (.bl (decide (c ∈ l))) := by unfold pInT inTD; simp only [strsOf_map]
def pLcS (I : Sto → Prop) (vs : List Nat) (g : WG) (t : WB) (w : WE) (Q : KE) (ds acc : List D) (env : EnvD) (st : Sto) (_ : Pin Q) : Prop := lcTS I vs g t w Q ds acc env st
theorem p_lcS {vs : List Nat} {wi : WIS} {g : WG} {t : WB} {w : WE} {Q : KE} : wLcS vs wi g t w env st Q Qx = wi env st (fun I ds e s => pLcS I vs g t w Q ds [] (wipeE e vs) s .mk) Qx := rfl
def kItH (Q : (Sto → Prop) → List D → EnvD → Sto → Prop) : KE := fun d e s => match d with
  | .hnd n => (match s[n]? with
    | some (.dat (.lst ds)) => Q (fun s => s[n]? = some (.dat (.lst ds))) ds e s
    | _ => False)
  | _ => False
theorem q_itH {we : WE} {Q : (Sto → Prop) → List D → EnvD → Sto → Prop} : wItH we env st Q Qx = we env st (kItH Q) Qx := rfl
theorem q_itH1 {n : Nat} {ds : List D} {Q : (Sto → Prop) → List D → EnvD → Sto → Prop} (h : st[n]? = some (.dat (.lst ds))) (hq : Q (fun s => s[n]? = some (.dat (.lst ds))) ds env st) : kItH Q (.hnd n) env st := by
  unfold kItH; dsimp only; rw [h]; exact hq
theorem w_lcpS {I : Sto → Prop} {vs : List Nat} {g : WG} {t : WB} {w : WE} {β : Type} (enc : β → D) (p : β → Bool) (F : β → D) (bs : List β) (hl : bs.length ≤ 16777216) (hI : I st)
    (step : ∀ b ∈ bs, ∀ (N : D → EnvD → Sto → Prop) (M : EnvD → Sto → Prop), (p b = true → N (F b) env st) → (p b = false → M env st) → g (enc b) env st fun e s => t e s (fun c e s => if c = true then w e s (fun y e s => N y (wipeE e vs) s) noX else M (wipeE e vs) s) noX)
    (out : Q (.lst ((bs.filter p).map F)) env st) : lcTS I vs g t w Q (bs.map enc) [] env st := by
  have go : ∀ (rest : List β) (acc : List D), acc.length + rest.length ≤ 16777216 → (∀ b ∈ rest, b ∈ bs) → Q (.lst (acc ++ (rest.filter p).map F)) env st → lcTS I vs g t w Q (rest.map enc) acc env st := by
    intro rest
    induction rest with
    | nil => intro acc _ _ h; rw [List.filter_nil, List.map_nil, List.append_nil] at h; exact ⟨hI, h⟩
    | cons b rest ih =>
      intro acc h1 h2 h
      rw [List.length_cons] at h1
      refine ⟨hI, step b (h2 b List.mem_cons_self) (fun y e s => acc.length < 16777216 ∧ lcTS I vs g t w Q (rest.map enc) (acc ++ [y]) e s) (fun e s => lcTS I vs g t w Q (rest.map enc) acc e s) (fun hp => ⟨by omega, ih _ (by rw [List.length_append]; simp only [List.length_cons, List.length_nil]; omega) (fun b hb => h2 b (List.mem_cons_of_mem _ hb)) ?_⟩) fun hp => ih _ (by omega) (fun b hb => h2 b (List.mem_cons_of_mem _ hb)) ?_⟩
      · rw [List.filter_cons_of_pos hp, List.map_cons] at h
        rw [List.append_assoc]; exact h
      · rw [List.filter_cons_of_neg (by rw [hp]; decide)] at h
        exact h
  exact go bs [] (by simpa using hl) (fun _ h => h) out
end
end VL

/-! The value layer: exceptions. -/
namespace VL
open PySem PySem.Spec PyProof.Rows L2

/-! ### the exception's object is kept -/
theorem exo_ok {P : Program} {w : World} {H : Hp} {h : Heap} {A a : Addr} {d : Option Addr} {oe : Obj} {vs : Array Value} (he : h.get? a = some oe) (hc : oe.cls = .ref A) (hd : oe.dict = d) (hv : oe.data = .fields vs) : ObjOk P w H h a (EXO A a d) :=
  ⟨⟨oe, vs, he, hc, hd, hv⟩, ⟨oe, he⟩, fun _ _ ⟨o, v, q, r⟩ k => ⟨o, v, k o q, r⟩⟩
section
variable {X : Cx} {pins : List (Addr × Obj)} {σ : L2.St} {H : Hp} {s : Shared}
theorem track (I : Inv X pins σ H s) {a : Addr} {o : HO} (na : H a = none) (n0 : X.s_0.heap.get? a = none) (nL : X.env.locals ≠ a) (nC : ∀ x c, X.env.cells.lookup x = some c → c ≠ a) (nP : ∀ p ∈ X.pn ++ pins, p.1 ≠ a)
    (new : ObjOk X.prog X.w (upd H a o) s.heap a o) : Inv X pins σ (upd H a o) s := by
  refine ⟨I.ok, I.os, I.bare, ⟨I.base.keep, I.base.slot, fun b u e n x => ?_, I.base.there, fun b xs e => ?_, fun b u v e => ?_, fun b ps e => ?_⟩, I.loc, I.cell, ?_, fun x c e => ?_, fun p hp => ?_, HOk.laidN I.hok (fun _ _ q => q) na new, I.len⟩
  · rw [upd_ne (fun z => by rw [z, n0] at e; cases e)]
    exact I.base.free b u e n x
  · have q := I.base.tups b xs e
    rw [upd_ne (ne_of_none q na)]
    exact q
  · have q := I.base.frzs b u v e
    rw [upd_ne (ne_of_none q na)]
    exact q
  · obtain ⟨m, q⟩ := I.base.tbls b ps e
    exact ⟨m, by rw [upd_ne (ne_of_none q na)]; exact q⟩
  · rw [upd_ne nL]
    exact I.free
  · rw [upd_ne (nC x c e)]
    exact I.freeC x c e
  · obtain ⟨q1, q2, q3, q4, q5⟩ := I.pin p hp
    exact ⟨q1, by rw [upd_ne (nP p hp)]; exact q2, q3, q4, q5⟩
theorem inSuite (I : Inv X pins σ H s) (a : Addr) : Inv (X.suite a (X.pn ++ pins)) [] σ H s :=
  ⟨I.ok.suite _ _, I.os, I.bare, I.base, I.loc, I.cell, I.free, I.freeC, fun p hp => I.pin p (by rw [List.append_nil] at hp; exact hp), I.hok, I.len⟩
theorem ofSuite {a : Addr} {more : List (Addr × Obj)} (I : Inv (X.suite a (X.pn ++ pins)) more σ H s) (ok : X.Ok) : Inv X pins σ H s :=
  ⟨ok, I.os, I.bare, I.base, I.loc, I.cell, I.free, I.freeC, fun p hp => I.pin p (List.mem_append_left _ hp), I.hok, I.len⟩
end
/-- what the clause 'except x as n' wishes, the exception being kept -/
def wKeep (K : PySem.W.Frag) (c : Value) (i : Nat) (ts : TS) (Wo : WX) (D : Ends) : WX := fun cls d σ H => ∃ A, cls = .ref A ∧ ∃ b, PySem.W.exmOne K cls c = some b ∧ (b = false → Wo cls d σ H) ∧
  (b = true → ∀ a, H a = none → ts ⟨fun σ' H' => D.nx (σ'.set i none) H', D.rt, fun σ' H' => D.bk (σ'.set i none) H', fun σ' H' => D.ct (σ'.set i none) H'⟩ (σ.set i (some (.ref a))) (upd H a (EXO A a d)))
theorem ps_keep {X : Cx} {x n : Str} {c : Value} {i : Nat} {body suite : List Stmt} {b0 : Stmt} {np pos p2 : Pos} {tb : WX → TS} {ts : TS} {Wo : WX}
    (h1 : X.stack = X.env :: X.outer) (h2 : X.env.frame = some X.env.locals) (h3 : X.ex = []) (nd : X.N.Nodup) (hi : X.N[i]? = some n) (hl : X.env.kindOf n = some .local) (hc : Names X x c) (tk : Takes X Wo)
    (hb : ∀ (W : WX) (pn : List (Addr × Obj)) (xe : Value → Shared → Prop), Takes (X.tr pn xe) W → PassesOwn (model X.prog X.w) X.A X.env xe → PSs (X.tr pn xe) body (tb W))
    (hu : ∀ (a : Addr) (pn : List (Addr × Obj)), PSs (X.suite a pn) (b0 :: suite) ts) :
    PS X (.Try body [.ExceptHandler (some (.Name x np)) (some n) (b0 :: suite) p2] [] [] pos) (fun D σ H => tb (wKeep X.K c i ts Wo D) D σ H) := by
  refine ⟨fun pins s σ H D I h => ?_⟩
  have ok := I.ok
  have fr : X.A.frames = some (X.env :: X.outer) := ok.frames.trans (congrArg some h1)
  have body_ := hb (wKeep X.K c i ts Wo D) (X.pn ++ pins) (fun u t1 => wpAny (model X.prog X.w) X.A (noteFrame u X.env) (fun _ t2 => wpAny (model X.prog X.w) X.A (setFlight u none)
    (fun _ t3 => wpAny (model X.prog X.w) X.A (handleBy u X.env [.ExceptHandler (some (.Name x np)) (some n) (b0 :: suite) p2]) (SP X pins D) X.xe t3) X.xe t2) X.xe t1)
  refine wpAny_Try_except (wpAny_mono ((body_ (fun u t xx => ?_) PassesOwn.looking).run [] s σ H D (I.toTry _) h) (fun f t q => ?_) fun _ _ z => z)
  · obtain ⟨a, B, tI, ps, σ1, H1, cls, d, rfl, J0, nb, up, sky, na, os, ag, A, rfl, b, eb, no, yes⟩ := xx
    have J := J0.ofTry ok
    rw [show (X.tr (X.pn ++ pins) _).stack = X.env :: X.outer from h1] at sky
    show wpAny _ X.A (noteFrame (.ref a) X.env) _ _ _
    refine Sky.land Zc.steady fr h2 sky fun ha fa ua => ?_
    have Ja : Inv X pins σ1 H1 { t with heap := ha } := J.landed nb fa.1 (up.trans ua) os ag
    obtain ⟨oa, va, ea, za, da⟩ := fa.there
    have nfs : a ∉ frs (X.env :: X.outer) := fun hm => by
      obtain ⟨_, o2, e2, nf⟩ := fa.2.2.1.mem hm
      rw [ea] at e2; cases e2
      exact nf _ da
    have nloc : X.env.locals ≠ a := fun z => nfs (List.mem_filterMap.mpr ⟨X.env, List.mem_cons_self, h2.trans (congrArg some z)⟩)
    have ngr : tI.heap.get? a = none := by
      cases q : tI.heap.get? a with
      | none => rfl
      | some o =>
        have z := nb a o q (by rw [show (X.tr (X.pn ++ pins) _).stack = X.env :: X.outer from h1]; exact nfs)
        rw [fa.2.1] at z; cases z
    have n0 : X.s_0.heap.get? a = none := by
      cases q : X.s_0.heap.get? a with
      | none => rfl
      | some o =>
        obtain ⟨o2, e2⟩ := J.base.there a o q (by rw [h3]; exact fun z => nomatch z)
        rw [ngr] at e2; cases e2
    have npin : ∀ p ∈ X.pn ++ pins, p.1 ≠ a := fun p hp z => by
      have e2 := (J.pin p hp).1
      rw [z, ngr] at e2; cases e2
    have ncell : ∀ {h' : Heap} {o : Obj} {vs : Array Value}, (∀ x c, X.env.cells.lookup x = some c → ∃ v, h'.IsCell c v) → h'.get? a = some o → o.data = .fields vs → ∀ x c, X.env.cells.lookup x = some c → c ≠ a := fun {h' o vs} hcl e2 e3 x c e z => by
      obtain ⟨v, o3, e4, e5⟩ := hcl x c e
      rw [z, e2] at e4; cases e4
      rw [e3] at e5; cases e5
    have trk : ∀ {t' : Shared} {o : Obj} {vs : Array Value}, Inv X pins σ1 H1 t' → t'.heap.get? a = some o → Zc (.ref A) d o → o.data = .fields vs → Inv X pins σ1 (upd H1 a (EXO A a d)) t' := fun {t' o vs} J2 e2 z2 d2 =>
      track J2 na n0 nloc (ncell J2.cell e2 d2) npin (exo_ok e2 z2.1 z2.2 d2)
    have Jk := trk Ja ea za da
    refine wpAny_handleBy_cons (codeAny_handlers_test ?_) (by intro q; cases q)
    have looks : PySem.W.Looks (model X.prog X.w) ha (typeOf (.ref a)) (.ref A) := fun _ _ _ _ k q => wpAny_typeOf_ref (k _ _ ea) (by rw [za.1]; exact q)
    have meets := PySem.W.exm_one (M := model X.prog X.w) Ja.kIn looks eb
    have named : ∀ {Q : Value → Shared → Prop} {E : Value → Shared → Prop}, Q c { t with heap := ha } → wpAny (model X.prog X.w) (X.A.mark (some (.ref a))) (eval (.Name x np) X.env) Q E { t with heap := ha } := fun {Q E} q => by
      obtain ⟨g1, g2, g3 | ⟨g3, g4, g5⟩⟩ := hc
      · exact ld_glob (X := X.suite a (X.pn ++ pins)) (inSuite Ja a) g1 g3 q g2
      · exact ld_blt (X := X.suite a (X.pn ++ pins)) (inSuite Ja a) g1 g3 g4 q g5 g2
    refine named (meets.here ?_)
    cases b with
    | true =>
      refine codeAny_handlers_suite_as (HandSPX.lands_againZ fa fun hb' fb ub => ?_)
      have Jb : Inv X pins σ1 H1 { t with heap := hb' } := J.landed nb fb.1 ((up.trans ua).trans ub) os ag
      obtain ⟨ob, vb, e_b, zb, db⟩ := fb.there
      have Jt := trk Jb e_b zb db
      refine store_ok (X := X.suite a (X.pn ++ pins)) (v := .ref a) (inSuite Jt a) nd hi (.inl hl) rfl (fun t5 S5 => ?_) (.inr hl)
      refine wpAny_mono ((hu a (X.pn ++ pins)).run [] t5 _ _ _ S5 (yes rfl a na)) (fun f t6 q6 => ?_) fun _ _ z => z.elim
      have fin : ∀ {σ6 : L2.St} {H6 : Hp} {Q : Shared → Prop}, Inv (X.suite a (X.pn ++ pins)) [] σ6 H6 t6 → (∀ t7, Inv X pins (σ6.set i none) H6 t7 → Q t7) →
        wpAny (model X.prog X.w) X.A (do bindName X.env n .none; unbindBehindTheSuite X.env n p2) (fun _ t7 => Q t7) X.xe t6 := fun {_ _ _} S hq => gone_ok (ofSuite S ok) nd hi hl hq
      cases f with
      | ret u =>
        obtain ⟨v6, σ6, H6, S6, r6, w6⟩ := q6
        exact fin S6 fun _ J7 => ⟨_, _, _, J7, r6, w6⟩
      | next =>
        obtain ⟨σ6, H6, S6, w6⟩ := q6
        exact fin S6 fun _ J7 => ⟨_, _, J7, w6⟩
      | brk =>
        obtain ⟨σ6, H6, S6, w6⟩ := q6
        exact fin S6 fun _ J7 => ⟨_, _, J7, w6⟩
      | cont =>
        obtain ⟨σ6, H6, S6, w6⟩ := q6
        exact fin S6 fun _ J7 => ⟨_, _, J7, w6⟩
    | false =>
      show wpAny _ X.A (handleBy (.ref a) X.env []) _ _ _
      refine wpAny_handleBy_nil ?_
      obtain ⟨_, _, _, o3, v3, T, oT, vT, e3, z3, d3, f1, _⟩ := id fa
      unfold PySem.passOn
      refine wpAny_bind (wpAny_field e3 d3 f1 ?_)
      rw [if_neg (by simp : ¬ (Value.ref T == Value.none) = true)]
      have goes : wpAny (model X.prog X.w) X.A (setFlight (.ref a) X.env.frame) (fun _ t4 => wpAny (model X.prog X.w) X.A (throw (.ref a) : Sem Flow) (SP X pins D) X.xe t4) X.xe { t with heap := ha } := by
        rw [h2]
        refine HandSPX.setFlight_upZ fa fun h4 hh4 up4 => wpAny_throw (tk _ _ ⟨a, B, tI, pins, σ1, H1, .ref A, d, rfl, J, nb, (up.trans ua).trans up4, .inr (.inr ?_), na, os, ag, no rfl⟩)
        rw [h1]; exact hh4
      first
        | exact wpAny_bind goes
        | exact wpAny_bind (wpAny_pure (wpAny_bind goes))
  · cases f with
    | ret u =>
      obtain ⟨v, σ', H', J, r, w⟩ := q
      exact ⟨v, σ', H', J.ofTry ok, r, w⟩
    | next =>
      obtain ⟨σ', H', J, w⟩ := q
      exact wpAny_execs_nil ⟨σ', H', J.ofTry ok, w⟩
    | brk =>
      obtain ⟨σ', H', J, w⟩ := q
      exact ⟨σ', H', J.ofTry ok, w⟩
    | cont =>
      obtain ⟨σ', H', J, w⟩ := q
      exact ⟨σ', H', J.ofTry ok, w⟩

/-! ### another wish -/
abbrev Ctx.wish (C : Ctx) (W : WX) : Ctx := ⟨C.K, C.F, W, C.fr⟩
section
variable {C : Ctx} {lk : Lks} {G G' : Hp} {ι ι' : List Addr} {env : EnvD} {st : Sto} {σ : L2.St} {H : Hp} {W : WX}
theorem OwnAt.wish {a : Addr} {d : D} (o : OwnAt C G ι H a d) : OwnAt (C.wish W) G ι H a d := ⟨o.rep, o.ng, o.nf, o.ni⟩
theorem OwnAt.unwish {a : Addr} {d : D} (o : OwnAt (C.wish W) G ι H a d) : OwnAt C G ι H a d := ⟨o.rep, o.ng, o.nf, o.ni⟩
theorem SlotAt.wish {x : Slot} {v : V} : SlotAt C G ι H x v → SlotAt (C.wish W) G ι H x v
  | .sh h => .sh h
  | .ow h => .ow h.wish
theorem SlotAt.unwish {x : Slot} {v : V} : SlotAt (C.wish W) G ι H x v → SlotAt C G ι H x v
  | .sh h => .sh h
  | .ow h => .ow h.unwish
theorem R.wish (r : R C lk G ι env st σ H) : R (C.wish W) lk G ι env st σ H :=
  ⟨r.len, r.fF, r.lkd, r.fG, fun i x e => let ⟨v, e1, h⟩ := r.sl i x e; ⟨v, e1, h.wish⟩, r.inj, r.slen, r.sto, r.sg, r.nd, r.lk2⟩
theorem R.unwish (r : R (C.wish W) lk G ι env st σ H) : R C lk G ι env st σ H :=
  ⟨r.len, r.fF, r.lkd, r.fG, fun i x e => let ⟨v, e1, h⟩ := r.sl i x e; ⟨v, e1, h.unwish⟩, r.inj, r.slen, r.sto, r.sg, r.nd, r.lk2⟩
theorem Grow.unwish (g : Grow (C.wish W) G ι G' ι') : Grow C G ι G' ι' := ⟨g.sub, g.out, g.pre⟩
theorem RetV.unwish {v : V} {d : D} (h : RetV (C.wish W) G ι H v d) : RetV C G ι H v d := by
  unfold RetV at h ⊢
  cases e : C.fr with
  | true =>
    rw [show (C.wish W).fr = true from e] at h
    obtain ⟨a, e1, o⟩ := h
    exact ⟨a, e1, o.unwish⟩
  | false =>
    rw [show (C.wish W).fr = false from e] at h
    exact h
/-- an exception's own dict is frozen -/
theorem R.frzXd (r : R C lk G ι env st σ H) {dx : Addr} {fs : List (Str × V)} (e : H dx = some (.xd fs)) (nf : C.F dx = none) : ∃ G', R C lk G' ι env st σ H ∧ Grow C G ι G' ι ∧ G' dx = some (.xd fs) := by
  cases q : G dx with
  | some u =>
    rcases r.fG dx u q with h | ⟨_, o, h⟩
    · rw [e] at h; cases h
      exact ⟨G, r, .refl, q⟩
    · rw [e] at h; cases h
  | none =>
    have sb : Sub G (upd G dx (.xd fs)) := Sub.new q
    have nm : ∀ {a o}, H a = some o → Mut (some o) → a ≠ dx := fun {a o} h m z => by
      rw [z, e] at h; cases h; exact m
    have nι : dx ∉ ι := fun h => by
      obtain ⟨n, hn⟩ := List.mem_iff_getElem?.mp h
      have hl : n < st.length := by rw [r.slen]; exact (List.getElem?_eq_some_iff.mp hn).1
      obtain ⟨h', e3, e4⟩ := r.sto n dx st[n] hn (List.getElem?_eq_getElem hl)
      rw [e] at e3; cases e3
      cases hs : st[n] with
      | dat d =>
        rw [hs] at e4
        cases e4 with
        | dat _ m => exact m
      | ins c fs =>
        rw [hs] at e4
        cases e4
    refine ⟨upd G dx (.xd fs), ⟨r.len, r.fF, fun a o u h => ?_, fun a u h => ?_, fun i s h => ?_, r.inj, r.slen, fun n a x e1 e2 => ?_, fun a ha => ?_, r.nd, fun a x u e1 e2 => by
      have q : a ≠ dx := fun z => by subst z; rw [e] at e1; cases e1
      rw [upd_ne q] at e2; exact r.lk2 a x u e1 e2⟩, ⟨sb, fun a u h => ?_, List.prefix_refl _⟩, upd_same⟩
    · obtain ⟨h1, h2, h3⟩ := r.lkd a o u h
      exact ⟨h1, sb _ _ h2, h3⟩
    · by_cases z : a = dx
      · subst z; rw [upd_same] at h; cases h; exact .inl e
      · rw [upd_ne z] at h; exact r.fG a u h
    · obtain ⟨v, e1, hs⟩ := r.sl i s h
      refine ⟨v, e1, ?_⟩
      clear h
      cases hs with
      | sh h => exact .sh (h.mono sb (List.prefix_refl _))
      | ow h =>
        obtain ⟨⟨o', g1, g2, g3⟩, g4, g5, g6⟩ := h
        exact .ow ⟨⟨o', g1, g2.mono sb (List.prefix_refl _), g3⟩, by rw [upd_ne (nm g1 g3)]; exact g4, g5, g6⟩
    · obtain ⟨h', q3, q4⟩ := r.sto n a x e1 e2
      exact ⟨h', q3, q4.mono sb (List.prefix_refl _)⟩
    · obtain ⟨q1, q2⟩ := r.sg a ha
      exact ⟨by rw [upd_ne (show a ≠ dx from fun z => nι (by rw [← z]; exact ha))]; exact q1, q2⟩
    · by_cases z : a = dx
      · subst z; exact .inr (.inl nf)
      · rw [upd_ne z] at h; exact .inl h
end

/-! ### raise, try -/
section
variable {X : Cx} {C : Ctx} {lk : Lks} {pos p p2 : Pos} {cs : List Str}
def wRaise (c : Str) : WS := fun env st _ Qx => Qx (c, none) env st
theorem s_raise {c m : Str} {j : Nat} {p3 : Pos} (xF : ExF cs X.K X.mg C.K.Cl) (hc : c ∈ cs) (hn : c ≠ "NoNumber") (cm : X.calm = true) (tk : Takes X C.W) (hg : Gl X c) (hdb : (c == ("__debug__" : Str)) = false := by decide) :
    PS X (.Raise (some (.Call (.Name c p) [.Constant (.str m) j p2] [] p3)) none pos) (liftS C lk (wRaise c)) := by
  obtain ⟨A, hA, hm, x, hx⟩ := xF.at_ c hc
  refine PSi (ps_raise cm tk (pmk_own PySem.F.excBase_ValueError (hx hn) hm x.kp (raises_own x.sb x.ty) hg hdb)) ?_
  rintro E σ H ⟨G, ι, env, st, P, Px, hR, hw, hS, hX⟩
  exact hX (c, none) env st G ι σ H _ _ hw .refl hR ⟨A, hA, rfl, rfl⟩
def noXS : KX := fun _ _ _ => False
def wTry (c : Str) (i : Nat) (w u : WS) : WS := fun env st Q Qx => w env st Q fun x e s => obE x.1 = false ∧
  if subE x.1 c = true then u (e.set i (some (.sh (.exc x.1 x.2)))) s (fun o e s => Q o (match o with | .rt _ => e | _ => e.set i none) s) noXS else Qx x e s
theorem s_try {c n : Str} {i : Nat} {body suite : List Stmt} {b0 : Stmt} {np : Pos} {w u : WS} (xF : ExF cs X.K X.mg C.K.Cl) (hc : c ∈ cs) (eK : X.K = C.K.f) (tk : Takes X C.W) (nd : X.N.Nodup) (h1 : X.stack = X.env :: X.outer) (h2 : X.env.frame = some X.env.locals) (h3 : X.ex = []) (hi : X.N[i]? = some n) (hl : X.env.kindOf n = some .local) (hg : Gl X c)
    (hb : ∀ (W : WX) (pn : List (Addr × Obj)) (xe : Value → Shared → Prop), Takes (X.tr pn xe) W → PassesOwn (model X.prog X.w) X.A X.env xe → PSs (X.tr pn xe) body (liftS (C.wish W) lk w))
    (hu : ∀ (a : Addr) (pn : List (Addr × Obj)), PSs (X.suite a pn) (b0 :: suite) (liftS (C.wish fun _ _ _ _ => False) lk u)) (hdb : (c == ("__debug__" : Str)) = false := by decide) :
    PS X (.Try body [.ExceptHandler (some (.Name c np)) (some n) (b0 :: suite) p2] [] [] pos) (liftS C lk (wTry c i w u)) := by
  obtain ⟨B, hB, hm, xB, _⟩ := xF.at_ c hc
  refine PSi (ps_keep h1 h2 h3 nd hi hl ⟨hg, hdb, .inl hm⟩ tk hb hu) ?_
  rintro E σ H ⟨G, ι, env, st, P, Px, hR, hw, hS, hX⟩
  refine ⟨G, ι, env, st, P, _, hR.wish, hw, ⟨fun e s G' ι' σ' H' p g r => hS.nx e s G' ι' σ' H' p g.unwish r.unwish, fun e s G' ι' σ' H' p g r => hS.bk e s G' ι' σ' H' p g.unwish r.unwish, fun e s G' ι' σ' H' p g r => hS.ct e s G' ι' σ' H' p g.unwish r.unwish,
    fun d e s G' ι' σ' H' v p g r q => hS.rt d e s G' ι' σ' H' v p g.unwish r.unwish q.unwish⟩, ?_⟩
  intro x e s G' ι' σ' H' cls d px g r xr
  obtain ⟨A, hA, rfl, hd⟩ := xr
  have hA : C.K.Cl x.1 = some A := hA
  obtain ⟨ho, px⟩ := px
  refine ⟨A, rfl, subE x.1 c, (xF.two x.1 c A B (xF.dom x.1 A hA ho) hc hA hB).2, fun hb => ?_, fun hb a na => ?_⟩
  · rw [hb] at px
    exact hX x e s G' ι' σ' H' _ d px g.unwish r.unwish ⟨A, hA, rfl, hd⟩
  · rw [if_pos hb] at px
    have fin : ∀ {G2 : Hp}, R C lk G2 ι' e s σ' (upd H' a (EXO A a d)) → Grow C G' ι' G2 ι' → Rep C.K G2 ι' (.ref a) (.exc x.1 x.2) → liftS (C.wish fun _ _ _ _ => False) lk u ⟨fun σ' H' => E.nx (σ'.set i none) H', E.rt, fun σ' H' => E.bk (σ'.set i none) H', fun σ' H' => E.ct (σ'.set i none) H'⟩ (σ'.set i (some (.ref a))) (upd H' a (EXO A a d)) := fun {G2} r2 g2 rp => by
      refine ⟨G2, ι', e.set i (some (.sh (.exc x.1 x.2))), s, _, noXS, (r2.setSh rp).wish, px, ?_, fun _ _ _ _ _ _ _ _ _ z => z.elim⟩
      have gg : ∀ {G3 : Hp} {ι3 : List Addr}, Grow (C.wish fun _ _ _ _ => False) G2 ι' G3 ι3 → Grow C G ι G3 ι3 := fun {_ _} g3 => (g.unwish.trans g2).trans g3.unwish
      exact ⟨fun e s G' ι' σ' H' p g r => hS.nx _ s G' ι' _ H' p (gg g) r.unwish.unset, fun e s G' ι' σ' H' p g r => hS.bk _ s G' ι' _ H' p (gg g) r.unwish.unset, fun e s G' ι' σ' H' p g r => hS.ct _ s G' ι' _ H' p (gg g) r.unwish.unset,
        fun d e s G' ι' σ' H' v p g r q => hS.rt d e s G' ι' σ' H' v p (gg g) r.unwish q.unwish⟩
    obtain ⟨r2, g2⟩ := r.unwish.newSh (o := EXO A a d) na
    obtain ⟨c1, p1⟩ := x
    cases p1 with
    | none =>
      have hd : d = none := hd
      subst hd
      exact fin r2 g2 (.exc hA upd_same)
    | some pl =>
      obtain ⟨dx, ed, hx, nf⟩ := hd
      subst ed
      have hx2 : upd H' a (EXO A a (some dx)) dx = some (.xd [("place", .int pl)]) := by rw [upd_ne (ne_of_none hx na)]; exact hx
      obtain ⟨G3, r3, g3, e3⟩ := r2.frzXd hx2 nf
      exact fin r3 (g2.trans g3) (.excp hA (g3.sub _ _ upd_same) e3)

/-! ### isinstance -/
def isE (T : Str) : D → Option Bool
  | .exc c _ => if obE c = true then none else some (subE c T)
  | .txe c _ => if obE c = true then none else some (subE c T)
  | .non => some false
  | _ => none
def isEV : D → Option Bool
  | .exc c _ => if obE c = true then none else some true
  | .txe c _ => if obE c = true then none else some true
  | .non => some false
  | _ => none
/-- the type of an exception, or of None -/
def TyE (K : PySem.W.Frag) (H : Hp) (x : V) (t : Value) : Prop := (x = .non ∧ t = .type "NoneType") ∨
  (∃ a A d, x = .ref a ∧ H a = some (EXO A a d) ∧ (∀ dx, d = some dx → ∃ fs, H dx = some (.xd fs)) ∧ t = .ref A ∧ ExAt K A) ∨ ∃ a A t0, x = .ref a ∧ H a = some (EXT A a t0) ∧ t = .ref A ∧ ExAt K A
theorem exo_inst {P : Program} {w : World} {H : Hp} {h : Heap} {A a : Addr} {d : Option Addr} (ok : HOk P w H h) (ea : H a = some (EXO A a d)) (ed : ∀ dx, d = some dx → ∃ fs, H dx = some (.xd fs)) : ∃ oe od, PySem.W.InstAt h a oe A od := by
  obtain ⟨⟨oe, vs, e1, e2, e3, e4⟩, _⟩ := ok a _ ea
  have nc : PySem.W.notCls oe = true := by unfold PySem.W.notCls; rw [e4]
  cases d with
  | none => exact ⟨oe, none, e1, e2, nc, by rw [e3]; trivial⟩
  | some dx =>
    obtain ⟨fs, hx⟩ := ed dx rfl
    obtain ⟨mA, hn, _⟩ := ok dx _ hx
    obtain ⟨od, ho, _⟩ := lookIn_ns hn
    exact ⟨oe, some od, e1, e2, nc, by rw [e3]; exact ho⟩
theorem ext_inst {P : Program} {w : World} {H : Hp} {h : Heap} {A a t0 : Addr} (ok : HOk P w H h) (ea : H a = some (EXT A a t0)) : ∃ oe od, PySem.W.InstAt h a oe A od := by
  obtain ⟨⟨oe, vs, e1, e2, e3, e4, _⟩, _⟩ := ok a _ ea
  exact ⟨oe, none, e1, e2, by unfold PySem.W.notCls; rw [e4], by rw [e3]; trivial⟩
theorem kit_ofE {pins : List (Addr × Obj)} {σ : L2.St} {H : Hp} {s : Shared} {x : V} {u t : Value} (I : Inv X pins σ H s) (rx : RelV x u) (ty : TyE X.K H x t) : ∃ P : Heap → Prop, PySem.W.KitX X.K u t P ∧ P s.heap ∧ u ≠ .builtin "__main__.__loader__#opaque" := by
  rcases ty with ⟨rfl, rfl⟩ | ⟨a, A, d, rfl, ea, ed, rfl, x⟩ | ⟨a, A, t0, rfl, ea, rfl, x⟩
  · cases (show u = Value.none from rx)
    exact ⟨_, PySem.W.kitx_none, True.intro, fun z => nomatch z⟩
  · cases (show u = Value.ref a from rx)
    obtain ⟨oe, od, J⟩ := exo_inst I.hok ea ed
    exact ⟨_, PySem.W.kitx_exc x.cl x.ga x.gg x.sb x.cc x.cg x.ct x.mo, J, fun z => nomatch z⟩
  · cases (show u = Value.ref a from rx)
    obtain ⟨oe, od, J⟩ := ext_inst I.hok ea
    exact ⟨_, PySem.W.kitx_exc x.cl x.ga x.gg x.sb x.cc x.cg x.ct x.mo, J, fun z => nomatch z⟩
def rIsE (K : PySem.W.Frag) : List V → Hp → VK → Prop := fun xs H Q => ∃ (x c : V) (t u : Value) (b : Bool), xs = [x, c] ∧ ClsV c u ∧ TyE K H x t ∧ PySem.W.kitOne K t u = some b ∧ Q (.bl b) H
theorem call_isE : CallR X (.builtin "isinstance") (rIsE X.K) := by
  intro pins s σ H xs us Q I r h
  obtain ⟨x, c, t, u, b, rfl, k, ty, e, q⟩ := h
  obtain ⟨u1, u2, rfl, r1, r2⟩ := vals2 r
  obtain rfl := k.eq r2
  obtain ⟨P, Z, p, hx⟩ := kit_ofE I r1 ty
  exact PySem.W.kia_one Z I.kIn p e hx fun tk => ⟨.bl b, H, I.tok tk, rfl, q⟩
theorem Bor.tyE {G : Hp} {ι : List Addr} {env : EnvD} {st : Sto} {σ : L2.St} {H : Hp} {v : V} {c : Str} {i : Option Int} (xF : ExF cs C.K.f X.mg C.K.Cl) (r : R C lk G ι env st σ H) (h : Bor C.K G ι H v (.exc c i)) (ho : obE c = false) : ∃ A, C.K.Cl c = some A ∧ TyE C.K.f H v (.ref A) := by
  have ex : ∀ A, C.K.Cl c = some A → ExAt C.K.f A := fun A e => by
    obtain ⟨B, hB, _, x, _⟩ := xF.at_ c (xF.dom c A e ho)
    rw [e] at hB; cases hB; exact x
  rcases h with h | ⟨a, o, e, h, _, q⟩
  · cases h with
    | obj h q => cases q
    | @exc a A _ h1 h2 => exact ⟨A, h1, .inr (.inl ⟨a, A, none, rfl, fGl r h2 (fun z => z), (fun _ z => nomatch z), rfl, ex A h1⟩)⟩
    | @excp a A dx _ _ h1 h2 h3 => exact ⟨A, h1, .inr (.inl ⟨a, A, some dx, rfl, fGl r h2 (fun z => z), (fun d z => by cases z; exact ⟨_, fGl r h3 (fun z => z)⟩), rfl, ex A h1⟩)⟩
  · cases q
theorem Bor.tyT {G : Hp} {ι : List Addr} {env : EnvD} {st : Sto} {σ : L2.St} {H : Hp} {v : V} {c t : Str} (xF : ExF cs C.K.f X.mg C.K.Cl) (r : R C lk G ι env st σ H) (h : Bor C.K G ι H v (.txe c t)) (ho : obE c = false) : ∃ A, C.K.Cl c = some A ∧ TyE C.K.f H v (.ref A) := by
  have ex : ∀ A, C.K.Cl c = some A → ExAt C.K.f A := fun A e => by
    obtain ⟨B, hB, _, x, _⟩ := xF.at_ c (xF.dom c A e ho)
    rw [e] at hB; cases hB; exact x
  rcases h with h | ⟨a, o, e, h, _, q⟩
  · cases h with
    | obj h q => cases q
    | @txe a A t0 _ _ h1 h2 h3 => exact ⟨A, h1, .inr (.inr ⟨a, A, t0, rfl, fGl r h2 (fun z => z), rfl, ex A h1⟩)⟩
  · cases q
variable {a : Expr} {wo : WO}
def wIsE (T : Str) (wo : WO) : WE := fun env st Q Qx => wo env st (fun r e s => r.get e fun d => match isE T d with
  | some b => Q (.bl b) e s
  | none => False) Qx
theorem e_isE {T : Str} (xF : ExF cs X.K X.mg C.K.Cl) (hT : T ∈ cs) (eK : X.K = C.K.f) (hg : Gl X "isinstance") (hm : X.mg "isinstance" = none) (ha : PE X a (liftO C lk wo)) (hgT : Gl X T) (hdT : (T == ("__debug__" : Str)) = false := by decide)
    (he : starEach [a, .Name T p2] X.env = (false, eval a X.env) :: starEach [.Name T p2] X.env := by rfl) (he2 : starEach [.Name T p2] X.env = (false, eval (.Name T p2) X.env) :: starEach [] X.env := by rfl) (hpl : (backTo pos (starEach [.Name T p2] X.env)).any (·.1) = false := by rfl) :
    PE X (.Call (.Name "isinstance" p) [a, .Name T p2] [] pos) (liftE C lk (wIsE T wo)) := by
  obtain ⟨B, hB, hmT, xB, _⟩ := xF.at_ T hT
  refine PEi (pe_callB call_isE hg hm (by decide +kernel) (pa_cons ha (pa_cons (pe_glob (v := .ref B) hgT hmT rfl hdT) pa_nil he2) he) (by decide) (by decide) he hpl) ?_
  rintro σ H Q ⟨G, ι, env, st, P, Px, hR, hw, hQ, hX⟩
  refine ⟨G, ι, env, st, _, Px, hR, hw, fun r1 e s G' ι' v H' p g r rp => ?_, hX⟩
  obtain ⟨d, p, b⟩ := r.bor rp p
  rw [eK] at xB xF ⊢
  cases d with
  | non => exact ⟨v, .ref B, .type "NoneType", .ref B, false, rfl, .own B, .inl ⟨b.non, rfl⟩, xB.nn, hQ _ e s G' ι' _ H' p g r .bl⟩
  | exc c i =>
    cases ho : obE c with
    | true => rw [isE, if_pos ho] at p; exact p.elim
    | false =>
    rw [isE, if_neg (by rw [ho]; decide)] at p
    obtain ⟨A, hA, ty⟩ := b.tyE xF r ho
    exact ⟨v, .ref B, .ref A, .ref B, subE c T, rfl, .own B, ty, (xF.two c T A B (xF.dom c A hA ho) hT hA hB).1, hQ _ e s G' ι' _ H' p g r .bl⟩
  | txe c i =>
    cases ho : obE c with
    | true => rw [isE, if_pos ho] at p; exact p.elim
    | false =>
    rw [isE, if_neg (by rw [ho]; decide)] at p
    obtain ⟨A, hA, ty⟩ := b.tyT xF r ho
    exact ⟨v, .ref B, .ref A, .ref B, subE c T, rfl, .own B, ty, (xF.two c T A B (xF.dom c A hA ho) hT hA hB).1, hQ _ e s G' ι' _ H' p g r .bl⟩
  | _ => exact p.elim
def wIsV (wo : WO) : WE := fun env st Q Qx => wo env st (fun r e s => r.get e fun d => match isEV d with
  | some b => Q (.bl b) e s
  | none => False) Qx
theorem kit_nonVE : kitB "NoneType" "ValueError" = some false := by decide +kernel
theorem e_isV (xF : ExF cs X.K X.mg C.K.Cl) (eK : X.K = C.K.f) (hg : Gl X "isinstance") (hm : X.mg "isinstance" = none) (ha : PE X a (liftO C lk wo)) (hgT : Gl X "ValueError") (hmT : X.mg "ValueError" = none)
    (he : starEach [a, .Name "ValueError" p2] X.env = (false, eval a X.env) :: starEach [.Name "ValueError" p2] X.env := by rfl) (he2 : starEach [.Name "ValueError" p2] X.env = (false, eval (.Name "ValueError" p2) X.env) :: starEach [] X.env := by rfl) (hpl : (backTo pos (starEach [.Name "ValueError" p2] X.env)).any (·.1) = false := by rfl) :
    PE X (.Call (.Name "isinstance" p) [a, .Name "ValueError" p2] [] pos) (liftE C lk (wIsV wo)) := by
  refine PEi (pe_callB call_isE hg hm (by decide +kernel) (pa_cons ha (pa_cons (pe_bltn (v := .ty "ValueError") hgT hmT (by decide +kernel) rfl) pa_nil he2) he) (by decide) (by decide) he hpl) ?_
  rintro σ H Q ⟨G, ι, env, st, P, Px, hR, hw, hQ, hX⟩
  refine ⟨G, ι, env, st, _, Px, hR, hw, fun r1 e s G' ι' v H' p g r rp => ?_, hX⟩
  obtain ⟨d, p, b⟩ := r.bor rp p
  rw [eK] at xF ⊢
  cases d with
  | non => exact ⟨v, .ty "ValueError", .type "NoneType", .type "ValueError", false, rfl, .ty _, .inl ⟨b.non, rfl⟩, kit_ty kit_nonVE, hQ _ e s G' ι' _ H' p g r .bl⟩
  | exc c i =>
    cases ho : obE c with
    | true => rw [isEV, if_pos ho] at p; exact p.elim
    | false =>
    rw [isEV, if_neg (by rw [ho]; decide)] at p
    obtain ⟨A, hA, ty⟩ := b.tyE xF r ho
    obtain ⟨A', hA', _, x, _⟩ := xF.at_ c (xF.dom c A hA ho)
    rw [hA] at hA'; cases hA'
    exact ⟨v, .ty "ValueError", .ref A, .type "ValueError", true, rfl, .ty _, ty, x.ve, hQ _ e s G' ι' _ H' p g r .bl⟩
  | txe c i =>
    cases ho : obE c with
    | true => rw [isEV, if_pos ho] at p; exact p.elim
    | false =>
    rw [isEV, if_neg (by rw [ho]; decide)] at p
    obtain ⟨A, hA, ty⟩ := b.tyT xF r ho
    obtain ⟨A', hA', _, x, _⟩ := xF.at_ c (xF.dom c A hA ho)
    rw [hA] at hA'; cases hA'
    exact ⟨v, .ty "ValueError", .ref A, .type "ValueError", true, rfl, .ty _, ty, x.ve, hQ _ e s G' ι' _ H' p g r .bl⟩
  | _ => exact p.elim
/-- isinstance(e, (S, T)) -/
def rIsE2 (K : PySem.W.Frag) : List V → Hp → VK → Prop := fun xs H Q => ∃ (x : V) (tp A B : Addr) (t : Value) (b : Bool), xs = [x, .ref tp] ∧ H tp = some (.tup [.ref A, .ref B]) ∧ TyE K H x t ∧ PySem.W.kitAny K t [.ref A, .ref B] = some b ∧ Q (.bl b) H
theorem call_isE2 : CallR X (.builtin "isinstance") (rIsE2 X.K) := by
  intro pins s σ H xs us Q I r h
  obtain ⟨x, tp, A, B, t, b, rfl, hT, ty, e, q⟩ := h
  obtain ⟨u1, u2, rfl, r1, r2⟩ := vals2 r
  cases (show u2 = Value.ref tp from r2)
  obtain ⟨P, Z, p, hx⟩ := kit_ofE I r1 ty
  obtain ⟨_, its, rv, o, g1, g2, n, g3⟩ := (show ObjOk X.prog X.w H s.heap tp (.tup [.ref A, .ref B]) from I.hok tp _ hT)
  have e3 : its = [.ref A, .ref B] := ClsV.all (us := [.ref A, .ref B]) (.cons (.own A) (.cons (.own B) .nil)) rv
  subst e3
  obtain ⟨oc, od, dt, sl⟩ := o
  dsimp only at g2 g3
  subst g2 g3
  exact PySem.W.kia_tup Z I.kIn p g1 e hx fun tk => ⟨.bl b, H, I.tok tk, rfl, q⟩
def isE2 (S T : Str) : D → Option Bool
  | .exc c _ => if obE c = true then none else some (subE c S || subE c T)
  | .txe c _ => if obE c = true then none else some (subE c S || subE c T)
  | .non => some false
  | _ => none
def wIsE2 (S T : Str) (wo : WO) : WE := fun env st Q Qx => wo env st (fun r e s => r.get e fun d => match isE2 S T d with
  | some b => Q (.bl b) e s
  | none => False) Qx
theorem kitAny2 {K : PySem.W.Frag} {t A B : Value} {b c : Bool} (h1 : PySem.W.kitOne K t A = some b) (h2 : PySem.W.kitOne K t B = some c) : PySem.W.kitAny K t [A, B] = some (b || c) :=
  kitAny_cons h1 (fun z => by subst z; exact kitAny_cons (r := c) h2 (fun y => by rw [y]; exact kitAny_nil) fun y => y) fun z => by rw [z]; rfl
end
end VL

/-! The value layer: exceptions, more; their steps. -/
namespace VL
open PySem PySem.Spec PyProof.Rows L2
section
variable {X : Cx} {C : Ctx} {lk : Lks} {pos p p2 p3 p4 : Pos} {cs : List Str} {a : Expr} {wo : WO}
theorem e_isE2 {S T : Str} {k : Nat} (xF : ExF cs X.K X.mg C.K.Cl) (hS : S ∈ cs) (hT : T ∈ cs) (eK : X.K = C.K.f) (hg : Gl X "isinstance") (hm : X.mg "isinstance" = none) (ha : PE X a (liftO C lk wo)) (hgS : Gl X S) (hgT : Gl X T) (hdS : (S == ("__debug__" : Str)) = false := by decide) (hdT : (T == ("__debug__" : Str)) = false := by decide)
    (he : starEach [a, .Tuple [.Name S p2, .Name T p3] k p4] X.env = (false, eval a X.env) :: starEach [.Tuple [.Name S p2, .Name T p3] k p4] X.env := by rfl)
    (he2 : starEach [.Tuple [.Name S p2, .Name T p3] k p4] X.env = (false, eval (.Tuple [.Name S p2, .Name T p3] k p4) X.env) :: starEach [] X.env := by rfl)
    (he3 : starEach [.Name S p2, .Name T p3] X.env = (false, eval (.Name S p2) X.env) :: starEach [.Name T p3] X.env := by rfl)
    (he4 : starEach [.Name T p3] X.env = (false, eval (.Name T p3) X.env) :: starEach [] X.env := by rfl)
    (hpl : (backTo pos (starEach [.Tuple [.Name S p2, .Name T p3] k p4] X.env)).any (·.1) = false := by rfl) :
    PE X (.Call (.Name "isinstance" p) [a, .Tuple [.Name S p2, .Name T p3] k p4] [] pos) (liftE C lk (wIsE2 S T wo)) := by
  obtain ⟨A, hA, hmS, xA, _⟩ := xF.at_ S hS
  obtain ⟨B, hB, hmT, xB, _⟩ := xF.at_ T hT
  refine PEi (pe_callB call_isE2 hg hm (by decide +kernel) (pa_cons ha (pa_cons (pe_tup (pa_cons (pe_glob (v := .ref A) hgS hmS rfl hdS) (pa_cons (pe_glob (v := .ref B) hgT hmT rfl hdT) pa_nil he4) he3)) pa_nil he2) he) (by decide) (by decide) he hpl) ?_
  rintro σ H Q ⟨G, ι, env, st, P, Px, hR, hw, hQ, hX⟩
  refine ⟨G, ι, env, st, _, Px, hR, hw, fun r1 e s G' ι' v H' p g r rp => ?_, hX⟩
  refine ⟨by rw [sizeLine_eq]; show 2 ≤ 16777216; decide, fun q hq => ?_⟩
  obtain ⟨r2, g2⟩ := r.newSh (o := .tup [.ref A, .ref B]) hq
  obtain ⟨d, p, b⟩ := r2.bor (rp.mono g2.sub g2.pre) p
  rw [eK] at xA xB xF
  show rIsE2 X.K [v, .ref q] (upd H' q (.tup [.ref A, .ref B])) Q
  rw [eK]
  cases d with
  | non => exact ⟨v, q, A, B, .type "NoneType", false, rfl, upd_same, .inl ⟨b.non, rfl⟩, kitAny2 xA.nn xB.nn, hQ _ e s _ ι' _ _ p (g.trans g2) r2 .bl⟩
  | exc c i =>
    cases ho : obE c with
    | true => rw [isE2, if_pos ho] at p; exact p.elim
    | false =>
    rw [isE2, if_neg (by rw [ho]; decide)] at p
    have hc := xF.dom c
    obtain ⟨D, hD, ty⟩ := b.tyE xF r2 ho
    have hc := hc D hD ho
    exact ⟨v, q, A, B, .ref D, _, rfl, upd_same, ty, kitAny2 (xF.two c S D A hc hS hD hA).1 (xF.two c T D B hc hT hD hB).1, hQ _ e s _ ι' _ _ p (g.trans g2) r2 .bl⟩
  | txe c i =>
    cases ho : obE c with
    | true => rw [isE2, if_pos ho] at p; exact p.elim
    | false =>
    rw [isE2, if_neg (by rw [ho]; decide)] at p
    have hc := xF.dom c
    obtain ⟨D, hD, ty⟩ := b.tyT xF r2 ho
    have hc := hc D hD ho
    exact ⟨v, q, A, B, .ref D, _, rfl, upd_same, ty, kitAny2 (xF.two c S D A hc hS hD hA).1 (xF.two c T D B hc hT hD hB).1, hQ _ e s _ ι' _ _ p (g.trans g2) r2 .bl⟩
  | _ => exact p.elim
end
/-! ### one step each -/
section
variable {env : EnvD} {st : Sto} {Q : KS} {Qx : KX}
theorem q_raise {c : Str} : wRaise c env st Q Qx = Qx (c, none) env st := rfl
def kSuite (i : Nat) (Q : KS) : KS := fun o e s => Q o (match o with | .rt _ => e | _ => e.set i none) s
def kTry (c : Str) (i : Nat) (u : WS) (Q : KS) (Qx : KX) : KX := fun x e s => obE x.1 = false ∧ if subE x.1 c = true then u (e.set i (some (.sh (.exc x.1 x.2)))) s (kSuite i Q) noXS else Qx x e s
theorem q_try {c : Str} {i : Nat} {w u : WS} : wTry c i w u env st Q Qx = w env st Q (kTry c i u Q Qx) := rfl
theorem q_kSu1 {i : Nat} : kSuite i Q .nx env st = Q .nx (env.set i none) st := rfl
theorem q_kSu2 {i : Nat} : kSuite i Q .bk env st = Q .bk (env.set i none) st := rfl
theorem q_kSu3 {i : Nat} : kSuite i Q .ct env st = Q .ct (env.set i none) st := rfl
theorem q_kSu4 {i : Nat} {d : D} : kSuite i Q (.rt d) env st = Q (.rt d) env st := rfl
theorem subE_S {c : Str} : subE c "SumError" = true := by unfold subE; rw [Bool.or_eq_true]; exact .inr (by decide)
theorem q_kTry {i : Nat} {u : WS} {c : Str} {p : Option Int} (h : obE c = false) : kTry "SumError" i u Q Qx (c, p) env st = u (env.set i (some (.sh (.exc c p)))) st (kSuite i Q) noXS := by
  unfold kTry; rw [if_pos subE_S]; simp [h]
theorem obE_s : obE "NoStretch" = false := by decide +kernel
theorem obE_n : obE "NoNumber" = false := by decide +kernel
theorem obE_a : obE "NoAsk" = false := by decide +kernel
theorem s_try_ {c : Str} {i : Nat} {w v u : WS} : wSeq (wTry c i w v) u env st Q Qx = wTry c i w v env st (kSeq u Q Qx) Qx := rfl
theorem s_raise_ {c : Str} {u : WS} : wSeq (wRaise c) u env st Q Qx = Qx (c, none) env st := rfl
def kIsE (T : Str) (Q : KE) (e : EnvD) (s : Sto) (d : D) : Prop := match isE T d with
  | some b => Q (.bl b) e s
  | none => False
theorem q_isE {T : Str} {wo : WO} {Q : KE} : wIsE T wo env st Q Qx = wo env st (fun r e s => r.get e (kIsE T Q e s)) Qx := rfl
theorem q_isE1 {T c : Str} {i : Option Int} {Q : KE} (h : obE c = false) : kIsE T Q env st (.exc c i) = Q (.bl (subE c T)) env st := by unfold kIsE isE; dsimp only; rw [if_neg (by rw [h]; decide)]
theorem q_isET1 {T c t : Str} {Q : KE} (h : obE c = false) : kIsE T Q env st (.txe c t) = Q (.bl (subE c T)) env st := by unfold kIsE isE; dsimp only; rw [if_neg (by rw [h]; decide)]
theorem q_isE2 {T : Str} {Q : KE} : kIsE T Q env st .non = Q (.bl false) env st := rfl
def kIsV (Q : KE) (e : EnvD) (s : Sto) (d : D) : Prop := match isEV d with
  | some b => Q (.bl b) e s
  | none => False
theorem q_isV {wo : WO} {Q : KE} : wIsV wo env st Q Qx = wo env st (fun r e s => r.get e (kIsV Q e s)) Qx := rfl
theorem q_isV1 {c : Str} {i : Option Int} {Q : KE} (h : obE c = false) : kIsV Q env st (.exc c i) = Q (.bl true) env st := by unfold kIsV isEV; dsimp only; rw [if_neg (by rw [h]; decide)]
theorem q_isVT1 {c t : Str} {Q : KE} (h : obE c = false) : kIsV Q env st (.txe c t) = Q (.bl true) env st := by unfold kIsV isEV; dsimp only; rw [if_neg (by rw [h]; decide)]
theorem q_isV2 {Q : KE} : kIsV Q env st .non = Q (.bl false) env st := rfl
def kIsE2 (S T : Str) (Q : KE) (e : EnvD) (s : Sto) (d : D) : Prop := match isE2 S T d with
  | some b => Q (.bl b) e s
  | none => False
theorem q_isEE {S T : Str} {wo : WO} {Q : KE} : wIsE2 S T wo env st Q Qx = wo env st (fun r e s => r.get e (kIsE2 S T Q e s)) Qx := rfl
theorem q_isEE1 {S T c : Str} {i : Option Int} {Q : KE} (h : obE c = false) : kIsE2 S T Q env st (.exc c i) = Q (.bl (subE c S || subE c T)) env st := by unfold kIsE2 isE2; dsimp only; rw [if_neg (by rw [h]; decide)]
theorem q_isEET1 {S T c t : Str} {Q : KE} (h : obE c = false) : kIsE2 S T Q env st (.txe c t) = Q (.bl (subE c S || subE c T)) env st := by unfold kIsE2 isE2; dsimp only; rw [if_neg (by rw [h]; decide)]
theorem q_isEE2 {S T : Str} {Q : KE} : kIsE2 S T Q env st .non = Q (.bl false) env st := rfl
theorem subE_ss : subE "NoStretch" "NoStretch" = true := by decide +kernel
theorem subE_sn : subE "NoStretch" "NoNumber" = false := by decide +kernel
theorem subE_sa : subE "NoStretch" "NoAsk" = false := by decide +kernel
theorem subE_ns : subE "NoNumber" "NoStretch" = false := by decide +kernel
theorem subE_nn : subE "NoNumber" "NoNumber" = true := by decide +kernel
theorem subE_na : subE "NoNumber" "NoAsk" = false := by decide +kernel
theorem subE_as : subE "NoAsk" "NoStretch" = false := by decide +kernel
theorem subE_an : subE "NoAsk" "NoNumber" = false := by decide +kernel
theorem subE_aa : subE "NoAsk" "NoAsk" = true := by decide +kernel
theorem o_isN5 {c t : Str} : isN (.txe c t) = false := rfl
theorem o_isN4 {c : Str} {i : Option Int} : isN (.exc c i) = false := rfl
end
section
variable {X : Cx} {C : Ctx} {lk : Lks} {pos p p2 apos cpos : Pos} {cs : List Str} {a o : Expr} {wo : WO} {wr : WA} {we : WE} {na : Nat}
/-! ### the place that an exception keeps -/
def plD (d : D) (P : D → Prop) : Prop := match d with
  | .exc c (some i) => obE c = false ∧ P (.int i)
  | _ => False
def wPlace (we : WE) : WE := fun env st Q Qx => we env st (fun d e s => plD d fun v => Q v e s) Qx
def tPlc (K : PySem.W.Frag) (te : TE) : TE := fun σ H Q => te σ H fun x H1 => ∃ (a A dx : Addr) (i : Int), x = .ref a ∧ H1 a = some (EXO A a (some dx)) ∧ H1 dx = some (.xd [("place", .int i)]) ∧ ExAt K A ∧ Q (.int i) H1
theorem pe_plc {te : TE} (he : PE X a te) (hb : attributeBase a "place" X.env (eval a X.env) = eval a X.env) : PE X (.Attribute a "place" pos) (tPlc X.K te) := by
  refine ⟨fun pins s σ H Q I h => ?_⟩
  refine attr_of hb (thn (he.run pins s σ H _ I h) fun u s1 hh => ?_)
  obtain ⟨x, H1, I1, rx, b, A, dx, i, ex, ea, ed, xa, q⟩ := hh
  subst ex
  obtain rfl : u = Value.ref b := rx
  obtain ⟨⟨oe, vs, e1, e2, e3, e4⟩, _⟩ := I1.hok b _ ea
  obtain ⟨mA, hns, hr⟩ := I1.hok dx _ ed
  obtain ⟨od, ho, hl⟩ := lookIn_ns hns
  obtain ⟨u, hu, ru⟩ := RelO.some_of (v := V.int i) (o := mA "place") (by
    have z := hr "place"
    rw [show List.lookup ("place" : Str) [(("place" : Str), V.int i)] = some (.int i) by simp [List.lookup]] at z
    exact z)
  have J : PySem.W.InstAt s1.heap b oe A (some od) := ⟨e1, e2, by unfold PySem.W.notCls; rw [e4], by rw [e3]; exact ho⟩
  exact HandSPX.exc_get I1.kIn J xa.ga xa.gg xa.sb (PySem.W.findObj_own xa.hd xa.np rfl (by rw [hl, hu])) (handed_of ru) ⟨.int i, H1, I1.tok _, ru, q⟩
theorem e_place (xF : ExF cs X.K X.mg C.K.Cl) (eK : X.K = C.K.f) (he : PE X a (liftE C lk we)) (hb : attributeBase a "place" X.env (eval a X.env) = eval a X.env := by rfl) : PE X (.Attribute a "place" pos) (liftE C lk (wPlace we)) := by
  refine PEi (pe_plc he hb) ?_
  rintro σ H Q ⟨G, ι, env, st, P, Px, hR, hw, hQ, hX⟩
  refine ⟨G, ι, env, st, _, Px, hR, hw, fun d e s G' ι' v H' p g r rp => ?_, hX⟩
  rw [eK] at xF ⊢
  cases d with
  | exc c i =>
    cases i with
    | none => exact p.elim
    | some i =>
      obtain ⟨ho, p⟩ := p
      cases rp with
      | obj h q => cases q
      | @excp b A dx _ _ h1 h2 h3 =>
        obtain ⟨B, hB, _, x, _⟩ := xF.at_ c (xF.dom c A h1 ho)
        rw [h1] at hB; cases hB
        exact ⟨b, A, dx, i, rfl, fGl r h2 (fun z => z), fGl r h3 (fun z => z), x, hQ _ e s G' ι' _ H' p g r .int⟩
  | _ => exact p.elim
/-! ### xs.count(e) -/
def rCount (K : PySem.W.Frag) : V → List V → Hp → VK → Prop := fun x xs H Q => ∃ (a : Addr) (ys : List V) (y : V), x = V.ref a ∧ xs = [y] ∧ SqL K H a ys ∧ flatV y = true ∧ ys.all flatV = true ∧ Q (.int ((ys.countP fun z => eqV z y) : Nat)) H
theorem countP_vals {y : V} : ∀ {xs : List V} {us : List Value}, Vals xs us → xs.all flatV = true → us.countP (eqU y) = xs.countP fun z => eqV z y
  | _, _, .nil, _ => rfl
  | x :: xs, u :: us, .cons r t, f => by
    rw [List.all_cons, Bool.and_eq_true] at f
    rw [List.countP_cons, List.countP_cons, countP_vals t f.2, eqU_of r f.1]
theorem mt_count : MtR X "list.count" (rCount X.K) := by
  intro pins s σ H x xs v us Q I rx rxs h
  obtain ⟨a, ys, y, rfl, rfl, hs, fy, fys, q⟩ := h
  cases rx
  cases rxs with
  | cons ry rt =>
    rename_i uy ut
    cases rt
    obtain ⟨its, rv, ⟨⟨cls, dd, data, sl⟩, n, ho, hc, hdn, hd⟩, hlen⟩ := I.list hs
    simp only at hc hd
    subst hc hd
    refine call_meets PySem.F.slot_list_count ⟨_, ho, rfl⟩ PySem.F.entry_list_count (PySem.F.args_list_count_2 _ _)
      (SeqAt.list_countAt a its.toArray n dd sl uy (eqU y)) ⟨ho, fun u' hu' => mem_eqAt ry fy rv fys u' (by simpa using hu'), ?_⟩
    exact ⟨.int ((ys.countP fun z => eqV z y) : Nat), H, I.tok _, ⟨_, by rw [show its.toArray.toList = its from rfl, countP_vals rv fys]⟩, q⟩
def cntD (xs : List D) (d : D) (P : D → Prop) : Prop := fD d = true ∧ xs.all fD = true ∧ P (.int ((xs.countP fun z => VL.eqF z d) : Nat))
def kCnt (P : D → Prop) (r : DR) (e : EnvD) (d : D) : Prop := r.get e fun l => match l with | .lst xs => cntD xs d P | _ => False
def wCnt (wo : WO) (wr : WA) : WE := fun env st Q Qx => wo env st (fun r e1 s1 => isLst r e1 s1 ∧ wr e1 s1 (fun ds e2 s2 => match ds with | [d] => kCnt (fun v => Q v e2 s2) r e2 d | _ => False) Qx) Qx
theorem count_reps {K : KC} {G : Hp} {ι : List Addr} {u : V} {d : D} (rx : Rep K G ι u d) (f1 : fD d = true) : ∀ {ys : List V} {ds : List D}, Reps K G ι ys ds → ds.all fD = true → ys.countP (fun z => eqV z u) = ds.countP fun z => VL.eqF z d
  | _, _, .nil, _ => rfl
  | y :: ys, e :: ds, .cons r t, f => by
    rw [List.all_cons, Bool.and_eq_true] at f
    rw [List.countP_cons, List.countP_cons, count_reps rx f1 t f.2, r.eqF rx f.1 f1]
theorem e_cnt {e : Expr} (eK : X.K = C.K) (ho : PE X o (liftO C lk wo)) (ha : PA X [e] (liftA C lk na wr))
    (hbase : attributeBase o "count" X.env (eval o X.env) = eval o X.env := by rfl)
    (hfew : ((backTo cpos (starEach [e] X.env)).all (fun x => !x.1) && (backToKw cpos (keywordEach [] X.env)).all (fun x => x.1.isSome)
      && decide ([e].length + ([] : List Keyword).length + (if ([] : List Keyword).isEmpty then 0 else 1) < 30)) = true := by rfl)
    (hline : (apos.endLine == cpos.line) = true := by rfl) (hs : starEach [e] X.env = (false, eval e X.env) :: starEach [] X.env := by rfl) (hplain : (backTo cpos (starEach [] X.env)).any (·.1) = false := by rfl) :
    PE X (.Call (.Attribute o "count" apos) [e] [] cpos) (liftE C lk (wCnt wo wr)) :=
  PEi (pe_bm PySem.F.plainAttrs_list PySem.F.slot_list_count PySem.F.type_list_count mt_count ho ha hbase hfew hline hs hplain) (by
  rintro σ H Q ⟨G, ι, env, st, P, Px, hR, hw, hQ, hX⟩
  refine ⟨G, ι, env, st, _, Px, hR, hw, fun r e1 s1 G1 ι1 x H1 p1 g1 R1 rep1 => ?_, hX⟩
  obtain ⟨l, xs, rfl, hl⟩ := isLst_ok R1 rep1 p1.1
  refine ⟨.inl ⟨rfl, xs, .of hl⟩, G1, ι1, e1, s1, _, Px, R1, p1.2, fun ds e2 s2 G2 ι2 vs H2 p2 _ g2 R2 rps => ?_, hX.mono g1⟩
  split at p2
  · rename_i d _
    cases rps with
    | cons rx rr =>
      cases rr
      obtain ⟨dl, p3, b⟩ := R2.bor (rep1.mono g2.sub g2.pre) p2
      cases dl with
      | lst ds =>
        obtain ⟨a', ys, ea, hh, hr⟩ := b.lst R2
        cases ea
        obtain ⟨f1, f2, hp⟩ := p3
        have fy : ys.all flatV = true := List.all_eq_true.mpr fun y hy => by
          obtain ⟨n, hn⟩ := List.mem_iff_getElem?.mp hy
          obtain ⟨d', hd', rd⟩ := hr.getR hn
          exact rd.flat (List.all_eq_true.mp f2 d' (List.mem_of_getElem? hd'))
        refine ⟨l, ys, _, rfl, rfl, .of hh, rx.flat f1, fy, ?_⟩
        rw [count_reps rx f1 hr f2]
        exact hQ _ e2 s2 G2 ι2 _ H2 hp (g1.trans g2) R2 .int
      | _ => exact p3.elim
  · exact p2.elim)
end
/-! ### one step each -/
section
variable {env : EnvD} {st : Sto} {Q : KS} {Qx : KX}
theorem q_plc {we : WE} {Q : KE} : wPlace we env st Q Qx = we env st (fun d e s => plD d fun v => Q v e s) Qx := rfl
theorem q_plc1 {c : Str} {i : Int} {P : D → Prop} (h : obE c = false) : plD (.exc c (some i)) P = P (.int i) := by
  unfold plD; dsimp only; rw [h]; simp
def kCnt1 (r : DR) (Q : KE) : KA := fun ds e2 s2 => match ds with | [d] => kCnt (fun v => Q v e2 s2) r e2 d | _ => False
theorem q_cnt {wo : WO} {wr : WA} {Q : KE} : wCnt wo wr env st Q Qx = wo env st (fun r e1 s1 => isLst r e1 s1 ∧ wr e1 s1 (kCnt1 r Q) Qx) Qx := rfl
def kCnt2 (d : D) (P : D → Prop) (l : D) : Prop := match l with | .lst xs => cntD xs d P | _ => False
theorem q_cnt1 {r : DR} {Q : KE} {d : D} : kCnt1 r Q [d] env st = r.get env (kCnt2 d fun v => Q v env st) := rfl
theorem q_cnt2 {d : D} {P : D → Prop} {xs : List D} : kCnt2 d P (.lst xs) = cntD xs d P := rfl
theorem cnt_b3 {x y z : Bool} {P : D → Prop} : cntD [.bl x, .bl y, .bl z] (.bl true) P = P (.int (([x, y, z].countP id : Nat))) := by
  unfold cntD; cases x <;> cases y <;> cases z <;> simp [fD, VL.eqF, List.all, List.countP_cons]
theorem idx_b3a {y z : Bool} {P : D → Prop} {p} (h : P (.int 0)) : pIdx [.bl true, .bl y, .bl z] (.bl true) P p := by
  refine ⟨rfl, rfl, 0, .bl true, rfl, rfl, fun m z' hm => by omega, h⟩
theorem idx_b3b {z : Bool} {P : D → Prop} {p} (h : P (.int 1)) : pIdx [.bl false, .bl true, .bl z] (.bl true) P p := by
  refine ⟨rfl, rfl, 1, .bl true, rfl, rfl, fun m z' hm hz => ?_, h⟩
  obtain rfl : m = 0 := by omega
  cases hz; rfl
theorem idx_b3c {P : D → Prop} {p} (h : P (.int 2)) : pIdx [.bl false, .bl false, .bl true] (.bl true) P p := by
  refine ⟨rfl, rfl, 2, .bl true, rfl, rfl, fun m z' hm hz => ?_, h⟩
  rcases (by omega : m = 0 ∨ m = 1) with rfl | rfl <;> cases hz <;> rfl
end
end VL

/-! The value layer: an exception class with its own __init__ (NoNumber), raised and made by hand. -/
namespace VL
open PySem PySem.Spec PyProof.Rows L2
section
variable {X : Cx} {p1 p2 pos : Pos} {e : Expr} {es : List Expr} {ta : TA}
/-- x.__init__(self, ..), x an own class above ValueError -/
theorem pe_clinit {S : Addr} {x : Str} {pl : Sem Bool} (hg : Gl X x) (hm : X.mg x = some (.ref S)) (hS : sumB X.K S = true) (ha : PA X (e :: es) ta)
    (hc : eval (.Call (.Attribute (.Name x p1) "__init__" p2) (e :: es) [] pos) X.env = (do
      let ov ← eval (.Name x p1) X.env
      standAt p2.atName
      let (f, first) ← holding [ov] (getMethod ov "__init__" pl)
      callWith pos f first (backTo pos (starEach (e :: es) X.env)) (backToKw pos (keywordEach [] X.env))) := by rfl)
    (he : starEach (e :: es) X.env = (false, eval e X.env) :: starEach es X.env := by rfl) (hpl : (backTo pos (starEach es X.env)).any (·.1) = false := by rfl) (hdb : (x == ("__debug__" : Str)) = false := by decide) :
    PE X (.Call (.Attribute (.Name x p1) "__init__" p2) (e :: es) [] pos) (tVeI X.K ta) := by
  obtain ⟨k1, k2, k3, k4⟩ := sum_cls hS
  refine ⟨fun pins s σ H Q I h => ?_⟩
  refine PySem.W.methodCall_KW (ld_glob I hg hm ?_ hdb) hc
  obtain ⟨m, fr⟩ := I.fr
  refine PySem.W.method_of_cls fr I.ok.mod.kin k1 ?_
  refine PySem.W.cls_val fr I.ok.mod.kin k2 k3 k4 (by decide +kernel) ?_
  show wpAny _ _ (callWith pos (Value.builtin "ValueError.__init__") [] (backTo pos (starEach (e :: es) X.env)) []) _ _ _
  refine PyProof.Rows.callWith_method1 (thn (ha.run pos pins _ σ H _ (I.tok _) h) fun us s1 ⟨vs, H1, I1, r1, a, C, ws, ev, hl, T, ea, q⟩ => ?_) he hpl
  subst ev
  cases r1 with
  | @cons _ u0 _ ur ra rw' =>
    obtain rfl : u0 = Value.ref a := ra
    have hlen : ur.length ≤ sizeLine := by
      rw [← Paired.length rw', sizeLine_eq]
      omega
    exact oinit_ok T I1 ea hlen fun s' J => ⟨.non, H1, J, rfl, q⟩
end
/-- what NoNumber.__init__ does -/
def spN (K : PySem.W.Frag) : Sp := fun vs H Q _ => vs.length = 2 ∧ ∃ (a C : Addr) (i : Int), vs = [.ref a, .int i] ∧ (0 ≤ i ∧ i < 10 ^ 9) ∧ OexC K C ∧ PySem.W.findIn K (.ref C) "place" = some none ∧ H a = some (exo a C none) ∧
  ∀ dx, H dx = none → dx ≠ a → Q .non (upd (upd H dx (exd dx [("place", .int i)])) a (exo a C (some dx)))
structure CalleeN (P : Program) (wd : World) (K : PySem.W.Frag) (mg : Str → Option Value) (base : Heap) (Cl : Str → Option Addr) (k : Nat) : Prop where
  ex : ∃ C f fd ps, FnOk P wd K mg base (L2.CX P wd) k f fd ps (spN K) ∧ Cl "NoNumber" = some C ∧ mg "NoNumber" = some (.ref C) ∧ OexC K C ∧ PySem.W.findIn K (.ref C) "__init__" = some (some (.ref f)) ∧
    PySem.W.typeIn K (.ref f) = some (.type "function") ∧ Binds K fd ps [] ∧ PySem.W.findIn K (.ref C) "place" = some none
section
variable {X : Cx} {C : Ctx} {lk : Lks} {pos p : Pos} {k k' : Nat} {e : Expr} {we : WE}
def wRaiseN (we : WE) : WS := fun env st _ Qx => we env st (fun d e s => match d with
  | .int i => (0 ≤ i ∧ i < 10 ^ 9) ∧ Qx ("NoNumber", some i) e s
  | _ => False) Qx
theorem passes_no : Passes (L2.CX X.prog X.w) X (fun _ _ _ => False) := fun _ _ _ _ _ _ _ c => by
  obtain ⟨_, _, _, _, _, _, _, _, _, _, _, _, z⟩ := c
  exact z.elim
theorem upd_made {H : Hp} {a dx : Addr} {o1 o2 o3 o4 o5 : HO} (hn : H a = none) (hd : dx ≠ a) : upd (del (upd (upd (upd H a o1) dx o2) a o3) a) dx o5 = upd H dx o5 := by
  funext b
  by_cases q : b = dx
  · subst q; rw [upd_same, upd_same]
  · rw [upd_ne q, upd_ne q]
    by_cases q2 : b = a
    · subst q2; rw [del_same, hn]
    · rw [del_ne q2, upd_ne q2, upd_ne q, upd_ne q2]
theorem s_raiseN (c : CalleeN X.prog X.w X.K X.mg X.base C.K.Cl k) (hr : Room k' X.A) (hk : k + 1 ≤ k') (cm : X.calm = true) (tk : Takes X C.W) (hg : Gl X "NoNumber") (he : PE X e (liftE C lk we))
    (hs : starEach [e] X.env = (false, eval e X.env) :: starEach [] X.env := by rfl) (hpl : (backTo p (starEach [] X.env)).any (·.1) = false := by rfl) {p3 : Pos} :
    PS X (.Raise (some (.Call (.Name "NoNumber" p3) [e] [] p)) none pos) (liftS C lk (wRaiseN we)) := by
  obtain ⟨A, f, fd, ps, hF, hA, hm, T, iC, tI, hb, hpl2⟩ := c.ex
  refine PSi (ps_raise cm tk (pmk_oex (dvs := []) (ds := []) T iC tI hF (hr.mono hk) hb .nil passes_no hg hm (pa1 he hs) (by decide) hs hpl)) ?_
  rintro E σ H ⟨G, ι, env, st, P, Px, hR, hw, hS, hX⟩
  refine ⟨G, ι, env, st, _, Px, hR, hw, fun d e s G' ι' v H' q g r rp => ?_, hX⟩
  cases d with
  | int i =>
    have e1 := (show Bor C.K G' ι' H' v (.int i) from .inl rp).int
    subst e1
    obtain ⟨q1, q2⟩ := q
    refine ⟨by simp, fun a ha => ⟨rfl, a, A, i, rfl, q1, T, hpl2, upd_same, fun dx hdx hne => ⟨rfl, dx, _, upd_same, by rw [upd_ne hne, upd_same], ?_, ?_⟩⟩⟩
    · rw [upd_ne hne] at hdx; exact hdx
    · rw [upd_ne hne] at hdx
      rw [upd_made (o4 := .ins 0 0 []) ha hne]
      refine hX ("NoNumber", some i) e s G' ι' σ _ _ _ q2 g (r.newOw hdx) ⟨A, hA, rfl, dx, rfl, upd_same, (r.noG hdx).2.1⟩
  | _ => exact q.elim
end
def tN (K : PySem.W.Frag) (m : Str) : TS := tSeq (tDrop (tVeI K (tCons (tVar 0) (tCons (tOp (fun x y H Q => ∃ i j, x = .str i ∧ y = .str j ∧ i.length + j.length ≤ sizeLine ∧ Q (.str (i ++ j)) H) (tC (.str m)) (tCB (fun xs H Q => ∃ i, xs = [.int i] ∧ i.natAbs.log2 < 1920 ∧ Q (.str (toString i)) H) (tCons (tVar 1) tNil))) tNil)))) (tOst K "place" (tVar 0) (tVar 1))
theorem small_text {i : Int} (h0 : 0 ≤ i) (h1 : i < 10 ^ 9) : (Str.ofString (toString i)).length ≤ 9 ∧ i.natAbs.log2 < 1920 := by
  obtain ⟨n, rfl⟩ := Int.eq_ofNat_of_zero_le h0
  have hn : n < 10 ^ 9 := by omega
  refine ⟨?_, ?_⟩
  · have e : (Str.ofString (toString (n : Int))).length = (TL.numL n).length := by
      rw [← TL.tl_num]; exact (Array.length_toList).symm
    rw [e]
    exact TL.numL_len (by decide) hn
  · have h : (n : Int).natAbs < 2 ^ 30 := Nat.lt_of_lt_of_le (show (n : Int).natAbs < 10 ^ 9 by omega) (by decide)
    by_cases z : (n : Int).natAbs = 0
    · rw [z]; decide
    · exact Nat.lt_trans ((Nat.log2_lt z).mpr h) (by decide)
section
variable {P : Program} {wd : World} {K : PySem.W.Frag} {mg : Str → Option Value} {base : Heap}
theorem mk_calleeN {q m : Str} {st : Stmt} {f : Addr} {fd : FuncData} {k : Nat} {Cl : Str → Option Addr} (F : FunD K "__init__" q (defArgs st) (defBody st) (defScope st) [] [] f fd) (S : FnScope ["self", "place"] ["self", "place"] (defScope st)) (hm : m.length ≤ 1000)
    (hC : Cl "NoNumber" = some (He.ga K "NoNumber")) (hmg : mg "NoNumber" = some (.ref (He.ga K "NoNumber"))) (x : exnB K = true) (hf : f = He.ma K (He.ga K "NoNumber") "__init__")
    (h : ∀ (kV doc pm : Value) (an : Option Addr) (cdv ct : Value) (us : List Value), us.length = (["self", "place"] : List Str).length → bindArgs (PySem.W.fnOf "__init__" q (defArgs st) (defBody st) (defScope st) .none kV doc pm an cdv ct) ⟨us, []⟩ = pure ((["self", "place"] : List Str).zip us))
    (hb : ∀ (cdv : Value) (A : Around) (outer : List Env) (s : Shared) (H : Hp) (E : XK), PSs (cxOf (L2.CX P wd) P wd K mg base ["self", "place"] q (defScope st) f cdv A outer s H E) (defBody st) (tN K m)) : CalleeN P wd K mg base Cl (k + 1) := by
  unfold exnB at x
  simp only [Bool.and_eq_true, decide_eq_true_eq] at x
  obtain ⟨⟨⟨⟨x1, x2⟩, x3⟩, x4⟩, x5⟩ := x
  have T := oex_of x1
  subst hf
  refine ⟨_, _, fd, ["self", "place"], ?_, hC, hmg, T, x3, x4, FunD.bindsN F h, x5⟩
  refine F.ok S (fun vs H Q E h => h.1) (fun cdv A outer s H vs Q E hr hq => ⟨_, hb cdv A outer s H E, ?_⟩)
  obtain ⟨_, a, C, i, rfl, ⟨i0, i1⟩, T2, np, ea, hQ⟩ := hq
  obtain ⟨l1, l2⟩ := small_text i0 i1
  refine ⟨.ref a, rfl, .int i, rfl, i, rfl, l2, m, _, rfl, rfl, by rw [sizeLine_eq]; omega, a, C, [.str (m ++ Str.ofString (toString i))], rfl, by simp, T2, ea, ?_⟩
  exact ⟨.int i, rfl, .ref a, rfl, a, C, rfl, T2, np, .inl ⟨ea, fun dx hdx hne => hQ dx hdx hne⟩⟩
end
/-! ### steps -/
section
variable {env : EnvD} {st : Sto} {Q : KS} {Qx : KX}
def kRN (Qx : KX) : KE := fun d e s => match d with
  | .int i => (0 ≤ i ∧ i < 10 ^ 9) ∧ Qx ("NoNumber", some i) e s
  | _ => False
theorem q_raiseN {we : WE} : wRaiseN we env st Q Qx = we env st (kRN Qx) Qx := rfl
theorem q_raiseN1 {i : Int} : kRN Qx (.int i) env st = ((0 ≤ i ∧ i < 10 ^ 9) ∧ Qx ("NoNumber", some i) env st) := rfl
theorem s_raiseN_ {we : WE} {u : WS} : wSeq (wRaiseN we) u env st Q Qx = we env st (kRN Qx) Qx := rfl
end
end VL

/-! The value layer: exceptions made by hand, as values; their texts. -/
namespace VL
open PySem PySem.Spec PyProof.Rows L2
section
variable {fs ex : List Addr} {H : Hp} {h h' : Heap} {a t : Addr} {o1 o2 : HO}
theorem Un.laid2 (k : ∀ b u, h.get? b = some u → h'.get? b = some u) (ha : h.get? a = none) (ht : h.get? t = none) (na : H a = none) (nt : H t = none) : Un fs ex H (upd (upd H t o2) a o1) h h' where
  keep := fun b u q _ _ _ => k b u q
  slot := fun b u q _ _ _ => ⟨u.slots, k b u q⟩
  free := fun b u q n _ => by rw [upd_ne (fun z => by rw [z, ha] at q; cases q), upd_ne (fun z => by rw [z, ht] at q; cases q)]; exact n
  there := fun b u q _ => ⟨u, k b u q⟩
  tups := fun b xs q => by rw [upd_ne (ne_of_none q na), upd_ne (ne_of_none q nt)]; exact q
  frzs := fun b u xs q => by rw [upd_ne (ne_of_none q na), upd_ne (ne_of_none q nt)]; exact q
  tbls := fun b ps q => ⟨#[], by rw [upd_ne (ne_of_none q na), upd_ne (ne_of_none q nt), q]; simp⟩
end
section
variable {X : Cx} {C : Ctx} {lk : Lks} {pos p : Pos} {e : Expr} {we : WE} {cs : List Str} {k k' : Nat}
def tMkT (A : Addr) (te : TE) : TE := fun σ H Q => te σ H fun x H1 => ∀ a t, H1 a = none → H1 t = none → a ≠ t → Q (.ref a) (upd (upd H1 t (.tup [x])) a (EXT A a t))
theorem pe_mkT {A : Addr} {bmB : List Value} {B newId initId : String} {x : Str} {te : TE} (F : ExcBaseFacts B newId initId bmB) (q : PySem.W.excIn X.K A bmB newId = true) (gC : X.mg x = some (.ref A)) (kC : PySem.W.keepIn X.K (.ref A) = true) (hg : Gl X x)
    (he : PE X e te) (hs : starEach [e] X.env = (false, eval e X.env) :: starEach [] X.env := by rfl) (hdb : (x == ("__debug__" : Str)) = false := by decide) :
    PE X (.Call (.Name x p) [e] [] pos) (tMkT A te) := by
  refine ⟨fun pins s σ H Q I h => ?_⟩
  refine wpAny_Call_Name_kw (ld_glob I hg gC ?_ hdb)
  refine PySem.W.callWith_K (h₀ := X.base) I.ok.mod.kin kC ?_ hs (by rfl)
  rw [hs]
  show wpAny _ _ (spliced ((false, eval e X.env) :: backTo pos (starEach [] X.env))) _ _ s
  refine Calls.spliced_cons (thn (he.run pins s σ H _ I h) fun u s1 ⟨v, H1, I1, r1, q1⟩ => ?_)
  refine Calls.spliced_nil ⟨I1.kIn, ?_⟩
  show wpAny _ _ (call (.ref A) [u]) _ _ _
  obtain ⟨bm, N, nm, qn, bs, hdct, sn, sub, ab, col, dd, k0, k1, k2, k3, k5, mN, hC, hN, hni, T⟩ := exc_obj I1.kIn q
  refine wpAny_call_exc_subT F T hC hN hni (fun h' a hm => ?_) (by show 1 ≤ sizeLine; rw [sizeLine_eq]; omega)
  obtain ⟨t, ha, tn, ht⟩ := hm.there
  have na : H1 a = none := I1.hok.gone hm.new
  have nt : H1 t = none := I1.hok.gone tn
  have ne : a ≠ t := fun z => by rw [z, ht] at ha; have := Option.some.inj ha; injection this with _ _ e; cases e
  have ok1 : HOk X.prog X.w (upd H1 t (.tup [v])) h' := HOk.laidN I1.hok hm.keeps nt ⟨by rw [sizeLine_eq]; show 1 ≤ 16777216; decide, [u], .cons r1 .nil, ⟨_, ht, rfl, _, rfl⟩⟩
  have ok2 : HOk X.prog X.w (upd (upd H1 t (.tup [v])) a (EXT A a t)) h' := HOk.laidN ok1 (fun _ _ z => z) (by rw [upd_ne ne]; exact na) ⟨⟨_, _, ha, rfl, rfl, rfl, rfl⟩, ⟨_, ha⟩, fun _ _ ⟨o, v, q, r⟩ k => ⟨o, v, k o q, r⟩⟩
  exact ⟨.ref a, _, I1.un (t' := s1.toks) (Un.laid2 hm.keeps hm.new tn na nt) ok2, rfl, q1 a t na nt ne⟩
def wMkT (c : Str) (we : WE) : WE := fun env st Q Qx => we env st (fun d e s => match d with
  | .str t => Q (.txe c t) e s
  | _ => False) Qx
theorem e_mkT {c : Str} (xF : ExF cs X.K X.mg C.K.Cl) (hc : c ∈ cs) (hn : c ≠ "NoNumber") (hg : Gl X c) (he : PE X e (liftE C lk we))
    (hs : starEach [e] X.env = (false, eval e X.env) :: starEach [] X.env := by rfl) (hdb : (c == ("__debug__" : Str)) = false := by decide) :
    PE X (.Call (.Name c p) [e] [] pos) (liftE C lk (wMkT c we)) := by
  obtain ⟨A, hA, hm, x, hx⟩ := xF.at_ c hc
  refine PEi (pe_mkT PySem.F.excBase_ValueError (hx hn) hm x.kp hg he hs hdb) ?_
  rintro σ H Q ⟨G, ι, env, st, P, Px, hR, hw, hQ, hX⟩
  refine ⟨G, ι, env, st, _, Px, hR, hw, fun d e s G' ι' v H' q g r rp => ?_, hX⟩
  cases d with
  | str i =>
    have e1 := (show Bor C.K G' ι' H' v (.str i) from .inl rp).str
    subst e1
    intro a t na nt ne
    obtain ⟨r2, g2⟩ := r.newSh (o := .tup [.str i]) nt
    obtain ⟨r3, g3⟩ := r2.newSh (p := a) (o := EXT A a t) (by rw [upd_ne ne]; exact na)
    exact hQ _ e s _ ι' _ _ q (g.trans (g2.trans g3)) r3 (.txe hA upd_same (by rw [upd_ne (Ne.symm ne), upd_same]))
  | _ => exact q.elim
/-- str(e) -/
theorem call_str_T (hu : X.A.units + 64 < cLine) : CallR X (.type "str") (fun xs H Q => ∃ a A t s, xs = [.ref a] ∧ H a = some (EXT A a t) ∧ H t = some (.tup [.str s]) ∧ ExAt X.K A ∧ Q (.str s) H) := by
  intro pins s σ H xs us Q I r h
  obtain ⟨a, A, t, x, rfl, ha, ht, xa, q⟩ := h
  obtain ⟨u, rfl, ru⟩ := vals1 r
  obtain rfl : u = Value.ref a := ru
  obtain ⟨⟨oe, vs, e1, e2, e3, e4, e5⟩, _⟩ := I.hok a _ ha
  obtain ⟨_, its, rv, o, g1, g2, n, g3⟩ := (show ObjOk X.prog X.w H s.heap t (.tup [.str x]) from I.hok t _ ht)
  obtain ⟨u1, rfl, r1⟩ := vals1 rv
  obtain ⟨tk, rfl⟩ := r1
  exact PySem.P.str_of_C_one (K := X.K) (C := A) (by omega) ⟨I.kIn, oe, vs, e1, e2, e4, e5⟩ ⟨o, n, g1, g2, g3⟩ xa.st xa.sb ⟨.str x, H, I, ⟨_, rfl⟩, q⟩
def txD (d : D) (P : D → Prop) : Prop := match d with
  | .txe c t => obE c = false ∧ P (.str t)
  | _ => False
def wStrT (we : WE) : WE := fun env st Q Qx => we env st (fun d e s => txD d fun v => Q v e s) Qx
theorem e_strT (xF : ExF cs X.K X.mg C.K.Cl) (eK : X.K = C.K.f) (hr : Room k X.A) (hg : Gl X "str") (hm : X.mg "str" = none) (he : PE X e (liftE C lk we)) (hs : starEach [e] X.env = (false, eval e X.env) :: starEach [] X.env := by rfl) :
    PE X (.Call (.Name "str" p) [e] [] pos) (liftE C lk (wStrT we)) := by
  refine PEi (pe_callTy (call_str_T hr.units) hg hm (by decide +kernel) (pa_cons he pa_nil hs) (he := hs)) ?_
  rintro σ H Q ⟨G, ι, env, st, P, Px, hR, hw, hQ, hX⟩
  refine ⟨G, ι, env, st, _, Px, hR, hw, fun d e s G' ι' v H' q g r rp => ?_, hX⟩
  rw [eK] at xF ⊢
  cases d with
  | txe c i =>
    obtain ⟨ho, q⟩ := q
    cases rp with
    | obj h q => cases q
    | @txe a A t0 _ _ h1 h2 h3 =>
      obtain ⟨B, hB, _, x, _⟩ := xF.at_ c (xF.dom c A h1 ho)
      rw [h1] at hB; cases hB
      exact ⟨a, A, t0, i, rfl, fGl r h2 (fun z => z), fGl r h3 (fun z => z), x, hQ _ e s G' ι' _ H' q g r .str⟩
  | _ => exact q.elim
/-- what makes an exception, as a value -/
theorem pe_of_mk {tm : L2.St → Hp → XK → Prop} (he : PMk X e tm) : PE X e (fun σ H Q => tm σ H fun cls d H1 => ∃ A, cls = .ref A ∧ ∀ a, H1 a = none → Q (.ref a) (upd H1 a (EXO A a d))) := by
  refine ⟨fun pins s σ H Q I h => wpAny_mono (he pins s σ H _ I h) (fun u s' hu => ?_) fun _ _ z => z⟩
  obtain ⟨a, oe, vs, sI, H', cls, d, rfl, J, k, ga, ha, hz, hd, h1, na, os, ag, _, A, rfl, q⟩ := hu
  have new : ObjOk X.prog X.w (upd H' a (EXO A a d)) s'.heap a (EXO A a d) := exo_ok ha hz.1 hz.2 hd
  obtain ⟨h2, g2, d2, t2, os2⟩ := s'
  dsimp only at k ha os ag new
  subst os
  exact ⟨.ref a, _, J.call (ch := []) (Un.laidN k ga na) (HOk.laidN J.hok k na new) ag (fun _ z => nomatch z), rfl, q a na⟩
/-- NoNumber(i), as a value -/
def wMkN (we : WE) : WE := fun env st Q Qx => we env st (fun d e s => match d with
  | .int i => (0 ≤ i ∧ i < 10 ^ 9) ∧ Q (.exc "NoNumber" (some i)) e s
  | _ => False) Qx
theorem e_mkN (c : CalleeN X.prog X.w X.K X.mg X.base C.K.Cl k) (hr : Room k' X.A) (hk : k + 1 ≤ k') (hg : Gl X "NoNumber") (he : PE X e (liftE C lk we))
    (hs : starEach [e] X.env = (false, eval e X.env) :: starEach [] X.env := by rfl) (hpl : (backTo p (starEach [] X.env)).any (·.1) = false := by rfl) {p3 : Pos} :
    PE X (.Call (.Name "NoNumber" p3) [e] [] p) (liftE C lk (wMkN we)) := by
  obtain ⟨A, f, fd, ps, hF, hA, hm, T, iC, tI, hb, hpl2⟩ := c.ex
  refine PEi (pe_of_mk (pmk_oex (dvs := []) (ds := []) T iC tI hF (hr.mono hk) hb .nil passes_no hg hm (pa1 he hs) (by decide) hs hpl)) ?_
  rintro σ H Q ⟨G, ι, env, st, P, Px, hR, hw, hQ, hX⟩
  refine ⟨G, ι, env, st, _, Px, hR, hw, fun d e s G' ι' v H' q g r rp => ?_, hX⟩
  cases d with
  | int i =>
    have e1 := (show Bor C.K G' ι' H' v (.int i) from .inl rp).int
    subst e1
    obtain ⟨q1, q2⟩ := q
    refine ⟨by simp, fun a ha => ⟨rfl, a, A, i, rfl, q1, T, hpl2, upd_same, fun dx hdx hne => ⟨rfl, dx, _, upd_same, by rw [upd_ne hne, upd_same], ?_, ?_⟩⟩⟩
    · rw [upd_ne hne] at hdx; exact hdx
    · rw [upd_ne hne] at hdx
      rw [upd_made (o4 := .ins 0 0 []) ha hne]
      refine ⟨A, rfl, fun b hb => ?_⟩
      have r1 := r.newOw (o := .xd [("place", .int i)]) hdx
      obtain ⟨r2, g2⟩ := r1.newSh (p := b) (o := EXO A b (some dx)) hb
      obtain ⟨G3, r3, g3, e3⟩ := r2.frzXd (dx := dx) (fs := [("place", .int i)]) (by rw [upd_ne (ne_of_none upd_same hb), upd_same]) (r.noG hdx).2.1
      exact hQ _ e s _ ι' _ _ q2 (g.trans (g2.trans g3)) r3 (.excp hA (g3.sub _ _ upd_same) e3)
  | _ => exact q.elim
/-! ### a call without arguments -/
theorem pe_callS0 {CX : CXT} {f : Addr} {fd : FuncData} {ps : List Str} {sp : Sp} {E : L2.St → XK} {x : Str} (F : FnOk X.prog X.w X.K X.mg X.base CX k f fd ps sp) (hr : Room k X.A) (hg : Gl X x) (hm : X.mg x = some (.ref f)) (hk : PySem.W.keepIn X.K (.ref f) = true) (hb : Binds X.K fd ps []) (hx : ∀ σ, PassesAt CX X σ (E σ))
    (hdb : (x == ("__debug__" : Str)) = false) : PE X (.Call (.Name x p) [] [] pos) (fun σ H Q => sp [] H Q (E σ)) := by
  refine ⟨fun pins s σ H Q I h => ?_⟩
  refine wpAny_Call_Name_kw (ld_glob I hg hm ?_ hdb)
  exact PySem.W.callWith_K0 I.kIn hk (run_fnS (us := []) (vs := []) F hr hb (hx σ) I .nil h)
theorem e_own0 {x : Str} {Phi : Spec} (c : Callee X.prog X.w X.K X.mg X.base C.K.Cl x k 0 false Phi) (eK : X.K = C.K) (hr : Room k' X.A) (hk : k ≤ k') (hg : Gl X x) (tk : Takes X C.W) (hdb : (x == ("__debug__" : Str)) = false := by decide) :
    PE X (.Call (.Name x p) [] [] pos) (liftE C lk (wCall Phi wNil)) := by
  obtain ⟨f, fd, ps, F, hm, kp, hb⟩ := c.ex
  refine PEi (pe_callS0 F (hr.mono hk) hg hm kp hb (fun σ => passAt tk σ) hdb) fun σ H Q h => ?_
  obtain ⟨G, ι, env, st, P, Px, hR, hw, hQ, hX⟩ := h
  rw [eK]
  exact callLift hR .nil rfl hw hX fun d st' G' ι' v H' p2 g2 R2 q => hQ d env st' G' ι' v H' p2 g2 R2 q
/-! ### find, upper -/
def findS (a : Str) (d : D) (P : D → Prop) : Prop := match d with
  | .str b => P (.int (Txt.find a b))
  | _ => False
theorem ms_find : MS1 C (fun x xs H Q => ∃ a b, x = .str a ∧ xs = [.str b] ∧ Q (.int (Txt.find a b)) H) findS := by
  intro lk G ι env st σ H a y d P Q hR b hf k
  cases d with
  | str z => rw [b.str]; exact ⟨a, z, rfl, rfl, k _ G _ H hf .refl hR .int⟩
  | _ => exact hf.elim
theorem e_find {o : Expr} {wo wa : WE} {apos : Pos} (ho : PE X o (liftE C lk wo)) (he : PE X e (liftE C lk wa)) (hs : starEach [e] X.env = [(false, eval e X.env)] := by rfl) (hbase : attributeBase o "find" X.env (eval o X.env) = eval o X.env := by rfl) (hline : (apos.endLine == pos.line) = true := by rfl) :
    PE X (.Call (.Attribute o "find" apos) [e] [] pos) (liftE C lk (wM1 findS wo wa)) := e_m1 F.slot_str_find F.type_str_find mt_find ms_find ho he hs hbase hline
def upD (d : D) (P : D → Prop) : Prop := match d with
  | .str a => a.length ≤ 1000000 ∧ P (.str (Txt.upper a))
  | _ => False
def wUp (we : WE) : WE := fun env st Q Qx => we env st (fun d e s => upD d fun v => Q v e s) Qx
theorem e_upper {apos : Pos} (ho : PE X e (liftE C lk we)) (hbase : attributeBase e "upper" X.env (eval e X.env) = eval e X.env := by rfl) (hline : (apos.endLine == pos.line) = true := by rfl) :
    PE X (.Call (.Attribute e "upper" apos) [] [] pos) (liftE C lk (wUp we)) := by
  refine PEi (pe_upper ho hbase hline) ?_
  rintro σ H Q ⟨G, ι, env, st, P, Px, hR, hw, hQ, hX⟩
  refine ⟨G, ι, env, st, _, Px, hR, hw, fun d e s G' ι' v H' q g r rp => ?_, hX⟩
  cases d with
  | str i =>
    have e1 := (show Bor C.K G' ι' H' v (.str i) from .inl rp).str
    subst e1
    exact ⟨⟨i, rfl⟩, i, rfl, rfl, Nat.le_trans q.1 (by decide), hQ _ e s G' ι' _ H' q.2 g r .str⟩
  | _ => exact q.elim
/-! ### steps -/
section
variable {env : EnvD} {st : Sto} {Q : KE} {Qx : KX}
def kMT (c : Str) (Q : KE) : KE := fun d e s => match d with
  | .str t => Q (.txe c t) e s
  | _ => False
theorem q_mkT {c : Str} {we : WE} : wMkT c we env st Q Qx = we env st (kMT c Q) Qx := rfl
theorem q_kMT {c t : Str} : kMT c Q (.str t) env st = Q (.txe c t) env st := rfl
def kST (Q : KE) : KE := fun d e s => txD d fun v => Q v e s
theorem q_strT {we : WE} : wStrT we env st Q Qx = we env st (kST Q) Qx := rfl
theorem q_kST {c t : Str} (h : obE c = false) : kST Q (.txe c t) env st = Q (.str t) env st := by
  show (obE c = false ∧ Q (.str t) env st) = _
  simp [h]
def kMN (Q : KE) : KE := fun d e s => match d with
  | .int i => (0 ≤ i ∧ i < 10 ^ 9) ∧ Q (.exc "NoNumber" (some i)) e s
  | _ => False
theorem q_mkN {we : WE} : wMkN we env st Q Qx = we env st (kMN Q) Qx := rfl
def kUp (Q : KE) : KE := fun d e s => upD d fun v => Q v e s
theorem q_up {we : WE} : wUp we env st Q Qx = we env st (kUp Q) Qx := rfl
theorem q_kUp {a : Str} : kUp Q (.str a) env st = (a.length ≤ 1000000 ∧ Q (.str (Txt.upper a)) env st) := rfl
theorem o_find {a b : Str} {P : D → Prop} : findS a (.str b) P = P (.int (Txt.find a b)) := rfl
theorem q_kMN {i : Int} : kMN Q (.int i) env st = ((0 ≤ i ∧ i < 10 ^ 9) ∧ Q (.exc "NoNumber" (some i)) env st) := rfl
end
end
end VL
namespace Lk02
open PySem PySem.Spec PyProof.Rows L2 VL
local macro_rules | `(tactic| walk_at "wp") => `(tactic| simp (config := {maxSteps := 1000000, failIfUnchanged := false, dsimp := false}) only [↓q_mkT, ↓q_kMT, ↓q_strT, q_kST obE_s, q_kST obE_a, ↓q_mkN, ↓q_kMN, ↓q_up, ↓q_kUp, ↓o_find, q_isET1 obE_s, q_isET1 obE_a, q_isVT1 obE_s, q_isVT1 obE_a, q_isEET1 obE_s, q_isEET1 obE_a, ↓o_isN5, ↓q_ixS, ↓q_inS, ↓q_ninS, ↓q_getS, ↓q_forD, ↓q_forD1, ↓o_lstK, ↓wHdI, ↓wHdT, ↓wInS, ↓wNinS, ↓wInL, ↓wNinL, p_inL, q_kHas, ↓o_enumA1, ↓o_enumA2, ↓o_shl, ↓wShl, ↓wMulB, ↓q_dT1, ↓q_fld, ↓q_meth, ↓o_pow3, ↓wPow3, ↓o_spl, ↓p_intT, ↓o_str, ↓q_fmt, ↓o_fmtS, ↓o_fmtI, ↓q_js0, ↓q_js1, ↓q_js2, ↓p_inT, ↓wInT, ↓p_lcS, ↓q_itH, ↓q_make, ↓q_putF, ↓q_forI, ↓q_slcT, ↓o_slcT, ↓q_forI1, ↓q_forI2, ↓q_dI1, ↓q_slg, ↓q_slg1, ↓q_lr1, ↓q_lr11, ↓q_lr2, ↓q_lr21, ↓q_insl, ↓q_insl1, ↓q_ins0, ↓q_idx, ↓q_idx1, ↓q_idx2, obE_s, obE_n, obE_a, ↓q_plc, ↓q_plc1, ↓q_cnt, ↓q_cnt1, ↓q_cnt2, ↓cnt_b3, ↓q_raise, ↓q_raiseN, ↓q_raiseN1, ↓q_try, ↓q_kSu1, ↓q_kSu2, ↓q_kSu3, ↓q_kSu4, ↓q_kTry, ↓q_isE, ↓q_isE1, ↓q_isE2, ↓q_isV, ↓q_isV1, ↓q_isV2, ↓q_isEE, ↓q_isEE1, ↓q_isEE2, subE_S, subE_ss, subE_sn, subE_sa, subE_ns, subE_nn, subE_na, subE_as, subE_an, subE_aa, o_isN4, ↓q_specB, ↓q_specF, ↓p_while, ↓p_for, ↓p_lc, ↓p_call, ↓p_eq, ↓p_ne, ↓p_in, ↓p_nin, ↓p_eqI, ↓p_neB, ↓p_eqB, ↓p_neI, ↓p_ixl, ↓p_ixt, ↓p_ixh0, ↓p_ixhm, ↓p_suml, ↓p_sumt, ↓p_sums, ↓q_seq, ↓q_seq1, ↓q_seq2, ↓q_seq3, ↓q_seq4, ↓q_ret1, ↓q_ret2, ↓q_ret3, ↓q_turn1, ↓q_turn2, ↓q_turn3, ↓q_turn4, ↓q_var, ↓q_get1, ↓q_get2, ↓q_ws, ↓q_move, ↓q_aug, ↓q_retV, ↓q_t, ↓q_t1, ↓q_ch, ↓q_ch1, ↓q_not, ↓q_not1, ↓q_and, ↓q_and1, ↓q_or, ↓q_or1, ↓q_neg, ↓q_neg1, ↓q_some, ↓q_some1, ↓q_rev, ↓q_rev1, ↓q_c2, ↓q_c21, ↓q_app, ↓q_app1, ↓q_lst, ↓q_chg, ↓q_chgh, ↓q_appD, ↓q_setl, ↓q_seti, ↓q_sett, ↓q_dgi, ↓q_dgt, ↓q_ini, ↓r_ini, ↓r_nini, ↓r_int, ↓r_nint, Option.isSome_some, Option.isSome_none, Option.map_some, Option.map_none, Option.getD_some, Option.getD_none, ↓q_nini, ↓q_int, ↓q_nint, ↓q_ins, ↓q_nins, ↓q_ixi, ↓q_ixt, ↓q_isi, ↓q_isi1, ↓q_isi2, ↓q_isi3, ↓q_isi4, ↓q_isi5, ↓q_isi6, ↓q_orL, ↓q_pop, ↓q_par2, ↓q_par21, ↓q_par3, ↓q_par31, ↓q_m1, ↓q_m11, ↓p_join, ↓p_index, ↓o_lstrip, ↓o_slcS, ↓o_muls, ↓o_enumS, ↓p_chr, ↓wSlcS, ↓wMulS, ↓q_gT, ↓q_gL, ↓q_gs, ↓q_gsn, ↓o_addi, ↓o_adds, ↓o_addl, ↓o_addt, ↓o_addI, ↓o_mulI, ↓o_sub, ↓o_mul, ↓o_rep, ↓o_repF, ↓o_repT, ↓o_catF, ↓wRepF, ↓wCatF, ↓q_cur, ↓q_curh, ↓wAugIx, ↓o_div, ↓o_mod, ↓o_pow, ↓o_lt, ↓o_le, ↓o_gt, ↓o_ge, ↓o_is, ↓o_isnt, ↓o_tupl, ↓o_tupt, ↓o_lstl, ↓o_lstt, ↓o_lenl, ↓o_lent, ↓o_lens, ↓o_lenx, ↓o_inti, ↓o_intb, ↓o_abs, ↓o_slcl, ↓o_slcs, ↓o_itl, ↓o_itt, ↓o_its, ↓o_itx, ↓o_rng1, ↓o_rng2, ↓o_rng3, ↓o_enum, ↓o_zipl, ↓o_zipt, ↓o_zipm, ↓o_max, ↓o_min, ↓VL.envOf, ↓wEnd, ↓wSet, ↓wSetF, ↓wLst, ↓wTup, ↓wCons, ↓wNil, ↓wAdd, ↓wSub, ↓wMul, ↓wDiv, ↓wMod, ↓wPow, ↓wLt, ↓wLe, ↓wGt, ↓wGe, ↓wEq, ↓wNe, ↓wIs, ↓wIsnt, ↓wIn, ↓wNin, ↓wBin, ↓wv, ↓wC, ↓VL.wNot, ↓wAnd, ↓wOr, ↓wIf, ↓wIte, ↓wRet, ↓wC1, ↓wDrop, ↓gN, ↓wAsg, ↓wHl, ↓wYes, ↓wNo, ↓wIx, ↓wSlc, ↓wIa, ↓wIt, ↓wRetN, ↓wPut, ↓wipeE, ↓wDI, ↓wDT, ↓wGet1, ↓wGet2, ↓nI,
  p_sumi, p_sumti, p_sumn, p_sumtn, ite_d, ite_nd, q_sl1, q_sl2, q_sh1, q_ow1, q_any1, q_var1, q_var2, q_lst1, q_lst2, q_lst3, q_chgh1, q_set1, q_key1, q_ki0, q_ki1, q_ki2, q_ki3, q_opt1, q_orL1, o_isN0, o_isN1, o_isN2, o_isN3, ixN_50, ixN_51, ixN_52, ixN_53, ixN_54, p_at0, p_at1, p_at2, p_at3, p_at4, p_at5, p_cutL, q_mid, q_midset, ixN_10, ixN_20, ixN_21, ixN_30, ixN_31, ixN_32, ixN_40, ixN_41, ixN_42, ixN_43, ixN_60, ixN_61, ixN_62, ixN_63, ixN_64, ixN_65, ixN_70, ixN_71, ixN_72, ixN_73, ixN_74, ixN_75, ixN_76, isT, String.reduceBEq, Bool.and_true, Bool.and_false, Bool.or_true, Bool.or_false, Bool.true_or, Bool.false_or, Bool.true_and, Bool.false_and, List.length_cons, List.length_nil, List.map_cons, List.map_nil, List.cons_append, List.nil_append, List.append_nil, List.replicate_succ, List.replicate_zero, List.getElem?_cons_zero, List.getElem?_cons_succ, List.set_cons_zero, List.set_cons_succ, List.set_nil, List.getElem?_nil, Nat.reduceAdd, Nat.reduceSub, Nat.reduceLeDiff, Nat.reduceLT, true_and, and_true, Int.reduceLE, Int.reduceEq, Int.reduceLT, Int.reduceToNat, Int.reducePow, Int.reduceAdd, Int.reduceSub, Int.reduceMul, Int.reduceNeg, ↓reduceIte, Bool.false_eq_true, Bool.not_true, Bool.not_false, reduceCtorEq, Nat.zero_le, decide_true, decide_false, List.length_map, List.length_append, List.length_reverse])
local macro_rules | `(tactic| walk_at "wq") => `(tactic| simp (config := {maxSteps := 1000000, failIfUnchanged := false, dsimp := false}) only [↓q_mkT, ↓q_kMT, ↓q_strT, q_kST obE_s, q_kST obE_a, ↓q_mkN, ↓q_kMN, ↓q_up, ↓q_kUp, ↓o_find, q_isET1 obE_s, q_isET1 obE_a, q_isVT1 obE_s, q_isVT1 obE_a, q_isEET1 obE_s, q_isEET1 obE_a, ↓o_isN5, ↓q_ixS, ↓q_inS, ↓q_ninS, ↓q_getS, ↓q_forD, ↓q_forD1, ↓o_lstK, ↓wHdI, ↓wHdT, ↓wInS, ↓wNinS, ↓wInL, ↓wNinL, p_inL, q_kHas, ↓s_forD_, ↓s_forI_, ↓s_putF_, ↓o_enumA1, ↓o_enumA2, ↓o_shl, ↓wShl, ↓wMulB, ↓q_dT1, ↓q_fld, ↓q_meth, ↓o_pow3, ↓wPow3, ↓o_spl, ↓p_intT, ↓o_str, ↓q_fmt, ↓o_fmtS, ↓o_fmtI, ↓q_js0, ↓q_js1, ↓q_js2, ↓p_inT, ↓wInT, ↓p_lcS, ↓q_itH, ↓q_make, ↓q_putF, ↓q_forI, ↓q_slcT, ↓o_slcT, ↓q_forI1, ↓q_forI2, ↓q_dI1, ↓q_slg, ↓q_slg1, ↓q_lr1, ↓q_lr11, ↓q_lr2, ↓q_lr21, ↓q_insl, ↓q_insl1, ↓q_ins0, ↓q_idx, ↓q_idx1, ↓q_idx2, ↓s_ins_, obE_s, obE_n, obE_a, ↓q_plc, ↓q_plc1, ↓q_cnt, ↓q_cnt1, ↓q_cnt2, ↓cnt_b3, ↓q_raise, ↓q_raiseN, ↓q_raiseN1, ↓q_try, ↓q_kSu1, ↓q_kSu2, ↓q_kSu3, ↓q_kSu4, ↓q_kTry, ↓q_isE, ↓q_isE1, ↓q_isE2, ↓q_isV, ↓q_isV1, ↓q_isV2, ↓q_isEE, ↓q_isEE1, ↓q_isEE2, subE_S, subE_ss, subE_sn, subE_sa, subE_ns, subE_nn, subE_na, subE_as, subE_an, subE_aa, o_isN4, ↓s_try_, ↓s_raise_, ↓s_raiseN_, ↓q_specB, ↓q_specF, ↓p_while, ↓p_for, ↓p_lc, ↓p_call, ↓p_eq, ↓p_ne, ↓p_in, ↓p_nin, ↓p_eqI, ↓p_neB, ↓p_eqB, ↓p_neI, ↓p_ixl, ↓p_ixt, ↓p_ixh0, ↓p_ixhm, ↓p_suml, ↓p_sumt, ↓p_sums, ↓s_ite, ↓s_set_, ↓s_setF_, ↓s_mov_, ↓s_aug_, ↓s_app_, ↓s_put_, ↓s_for_, ↓s_while_, ↓s_drop_, ↓s_asg_, ↓s_pop_, ↓s_par2_, ↓s_par3_, ↓s_augix_, ↓q_seq1, ↓q_seq2, ↓q_seq3, ↓q_seq4, ↓q_ret1, ↓q_ret2, ↓q_ret3, ↓q_turn1, ↓q_turn2, ↓q_turn3, ↓q_turn4, ↓q_var, ↓q_get1, ↓q_get2, ↓q_ws, ↓q_move, ↓q_aug, ↓q_retV, ↓q_t, ↓q_t1, ↓q_ch, ↓q_ch1, ↓q_not, ↓q_not1, ↓q_and, ↓q_and1, ↓q_or, ↓q_or1, ↓q_neg, ↓q_neg1, ↓q_some, ↓q_some1, ↓q_rev, ↓q_rev1, ↓q_c2, ↓q_c21, ↓q_app, ↓q_app1, ↓q_lst, ↓q_chg, ↓q_chgh, ↓q_appD, ↓q_setl, ↓q_seti, ↓q_sett, ↓q_dgi, ↓q_dgt, ↓q_ini, ↓r_ini, ↓r_nini, ↓r_int, ↓r_nint, Option.isSome_some, Option.isSome_none, Option.map_some, Option.map_none, Option.getD_some, Option.getD_none, ↓q_nini, ↓q_int, ↓q_nint, ↓q_ins, ↓q_nins, ↓q_ixi, ↓q_ixt, ↓q_isi, ↓q_isi1, ↓q_isi2, ↓q_isi3, ↓q_isi4, ↓q_isi5, ↓q_isi6, ↓q_orL, ↓q_pop, ↓q_par2, ↓q_par21, ↓q_par3, ↓q_par31, ↓q_m1, ↓q_m11, ↓p_join, ↓p_index, ↓o_lstrip, ↓o_slcS, ↓o_muls, ↓o_enumS, ↓p_chr, ↓wSlcS, ↓wMulS, ↓q_gT, ↓q_gL, ↓q_gs, ↓q_gsn, ↓o_addi, ↓o_adds, ↓o_addl, ↓o_addt, ↓o_addI, ↓o_mulI, ↓o_sub, ↓o_mul, ↓o_rep, ↓o_repF, ↓o_repT, ↓o_catF, ↓wRepF, ↓wCatF, ↓q_cur, ↓q_curh, ↓wAugIx, ↓o_div, ↓o_mod, ↓o_pow, ↓o_lt, ↓o_le, ↓o_gt, ↓o_ge, ↓o_is, ↓o_isnt, ↓o_tupl, ↓o_tupt, ↓o_lstl, ↓o_lstt, ↓o_lenl, ↓o_lent, ↓o_lens, ↓o_lenx, ↓o_inti, ↓o_intb, ↓o_abs, ↓o_slcl, ↓o_slcs, ↓o_itl, ↓o_itt, ↓o_its, ↓o_itx, ↓o_rng1, ↓o_rng2, ↓o_rng3, ↓o_enum, ↓o_zipl, ↓o_zipt, ↓o_zipm, ↓o_max, ↓o_min, ↓VL.envOf, ↓wEnd, ↓wSet, ↓wSetF, ↓wLst, ↓wTup, ↓wCons, ↓wNil, ↓wAdd, ↓wSub, ↓wMul, ↓wDiv, ↓wMod, ↓wPow, ↓wLt, ↓wLe, ↓wGt, ↓wGe, ↓wEq, ↓wNe, ↓wIs, ↓wIsnt, ↓wIn, ↓wNin, ↓wBin, ↓wv, ↓wC, ↓VL.wNot, ↓wAnd, ↓wOr, ↓wIf, ↓wIte, ↓wRet, ↓wC1, ↓wDrop, ↓gN, ↓wAsg, ↓wHl, ↓wYes, ↓wNo, ↓wIx, ↓wSlc, ↓wIa, ↓wIt, ↓wRetN, ↓wPut, ↓wipeE, ↓wDI, ↓wDT, ↓wGet1, ↓wGet2, ↓nI,
  p_sumi, p_sumti, p_sumn, p_sumtn, ite_d, ite_nd, q_sl1, q_sl2, q_sh1, q_ow1, q_any1, q_var1, q_var2, q_lst1, q_lst2, q_lst3, q_chgh1, q_set1, q_key1, q_ki0, q_ki1, q_ki2, q_ki3, q_opt1, q_orL1, o_isN0, o_isN1, o_isN2, o_isN3, ixN_50, ixN_51, ixN_52, ixN_53, ixN_54, p_at0, p_at1, p_at2, p_at3, p_at4, p_at5, p_cutL, q_mid, q_midset, ixN_10, ixN_20, ixN_21, ixN_30, ixN_31, ixN_32, ixN_40, ixN_41, ixN_42, ixN_43, ixN_60, ixN_61, ixN_62, ixN_63, ixN_64, ixN_65, ixN_70, ixN_71, ixN_72, ixN_73, ixN_74, ixN_75, ixN_76, isT, String.reduceBEq, Bool.and_true, Bool.and_false, Bool.or_true, Bool.or_false, Bool.true_or, Bool.false_or, Bool.true_and, Bool.false_and, List.length_cons, List.length_nil, List.map_cons, List.map_nil, List.cons_append, List.nil_append, List.append_nil, List.replicate_succ, List.replicate_zero, List.getElem?_cons_zero, List.getElem?_cons_succ, List.set_cons_zero, List.set_cons_succ, List.set_nil, List.getElem?_nil, Nat.reduceAdd, Nat.reduceSub, Nat.reduceLeDiff, Nat.reduceLT, true_and, and_true, Int.reduceLE, Int.reduceEq, Int.reduceLT, Int.reduceToNat, Int.reducePow, Int.reduceAdd, Int.reduceSub, Int.reduceMul, Int.reduceNeg, ↓reduceIte, Bool.false_eq_true, Bool.not_true, Bool.not_false, reduceCtorEq, Nat.zero_le, decide_true, decide_false, List.length_map, List.length_append, List.length_reverse])
/-! texts of codes -/
theorem strOk_S {l : List Nat} (h : ∀ c ∈ l, c < 1114112) : PyData.strOk (SX.S l) = true := by
  unfold PyData.strOk
  rw [Array.all_eq_true']
  intro c hc
  exact decide_eq_true (h c (by simpa [SX.S] using hc))
theorem eqS_t {a c : Str} {P : D → Prop} {p} (e : a = c) (h : PyData.strOk a = true) (hp : P (.bl true)) : pBin eqD (.str a) (.str c) P p := by subst e; exact eqD_same (d := .str a) h hp
theorem eqS_f {a c : Str} {P : D → Prop} {p} (e : a ≠ c) (h : PyData.strOk a = true) (g : PyData.strOk c = true) (hp : P (.bl false)) : pBin eqD (.str a) (.str c) P p :=
  eqD_nd (d := .str a) (e := .str c) h g (fun z => absurd (D.str.inj z) e) (fun _ => hp)
theorem neS_t {a c : Str} {P : D → Prop} {p} (e : a = c) (h : PyData.strOk a = true) (hp : P (.bl false)) : pBin neD (.str a) (.str c) P p := by subst e; exact neD_same (d := .str a) h hp
theorem neS_f {a c : Str} {P : D → Prop} {p} (e : a ≠ c) (h : PyData.strOk a = true) (g : PyData.strOk c = true) (hp : P (.bl true)) : pBin neD (.str a) (.str c) P p :=
  neD_nd (d := .str a) (e := .str c) h g (fun z => absurd (D.str.inj z) e) (fun _ => hp)
theorem split_S {parts : List (List Nat)} (hne : parts ≠ []) (h : ∀ p ∈ parts, 32 ∉ p) : Txt.split (SX.S (TL.joinL [32] parts)) (Str.ofString " ") = parts.map SX.S := by
  rw [show Str.ofString " " = SX.S [32] from by decide +kernel, SX.split_S (by simp) (by decide), SX.spl_join hne h]
theorem inT_t {c : Str} {l : List Str} {P : D → Prop} {p} (h : c ∈ l) (hp : P (.bl true)) : pInT c (l.map .str) P p := by rw [p_inT_at, decide_eq_true h]; exact hp
theorem inT_f {c : Str} {l : List Str} {P : D → Prop} {p} (h : c ∉ l) (hp : P (.bl false)) : pInT c (l.map .str) P p := by rw [p_inT_at, decide_eq_false h]; exact hp
/-- the text of a number in figures of ten -/
def nm (n : Nat) : Str := Str.ofString (toString ((n : Nat) : Int))
theorem nm_S (n : Nat) : nm n = SX.S (TL.numL n) := SX.num_S n
theorem numL_lt256 (n : Nat) : ∀ c ∈ TL.numL n, c < 1114112 := fun c hc => by have := TL.numL_digits n c hc; omega
theorem numL_no32 (n : Nat) : 32 ∉ TL.numL n := TL.numL_free (.inl (by decide))
theorem hexc_no32 (xs : List Nat) : 32 ∉ xs.map hexc := by
  intro h
  obtain ⟨d, _, e⟩ := List.mem_map.mp h
  unfold hexc at e
  split at e <;> omega
theorem txt_S (xs : List Nat) : txt xs = SX.S (xs.map hexc) := rfl
theorem log_small {i : Int} (h0 : -(10 ^ 100) ≤ i) (h1 : i ≤ 10 ^ 100) : i.natAbs.log2 < 1920 := by
  have h : i.natAbs < 2 ^ 400 := Nat.lt_of_le_of_lt (show i.natAbs ≤ 10 ^ 100 by omega) (by decide +kernel)
  by_cases z : i.natAbs = 0
  · rw [z]; decide
  · exact Nat.lt_trans ((Nat.log2_lt z).mpr h) (by decide)
/-! changes at one place of the store -/
def Only (p : Nat) (st st' : Sto) : Prop := st'.length = st.length ∧ ∀ i, i ≠ p → st'[i]? = st[i]?
theorem Only.refl (p : Nat) (st : Sto) : Only p st st := ⟨rfl, fun _ _ => rfl⟩
theorem Only.trans {p : Nat} {a b c : Sto} (h : Only p a b) (g : Only p b c) : Only p a c := ⟨g.1.trans h.1, fun i hi => (g.2 i hi).trans (h.2 i hi)⟩
theorem Only.mid (pre post : Sto) (x y : SO) : Only pre.length (pre ++ x :: post) (pre ++ y :: post) := by
  refine ⟨by simp, fun i hi => ?_⟩
  by_cases h : i < pre.length
  · rw [List.getElem?_append_left h, List.getElem?_append_left h]
  · rw [List.getElem?_append_right (by omega), List.getElem?_append_right (by omega)]
    obtain ⟨k, hk⟩ : ∃ k, i - pre.length = k + 1 := ⟨i - pre.length - 1, by omega⟩
    rw [hk]; rfl
/-- a seed at p -/
def SX1 (T : Int) (p : Nat) (st : Sto) : Prop := ∃ n f t c, st[p]? = some (.dat (seedD n f t c)) ∧ 0 ≤ t ∧ t ≤ T ∧ 0 ≤ c ∧ c ≤ 2 * 10 ^ 9
theorem SX1.le {T T' : Int} {p : Nat} {st : Sto} (h : SX1 T p st) (hT : T ≤ T') : SX1 T' p st := by
  obtain ⟨n, f, t, c, e, h1, h2, h3, h4⟩ := h
  exact ⟨n, f, t, c, e, h1, by omega, h3, h4⟩
theorem SX1.split {T : Int} {p : Nat} {st : Sto} (h : SX1 T p st) : ∃ pre post n f t c, p = pre.length ∧ st = pre ++ .dat (seedD n f t c) :: post ∧ 0 ≤ t ∧ t ≤ T ∧ 0 ≤ c ∧ c ≤ 2 * 10 ^ 9 := by
  obtain ⟨n, f, t, c, e, h1, h2, h3, h4⟩ := h
  obtain ⟨hl, e2⟩ := List.getElem?_eq_some_iff.mp e
  refine ⟨st.take p, st.drop (p + 1), n, f, t, c, by rw [List.length_take]; omega, ?_, h1, h2, h3, h4⟩
  rw [← e2, ← List.drop_eq_getElem_cons hl, List.take_append_drop]
theorem SX1.keep {T : Int} {p q : Nat} {st st' : Sto} (h : SX1 T p st) (o : Only q st st') (hpq : p ≠ q) : SX1 T p st' := by
  obtain ⟨n, f, t, c, e, r⟩ := h
  exact ⟨n, f, t, c, (o.2 p hpq).trans e, r⟩
/-- the desk's own object -/
def dO (b k : Nat) : SO := .ins "Desk" [("base", nI b), ("kept", .hnd k)]
def cs (x : String) : List Nat := (Str.ofString x).cps.toList
theorem S_cs (x : String) : SX.S (cs x) = Str.ofString x := SX.S_tl _
/-- a line of words -/
def Ln (ps : List (List Nat)) : Str := SX.S (TL.joinL [32] ps)
theorem Ln_split {ps : List (List Nat)} (hne : ps ≠ []) (h : ∀ p ∈ ps, 32 ∉ p) : Txt.split (Ln ps) (Str.ofString " ") = ps.map SX.S := split_S hne h
theorem joinL_len : ∀ ps : List (List Nat), (TL.joinL [32] ps).length ≤ (ps.map List.length).sum + ps.length
  | [] => Nat.le_refl _
  | [x] => by show x.length ≤ x.length + 0 + 1; omega
  | x :: y :: r => by
    have ih := joinL_len (y :: r)
    have e : TL.joinL [32] (x :: y :: r) = x ++ ([32] ++ TL.joinL [32] (y :: r)) := rfl
    rw [e, List.length_append, List.length_append]
    simp only [List.map_cons, List.sum_cons, List.length_cons, List.length_nil] at ih ⊢
    omega
theorem Ln_len (ps : List (List Nat)) : (Ln ps).length ≤ (ps.map List.length).sum + ps.length := by unfold Ln; rw [SX.S_len]; exact joinL_len ps
theorem hexfig_len {b : Nat} (hb : 1 < b) {x : Nat} (hx : x ≤ 10 ^ 30) : ((figs b x).reverse.map hexc).length ≤ 101 := by
  rw [List.length_map, List.length_reverse]
  exact figs_len hb 100 x (Nat.lt_of_le_of_lt hx (by decide +kernel))
theorem ok_txt {xs : List Nat} (h : ∀ x ∈ xs, x < 16) : PyData.strOk (txt xs) = true := nd_txt (b := false) (n := 0) h
theorem ok_nm (n : Nat) : PyData.strOk (nm n) = true := by rw [nm_S]; exact strOk_S (numL_lt256 n)
theorem big_1000 {n : Nat} (h : n ≤ 10 ^ 30) : n < 2 ^ 1000 := Nat.lt_of_le_of_lt h (by decide +kernel)
/- read_number
 -/
def w_read_number : WS :=
  (wSeq (wIte (wOr (wT (wEq (wv (wVar 0)) (wv (wC (.str ""))))) (wAnd (wT (wEq (wv (wIx (wv (wVar 0)) (wv (wC (.int 0))))) (wv (wC (.str "0"))))) (wT (wNe (wv (wVar 0)) (wv (wC (.str "0"))))))) (wRaiseN (wC (.int 0))) wEnd)
  (wSeq (wSet 2 (wC (.int 0)))
  (wSeq (wFor (wIa enumS (wCons (wVar 0) wNil)) (gT 2 (gsCons (gN 3) (gsCons (gN 4) gsNil))) (wSeq (wIte (wT (wNin (wv (wVar 4)) (wv (wSlcS (wv (wC (.str "0123456789abcdef"))) wNo (wSome (wVar 1)))))) (wRaiseN (wVar 3)) wEnd)
  (wSet 2 (wAdd (wv (wMul (wv (wVar 2)) (wv (wVar 1)))) (wv (wM1 indexS (wC (.str "0123456789abcdef")) (wVar 4)))))))
  (wRet (wVar 2)))))
/-- the figure of a sign in base b -/
def fig? (b c : Nat) : Option Nat := if 48 ≤ c ∧ c ≤ 57 ∧ c - 48 < b then some (c - 48) else if 97 ≤ c ∧ c ≤ 102 ∧ c - 87 < b then some (c - 87) else none
def rdL (b : Nat) : Nat → Nat → List Nat → Except Nat Nat
  | v, _, [] => .ok v
  | v, p, c :: r => match fig? b c with
    | some f => rdL b (v * b + f) (p + 1) r
    | none => .error p
/-- what a text reads as: a number, or the first wrong place -/
def rd (b : Nat) (l : List Nat) : Except Nat Nat := if l = [] then .error 0 else if l.head? = some 48 ∧ l ≠ [48] then .error 0 else rdL b 0 0 l
theorem fig_some {b c f : Nat} (h : fig? b c = some f) : f < b ∧ f < 16 ∧ c = hexc f := by
  unfold fig? at h
  split at h
  · cases h; unfold hexc; rw [if_pos (by omega)]; omega
  · split at h
    · cases h; unfold hexc; rw [if_neg (by omega)]; omega
    · cases h
theorem fig_hex {b d : Nat} (h : d < b) (h2 : d < 16) : fig? b (hexc d) = some d := by
  unfold fig? hexc
  split
  · rw [if_pos (by omega)]; congr 1; omega
  · rw [if_neg (by omega), if_pos (by omega)]; congr 1; omega
theorem slice_hex {b : Nat} (hb : b ≤ 16) : (Txt.slice (Str.ofString "0123456789abcdef") none (some (b : Int))).cps.toList = (List.range b).map hexc := by
  have e : Str.ofString "0123456789abcdef" = SX.S ((List.range 16).map hexc) := by decide +kernel
  rw [e, SX.slice_to (by omega), Int.toNat_natCast]
  show (((List.range 16).map hexc).take b) = _
  rw [← List.map_take, List.take_range, Nat.min_eq_left hb]
theorem fig_none {b c : Nat} (hb : b ≤ 16) (h : fig? b c = none) : c ∉ (List.range b).map hexc := by
  intro hm
  obtain ⟨d, hd, rfl⟩ := List.mem_map.mp hm
  rw [List.mem_range] at hd
  rw [fig_hex hd (by omega)] at h
  cases h
abbrev Phi_read_number : VL.Spec := fun ds st Q Qx => ∃ (l : List Nat) (b : Nat), ds = [.str (SX.S l), nI b] ∧ 1 < b ∧ b ≤ 16 ∧ l.length ≤ 1000 ∧ (∀ c ∈ l, c < 1114112) ∧
  (∀ n, rd b l = .ok n → Q (nI n) st) ∧ (∀ p : Nat, rd b l = .error p → Qx ("NoNumber", some (p : Int)) st)
theorem rdL_err {b : Nat} : ∀ {l : List Nat} {v p q : Nat}, rdL b v p l = .error q → q < p + l.length
  | [], _, _, _, h => by cases h
  | c :: r, v, p, q, h => by
    unfold rdL at h
    split at h
    · have := rdL_err h
      rw [List.length_cons]; omega
    · cases h; rw [List.length_cons]; omega
def rn1 : WS := (wIte (wOr (wT (wEq (wv (wVar 0)) (wv (wC (.str ""))))) (wAnd (wT (wEq (wv (wIx (wv (wVar 0)) (wv (wC (.int 0))))) (wv (wC (.str "0"))))) (wT (wNe (wv (wVar 0)) (wv (wC (.str "0"))))))) (wRaiseN (wC (.int 0))) wEnd)
def rn2 : WS := (wSet 2 (wC (.int 0)))
def rn3b : WS := (wSeq (wIte (wT (wNin (wv (wVar 4)) (wv (wSlcS (wv (wC (.str "0123456789abcdef"))) wNo (wSome (wVar 1)))))) (wRaiseN (wVar 3)) wEnd)
  (wSet 2 (wAdd (wv (wMul (wv (wVar 2)) (wv (wVar 1)))) (wv (wM1 indexS (wC (.str "0123456789abcdef")) (wVar 4))))))
def rn3 : WS := (wFor (wIa enumS (wCons (wVar 0) wNil)) (gT 2 (gsCons (gN 3) (gsCons (gN 4) gsNil))) rn3b)
def rn4 : WS := (wRet (wVar 2))
theorem w_eq_read_number : w_read_number = wSeq rn1 (wSeq rn2 (wSeq rn3 rn4)) := by
  unfold w_read_number rn4 rn3 rn3b rn2 rn1; with_reducible rfl
section
variable {l : List Nat} {b : Nat} {x2 x3 x4 : Option Slot} {st : Sto} {Q : KS} {Qx : KX}
theorem signs_S' (l : List Nat) : VL.signs (SX.S l) = l.map fun c => D.str ⟨#[c]⟩ := by unfold VL.signs; simp [SX.S]
theorem rn1_ok (hl : l.length ≤ 1000) (ho : ∀ c ∈ l, c < 1114112) (h0 : l = [] → Qx ("NoNumber", some 0) [some (.sh (.str (SX.S l))), some (.sh (nI b)), x2, x3, x4] st) (h1 : l ≠ [] → l.head? = some 48 → l ≠ [48] → Qx ("NoNumber", some 0) [some (.sh (.str (SX.S l))), some (.sh (nI b)), x2, x3, x4] st)
    (hQ : l ≠ [] → ¬ (l.head? = some 48 ∧ l ≠ [48]) → Q .nx [some (.sh (.str (SX.S l))), some (.sh (nI b)), x2, x3, x4] st) : rn1 [some (.sh (.str (SX.S l))), some (.sh (nI b)), x2, x3, x4] st Q Qx := by
  have e0 : Str.ofString "0" = SX.S [48] := by decide +kernel
  have ee : Str.ofString "" = SX.S [] := by decide +kernel
  have ok := strOk_S ho
  unfold rn1
  walk_at "wp"
  rw [ee]
  refine eqD_nd (d := .str (SX.S l)) (e := .str (SX.S [])) ok (strOk_S (by simp)) (fun e => ?_) (fun e => ?_)
  · have e := SX.S_inj (D.str.inj e)
    walk_at "wp"
    exact h0 e
  · have hne : l ≠ [] := fun z => e (by rw [z])
    walk_at "wp"
    obtain ⟨c, r, rfl⟩ := List.exists_cons_of_ne_nil hne
    refine ⟨by rw [SX.S_len]; omega, ?_⟩
    refine p_chr_at (c := c) (by rw [show (SX.S (c :: r)).cps.toList = c :: r by simp [SX.S]]; exact atI_0) ?_
    walk_at "wp"
    rw [e0]
    refine eqD_nd (d := .str (SX.S [c])) (e := .str (SX.S [48])) (strOk_S (by simpa using ho c (by simp))) (strOk_S (by simp)) (fun z => ?_) (fun z => ?_)
    · have hc : c = 48 := by have := SX.S_inj (D.str.inj z); simpa using this
      walk_at "wp"
      refine neD_nd (d := .str (SX.S (c :: r))) (e := .str (SX.S [48])) ok (strOk_S (by simp)) (fun y => ?_) (fun y => ?_)
      · have y := SX.S_inj (D.str.inj y)
        walk_at "wp"
        exact hQ hne fun g => g.2 y
      · walk_at "wp"
        exact h1 hne (by rw [hc]; rfl) fun g => y (by rw [g])
    · walk_at "wp"
      exact hQ hne fun g => z (by have := g.1; simp only [List.head?_cons, Option.some.injEq] at this; rw [this])
theorem rn3b_ok {N : EnvD → Sto → Prop} {c v i : Nat} (h1 : 1 < b) (h2 : b ≤ 16) (hi : i ≤ 1000) (hv : v < b ^ i) (hx : fig? b c = none → ∀ e, Qx ("NoNumber", some (i : Int)) e st)
    (hN : ∀ f, fig? b c = some f → N [some (.sh (.str (SX.S l))), some (.sh (nI b)), some (.sh (nI (v * b + f))), some (.sh (.int i)), some (.sh (.str ⟨#[c]⟩))] st) :
    rn3b [some (.sh (.str (SX.S l))), some (.sh (nI b)), some (.sh (nI v)), some (.sh (.int i)), some (.sh (.str ⟨#[c]⟩))] st (Turn1 N Q) Qx := by
  unfold rn3b
  walk_at "wp"
  refine ⟨by decide +kernel, ?_⟩
  refine ⟨rfl, ?_⟩
  rw [slice_hex h2]
  cases hf : fig? b c with
  | none =>
    have hd : decide (((⟨#[c]⟩ : Str).cps.getD 0 0) ∈ (List.range b).map hexc) = false := decide_eq_false (fig_none h2 hf)
    rw [hd]
    walk_at "wp"
    exact ⟨⟨by omega, by omega⟩, hx hf _⟩
  | some f =>
    obtain ⟨f1, f2, rfl⟩ := fig_some hf
    have hd : decide (((⟨#[hexc f]⟩ : Str).cps.getD 0 0) ∈ (List.range b).map hexc) = true := decide_eq_true (List.mem_map.mpr ⟨f, by rw [List.mem_range]; exact f1, rfl⟩)
    rw [hd]
    walk_at "wp"
    refine ⟨⟨Sm.pw hv h2 hi, Sm.nn (by omega) (by omega)⟩, ?_⟩
    unfold pMS indexS
    dsimp only
    rw [show Builtin.Str.occurrences (Str.ofString "0123456789abcdef") ⟨#[hexc f]⟩ 0 (Str.ofString "0123456789abcdef").length 1 = [f] from hex_idx f2]
    walk_at "wp"
    have := hN f hf
    simp only [nI, Int.natCast_add, Int.natCast_mul] at this
    exact this
end
theorem m_read_number : ∀ ds st Q Qx, Phi_read_number ds st Q Qx → specW false 5 w_read_number ds st Q Qx := by
  rintro _ st Q Qx ⟨l, b, rfl, h1, h2, hl, ho, hok, herr⟩
  rw [w_eq_read_number, q_specB, q_seq]
  refine rn1_ok (x2 := none) (x3 := none) (x4 := none) hl ho (fun e => ?_) (fun e1 e2 e3 => ?_) (fun e1 e2 => ?_)
  · exact herr 0 (by unfold rd; rw [if_pos e])
  · exact herr 0 (by unfold rd; rw [if_neg e1, if_pos ⟨e2, e3⟩])
  have hrd : rd b l = rdL b 0 0 l := by unfold rd; rw [if_neg e1, if_neg e2]
  rw [q_seq1, q_seq]
  unfold rn2
  walk_at "wp"
  unfold rn3
  rw [p_for]
  walk_at "wp"
  rw [signs_S']
  refine w_enum (fun c => D.str ⟨#[c]⟩) (α := Nat × Option Slot × Option Slot) (fun done a => a.1 < b ^ done.length ∧ ∃ rest, l = done ++ rest ∧ rd b l = rdL b a.1 done.length rest) (fun a => [some (.sh (.str (SX.S l))), some (.sh (nI b)), some (.sh (nI a.1)), a.2.1, a.2.2]) (fun _ => st) l (0, none, none) rfl rfl ⟨by simp, l, rfl, hrd⟩ ?_ ?_
  · rintro done c rest ⟨v, x, y⟩ N hd ⟨hv, rest2, e3, e4⟩ hN
    dsimp only at hv e4
    obtain rfl : rest2 = c :: rest := by rw [hd] at e3; exact (List.append_cancel_left e3).symm
    have hdl : done.length ≤ 1000 := by have := congrArg List.length hd; rw [List.length_append] at this; omega
    walk_at "wp"
    refine rn3b_ok h1 h2 hdl hv (fun hf e => ?_) (fun f hf => ?_)
    · refine herr done.length ?_
      rw [e4]; unfold rdL; rw [hf]
    · obtain ⟨f1, _, _⟩ := fig_some hf
      refine hN (v * b + f, some (.sh (.int done.length)), some (.sh (.str ⟨#[c]⟩))) ⟨?_, rest, by rw [hd, List.append_assoc]; rfl, ?_⟩
      · dsimp only
        rw [List.length_append, List.length_singleton, Nat.pow_succ]
        have : (v + 1) * b ≤ b ^ done.length * b := Nat.mul_le_mul_right _ hv
        rw [Nat.add_mul] at this
        omega
      · rw [e4]; conv => lhs; unfold rdL
        rw [hf]
        rw [List.length_append, List.length_singleton]
  · rintro ⟨v, x, y⟩ ⟨hv, rest2, e3, e4⟩
    dsimp only at e4
    obtain rfl : rest2 = [] := by
      have := congrArg List.length e3
      rw [List.length_append] at this
      exact List.eq_nil_of_length_eq_zero (by omega)
    unfold rn4
    walk_at "wp"
    exact hok v (by rw [e4]; rfl)

/- _law_mix
 -/
def w__law_mix : WS :=
  (wSeq (wSet 2 (wAdd (wv (wMod (wv (wVar 0)) (wv (wC (.int 2147483629))))) (wv (wMul (wv (wMul (wv (wC (.int 1000003))) (wv (wVar 1)))) (wv (wVar 1))))))
  (wSeq (wSet 2 (wMod (wv (wAdd (wv (wVar 2)) (wv (wMul (wv (wC (.int 7919))) (wv (wVar 1)))))) (wv (wC (.int 2147483629)))))
  (wSeq (wSet 2 (wMod (wv (wMul (wv (wVar 2)) (wv (wVar 2)))) (wv (wC (.int 2147483587)))))
  (wRet (wDiv (wv (wMod (wv (wMul (wv (wVar 2)) (wv (wAdd (wv (wVar 2)) (wv (wC (.int 40961))))))) (wv (wC (.int 2147483563))))) (wv (wC (.int 4))))))))
abbrev Phi__law_mix : VL.Spec := PhiMix
theorem m__law_mix : ∀ ds st Q Qx, Phi__law_mix ds st Q Qx → specW false 3 w__law_mix ds st Q Qx := by
  rintro _ st Q Qx ⟨cell, k, rfl, h1, h2, hQ⟩
  unfold w__law_mix
  walk_at "wp"
  have sk : Sm k := Sm.nn h1 (by omega)
  have m1 : 0 ≤ (cell % 2147483629 + 1000003 * k * k + 7919 * k) % 2147483629 := Int.emod_nonneg _ (by decide)
  have m2 : (cell % 2147483629 + 1000003 * k * k + 7919 * k) % 2147483629 < 2147483629 := Int.emod_lt_of_pos _ (by decide)
  generalize (cell % 2147483629 + 1000003 * k * k + 7919 * k) % 2147483629 = z at *
  have n1 : 0 ≤ z * z % 2147483587 := Int.emod_nonneg _ (by decide)
  have n2 : z * z % 2147483587 < 2147483587 := Int.emod_lt_of_pos _ (by decide)
  generalize z * z % 2147483587 = y at *
  have y1 : 0 ≤ y * (y + 40961) % 2147483563 := Int.emod_nonneg _ (by decide)
  refine ⟨⟨Sm.nn (by decide) (by decide), sk⟩, ⟨Sm.nn (by omega) (by omega), sk⟩, ⟨Sm.nn (by decide) (by decide), sk⟩, ⟨Sm.nn m1 (by omega), Sm.nn m1 (by omega)⟩, ⟨Sm.nn n1 (by omega), Sm.nn (by omega) (by omega)⟩, Sm.nn (by decide) (by decide), hQ _ (by omega)⟩

/- _law_deck
 -/
def w__law_deck : WS :=
  (wRet (wHl (wCons (wSlc (wv (wVar 0)) wNo (wSome (wC (.int 63)))) (wCons (wC (.int 0)) (wCons (wC (.int 0)) (wCons (wC (.int 0)) (wCons (wC1 sumD (wv (wSlc (wv (wVar 0)) wNo (wSome (wC (.int 63)))))) wNil)))))))
abbrev Phi__law_deck : VL.Spec := PhiDeck
theorem m__law_deck : ∀ ds st Q Qx, Phi__law_deck ds st Q Qx → specW false 1 w__law_deck ds st Q Qx := by
  rintro _ st Q Qx ⟨ns, rfl, h1, hst, hQ⟩
  subst hst
  unfold w__law_deck
  walk_at "wp"
  rw [List.take_of_length_le (by rw [List.length_map]; exact h1)]
  walk_at "wp"
  rw [List.take_of_length_le (by rw [List.length_map]; exact h1)]
  exact hQ _ ⟨ns, 0, 0, 0, ns.sum, rfl, by omega, by omega, h1, by omega, by omega, by omega⟩

/- _law_next
 -/
def w__law_next : WS :=
  (wSeq (wIte (wAnd (wT (wEq (wv (wIx (wv (wVar 0)) (wv (wC (.int 2))))) (wv (wC (.int 0))))) (wT (wLt (wv (wIx (wv (wVar 0)) (wv (wC (.int 1))))) (wv (wC1 lenD (wv (wIx (wv (wVar 0)) (wv (wC (.int 0)))))))))) (wSeq (wSet 2 (wIx (wv (wIx (wv (wVar 0)) (wv (wC (.int 0))))) (wv (wIx (wv (wVar 0)) (wv (wC (.int 1)))))))
  (wSeq (wPut (wv (wVar 0)) (wC (.int 1)) (wAdd (wv (wIx (wv (wVar 0)) (wv (wC (.int 1))))) (wv (wC (.int 1)))))
  (wSeq (wIte (wT (wLt (wv (wVar 2)) (wv (wPow (wv (wC (.int 10))) (wv (wC (.int 18))))))) (wRet (wMod (wv (wCall Phi__law_mix (wCons (wVar 2) (wCons (wIx (wv (wVar 0)) (wv (wC (.int 1)))) wNil)))) (wv (wVar 1)))) wEnd)
  (wPut (wv (wVar 0)) (wC (.int 2)) (wVar 2))))) wEnd)
  (wSeq (wIte (wT (wGt (wv (wIx (wv (wVar 0)) (wv (wC (.int 2))))) (wv (wC (.int 0))))) (wSeq (wSet 3 (wMod (wv (wIx (wv (wVar 0)) (wv (wC (.int 2))))) (wv (wVar 1))))
  (wSeq (wPut (wv (wVar 0)) (wC (.int 2)) (wDiv (wv (wIx (wv (wVar 0)) (wv (wC (.int 2))))) (wv (wVar 1))))
  (wRet (wVar 3)))) wEnd)
  (wSeq (wPut (wv (wVar 0)) (wC (.int 3)) (wAdd (wv (wIx (wv (wVar 0)) (wv (wC (.int 3))))) (wv (wC (.int 1)))))
  (wRet (wMod (wv (wCall Phi__law_mix (wCons (wIx (wv (wVar 0)) (wv (wC (.int 4)))) (wCons (wAdd (wv (wIx (wv (wVar 0)) (wv (wC (.int 3))))) (wv (wC (.int 1109)))) wNil)))) (wv (wVar 1)))))))
abbrev Phi__law_next : VL.Spec := PhiNext
theorem m__law_next : ∀ ds st Q Qx, Phi__law_next ds st Q Qx → specW false 4 w__law_next ds st Q Qx := by
  rintro _ st Q Qx ⟨many, T, rest, rfl, h1, h2, hT, ⟨cells, i, c, t, s, rfl, hi0, hi1, hl, hc, ht0, ht1⟩, hQ⟩
  have sm : Sm many := Sm.nn (by omega) h2
  have fin : ∀ (v : Int) (st' : Sto), Dk (T + 1) rest st' → Q (.int (v % many)) st' := fun v st' h => hQ _ _ (Int.emod_nonneg _ (by omega)) (Int.emod_lt_of_pos _ h1) h
  have dk : ∀ i' c' t' : Int, 0 ≤ i' → i' ≤ cells.length → 0 ≤ c' → 0 ≤ t' → t' ≤ T + 1 → Dk (T + 1) rest (SO.dat (D.lst [D.lst (List.map D.int cells), D.int i', D.int c', D.int t', D.int s]) :: rest) := fun i' c' t' a1 a2 a3 a4 a5 => ⟨cells, i', c', t', s, rfl, a1, a2, hl, a3, a4, a5⟩
  have dv : ∀ c', 0 ≤ c' → 0 ≤ c' / many := fun c' h => Int.ediv_nonneg h (by omega)
  unfold w__law_next deckD
  walk_at "wp"
  have last : ∀ (K : Int), 0 ≤ K → K ≤ 10 ^ 6 → ∀ Qx' p1 p2, pCall Phi__law_mix [D.int s, D.int (t + 1 + K)]
      (SO.dat (D.lst [D.lst (List.map D.int cells), D.int i, D.int c, D.int (t + 1), D.int s]) :: rest)
      (fun d s' =>
        (fun r1 e1 s1 =>
            wv (wVar 1) e1 s1 (fun r2 e2 s2 => r1.get e2 fun d1 => r2.get e2 fun d2 => modD d1 d2 fun d => Q d s2)
              fun x x_1 s => Qx x s)
          (DR.val d) [some (Slot.sh (D.hnd 0)), some (Slot.sh (D.int many)), none, none] s')
      Qx' p1 p2 := fun K hk0 hk1 Qx' p1 p2 => by
    refine ⟨_, _, rfl, by omega, by omega, fun r hr => ?_⟩
    walk_at "wp"
    exact ⟨h1, fin _ _ (dk _ _ _ hi0 hi1 hc (by omega) (by omega))⟩
  refine if_intro (fun g1 => if_intro (fun g2 => ?_) (fun g2 => ?_)) (fun g1 => if_intro (fun g3 => ?_) (fun g3 => last _ (by decide) (by decide) _ _ _))
  · obtain ⟨x, e, hx⟩ := atI_mem (xs := cells) hi0 g2
    refine p_at (d := .int x) (by rw [atI_map, e]; rfl) ?_
    walk_at "wp"
    refine ⟨by decide, if_intro (fun g3 => ?_) (fun g3 => ?_)⟩
    · refine ⟨_, _, rfl, by omega, by omega, fun r hr => ?_⟩
      walk_at "wp"
      exact ⟨h1, fin _ _ (dk _ _ _ (by omega) (by omega) hc ht0 (by omega))⟩
    · refine if_intro (fun g4 => ?_) (fun g4 => absurd g4 (by omega))
      exact ⟨h1, ⟨h1, sm⟩, fin _ _ (dk _ _ _ (by omega) (by omega) (dv _ (by omega)) ht0 (by omega))⟩
  · exact if_intro (fun g3 => absurd g3 (by omega)) (fun g3 => last _ (by decide) (by decide) _ _ _)
  · exact ⟨h1, ⟨h1, sm⟩, fin _ _ (dk _ _ _ hi0 hi1 (dv _ hc) ht0 (by omega))⟩

/- _law_great
 -/
def w__law_great : WS :=
  (wSeq (wSet 2 (wC (.int 0)))
  (wSeq (wFor (wIa rng1 (wCons (wC (.int 6)) wNil)) (gN 3) (wSet 2 (wAdd (wv (wMul (wv (wVar 2)) (wv (wPow (wv (wC (.int 10))) (wv (wC (.int 6))))))) (wv (wCall Phi__law_next (wCons (wVar 0) (wCons (wPow (wv (wC (.int 10))) (wv (wC (.int 6)))) wNil)))))))
  (wRet (wMod (wv (wVar 2)) (wv (wVar 1))))))
abbrev Phi__law_great : VL.Spec := PhiNext6
theorem m__law_great : ∀ ds st Q Qx, Phi__law_great ds st Q Qx → specW false 4 w__law_great ds st Q Qx := by
  rintro _ st Q Qx ⟨most, T, rest, rfl, h1, h2, hT, hD, hQ⟩
  unfold w__law_great
  walk_at "wp"
  refine w_range (α := Int × Option Slot × Sto) (fun k a => 0 ≤ a.1 ∧ a.1 < ((10 ^ (6 * k) : Nat) : Int) ∧ Dk (T + k) rest a.2.2) (fun a => [some (.sh (.hnd 0)), some (.sh (.int most)), some (.sh (.int a.1)), a.2.1]) (fun a => a.2.2) (0, none, st) rfl rfl ⟨by simp, by simp, by simpa using hD⟩ ?_ ?_
  · rintro k ⟨f, x, s⟩ N hk ⟨hf, hf2, hd⟩ hN
    walk_at "wp"
    have hp : (10 : Nat) ^ (6 * k) ≤ 10 ^ 36 := Nat.pow_le_pow_right (by decide) (by omega)
    have hp2 : (10 : Nat) ^ (6 * (k + 1)) = 10 ^ (6 * k) * 10 ^ 6 := by rw [show 6 * (k + 1) = 6 * k + 6 by omega, Nat.pow_add]
    generalize (10 : Nat) ^ (6 * k) = p at *
    generalize (10 : Nat) ^ (6 * (k + 1)) = p' at *
    refine ⟨by decide, ⟨Sm.nn hf (by dsimp only at hf2; omega), Sm.nn (by decide) (by decide)⟩, by decide, _, T + k, rest, rfl, by decide, by decide, by omega, hd, fun r st' hr0 hr1 hd' => ?_⟩
    walk_at "wp"
    refine hN (f * 1000000 + r, _, st') ⟨?_, ?_, ?_⟩
    · dsimp only at *; omega
    · dsimp only at *; omega
    · exact hd'.le (by omega)
  · rintro ⟨f, x, s⟩ ⟨hf, hf2, hd⟩
    walk_at "wp"
    exact ⟨h1, hQ _ _ (Int.emod_nonneg _ (by omega)) (Int.emod_lt_of_pos _ h1) hd⟩

/- _law_number
 -/
def w__law_number : WS :=
  (wSeq (wSet 3 (wC (.int 1)))
  (wSeq (wSet 4 (wC (.int 0)))
  (wSeq (wSet 5 (wCall Phi__law_next (wCons (wVar 0) (wCons (wVar 1) wNil))))
  (wSeq (wFor (wIa rng1 (wCons (wCall Phi__law_next (wCons (wVar 0) (wCons (wC (.int 110)) wNil))) wNil)) (gN 6) (wIte (wT (wLe (wv (wMul (wv (wVar 3)) (wv (wVar 1)))) (wv (wVar 2)))) (wSeq (wSet 3 (wMul (wv (wVar 3)) (wv (wVar 1))))
  (wSet 4 (wAdd (wv (wMul (wv (wVar 4)) (wv (wVar 1)))) (wv (wVar 5))))) wEnd))
  (wSeq (wSet 7 (wLst (wCons (wCall Phi__law_next (wCons (wVar 0) (wCons (wC (.int 70)) wNil))) (wCons (wCall Phi__law_great (wCons (wVar 0) (wCons (wAdd (wv (wVar 2)) (wv (wC (.int 1)))) wNil))) (wCons (wSub (wv (wAdd (wv (wVar 3)) (wv (wCall Phi__law_next (wCons (wVar 0) (wCons (wC (.int 5)) wNil)))))) (wv (wC (.int 2)))) (wCons (wVar 4) wNil))))))
  (wSeq (wSet 7 (wAdd (wv (wVar 7)) (wv (wLst (wCons (wSub (wv (wVar 2)) (wv (wCall Phi__law_next (wCons (wVar 0) (wCons (wC (.int 3)) wNil))))) (wCons (wDiv (wv (wCall Phi__law_great (wCons (wVar 0) (wCons (wAdd (wv (wVar 2)) (wv (wC (.int 1)))) wNil)))) (wv (wVar 3))) wNil))))))
  (wRet (wC2 minI (wCons (wVar 2) (wCons (wC2 maxI (wCons (wC (.int 0)) (wCons (wIx (wv (wVar 7)) (wv (wCall Phi__law_next (wCons (wVar 0) (wCons (wC (.int 6)) wNil))))) wNil))) wNil))))))))))
abbrev Phi__law_number : VL.Spec := PhiNumber
theorem m__law_number : ∀ ds st Q Qx, Phi__law_number ds st Q Qx → specW false 8 w__law_number ds st Q Qx := by
  rintro _ st Q Qx ⟨base, most, T, rest, rfl, h1, h2, h3, h4, hT, hD, hQ⟩
  unfold w__law_number
  walk_at "wp"
  refine ⟨_, T, rest, rfl, by omega, by omega, by omega, hD, fun fg st1 hf0 hf1 hd1 => ?_⟩
  walk_at "wp"
  refine ⟨_, T + 1, rest, rfl, by omega, by omega, by omega, hd1, fun n st2 hn0 hn1 hd2 => ?_⟩
  walk_at "wp"
  refine ⟨⟨by omega, by omega⟩, ?_⟩
  refine w_range (α := Int × Int × Option Slot) (fun k a => 1 ≤ a.1 ∧ a.1 ≤ most + 1 ∧ 0 ≤ a.2.1 ∧ a.2.1 < a.1) (fun a => [some (.sh (.hnd 0)), some (.sh (.int base)), some (.sh (.int most)), some (.sh (.int a.1)), some (.sh (.int a.2.1)), some (.sh (.int fg)), a.2.2, none]) (fun _ => st2) (1, 0, none) rfl rfl ⟨by simp, by simp; omega, by simp, by simp⟩ ?_ ?_
  · rintro k ⟨p, rep, x⟩ N hk ⟨hp0, hp1, hr0, hr1⟩ hN
    dsimp only at hp0 hp1 hr0 hr1
    walk_at "wp"
    refine ⟨⟨Sm.nn (by omega) (by omega), Sm.nn (by omega) (by omega)⟩, if_intro (fun g => ?_) (fun g => ?_)⟩
    · refine ⟨⟨Sm.nn (by omega) (by omega), Sm.nn (by omega) (by omega)⟩, ⟨Sm.nn (by omega) (by omega), Sm.nn (by omega) (by omega)⟩, hN (p * base, rep * base + fg, _) ⟨?_, ?_, ?_, ?_⟩⟩
      · have : 1 * 1 ≤ p * base := Int.mul_le_mul (by omega) (by omega) (by decide) (by omega)
        simpa using this
      · dsimp only; omega
      · have : 0 ≤ rep * base := Int.mul_nonneg hr0 (by omega)
        dsimp only; omega
      · have : (rep + 1) * base ≤ p * base := Int.mul_le_mul_of_nonneg_right (by omega) (by omega)
        rw [Int.add_mul] at this
        dsimp only; omega
    · exact hN (p, rep, _) ⟨hp0, hp1, hr0, hr1⟩
  · rintro ⟨p, rep, x⟩ ⟨hp0, hp1, hr0, hr1⟩
    dsimp only at hp0 hp1 hr0 hr1
    walk_at "wp"
    refine ⟨_, T + 1 + 1, rest, rfl, by omega, by omega, by omega, hd2, fun x1 st3 a0 a1 hd3 => ?_⟩
    walk_at "wp"
    refine ⟨_, T + 1 + 1 + 1, rest, rfl, by omega, by omega, by omega, hd3, fun x2 st4 a0 a1 hd4 => ?_⟩
    walk_at "wp"
    refine ⟨_, T + 1 + 1 + 1 + 6, rest, rfl, by omega, by omega, by omega, hd4, fun x3 st5 a0 a1 hd5 => ?_⟩
    walk_at "wp"
    refine ⟨_, T + 1 + 1 + 1 + 6 + 1, rest, rfl, by omega, by omega, by omega, hd5, fun x4 st6 a0 a1 hd6 => ?_⟩
    walk_at "wp"
    refine ⟨_, T + 1 + 1 + 1 + 6 + 1 + 1, rest, rfl, by omega, by omega, by omega, hd6, fun x5 st7 a0 a1 hd7 => ?_⟩
    walk_at "wp"
    refine ⟨⟨by omega, Sm.nn (by omega) (by omega)⟩, ?_⟩
    refine ⟨_, T + 1 + 1 + 1 + 6 + 1 + 1 + 6, rest, rfl, by omega, by omega, by omega, hd7, fun x6 st8 a0 a1 hd8 => ?_⟩
    walk_at "wp"
    have go : ∀ v : Int, Q (.int (minI most (maxI 0 v))) st8 := fun v => hQ _ _ (by unfold minI maxI; split <;> split <;> omega) (by unfold minI maxI; split <;> split <;> omega) (hd8.le (by omega))
    rcases (by omega : x6 = 0 ∨ x6 = 1 ∨ x6 = 2 ∨ x6 = 3 ∨ x6 = 4 ∨ x6 = 5) with rfl | rfl | rfl | rfl | rfl | rfl <;> walk_at "wp" <;> exact go _

/- _law_figures
 -/
def w__law_figures : WS :=
  (wSeq (wSetF 2 (wLst wNil))
  (wSeq (wWhile (wT (wGt (wv (wVar 0)) (wv (wC (.int 0))))) (wSeq (wApp (ws 2) (wCons (wMod (wv (wVar 0)) (wv (wVar 1))) wNil))
  (wSet 0 (wDiv (wv (wVar 0)) (wv (wVar 1))))))
  (wRet (wOrL 2 (wLst (wCons (wC (.int 0)) wNil))))))
abbrev Phi__law_figures : VL.Spec := fun ds st Q _ => ∃ n b : Nat, ds = [nI n, nI b] ∧ 1 < b ∧ b ≤ 10 ^ 100 ∧ n < 2 ^ 1000 ∧ Q (.lst ((figs b n).map nI)) st
theorem m__law_figures : ∀ ds st Q Qx, Phi__law_figures ds st Q Qx → specW false 3 w__law_figures ds st Q Qx := by
  rintro _ st Q Qx ⟨n, b, rfl, h1, h2, h3, hQ⟩
  unfold w__law_figures
  walk_at "wp"
  have hlen := figs_len h1 1000 n h3
  refine w_while (α := Nat × List Nat) (fun a => (a = (n, []) ∨ (a.1 = 0 ∧ a.2 = figs b n) ∨ (0 < a.1 ∧ a.2 ++ figs b a.1 = figs b n)) ∧ a.2.length ≤ (figs b n).length) (fun a => [some (.sh (nI a.1)), some (.sh (nI b)), some (.ow (.lst (a.2.map nI)))]) (fun _ => st) (fun a => a.1) (n, []) rfl rfl ⟨.inl rfl, Nat.zero_le _⟩ ?_
  rintro ⟨m, acc⟩ ⟨e1, e2⟩
  dsimp only at e2
  walk_at "wp"
  refine if_intro (fun g => ?_) (fun g => ?_)
  · have e1 : acc ++ figs b m = figs b n := by
      rcases e1 with e | ⟨e, _⟩ | ⟨_, e⟩
      · cases e; rfl
      · exact absurd e (by dsimp only; omega)
      · exact e
    have l1 := congrArg List.length e1
    rw [List.length_append] at l1
    have l2 : 0 < (figs b m).length := by rw [figs]; split <;> simp
    refine ⟨by omega, by omega, ⟨by omega, Sm.nn (by omega) (by omega)⟩, (m / b, acc ++ [m % b]), Nat.div_lt_self (by omega) h1, ⟨?_, ?_⟩, ?_⟩
    · by_cases k : m < b
      · rw [figs_lt k] at e1
        exact .inr (.inl ⟨Nat.div_eq_of_lt k, by rw [Nat.mod_eq_of_lt k]; exact e1⟩)
      · rw [figs_ge (by omega) h1] at e1
        exact .inr (.inr ⟨Nat.div_pos (by omega) (by omega), by rw [List.append_assoc]; exact e1⟩)
    · rw [List.length_append, List.length_singleton]; show acc.length + 1 ≤ _; omega
    · simp [nI]
  · obtain rfl : m = 0 := by omega
    rcases e1 with e | ⟨_, e⟩ | ⟨e, _⟩
    · obtain ⟨rfl, rfl⟩ := Prod.mk.inj e
      rw [figs_lt (by omega)] at hQ
      exact hQ
    · dsimp only at e
      subst e
      cases q : (figs b n).map nI with
      | nil =>
        have l2 : 0 < (figs b n).length := by rw [figs]; split <;> simp
        have := congrArg List.length q
        rw [List.length_map, List.length_nil] at this; omega
      | cons x xs => rw [q] at hQ; exact hQ
    · exact absurd e (by dsimp only; omega)

/- _law_is_whole
 -/
def w__law_is_whole : WS :=
  (wRet (wAndV (wIsi "int" (wv (wVar 0))) (wAndV (wNotV (wIsi "bool" (wv (wVar 0)))) (wEq (wv (wVar 0)) (wv (wVar 1))))))
abbrev Phi__law_is_whole : VL.Spec := fun ds st Q _ => ∃ a b : Int, ds = [.int a, .int b] ∧ Q (.bl (decide (a = b))) st
theorem m__law_is_whole : ∀ ds st Q Qx, Phi__law_is_whole ds st Q Qx → specW false 2 w__law_is_whole ds st Q Qx := by
  rintro _ st Q Qx ⟨a, b, rfl, hQ⟩
  unfold w__law_is_whole
  walk_at "wp"
  exact hQ

/- _law_kind
 -/
def w__law_kind : WS :=
  (wSeq (wSet 1 (wLst (wCons (wIsE "NoAsk" (wv (wVar 0))) (wCons (wIsE "NoNumber" (wv (wVar 0))) (wCons (wIsE "NoStretch" (wv (wVar 0))) wNil)))))
  (wSeq (wIte (wOr (wNot (wT (wIsE "SumError" (wv (wVar 0))))) (wOr (wNot (wT (wIsV (wv (wVar 0))))) (wT (wNe (wv (wCnt (wv (wVar 1)) (wCons (wC (.bl true)) wNil))) (wv (wC (.int 1))))))) (wRet (wTup (wCons (wC (.str "other")) wNil))) wEnd)
  (wSeq (wIte (wT (wIx (wv (wVar 1)) (wv (wC (.int 1))))) (wSeq (wIte (wT (wIsi "bool" (wv (wPlace (wVar 0))))) (wRet (wTup (wCons (wC (.str "other")) wNil))) wEnd)
  (wRet (wTup (wCons (wC (.str "number")) (wCons (wPlace (wVar 0)) wNil))))) wEnd)
  (wRet (wTup (wCons (wIx (wv (wLst (wCons (wC (.str "ask")) (wCons (wC (.str "")) (wCons (wC (.str "stretch")) wNil))))) (wv (wIdx (wv (wVar 1)) (wCons (wC (.bl true)) wNil)))) wNil))))))
/-- which refusal -/
abbrev Phi__law_kind : VL.Spec := fun ds st Q _ => (ds = [.exc "NoStretch" none] ∧ Q (.tup [.str "stretch"]) st) ∨ (ds = [.exc "NoAsk" none] ∧ Q (.tup [.str "ask"]) st) ∨ (∃ i : Int, ds = [.exc "NoNumber" (some i)] ∧ Q (.tup [.str "number", .int i]) st)
theorem m__law_kind : ∀ ds st Q Qx, Phi__law_kind ds st Q Qx → specW false 2 w__law_kind ds st Q Qx := by
  intro ds st Q Qx h
  unfold w__law_kind
  rcases h with ⟨rfl, hQ⟩ | ⟨rfl, hQ⟩ | ⟨i, rfl, hQ⟩
  · walk_at "wp"
    rw [if_pos (by decide)]
    refine idx_b3c ?_
    walk_at "wp"
    exact hQ
  · walk_at "wp"
    rw [if_pos (by decide)]
    refine idx_b3a ?_
    walk_at "wp"
    exact hQ
  · walk_at "wp"
    rw [if_pos (by decide)]
    exact hQ

/- _law_sign
 -/
def w__law_sign : WS :=
  (wSeq (wSet 2 (wC (.str " !\"#$&'()*+,-./0123456789:;<=>?@ABCDEFGHIJKLMNOPQRSTUVWXYZ[\\]^_`abcdefghijklmnopqrstuvwxyz{|}~\n")))
  (wSeq (wSet 3 (wC (.str "0123456789abcdefg")))
  (wRet (wIx (wv (wLst (wCons (wIx (wv (wVar 2)) (wv (wCall Phi__law_next (wCons (wVar 0) (wCons (wC1 lenD (wv (wVar 2))) wNil))))) (wCons (wIx (wv (wVar 3)) (wv (wCall Phi__law_next (wCons (wVar 0) (wCons (wC (.int 17)) wNil))))) (wCons (wIx (wv (wVar 3)) (wv (wVar 1))) wNil))))) (wv (wCall Phi__law_next (wCons (wVar 0) (wCons (wC (.int 3)) wNil))))))))
def sgS : String := " !\"#$&'()*+,-./0123456789:;<=>?@ABCDEFGHIJKLMNOPQRSTUVWXYZ[\\]^_`abcdefghijklmnopqrstuvwxyz{|}~\n"
abbrev Phi__law_sign : VL.Spec := fun ds st Q _ => ∃ (b : Nat) (T : Int) (rest : Sto), ds = [.hnd 0, nI b] ∧ 2 ≤ b ∧ b ≤ 16 ∧ T ≤ 10 ^ 8 ∧ Dk T rest st ∧ ∀ (c : Nat) st', c < 1114112 → Dk (T + 3) rest st' → Q (.str (SX.S [c])) st'
theorem m__law_sign : ∀ ds st Q Qx, Phi__law_sign ds st Q Qx → specW false 4 w__law_sign ds st Q Qx := by
  rintro _ st Q Qx ⟨b, T, rest, rfl, h1, h2, hT, hd, hQ⟩
  have sS : Str.ofString sgS = SX.S (cs sgS) := (S_cs _).symm
  have sl : (cs sgS).length = 95 := by decide +kernel
  have sb : ∀ c ∈ cs sgS, c < 1114112 := by decide +kernel
  have eS : (SX.S (cs sgS)).length = 95 := by rw [SX.S_len, sl]
  have fS : Str.ofString "0123456789abcdefg" = SX.S (cs "0123456789abcdefg") := (S_cs _).symm
  have fl : (cs "0123456789abcdefg").length = 17 := by decide +kernel
  have fb : ∀ c ∈ cs "0123456789abcdefg", c < 1114112 := by decide +kernel
  have eF : (SX.S (cs "0123456789abcdefg")).length = 17 := by rw [SX.S_len, fl]
  have tl : ∀ l : List Nat, (SX.S l).cps.toList = l := fun l => by simp [SX.S]
  generalize cs sgS = A at *
  generalize cs "0123456789abcdefg" = B at *
  unfold w__law_sign
  rw [show (" !\"#$&'()*+,-./0123456789:;<=>?@ABCDEFGHIJKLMNOPQRSTUVWXYZ[\\]^_`abcdefghijklmnopqrstuvwxyz{|}~\n" : Str) = Str.ofString sgS from rfl]
  walk_at "wp"
  rw [sS, fS, eS]
  refine ⟨by decide, 95, T, rest, rfl, by decide, by decide, by omega, hd, fun r st1 r0 r1 hd1 => ?_⟩
  walk_at "wp"
  obtain ⟨c1, hc1, hm1⟩ := atI_mem (xs := A) r0 (by rw [sl]; omega)
  refine ⟨by rw [eS]; decide, p_chr_at (c := c1) (by rw [tl]; exact hc1) ?_⟩
  walk_at "wp"
  refine ⟨17, T + 1, rest, rfl, by decide, by decide, by omega, hd1, fun q st2 q0 q1 hd2 => ?_⟩
  walk_at "wp"
  obtain ⟨c2, hc2, hm2⟩ := atI_mem (xs := B) q0 (by rw [fl]; omega)
  refine ⟨by rw [eF]; decide, p_chr_at (c := c2) (by rw [tl]; exact hc2) ?_⟩
  walk_at "wp"
  obtain ⟨c3, hc3, hm3⟩ := atI_mem (xs := B) (i := (b : Int)) (by omega) (by rw [fl]; omega)
  refine ⟨by rw [eF]; decide, p_chr_at (c := c3) (by rw [tl]; exact hc3) ?_⟩
  walk_at "wp"
  refine ⟨3, T + 1 + 1, rest, rfl, by decide, by decide, by omega, hd2, fun z st3 z0 z1 hd3 => ?_⟩
  walk_at "wp"
  have hd4 := hd3.le (T' := T + 3) (by omega)
  rcases (by omega : z = 0 ∨ z = 1 ∨ z = 2) with rfl | rfl | rfl
  · exact p_at atI_0 (hQ c1 st3 (sb _ hm1) hd4)
  · exact p_at atI_1 (hQ c2 st3 (fb _ hm2) hd4)
  · exact p_at atI_2 (hQ c3 st3 (fb _ hm3) hd4)

/- _law_spoilt
 -/
def w__law_spoilt : WS :=
  (wSeq (wFor (wIa rng1 (wCons (wAdd (wv (wC (.int 1))) (wv (wCall Phi__law_next (wCons (wVar 0) (wCons (wC (.int 3)) wNil))))) wNil)) (gN 3) (wSeq (wSet 4 (wIx (wv (wLst (wCons (wCall Phi__law_next (wCons (wVar 0) (wCons (wAdd (wv (wC1 lenD (wv (wVar 1)))) (wv (wC (.int 1)))) wNil))) (wCons (wC2 maxI (wCons (wC (.int 0)) (wCons (wSub (wv (wC1 lenD (wv (wVar 1)))) (wv (wC (.int 1)))) wNil))) (wCons (wC (.int 0)) wNil))))) (wv (wCall Phi__law_next (wCons (wVar 0) (wCons (wC (.int 3)) wNil))))))
  (wSeq (wSet 5 (wCall Phi__law_sign (wCons (wVar 0) (wCons (wVar 2) wNil))))
  (wSeq (wSet 6 (wLst (wCons (wAdd (wv (wAdd (wv (wSlcS (wv (wVar 1)) wNo (wSome (wVar 4)))) (wv (wVar 5)))) (wv (wSlcS (wv (wVar 1)) (wSome (wVar 4)) wNo))) (wCons (wAdd (wv (wAdd (wv (wSlcS (wv (wVar 1)) wNo (wSome (wVar 4)))) (wv (wVar 5)))) (wv (wSlcS (wv (wVar 1)) (wSome (wAdd (wv (wVar 4)) (wv (wC (.int 1))))) wNo))) (wCons (wAdd (wv (wSlcS (wv (wVar 1)) wNo (wSome (wVar 4)))) (wv (wSlcS (wv (wVar 1)) (wSome (wAdd (wv (wVar 4)) (wv (wC (.int 1))))) wNo))) wNil)))))
  (wSet 1 (wIx (wv (wVar 6)) (wv (wCall Phi__law_next (wCons (wVar 0) (wCons (wC (.int 3)) wNil))))))))))
  (wRet (wVar 1)))
def sq1 : WS := (wSet 4 (wIx (wv (wLst (wCons (wCall Phi__law_next (wCons (wVar 0) (wCons (wAdd (wv (wC1 lenD (wv (wVar 1)))) (wv (wC (.int 1)))) wNil))) (wCons (wC2 maxI (wCons (wC (.int 0)) (wCons (wSub (wv (wC1 lenD (wv (wVar 1)))) (wv (wC (.int 1)))) wNil))) (wCons (wC (.int 0)) wNil))))) (wv (wCall Phi__law_next (wCons (wVar 0) (wCons (wC (.int 3)) wNil))))))
def sq2 : WS := (wSet 5 (wCall Phi__law_sign (wCons (wVar 0) (wCons (wVar 2) wNil))))
def sq3 : WS := (wSet 6 (wLst (wCons (wAdd (wv (wAdd (wv (wSlcS (wv (wVar 1)) wNo (wSome (wVar 4)))) (wv (wVar 5)))) (wv (wSlcS (wv (wVar 1)) (wSome (wVar 4)) wNo))) (wCons (wAdd (wv (wAdd (wv (wSlcS (wv (wVar 1)) wNo (wSome (wVar 4)))) (wv (wVar 5)))) (wv (wSlcS (wv (wVar 1)) (wSome (wAdd (wv (wVar 4)) (wv (wC (.int 1))))) wNo))) (wCons (wAdd (wv (wSlcS (wv (wVar 1)) wNo (wSome (wVar 4)))) (wv (wSlcS (wv (wVar 1)) (wSome (wAdd (wv (wVar 4)) (wv (wC (.int 1))))) wNo))) wNil)))))
def sq4 : WS := (wSet 1 (wIx (wv (wVar 6)) (wv (wCall Phi__law_next (wCons (wVar 0) (wCons (wC (.int 3)) wNil))))))
def sqW : WS := (wSeq sq1 (wSeq sq2 (wSeq sq3 sq4)))
/-- a text of at most so many signs -/
structure Tx2 (n : Nat) (F : List Nat) : Prop where
  l : F.length ≤ n
  o : ∀ c ∈ F, c < 1114112
theorem Tx2.le {n m : Nat} {a : List Nat} (x : Tx2 n a) (h : n ≤ m) : Tx2 m a := ⟨Nat.le_trans x.l h, x.o⟩
theorem Tx2.cat {n m : Nat} {a b : List Nat} (x : Tx2 n a) (y : Tx2 m b) : Tx2 (n + m) (a ++ b) :=
  ⟨by rw [List.length_append]; have := x.l; have := y.l; omega, fun c hc => (List.mem_append.mp hc).elim (x.o c) (y.o c)⟩
def sqE (l : List Nat) (b : Nat) (x3 x4 x5 x6 : Option Slot) : EnvD := [some (.sh (.hnd 0)), some (.sh (.str (SX.S l))), some (.sh (nI b)), x3, x4, x5, x6]
section
variable {b a c : Nat} {T : Int} {rest : Sto} {l : List Nat} {x3 x4 x5 x6 : Option Slot} {st : Sto} {Q : KS} {Qx : KX}
theorem sq1_ok (hl : l.length ≤ 600) (hT : T ≤ 10 ^ 8) (hd : Dk T rest st) (hQ : ∀ (a : Nat) st', a ≤ l.length → Dk (T + 2) rest st' → Q .nx (sqE l b x3 (some (.sh (nI a))) x5 x6) st') : sq1 (sqE l b x3 x4 x5 x6) st Q Qx := by
  have eS : (SX.S l).length = l.length := SX.S_len l
  unfold sq1 sqE
  walk_at "wp"
  refine ⟨by omega, _, T, rest, rfl, by omega, by omega, by omega, hd, fun r st1 r0 r1 hd1 => ?_⟩
  walk_at "wp"
  refine ⟨by omega, 3, T + 1, rest, rfl, by decide, by decide, by omega, hd1, fun z st2 z0 z1 hd2 => ?_⟩
  walk_at "wp"
  have hd3 := hd2.le (T' := T + 2) (by omega)
  have key : ∀ i : Int, 0 ≤ i → i ≤ l.length → Q .nx (sqE l b x3 (some (.sh (.int i))) x5 x6) st2 := fun i h0 h1 => by
    have := hQ i.toNat st2 (by omega) hd3
    simp only [nI, Int.toNat_of_nonneg h0] at this
    exact this
  rcases (by omega : z = 0 ∨ z = 1 ∨ z = 2) with rfl | rfl | rfl
  · exact p_at atI_0 (key r r0 (by omega))
  · refine p_at atI_1 (key _ ?_ ?_)
    · unfold maxI; split <;> omega
    · unfold maxI; split <;> omega
  · exact p_at atI_2 (key 0 (by decide) (by omega))
theorem sq2_ok (h1 : 2 ≤ b) (h2 : b ≤ 16) (hT : T ≤ 10 ^ 7) (hd : Dk T rest st) (hQ : ∀ (c : Nat) st', c < 1114112 → Dk (T + 3) rest st' → Q .nx (sqE l b x3 x4 (some (.sh (.str (SX.S [c])))) x6) st') : sq2 (sqE l b x3 x4 x5 x6) st Q Qx := by
  unfold sq2 sqE
  walk_at "wp"
  exact ⟨b, T, rest, rfl, h1, h2, by omega, hd, fun c st' hc hd' => hQ c st' hc hd'⟩
theorem sq3_ok (hl : l.length ≤ 600) (hQ : Q .nx (sqE l b x3 (some (.sh (nI a))) (some (.sh (.str (SX.S [c])))) (some (.sh (.lst [.str (SX.S (l.take a ++ c :: l.drop a)), .str (SX.S (l.take a ++ c :: l.drop (a + 1))), .str (SX.S (l.take a ++ l.drop (a + 1)))])))) st) :
    sq3 (sqE l b x3 (some (.sh (nI a))) (some (.sh (.str (SX.S [c])))) x6) st Q Qx := by
  have eS : (SX.S l).length = l.length := SX.S_len l
  have e1 : Txt.slice (SX.S l) none (some (a : Int)) = SX.S (l.take a) := by rw [SX.slice_to (by omega), Int.toNat_natCast]
  have e0 : Txt.slice (SX.S l) (some (a : Int)) none = SX.S (l.drop a) := by rw [SX.slice_from (by omega), Int.toNat_natCast]
  have e2 : Txt.slice (SX.S l) (some ((a : Int) + 1)) none = SX.S (l.drop (a + 1)) := by rw [SX.slice_from (by omega), show ((a : Int) + 1).toNat = a + 1 by omega]
  have f1 : (SX.S (l.take a) ++ SX.S [c] ++ SX.S (l.drop a) : Str) = SX.S (l.take a ++ c :: l.drop a) := by rw [SX.S_cat, SX.S_cat, List.append_assoc]; rfl
  have f2 : (SX.S (l.take a) ++ SX.S [c] ++ SX.S (l.drop (a + 1)) : Str) = SX.S (l.take a ++ c :: l.drop (a + 1)) := by rw [SX.S_cat, SX.S_cat, List.append_assoc]; rfl
  have f3 : (SX.S (l.take a) ++ SX.S (l.drop (a + 1)) : Str) = SX.S (l.take a ++ l.drop (a + 1)) := by rw [SX.S_cat]
  have n1 : (SX.S (l.take a)).length ≤ 600 := by rw [SX.S_len, List.length_take]; omega
  have n0 : (SX.S (l.drop a)).length ≤ 600 := by rw [SX.S_len, List.length_drop]; omega
  have n2 : (SX.S (l.drop (a + 1))).length ≤ 600 := by rw [SX.S_len, List.length_drop]; omega
  have n3 : (SX.S [c]).length = 1 := by rw [SX.S_len]; rfl
  have n4 : (SX.S (l.take a) ++ SX.S [c] : Str).length ≤ 601 := by rw [SX.S_cat, SX.S_len, List.length_append, List.length_singleton, List.length_take]; omega
  unfold sq3 sqE
  walk_at "wp"
  rw [e1, e0, e2, f1, f2, f3]
  refine ⟨by omega, by omega, by omega, ?_, by omega, by omega, by omega, ?_, by omega, by omega, by omega, hQ⟩
  · omega
  · omega
theorem sq4_ok (h1 : 2 ≤ b) {n : Nat} {L1 L2 L3 : List Nat} (g1 : Tx2 n L1) (g2 : Tx2 n L2) (g3 : Tx2 n L3) (hT : T ≤ 10 ^ 8) (hd : Dk T rest st) (hQ : ∀ l' st', Tx2 n l' → Dk (T + 1) rest st' → Q .nx (sqE l' b x3 x4 x5 (some (.sh (.lst [.str (SX.S L1), .str (SX.S L2), .str (SX.S L3)])))) st') :
    sq4 (sqE l b x3 x4 x5 (some (.sh (.lst [.str (SX.S L1), .str (SX.S L2), .str (SX.S L3)])))) st Q Qx := by
  unfold sq4 sqE
  walk_at "wp"
  refine ⟨3, T, rest, rfl, by decide, by decide, by omega, hd, fun z st2 z0 z1 hd2 => ?_⟩
  walk_at "wp"
  rcases (by omega : z = 0 ∨ z = 1 ∨ z = 2) with rfl | rfl | rfl
  · exact p_at atI_0 (hQ L1 st2 g1 hd2)
  · exact p_at atI_1 (hQ L2 st2 g2 hd2)
  · exact p_at atI_2 (hQ L3 st2 g3 hd2)
theorem sqW_ok {n : Nat} (h1 : 2 ≤ b) (h2 : b ≤ 16) (hn : n ≤ 510) (hx : Tx2 n l) (hT : T ≤ 2 * 10 ^ 6) (hd : Dk T rest st) (hQ : ∀ l' x4 x5 x6 st', Tx2 (n + 1) l' → Dk (T + 6) rest st' → Q .nx (sqE l' b x3 x4 x5 x6) st') : sqW (sqE l b x3 x4 x5 x6) st Q Qx := by
  have hl := hx.l
  unfold sqW
  rw [q_seq]
  refine sq1_ok (by omega) (by omega) hd fun a st1 ha hd1 => ?_
  rw [q_seq1, q_seq]
  refine sq2_ok h1 h2 (by omega) hd1 fun c st2 hc hd2 => ?_
  rw [q_seq1, q_seq]
  refine sq3_ok (by omega) ?_
  rw [q_seq1]
  have mt : ∀ k c, c ∈ l.take k → c < 1114112 := fun k c h => hx.o c (List.mem_of_mem_take h)
  have md : ∀ k c, c ∈ l.drop k → c < 1114112 := fun k c h => hx.o c (List.mem_of_mem_drop h)
  have cc : ∀ k z, z ∈ l.take a ++ c :: l.drop k → z < 1114112 := fun k z h => (List.mem_append.mp h).elim (mt a z) fun h => (List.mem_cons.mp h).elim (fun e => by rw [e]; exact hc) (md k z)
  refine sq4_ok h1 (n := n + 1) ⟨?_, cc a⟩ ⟨?_, cc (a + 1)⟩ ⟨?_, fun z h => (List.mem_append.mp h).elim (mt a z) (md (a + 1) z)⟩ (by omega) hd2 fun l' st3 hl' hd3 => hQ l' _ _ _ st3 hl' (hd3.le (by omega))
  · rw [List.length_append, List.length_cons, List.length_take, List.length_drop]; omega
  · rw [List.length_append, List.length_cons, List.length_take, List.length_drop]; omega
  · rw [List.length_append, List.length_take, List.length_drop]; omega
end
abbrev Phi__law_spoilt : VL.Spec := fun ds st Q _ => ∃ (l : List Nat) (b : Nat) (T : Int) (rest : Sto), ds = [.hnd 0, .str (SX.S l), nI b] ∧ 2 ≤ b ∧ b ≤ 16 ∧ Tx2 500 l ∧ T ≤ 10 ^ 6 ∧ Dk T rest st ∧ ∀ l' st', Tx2 (l.length + 3) l' → Dk (T + 20) rest st' → Q (.str (SX.S l')) st'
theorem m__law_spoilt : ∀ ds st Q Qx, Phi__law_spoilt ds st Q Qx → specW false 7 w__law_spoilt ds st Q Qx := by
  rintro _ st Q Qx ⟨l, b, T, rest, rfl, h1, h2, hx, hT, hd, hQ⟩
  have e : w__law_spoilt = wSeq (wFor (wIa rng1 (wCons (wAdd (wv (wC (.int 1))) (wv (wCall Phi__law_next (wCons (wVar 0) (wCons (wC (.int 3)) wNil))))) wNil)) (gN 3) sqW) (wRet (wVar 1)) := by
    unfold w__law_spoilt sqW sq4 sq3 sq2 sq1; with_reducible rfl
  rw [e]
  walk_at "wp"
  refine ⟨3, T, rest, rfl, by decide, by decide, by omega, hd, fun r st1 r0 r1 hd1 => ?_⟩
  walk_at "wp"
  refine ⟨⟨by omega, by omega⟩, ?_⟩
  obtain ⟨m, hm⟩ : ∃ m : Nat, (1 + r).toNat = m ∧ m ≤ 3 := ⟨_, rfl, by omega⟩
  rw [hm.1]
  refine w_range (α := List Nat × Option Slot × Option Slot × Option Slot × Option Slot × Sto) (fun k a => Tx2 (l.length + k) a.1 ∧ Dk (T + 1 + 6 * k) rest a.2.2.2.2.2) (fun a => sqE a.1 b a.2.1 a.2.2.1 a.2.2.2.1 a.2.2.2.2.1) (fun a => a.2.2.2.2.2) (l, none, none, none, none, st1) rfl rfl ⟨⟨Nat.le_refl _, hx.o⟩, hd1.le (by omega)⟩ ?_ ?_
  · rintro k ⟨l1, y3, y4, y5, y6, s1⟩ N hk ⟨hx1, hd2⟩ hN
    dsimp only at hx1 hd2 ⊢
    have hl := hx.l
    unfold sqE
    walk_at "wp"
    refine sqW_ok (n := l.length + k) h1 h2 (by omega) hx1 (by omega) hd2 fun l' z4 z5 z6 s' hx2 hd3 => ?_
    walk_at "wp"
    exact hN (l', _, z4, z5, z6, s') ⟨hx2, hd3.le (by push_cast; omega)⟩
  · rintro ⟨l1, y3, y4, y5, y6, s1⟩ ⟨hx1, hd2⟩
    dsimp only at hx1 hd2 ⊢
    unfold sqE
    walk_at "wp"
    exact hQ l1 s1 (hx1.le (by omega)) (hd2.le (by omega))

/- _law_due
 -/
def w__law_due : WS :=
  (wSeq (wIte (wOr (wT (wEq (wv (wVar 0)) (wv (wC (.str ""))))) (wAnd (wT (wEq (wv (wSlcS (wv (wVar 0)) wNo (wSome (wC (.int 1))))) (wv (wC (.str "0"))))) (wT (wGt (wv (wC1 lenD (wv (wVar 0)))) (wv (wC (.int 1))))))) (wRet (wTup (wCons (wC (.str "number")) (wCons (wC (.int 0)) wNil)))) wEnd)
  (wSeq (wSet 2 (wC (.int 0)))
  (wSeq (wFor (wIa rng1 (wCons (wC1 lenD (wv (wVar 0))) wNil)) (gN 3) (wSeq (wSet 4 (wM1 findS (wC (.str "0123456789abcdef")) (wIx (wv (wVar 0)) (wv (wVar 3)))))
  (wSeq (wIte (wOr (wT (wLt (wv (wVar 4)) (wv (wC (.int 0))))) (wT (wGe (wv (wVar 4)) (wv (wVar 1))))) (wRet (wTup (wCons (wC (.str "number")) (wCons (wVar 3) wNil)))) wEnd)
  (wSet 2 (wAdd (wv (wMul (wv (wVar 2)) (wv (wVar 1)))) (wv (wVar 4)))))))
  (wRet (wVar 2)))))
theorem S_one (c : Nat) : SX.S [c] = (⟨#[c]⟩ : Str) := rfl
theorem dig_S : Str.ofString "0123456789abcdef" = SX.S ((List.range 16).map hexc) := by decide +kernel
theorem find_some {c f : Nat} (h : fig? 16 c = some f) : Txt.find (Str.ofString "0123456789abcdef") ⟨#[c]⟩ = (f : Int) := by
  obtain ⟨h1, h2, rfl⟩ := fig_some h
  unfold Txt.find
  rw [show Builtin.Str.occurrences (Str.ofString "0123456789abcdef") ⟨#[hexc f]⟩ 0 (Str.ofString "0123456789abcdef").length 1 = [f] from hex_idx h2]
theorem find_none {c : Nat} (h : fig? 16 c = none) : Txt.find (Str.ofString "0123456789abcdef") ⟨#[c]⟩ = -1 := by
  have h1 := fig_none (by decide) h
  have e := StrLaws.found_one (Str.ofString "0123456789abcdef") c
  rw [show (Str.ofString "0123456789abcdef").cps.toList = (List.range 16).map hexc by rw [dig_S], decide_eq_false h1] at e
  unfold Txt.find
  have e2 : Builtin.Str.occurrences (Str.ofString "0123456789abcdef") ⟨#[c]⟩ 0 (Str.ofString "0123456789abcdef").length 1 = [] := by simpa using e
  rw [e2]
theorem fig_lt {b c f : Nat} (hb : b ≤ 16) (h : fig? 16 c = some f) : fig? b c = if f < b then some f else none := by
  obtain ⟨h1, h2, rfl⟩ := fig_some h
  split
  · rename_i g; exact fig_hex g h2
  · rename_i g
    cases q : fig? b (hexc f) with
    | none => rfl
    | some z =>
      obtain ⟨g1, g2, g3⟩ := fig_some q
      exact absurd g1 (by rw [← hexc_inj h2 g2 g3]; exact g)
theorem fig_no {b c : Nat} (hb : b ≤ 16) (h : fig? 16 c = none) : fig? b c = none := by
  cases q : fig? b c with
  | none => rfl
  | some z =>
    obtain ⟨g1, g2, rfl⟩ := fig_some q
    rw [fig_hex g2 g2] at h; cases h
theorem tl_S (l : List Nat) : (SX.S l).cps.toList = l := by simp [SX.S]
theorem S_inj {a c : List Nat} (h : SX.S a = SX.S c) : a = c := by rw [← tl_S a, h, tl_S]
abbrev Phi__law_due : VL.Spec := fun ds st Q _ => ∃ (l : List Nat) (b : Nat), ds = [.str (SX.S l), nI b] ∧ 2 ≤ b ∧ b ≤ 16 ∧ Tx2 600 l ∧ (∀ n, rd b l = .ok n → Q (nI n) st) ∧ (∀ p : Nat, rd b l = .error p → Q (.tup [.str "number", nI p]) st)
def du1 : WS := (wIte (wOr (wT (wEq (wv (wVar 0)) (wv (wC (.str ""))))) (wAnd (wT (wEq (wv (wSlcS (wv (wVar 0)) wNo (wSome (wC (.int 1))))) (wv (wC (.str "0"))))) (wT (wGt (wv (wC1 lenD (wv (wVar 0)))) (wv (wC (.int 1))))))) (wRet (wTup (wCons (wC (.str "number")) (wCons (wC (.int 0)) wNil)))) wEnd)
def duW : WS := (wSeq (wSet 4 (wM1 findS (wC (.str "0123456789abcdef")) (wIx (wv (wVar 0)) (wv (wVar 3)))))
  (wSeq (wIte (wOr (wT (wLt (wv (wVar 4)) (wv (wC (.int 0))))) (wT (wGe (wv (wVar 4)) (wv (wVar 1))))) (wRet (wTup (wCons (wC (.str "number")) (wCons (wVar 3) wNil)))) wEnd)
  (wSet 2 (wAdd (wv (wMul (wv (wVar 2)) (wv (wVar 1)))) (wv (wVar 4))))))
def du3 : WS := (wFor (wIa rng1 (wCons (wC1 lenD (wv (wVar 0))) wNil)) (gN 3) duW)
def duE (l : List Nat) (b : Nat) (x2 x3 x4 : Option Slot) : EnvD := [some (.sh (.str (SX.S l))), some (.sh (nI b)), x2, x3, x4]
section
variable {b v k c : Nat} {l : List Nat} {x2 x3 x4 : Option Slot} {st : Sto} {Q : KS} {Qx : KX}
theorem du1_ok (hx : Tx2 600 l) (h0 : (l = [] ∨ l.head? = some 48 ∧ l ≠ [48]) → ∀ e, Q (.rt (.tup [.str "number", nI 0])) e st) (hQ : l ≠ [] → ¬ (l.head? = some 48 ∧ l ≠ [48]) → Q .nx (duE l b x2 x3 x4) st) : du1 (duE l b x2 x3 x4) st Q Qx := by
  have e1 : Txt.slice (SX.S l) none (some 1) = SX.S (l.take 1) := SX.slice_to (by decide)
  have eS : (SX.S l).length = l.length := SX.S_len l
  have hl := hx.l
  have n0 : Str.ofString "" = SX.S [] := by decide +kernel
  have n1 : Str.ofString "0" = SX.S [48] := by decide +kernel
  have o0 := strOk_S hx.o
  have ot : PyData.strOk (SX.S (l.take 1)) = true := strOk_S fun c hc => hx.o c (List.mem_of_mem_take hc)
  unfold du1 duE
  walk_at "wp"
  rw [n0, n1]
  by_cases g0 : l = []
  · refine eqS_t (by rw [g0]) o0 ?_
    walk_at "wp"
    exact h0 (.inl g0) _
  · refine eqS_f (fun z => g0 (S_inj z)) o0 (by decide +kernel) ?_
    walk_at "wp"
    rw [e1, eS]
    obtain ⟨c, r, rfl⟩ := List.exists_cons_of_ne_nil g0
    have et : (c :: r).take 1 = [c] := rfl
    rw [et] at ot ⊢
    refine ⟨by omega, ?_⟩
    by_cases g1 : c = 48
    · subst g1
      refine eqS_t rfl ot ?_
      walk_at "wp"
      rw [eS]
      refine ⟨by omega, if_intro (fun g => h0 (.inr ⟨rfl, fun z => ?_⟩) _) (fun g => hQ g0 fun z => z.2 ?_)⟩
      · rw [z] at g; simp at g
      · have : r.length = 0 := by simp at g; omega
        rw [List.length_eq_zero_iff.mp this]
    · refine eqS_f (fun z => g1 (by have := S_inj z; simpa using this)) ot (by decide +kernel) ?_
      walk_at "wp"
      exact hQ g0 fun z => g1 (by simpa using z.1)
theorem duW_ok (h1 : 2 ≤ b) (h2 : b ≤ 16) (hx : Tx2 600 l) (hc : l[k]? = some c) (hv : v < b ^ k) (hE : fig? b c = none → ∀ e, Q (.rt (.tup [.str "number", nI k])) e st) (hQ : ∀ f x4', fig? b c = some f → Q .nx (duE l b (some (.sh (nI (v * b + f)))) (some (.sh (nI k))) x4') st) :
    duW (duE l b (some (.sh (nI v))) (some (.sh (nI k))) x4) st Q Qx := by
  have hl := hx.l
  have hk : k < l.length := (List.getElem?_eq_some_iff.mp hc).1
  have eS : (SX.S l).length = l.length := SX.S_len l
  unfold duW duE
  walk_at "wp"
  refine ⟨by omega, p_chr_at (c := c) (by rw [tl_S, atI_lt (by omega) (by omega)]; exact hc) ?_⟩
  walk_at "wp"
  cases q : fig? 16 c with
  | none =>
    rw [find_none q]
    walk_at "wp"
    exact hE (fig_no h2 q) _
  | some f =>
    rw [find_some q]
    obtain ⟨f1, _, _⟩ := fig_some q
    have q2 := fig_lt h2 q
    refine if_intro (fun g => absurd g (by omega)) fun _ => if_intro (fun g => ?_) fun g => ?_
    · rw [if_neg (by omega)] at q2
      exact hE q2 _
    · rw [if_pos (by omega)] at q2
      refine ⟨⟨Sm.pw hv h2 (by omega), Sm.nn (by omega) (by omega)⟩, ?_⟩
      have := hQ f (some (.sh (nI f))) q2
      unfold duE at this
      simp only [nI, Int.natCast_add, Int.natCast_mul] at this
      exact this
end
theorem rdL_cons {b v p c : Nat} {r : List Nat} : rdL b v p (c :: r) = match fig? b c with
    | some f => rdL b (v * b + f) (p + 1) r
    | none => .error p := rfl
theorem rdL_lt {b : Nat} (h1 : 1 < b) {v k c : Nat} (hv : v < b ^ k) {f : Nat} (h : fig? b c = some f) : v * b + f < b ^ (k + 1) := by
  have hf := (fig_some h).1
  have : (v + 1) * b ≤ b ^ k * b := Nat.mul_le_mul_right b hv
  rw [Nat.add_mul, Nat.one_mul] at this
  rw [Nat.pow_succ]; omega
theorem m__law_due : ∀ ds st Q Qx, Phi__law_due ds st Q Qx → specW false 5 w__law_due ds st Q Qx := by
  rintro _ st Q Qx ⟨l, b, rfl, h1, h2, hx, hQ, hE⟩
  have e : w__law_due = wSeq du1 (wSeq (wSet 2 (wC (.int 0))) (wSeq du3 (wRet (wVar 2)))) := by
    unfold w__law_due du1 du3 duW; with_reducible rfl
  have hl := hx.l
  have eS : (SX.S l).length = l.length := SX.S_len l
  rw [e, q_specB, q_seq]
  refine du1_ok (x2 := none) (x3 := none) (x4 := none) hx (fun h e => ?_) fun g0 g1 => ?_
  · refine hE 0 ?_
    unfold rd
    rcases h with h | h
    · rw [if_pos h]
    · rw [if_neg (by intro z; rw [z] at h; simp at h), if_pos h]
  · have er : rd b l = rdL b 0 0 l := by unfold rd; rw [if_neg g0, if_neg g1]
    rw [er] at hQ hE
    rw [q_seq1]
    unfold du3 duE
    walk_at "wp"
    rw [eS]
    refine ⟨by omega, ⟨by omega, by omega⟩, ?_⟩
    refine w_range (α := Nat × Option Slot × Option Slot) (fun k a => a.1 < b ^ k ∧ rdL b 0 0 l = rdL b a.1 k (l.drop k)) (fun a => duE l b (some (.sh (nI a.1))) a.2.1 a.2.2) (fun _ => st) (0, none, none) rfl rfl ⟨by simp, rfl⟩ ?_ ?_
    · rintro k ⟨v, y3, y4⟩ N hk ⟨hv, hr⟩ hN
      dsimp only at hv hr ⊢
      have hk : k < l.length := by simpa using hk
      have ed : l.drop k = l[k] :: l.drop (k + 1) := List.drop_eq_getElem_cons hk
      rw [ed, rdL_cons] at hr
      unfold duE
      walk_at "wp"
      rw [show (0 : Int) + (k : Int) = (k : Int) by omega]
      refine duW_ok (c := l[k]) h1 h2 hx (List.getElem?_eq_getElem hk) hv (fun hn e => ?_) fun f x4' hf => ?_
      · rw [hn] at hr
        exact hE k hr
      · rw [hf] at hr
        walk_at "wp"
        exact hN (v * b + f, _, x4') ⟨rdL_lt h1 hv hf, hr⟩
    · rintro ⟨v, y3, y4⟩ ⟨hv, hr⟩
      dsimp only at hv hr ⊢
      unfold duE
      walk_at "wp"
      refine hQ v ?_
      rw [hr, List.drop_eq_nil_of_le (by simp)]
      rfl

/- _law_right
 -/
def w__law_right : WS :=
  (wSeq (wSet 2 (wCall Phi__law_due (wCons (wVar 0) (wCons (wVar 1) wNil))))
  (wSeq (wIte (wAnd (wT (wIsi "int" (wv (wVar 2)))) (wT (wGt (wv (wVar 2)) (wv (wPow (wv (wC (.int 10))) (wv (wC (.int 30)))))))) (wRet (wC (.bl true))) wEnd)
  (wSeq (wFor (wIa rng1 (wCons (wC (.int 2)) wNil)) (gN 3) (wSeq (wSet 4 (wC .non))
  (wSeq (wSet 5 (wC .non))
  (wSeq (wTry "SumError" 6 (wSet 4 (wCall Phi_read_number (wCons (wVar 0) (wCons (wVar 1) wNil)))) (wSet 5 (wVar 6)))
  (wSeq (wIte (wAnd (wT (wIsi "tuple" (wv (wVar 2)))) (wOr (wT (wIs (wv (wVar 5)) (wv (wC .non)))) (wT (wNe (wv (wCall Phi__law_kind (wCons (wVar 5) wNil))) (wv (wVar 2)))))) (wRet (wC (.bl false))) wEnd)
  (wIte (wAnd (wT (wIsi "int" (wv (wVar 2)))) (wNot (wT (wCall Phi__law_is_whole (wCons (wVar 4) (wCons (wVar 2) wNil)))))) (wRet (wC (.bl false))) wEnd))))))
  (wRet (wC (.bl true))))))
def ri1 : WS := (wSet 2 (wCall Phi__law_due (wCons (wVar 0) (wCons (wVar 1) wNil))))
def ri2 : WS := (wIte (wAnd (wT (wIsi "int" (wv (wVar 2)))) (wT (wGt (wv (wVar 2)) (wv (wPow (wv (wC (.int 10))) (wv (wC (.int 30)))))))) (wRet (wC (.bl true))) wEnd)
def ri3 : WS := (wSet 4 (wC .non))
def ri4 : WS := (wSet 5 (wC .non))
def ri5 : WS := (wTry "SumError" 6 (wSet 4 (wCall Phi_read_number (wCons (wVar 0) (wCons (wVar 1) wNil)))) (wSet 5 (wVar 6)))
def ri6 : WS := (wIte (wAnd (wT (wIsi "tuple" (wv (wVar 2)))) (wOr (wT (wIs (wv (wVar 5)) (wv (wC .non)))) (wT (wNe (wv (wCall Phi__law_kind (wCons (wVar 5) wNil))) (wv (wVar 2)))))) (wRet (wC (.bl false))) wEnd)
def ri7 : WS := (wIte (wAnd (wT (wIsi "int" (wv (wVar 2)))) (wNot (wT (wCall Phi__law_is_whole (wCons (wVar 4) (wCons (wVar 2) wNil)))))) (wRet (wC (.bl false))) wEnd)
def ri8b : WS := (wSeq ri3 (wSeq ri4 (wSeq ri5 (wSeq ri6 ri7))))
def ri9 : WS := (wRet (wC (.bl true)))
theorem w_eq__law_right : w__law_right = (wSeq ri1 (wSeq ri2 (wSeq (wFor (wIa rng1 (wCons (wC (.int 2)) wNil)) (gN 3) ri8b) ri9))) := by
  unfold w__law_right ri9 ri8b ri7 ri6 ri5 ri4 ri3 ri2 ri1; with_reducible rfl
def riE (l : List Nat) (b : Nat) (d : D) (x3 x4 x5 x6 : Option Slot) : EnvD := [some (.sh (.str (SX.S l))), some (.sh (nI b)), some (.sh d), x3, x4, x5, x6]
section
variable {b n p : Nat} {l : List Nat} {x3 x4 x5 x6 : Option Slot} {st : Sto} {Q : KS} {Qx : KX}
/-- one time, of a number -/
theorem rin_ok (h1 : 2 ≤ b) (h2 : b ≤ 16) (hx : Tx2 600 l) (hr : rd b l = .ok n) (hQ : ∀ x4 x5 x6, Q .nx (riE l b (nI n) x3 x4 x5 x6) st) : ri8b (riE l b (nI n) x3 x4 x5 x6) st Q Qx := by
  have hl := hx.l
  unfold ri8b ri3 ri4 ri5 ri6 ri7 riE
  walk_at "wp"
  refine ⟨l, b, rfl, h1, h2, by omega, hx.o, fun m hm => ?_, fun q hq => by rw [hr] at hq; cases hq⟩
  rw [hr] at hm; cases hm
  walk_at "wp"
  refine ⟨n, n, rfl, ?_⟩
  rw [decide_eq_true rfl]
  walk_at "wp"
  exact hQ _ _ _
/-- one time, of a refusal -/
theorem rie_ok (h1 : 2 ≤ b) (h2 : b ≤ 16) (hx : Tx2 600 l) (hr : rd b l = .error p) (hQ : ∀ x4 x5 x6, Q .nx (riE l b (.tup [.str "number", nI p]) x3 x4 x5 x6) st) : ri8b (riE l b (.tup [.str "number", nI p]) x3 x4 x5 x6) st Q Qx := by
  have hl := hx.l
  unfold ri8b ri3 ri4 ri5 ri6 ri7 riE
  walk_at "wp"
  refine ⟨l, b, rfl, h1, h2, by omega, hx.o, fun m hm => (by rw [hr] at hm; cases hm), fun q hq => ?_⟩
  rw [hr] at hq; cases hq
  walk_at "wp"
  refine .inr (.inr ⟨_, rfl, ?_⟩)
  have o1 : PyData.strOk "number" = true := by decide +kernel
  walk_at "wp"
  rw [← p_ne]
  refine neD_same (by simp [nd, o1]) ?_
  walk_at "wp"
  exact hQ _ _ _
theorem rit_ok {d : D} (hb : ∀ x3 x4 x5 x6 Q, (∀ x4 x5 x6, Q .nx (riE l b d x3 x4 x5 x6) st) → ri8b (riE l b d x3 x4 x5 x6) st Q Qx) (hQ : ∀ x3 x4 x5 x6, Q .nx (riE l b d x3 x4 x5 x6) st) : pTurns (gN 3) ri8b Q Qx (rangeD 0 2) (riE l b d none none none none) st .mk .mk := by
  refine w_range (α := Option Slot × Option Slot × Option Slot × Option Slot) (fun _ _ => True) (fun a => riE l b d a.1 a.2.1 a.2.2.1 a.2.2.2) (fun _ => st) (none, none, none, none) rfl rfl trivial ?_ ?_
  · rintro k ⟨y3, y4, y5, y6⟩ N hk _ hN
    dsimp only
    unfold riE
    walk_at "wp"
    refine hb _ _ _ _ _ fun z4 z5 z6 => ?_
    walk_at "wp"
    exact hN (_, z4, z5, z6) trivial
  · rintro ⟨y3, y4, y5, y6⟩ _
    exact hQ _ _ _ _
end
abbrev Phi__law_right : VL.Spec := fun ds st Q _ => ∃ (l : List Nat) (b : Nat), ds = [.str (SX.S l), nI b] ∧ 2 ≤ b ∧ b ≤ 16 ∧ Tx2 600 l ∧ Q (.bl true) st
theorem m__law_right : ∀ ds st Q Qx, Phi__law_right ds st Q Qx → specW false 7 w__law_right ds st Q Qx := by
  rintro _ st Q Qx ⟨l, b, rfl, h1, h2, hx, hQ⟩
  rw [w_eq__law_right, q_specB, q_seq]
  unfold ri1
  walk_at "wp"
  refine ⟨l, b, rfl, h1, h2, hx, fun n hr => ?_, fun p hr => ?_⟩
  · walk_at "wp"
    unfold ri2
    walk_at "wp"
    refine ⟨by decide, if_intro (fun g => hQ) fun g => ?_⟩
    refine rit_ok (d := nI n) (fun x3 x4 x5 x6 Q hq => rin_ok h1 h2 hx hr hq) fun x3 x4 x5 x6 => ?_
    unfold ri9
    walk_at "wp"
    exact hQ
  · walk_at "wp"
    unfold ri2
    walk_at "wp"
    refine rit_ok (d := .tup [.str "number", nI p]) (fun x3 x4 x5 x6 Q hq => rie_ok h1 h2 hx hr hq) fun x3 x4 x5 x6 => ?_
    unfold ri9
    walk_at "wp"
    exact hQ

/- law
 -/
def w_law : WS :=
  (wSeq (wSet 1 (wCall Phi__law_deck (wCons (wVar 0) wNil)))
  (wSeq (wFor (wIa rng1 (wCons (wC (.int 6)) wNil)) (gN 2) (wSeq (wSet 3 (wAdd (wv (wC (.int 2))) (wv (wCall Phi__law_next (wCons (wVar 1) (wCons (wC (.int 15)) wNil))))))
  (wSeq (wSet 4 (wCall Phi__law_number (wCons (wVar 1) (wCons (wVar 3) (wCons (wPow (wv (wC (.int 10))) (wv (wC (.int 30)))) wNil)))))
  (wSeq (wSet 5 (wM1 joinS (wC (.str "")) (wLc [6] (wIt (wRev (wv (wCall Phi__law_figures (wCons (wVar 4) (wCons (wVar 3) wNil)))))) (gN 6) wYes (wIx (wv (wC (.str "0123456789abcdef"))) (wv (wVar 6))))))
  (wSeq (wSet 7 (wLc [8] (wIa rng1 (wCons (wC (.int 6)) wNil)) (gN 8) wYes (wCall Phi__law_spoilt (wCons (wVar 1) (wCons (wVar 5) (wCons (wVar 3) wNil))))))
  (wSeq (wSet 7 (wAdd (wv (wVar 7)) (wv (wLst (wCons (wAdd (wv (wC (.str " "))) (wv (wVar 5))) (wCons (wAdd (wv (wVar 5)) (wv (wC (.str " ")))) (wCons (wAdd (wv (wVar 5)) (wv (wC (.str "\n")))) (wCons (wAdd (wv (wC (.str "0"))) (wv (wVar 5))) (wCons (wAdd (wv (wC (.str "-"))) (wv (wVar 5))) (wCons (wAdd (wv (wC (.str "+"))) (wv (wVar 5))) (wCons (wUp (wVar 5)) (wCons (wVar 5) wNil))))))))))))
  (wFor (wIt (wAdd (wv (wVar 7)) (wv (wLst (wCons (wCall Phi__law_sign (wCons (wVar 1) (wCons (wVar 3) wNil))) (wCons (wAdd (wv (wAdd (wv (wSlcS (wv (wVar 5)) wNo (wSome (wC (.int 1))))) (wv (wC (.str "_"))))) (wv (wSlcS (wv (wVar 5)) (wSome (wC (.int 1))) wNo))) wNil)))))) (gN 9) (wIte (wOr (wNot (wT (wCall Phi__law_right (wCons (wVar 9) (wCons (wVar 3) wNil))))) (wNot (wT (wCall Phi__law_right (wCons (wVar 9) (wCons (wAdd (wv (wC (.int 2))) (wv (wCall Phi__law_next (wCons (wVar 1) (wCons (wC (.int 15)) wNil))))) wNil)))))) (wRet (wC (.bl false))) wEnd))))))))
  (wSeq (wSet 10 (wIx (wv (wLst (wCons (wC (.str " No such: 7")) (wCons (wC (.str "")) (wCons (wC (.str "a  B")) (wCons (wAdd (wv (wMulS (wv (wC (.str "x"))) (wv (wC (.int 60))))) (wv (wC (.str "\n")))) wNil)))))) (wv (wCall Phi__law_next (wCons (wVar 1) (wCons (wC (.int 4)) wNil))))))
  (wSeq (wIte (wOr (wT (wNe (wv (wLst (wCons (wStrT (wMkT "NoAsk" (wVar 10))) (wCons (wStrT (wMkT "NoStretch" (wVar 10))) wNil)))) (wv (wMul (wv (wLst (wCons (wVar 10) wNil))) (wv (wC (.int 2))))))) (wT (wNe (wv (wCall Phi__law_kind (wCons (wMkN (wC (.int 7))) wNil))) (wv (wTup (wCons (wC (.str "number")) (wCons (wC (.int 7)) wNil))))))) (wRet (wC (.bl false))) wEnd)
  (wRet (wEq (wv (wLc [5] (wIt (wLst (wCons (wC (.str "")) (wCons (wC (.str " ")) (wCons (wC (.str "\n")) (wCons (wC (.str "0")) (wCons (wC (.str "00")) (wCons (wC (.str "0g")) (wCons (wC (.str "1 2")) (wCons (wC (.str "A")) (wCons (wMulS (wv (wC (.str "~"))) (wv (wC (.int 200)))) wNil))))))))))) (gN 5) (wNot (wT (wCall Phi__law_right (wCons (wVar 5) (wCons (wC (.int 16)) wNil))))) (wVar 5))) (wv (wLst wNil))))))))
theorem mapIdx_c {α β : Type} (g : α → β) : ∀ l : List α, l.mapIdx (fun _ c => g c) = l.map g := fun l => by
  rw [List.mapIdx_eq_zipIdx_map]
  rw [show (fun x : α × Nat => g x.1) = g ∘ Prod.fst from rfl, ← List.map_map, List.zipIdx_map_fst]
theorem upper_flat (l : List Nat) : ((l.toArray.mapIdx fun _ c => (Unicode.upperOf c).toArray).flatten).toList = l.flatMap Unicode.upperOf := by
  rw [List.mapIdx_toArray, mapIdx_c]
  simp [List.flatMap, Function.comp_def]
def upc (d : Nat) : Nat := if d < 10 then 48 + d else 55 + d
theorem upper_txt {xs : List Nat} (h : ∀ d ∈ xs, d < 16) : Txt.upper (txt xs) = SX.S (xs.map upc) := by
  have h1 : ∀ d < 16, Unicode.upperOf (hexc d) = [upc d] := by decide +kernel
  have e : (Txt.upper (txt xs)).cps.toList = xs.map upc := by
    show (((xs.map hexc).toArray.mapIdx fun _ c => (Unicode.upperOf c).toArray).flatten).toList = _
    rw [upper_flat]
    induction xs with
    | nil => rfl
    | cons d r ih =>
      rw [List.map_cons, List.flatMap_cons, ih fun x hx => h x (List.mem_cons_of_mem _ hx), h1 d (h d (List.mem_cons_self ..))]
      rfl
  rw [← SX.S_tl (Txt.upper (txt xs))] 
  rw [e]
def lb1 : WS := (wSet 3 (wAdd (wv (wC (.int 2))) (wv (wCall Phi__law_next (wCons (wVar 1) (wCons (wC (.int 15)) wNil))))))
def lb2 : WS := (wSet 4 (wCall Phi__law_number (wCons (wVar 1) (wCons (wVar 3) (wCons (wPow (wv (wC (.int 10))) (wv (wC (.int 30)))) wNil)))))
def lb3 : WS := (wSet 5 (wM1 joinS (wC (.str "")) (wLc [6] (wIt (wRev (wv (wCall Phi__law_figures (wCons (wVar 4) (wCons (wVar 3) wNil)))))) (gN 6) wYes (wIx (wv (wC (.str "0123456789abcdef"))) (wv (wVar 6))))))
def lb4 : WS := (wSet 7 (wLc [8] (wIa rng1 (wCons (wC (.int 6)) wNil)) (gN 8) wYes (wCall Phi__law_spoilt (wCons (wVar 1) (wCons (wVar 5) (wCons (wVar 3) wNil))))))
def lb5 : WS := (wSet 7 (wAdd (wv (wVar 7)) (wv (wLst (wCons (wAdd (wv (wC (.str " "))) (wv (wVar 5))) (wCons (wAdd (wv (wVar 5)) (wv (wC (.str " ")))) (wCons (wAdd (wv (wVar 5)) (wv (wC (.str "\n")))) (wCons (wAdd (wv (wC (.str "0"))) (wv (wVar 5))) (wCons (wAdd (wv (wC (.str "-"))) (wv (wVar 5))) (wCons (wAdd (wv (wC (.str "+"))) (wv (wVar 5))) (wCons (wUp (wVar 5)) (wCons (wVar 5) wNil))))))))))))
def lb6b : WS := (wIte (wOr (wNot (wT (wCall Phi__law_right (wCons (wVar 9) (wCons (wVar 3) wNil))))) (wNot (wT (wCall Phi__law_right (wCons (wVar 9) (wCons (wAdd (wv (wC (.int 2))) (wv (wCall Phi__law_next (wCons (wVar 1) (wCons (wC (.int 15)) wNil))))) wNil)))))) (wRet (wC (.bl false))) wEnd)
def lb6 : WS := (wFor (wIt (wAdd (wv (wVar 7)) (wv (wLst (wCons (wCall Phi__law_sign (wCons (wVar 1) (wCons (wVar 3) wNil))) (wCons (wAdd (wv (wAdd (wv (wSlcS (wv (wVar 5)) wNo (wSome (wC (.int 1))))) (wv (wC (.str "_"))))) (wv (wSlcS (wv (wVar 5)) (wSome (wC (.int 1))) wNo))) wNil)))))) (gN 9) lb6b)
def lb : WS := (wSeq lb1 (wSeq lb2 (wSeq lb3 (wSeq lb4 (wSeq lb5 lb6)))))
def la3 : WS := (wSet 10 (wIx (wv (wLst (wCons (wC (.str " No such: 7")) (wCons (wC (.str "")) (wCons (wC (.str "a  B")) (wCons (wAdd (wv (wMulS (wv (wC (.str "x"))) (wv (wC (.int 60))))) (wv (wC (.str "\n")))) wNil)))))) (wv (wCall Phi__law_next (wCons (wVar 1) (wCons (wC (.int 4)) wNil))))))
def la4 : WS := (wIte (wOr (wT (wNe (wv (wLst (wCons (wStrT (wMkT "NoAsk" (wVar 10))) (wCons (wStrT (wMkT "NoStretch" (wVar 10))) wNil)))) (wv (wMul (wv (wLst (wCons (wVar 10) wNil))) (wv (wC (.int 2))))))) (wT (wNe (wv (wCall Phi__law_kind (wCons (wMkN (wC (.int 7))) wNil))) (wv (wTup (wCons (wC (.str "number")) (wCons (wC (.int 7)) wNil))))))) (wRet (wC (.bl false))) wEnd)
def la5 : WS := (wRet (wEq (wv (wLc [5] (wIt (wLst (wCons (wC (.str "")) (wCons (wC (.str " ")) (wCons (wC (.str "\n")) (wCons (wC (.str "0")) (wCons (wC (.str "00")) (wCons (wC (.str "0g")) (wCons (wC (.str "1 2")) (wCons (wC (.str "A")) (wCons (wMulS (wv (wC (.str "~"))) (wv (wC (.int 200)))) wNil))))))))))) (gN 5) (wNot (wT (wCall Phi__law_right (wCons (wVar 5) (wCons (wC (.int 16)) wNil))))) (wVar 5))) (wv (wLst wNil))))
theorem w_eq_law : w_law = wSeq (wSet 1 (wCall Phi__law_deck (wCons (wVar 0) wNil))) (wSeq (wFor (wIa rng1 (wCons (wC (.int 6)) wNil)) (gN 2) lb) (wSeq la3 (wSeq la4 la5))) := by
  unfold w_law la5 la4 la3 lb lb6 lb6b lb5 lb4 lb3 lb2 lb1; with_reducible rfl
def lE (ns : List Int) (x2 x3 x4 x5 x7 x9 x10 : Option Slot) : EnvD := [some (.sh (.scr ns)), some (.sh (.hnd 0)), x2, x3, x4, x5, none, x7, none, x9, x10]
section
variable {ns : List Int} {b n : Nat} {T : Int} {rest : Sto} {xs : List Nat} {L : List (List Nat)} {x2 x3 x4 x5 x7 x9 x10 : Option Slot} {st : Sto} {Q : KS} {Qx : KX}
theorem lb1_ok (hT : T ≤ 10 ^ 6) (hd : Dk T rest st) (hQ : ∀ (b : Nat) st', 2 ≤ b → b ≤ 16 → Dk (T + 1) rest st' → Q .nx (lE ns x2 (some (.sh (nI b))) x4 x5 x7 x9 x10) st') : lb1 (lE ns x2 x3 x4 x5 x7 x9 x10) st Q Qx := by
  unfold lb1 lE
  walk_at "wp"
  refine ⟨15, T, rest, rfl, by decide, by decide, by omega, hd, fun r st1 r0 r1 hd1 => ?_⟩
  walk_at "wp"
  have er : ((2 + r.toNat : Nat) : Int) = 2 + r := by push_cast; rw [Int.toNat_of_nonneg (by omega)]
  have := hQ (2 + r.toNat) st1 (by omega) (by omega) hd1
  unfold lE at this
  simp only [nI, er] at this
  exact this
theorem lb2_ok (h1 : 2 ≤ b) (h2 : b ≤ 16) (hT : T ≤ 10 ^ 6) (hd : Dk T rest st) (hQ : ∀ (n : Nat) st', n ≤ 10 ^ 30 → Dk (T + 20) rest st' → Q .nx (lE ns x2 (some (.sh (nI b))) (some (.sh (nI n))) x5 x7 x9 x10) st') : lb2 (lE ns x2 (some (.sh (nI b))) x4 x5 x7 x9 x10) st Q Qx := by
  unfold lb2 lE
  walk_at "wp"
  refine ⟨by decide, b, 10 ^ 30, T, rest, rfl, by omega, by omega, by decide, by decide, by omega, hd, fun r st1 r0 r1 hd1 => ?_⟩
  walk_at "wp"
  have := hQ r.toNat st1 (by omega) hd1
  unfold lE at this
  simp only [nI, Int.toNat_of_nonneg r0] at this
  exact this
theorem lb3_ok (h1 : 2 ≤ b) (h2 : b ≤ 16) (hn : n ≤ 10 ^ 30) (hQ : ∀ xs : List Nat, xs.length ≤ 101 → (∀ d ∈ xs, d < 16) → Q .nx (lE ns x2 (some (.sh (nI b))) (some (.sh (nI n))) (some (.sh (.str (txt xs)))) x7 x9 x10) st) : lb3 (lE ns x2 (some (.sh (nI b))) (some (.sh (nI n))) x5 x7 x9 x10) st Q Qx := by
  unfold lb3 lE
  walk_at "wp"
  refine ⟨n, b, rfl, by omega, by omega, Nat.lt_of_le_of_lt hn (by decide +kernel), ?_⟩
  walk_at "wp"
  rw [← List.map_reverse]
  have hs := figs_small h1 n
  have hl : (figs b n).length ≤ 101 := figs_len h1 100 n (Nat.lt_of_le_of_lt hn (by decide +kernel))
  refine w_lcp nI (fun _ => true) (fun d => D.str ⟨#[hexc d]⟩) _ (by rw [List.length_reverse]; omega) (fun d hd N M hN hM => ?_) ?_
  · have hd16 : d < 16 := by have := hs d (List.mem_reverse.mp hd); omega
    walk_at "wp"
    refine ⟨by decide +kernel, p_chr_at (hex_at hd16) ?_⟩
    walk_at "wp"
    exact hN rfl
  rw [List.filter_eq_self.mpr (by simp)]
  walk_at "wp"
  unfold pMS joinS
  dsimp only
  rw [show ((figs b n).reverse.map fun d => D.str ⟨#[hexc d]⟩) = ((figs b n).reverse.map fun d => (⟨#[hexc d]⟩ : Str)).map D.str by rw [List.map_map]; rfl, strsOf_map]
  dsimp only
  refine ⟨?_, ?_⟩
  · rw [List.map_map]
    have : ∀ l : List Nat, (l.map ((fun x : Str => x.length) ∘ fun d => (⟨#[hexc d]⟩ : Str))).sum = l.length := fun l => by
      induction l with
      | nil => rfl
      | cons x l ih => rw [List.map_cons, List.sum_cons, ih, List.length_cons]; simp [Str.length]; omega
    rw [this, List.length_map, List.length_reverse]
    show (figs b n).length + (figs b n).length * 0 ≤ _
    omega
  · have := join_txt (figs b n).reverse
    rw [show Txt.join (Str.ofString "") _ = _ from this]
    exact hQ _ (by rw [List.length_reverse]; exact hl) fun d hd => by have := hs d (List.mem_reverse.mp hd); omega
theorem lb4_ok (h1 : 2 ≤ b) (h2 : b ≤ 16) (hl : xs.length ≤ 101) (hx : ∀ d ∈ xs, d < 16) (hT : T ≤ 10 ^ 5) (hd : Dk T rest st) (hQ : ∀ (L : List (List Nat)) st', L.length = 6 → (∀ l ∈ L, Tx2 300 l) → Dk (T + 120) rest st' → Q .nx (lE ns x2 (some (.sh (nI b))) x4 (some (.sh (.str (txt xs)))) (some (.sh (.lst (L.map fun l => .str (SX.S l))))) x9 x10) st') :
    lb4 (lE ns x2 (some (.sh (nI b))) x4 (some (.sh (.str (txt xs)))) x7 x9 x10) st Q Qx := by
  unfold lb4 lE
  walk_at "wp"
  have tx : Tx2 101 (xs.map hexc) := ⟨by rw [List.length_map]; exact hl, fun c hc => by
    obtain ⟨d, hd, rfl⟩ := List.mem_map.mp hc
    have := hx d hd
    unfold hexc; split <;> omega⟩
  unfold rangeD
  refine w_lc (α := List (List Nat) × Sto) (fun i : Nat => D.int (0 + (i : Int))) (fun r acc a => acc = a.1.map (fun l => .str (SX.S l)) ∧ a.1.length + r.length = 6 ∧ (∀ l ∈ a.1, Tx2 300 l) ∧ Dk (T + 20 * a.1.length) rest a.2) (fun _ => [some (.sh (.scr ns)), some (.sh (.hnd 0)), x2, some (.sh (nI b)), x4, some (.sh (.str (txt xs))), none, x7, none, x9, x10]) (fun a => a.2) (List.range 6) [] ([], st) rfl rfl ⟨rfl, by simp, by simp, hd.le (by simp)⟩ ?_ ?_
  · rintro i r acc ⟨L, st2⟩ N ⟨rfl, e1, e2, hd2⟩ hN
    dsimp only at e1 e2 hd2
    rw [List.length_cons] at e1
    walk_at "wp"
    refine ⟨xs.map hexc, b, _, rest, rfl, h1, h2, ⟨by have := tx.l; omega, tx.o⟩, by omega, hd2, fun l' st3 hl' hd3 => ?_⟩
    walk_at "wp"
    refine ⟨by omega, ?_⟩
    refine hN _ (L ++ [l'], st3) ⟨by rw [List.map_append]; rfl, ?_, fun l hl2 => ?_, hd3.le ?_⟩
    · dsimp only; rw [List.length_append, List.length_singleton]; omega
    · rcases List.mem_append.mp hl2 with h | h
      · exact e2 l h
      · rw [List.mem_singleton.mp h]; exact hl'.le (by have := tx.l; omega)
    · dsimp only; rw [List.length_append, List.length_singleton]; push_cast; omega
  · rintro acc ⟨L, st2⟩ ⟨rfl, e1, e2, hd2⟩
    dsimp only at e1 e2 hd2
    walk_at "wp"
    exact hQ L st2 (by simpa using e1) e2 (hd2.le (by simp at e1; omega))
def dS (l : List Nat) : D := .str (SX.S l)
theorem strg_le {a : String} {n : Nat} (h1 : (cs a).length ≤ n) (h2 : ∀ c ∈ cs a, c < 1114112) : Tx2 n (cs a) := ⟨h1, h2⟩
theorem preS (a : String) (F : List Nat) : (Str.ofString a ++ SX.S F : Str) = SX.S (cs a ++ F) := by rw [← S_cs, SX.S_cat]
theorem sufS (G : List Nat) (z : String) : (SX.S G ++ Str.ofString z : Str) = SX.S (G ++ cs z) := by rw [← S_cs, SX.S_cat]
theorem txh {xs : List Nat} (hl : xs.length ≤ 101) (hx : ∀ d ∈ xs, d < 16) : Tx2 101 (xs.map hexc) := ⟨by rw [List.length_map]; exact hl, fun c hc => by
    obtain ⟨d, hd, rfl⟩ := List.mem_map.mp hc
    have := hx d hd
    unfold hexc; split <;> omega⟩
theorem lb5_ok (hl : xs.length ≤ 101) (hx : ∀ d ∈ xs, d < 16) (hL : ∀ l ∈ L, Tx2 300 l) (hL2 : L.length = 6) (hQ : ∀ (L : List (List Nat)), L.length ≤ 20 → (∀ l ∈ L, Tx2 300 l) → Q .nx (lE ns x2 x3 x4 (some (.sh (.str (txt xs)))) (some (.sh (.lst (L.map fun l => .str (SX.S l))))) x9 x10) st) :
    lb5 (lE ns x2 x3 x4 (some (.sh (.str (txt xs)))) (some (.sh (.lst (L.map fun l => .str (SX.S l))))) x9 x10) st Q Qx := by
  have n1 : (txt xs).length ≤ 101 := by rw [txt_len]; exact hl
  have tx := txh hl hx
  have tu : Tx2 101 (xs.map upc) := ⟨by rw [List.length_map]; exact hl, fun c hc => by
    obtain ⟨d, hd, rfl⟩ := List.mem_map.mp hc
    have := hx d hd
    unfold upc; split <;> omega⟩
  have t1 : ∀ a ∈ [" ", "\n", "0", "-", "+"], Tx2 1 (cs a) ∧ (Str.ofString a).length ≤ 1 := fun a ha => by
    have h : ∀ a ∈ [" ", "\n", "0", "-", "+"], ((cs a).length ≤ 1 ∧ ∀ c ∈ cs a, c < 1114112) ∧ (Str.ofString a).length ≤ 1 := by decide +kernel
    exact ⟨⟨(h a ha).1.1, (h a ha).1.2⟩, (h a ha).2⟩
  unfold lb5 lE
  walk_at "wp"
  have q1 := t1 " " (by decide)
  have q2 := t1 "\n" (by decide)
  have q3 := t1 "0" (by decide)
  have q4 := t1 "-" (by decide)
  have q5 := t1 "+" (by decide)
  have l1 := q1.2
  have l2 := q2.2
  have l3 := q3.2
  have l4 := q4.2
  have l5 := q5.2
  refine ⟨by omega, by omega, by omega, by omega, by omega, by omega, by omega, by omega, ?_⟩
  rw [upper_txt hx, show txt xs = SX.S (xs.map hexc) from rfl, preS, preS, preS, preS, sufS, sufS]
  have h := hQ (L ++ [cs " " ++ xs.map hexc, xs.map hexc ++ cs " ", xs.map hexc ++ cs "\n", cs "0" ++ xs.map hexc, cs "-" ++ xs.map hexc, cs "+" ++ xs.map hexc, xs.map upc, xs.map hexc]) (by simp; omega) (fun l hl => ?_)
  · rw [List.map_append] at h
    exact h
  · rcases List.mem_append.mp hl with h | h
    · exact hL l h
    · simp only [List.mem_cons, List.not_mem_nil, or_false] at h
      rcases h with rfl | rfl | rfl | rfl | rfl | rfl | rfl | rfl
      · exact (q1.1.cat tx).le (by decide)
      · exact (tx.cat q1.1).le (by decide)
      · exact (tx.cat q2.1).le (by decide)
      · exact (q3.1.cat tx).le (by decide)
      · exact (q4.1.cat tx).le (by decide)
      · exact (q5.1.cat tx).le (by decide)
      · exact tu.le (by decide)
      · exact tx.le (by decide)
theorem lb6_ok (h1 : 2 ≤ b) (h2 : b ≤ 16) (hl : xs.length ≤ 101) (hx : ∀ d ∈ xs, d < 16) (hL : ∀ l ∈ L, Tx2 300 l) (hL2 : L.length ≤ 20) (hT : T ≤ 10 ^ 5) (hd : Dk T rest st) (hQ : ∀ x9 st', Dk (T + 40) rest st' → Q .nx (lE ns x2 (some (.sh (nI b))) x4 (some (.sh (.str (txt xs)))) (some (.sh (.lst (L.map fun l => .str (SX.S l))))) x9 x10) st') :
    lb6 (lE ns x2 (some (.sh (nI b))) x4 (some (.sh (.str (txt xs)))) (some (.sh (.lst (L.map fun l => .str (SX.S l))))) x9 x10) st Q Qx := by
  have n1 : (txt xs).length ≤ 101 := by rw [txt_len]; exact hl
  have tx := txh hl hx
  have s1 : Txt.slice (txt xs) none (some 1) = SX.S ((xs.map hexc).take 1) := SX.slice_to (by decide)
  have s2 : Txt.slice (txt xs) (some 1) none = SX.S ((xs.map hexc).drop 1) := SX.slice_from (by decide)
  have z1 : (SX.S ((xs.map hexc).take 1)).length ≤ 101 := by rw [SX.S_len, List.length_take]; omega
  have z2 : (SX.S ((xs.map hexc).drop 1)).length ≤ 101 := by rw [SX.S_len, List.length_drop, List.length_map]; omega
  have tz : Tx2 1 (cs "_") := ⟨by decide +kernel, by decide +kernel⟩
  have z3 : (Str.ofString "_").length = 1 := by decide +kernel
  have z4 : (SX.S ((xs.map hexc).take 1 ++ cs "_")).length ≤ 102 := by rw [SX.S_len, List.length_append, List.length_take]; have := tz.l; omega
  unfold lb6 lE
  walk_at "wp"
  refine ⟨b, T, rest, rfl, h1, h2, by omega, hd, fun c st1 hc hd1 => ?_⟩
  walk_at "wp"
  rw [s1, s2, sufS]
  refine ⟨by omega, by omega, by omega, by omega, ?_⟩
  refine ⟨by omega, ?_⟩
  rw [SX.S_cat]
  have ht : ∀ l ∈ L ++ [[c], (xs.map hexc).take 1 ++ cs "_" ++ (xs.map hexc).drop 1], Tx2 600 l := fun l h => by
    rcases List.mem_append.mp h with h | h
    · exact (hL l h).le (by decide)
    · simp only [List.mem_cons, List.not_mem_nil, or_false] at h
      rcases h with rfl | rfl
      · exact ⟨by simp, fun z hz => by rw [List.mem_singleton.mp hz]; exact hc⟩
      · have a1 : Tx2 101 ((xs.map hexc).take 1) := ⟨by rw [List.length_take]; omega, fun z hz => tx.o z (List.mem_of_mem_take hz)⟩
        have a2 : Tx2 101 ((xs.map hexc).drop 1) := ⟨by rw [List.length_drop, List.length_map]; omega, fun z hz => tx.o z (List.mem_of_mem_drop hz)⟩
        exact ((a1.cat tz).cat a2).le (by decide)
  have hn : (L ++ [[c], (xs.map hexc).take 1 ++ cs "_" ++ (xs.map hexc).drop 1]).length ≤ 22 := by simp; omega
  have em : (L.map fun l => D.str (SX.S l)) ++ [D.str (SX.S [c]), D.str (SX.S ((xs.map hexc).take 1 ++ cs "_" ++ (xs.map hexc).drop 1))] = (L ++ [[c], (xs.map hexc).take 1 ++ cs "_" ++ (xs.map hexc).drop 1]).map fun l => D.str (SX.S l) := by
    rw [List.map_append]; rfl
  rw [em]
  generalize hM : L ++ [[c], (xs.map hexc).take 1 ++ cs "_" ++ (xs.map hexc).drop 1] = M at ht hn
  refine w_each (fun l => D.str (SX.S l)) (α := Option Slot × Sto) (fun done a => Dk (T + 3 + done.length) rest a.2) (fun a => [some (.sh (.scr ns)), some (.sh (.hnd 0)), x2, some (.sh (nI b)), x4, some (.sh (.str (txt xs))), none, some (.sh (.lst (L.map fun l => .str (SX.S l)))), none, a.1, x10]) (fun a => a.2) M (x9, st1) rfl rfl (hd1.le (by simp)) ?_ ?_
  · rintro done l r ⟨y9, s2⟩ N he hd2 hN
    dsimp only at hd2 ⊢
    have hl2 := ht l (by rw [he]; simp)
    have hlen := congrArg List.length he
    rw [List.length_append, List.length_cons] at hlen
    unfold lb6b
    walk_at "wp"
    refine ⟨l, b, rfl, h1, h2, hl2, ?_⟩
    walk_at "wp"
    refine ⟨15, _, rest, rfl, by decide, by decide, by omega, hd2, fun r st3 r0 r1 hd3 => ?_⟩
    walk_at "wp"
    refine ⟨l, (2 + r).toNat, by simp only [nI, Int.toNat_of_nonneg (show 0 ≤ 2 + r by omega)], by omega, by omega, hl2, ?_⟩
    walk_at "wp"
    exact hN (_, st3) (hd3.le (by rw [List.length_append, List.length_singleton]; push_cast; omega))
  · rintro ⟨y9, s2⟩ hd2
    exact hQ y9 s2 (hd2.le (by omega))
theorem la3_ok (hT : T ≤ 10 ^ 6) (hd : Dk T rest st) (hQ : ∀ (s : Str) st', PyData.strOk s = true → Q .nx (lE ns x2 x3 x4 x5 x7 x9 (some (.sh (.str s)))) st') : la3 (lE ns x2 x3 x4 x5 x7 x9 x10) st Q Qx := by
  unfold la3 lE
  walk_at "wp"
  refine ⟨by decide +kernel, by decide +kernel, 4, T, rest, rfl, by decide, by decide, by omega, hd, fun z st1 z0 z1 hd1 => ?_⟩
  walk_at "wp"
  rcases (by omega : z = 0 ∨ z = 1 ∨ z = 2 ∨ z = 3) with rfl | rfl | rfl | rfl
  · exact p_at atI_0 (hQ _ st1 (by decide +kernel))
  · exact p_at atI_1 (hQ _ st1 (by decide +kernel))
  · exact p_at atI_2 (hQ _ st1 (by decide +kernel))
  · exact p_at atI_3 (hQ _ st1 (by decide +kernel))
theorem la4_ok {s : Str} (hs : PyData.strOk s = true) (hQ : Q .nx (lE ns x2 x3 x4 x5 x7 x9 (some (.sh (.str s)))) st) : la4 (lE ns x2 x3 x4 x5 x7 x9 (some (.sh (.str s)))) st Q Qx := by
  have o1 : PyData.strOk "number" = true := by decide +kernel
  unfold la4 lE
  walk_at "wp"
  refine ⟨by decide, ?_⟩
  rw [show [[D.str s], [D.str s]].flatten = [D.str s, D.str s] from rfl, ← p_ne]
  refine neD_same (by simp [nd, hs]) ?_
  walk_at "wp"
  refine .inr (.inr ⟨_, rfl, ?_⟩)
  walk_at "wp"
  rw [← p_ne]
  refine neD_same (by simp [nd, o1]) ?_
  walk_at "wp"
  exact hQ
def k9 : List (List Nat) := [cs "", cs " ", cs "\n", cs "0", cs "00", cs "0g", cs "1 2", cs "A", List.replicate 200 126]
theorem la5_ok (hQ : ∀ e, Q (.rt (.bl true)) e st) : la5 (lE ns x2 x3 x4 x5 x7 x9 x10) st Q Qx := by
  have e9 : Txt.mul (Str.ofString "~") 200 = SX.S (List.replicate 200 126) := by decide +kernel
  have h9 : ∀ l ∈ k9, l.length ≤ 600 ∧ ∀ c ∈ l, c < 1114112 := by decide +kernel
  unfold la5 lE
  walk_at "wp"
  refine ⟨by decide +kernel, ?_⟩
  rw [e9]
  rw [show [D.str (Str.ofString ""), D.str (Str.ofString " "), D.str (Str.ofString "\n"), D.str (Str.ofString "0"), D.str (Str.ofString "00"), D.str (Str.ofString "0g"), D.str (Str.ofString "1 2"), D.str (Str.ofString "A"), D.str (SX.S (List.replicate 200 126))] = k9.map fun l => D.str (SX.S l) by
    unfold k9; simp only [List.map_cons, List.map_nil, S_cs]]
  refine w_lcp (fun l => D.str (SX.S l)) (fun _ => false) (fun _ => D.int 1) k9 (by decide) (fun l hl N M _ hM => ?_) ?_
  · walk_at "wp"
    refine ⟨l, 16, rfl, by decide, by decide, ⟨(h9 l hl).1, (h9 l hl).2⟩, ?_⟩
    walk_at "wp"
    exact hM rfl
  · rw [List.filter_eq_nil_iff.mpr (by simp)]
    walk_at "wp"
    refine eqD_same (by rfl) ?_
    exact hQ _
end
theorem m_law_law : ∀ ds st Q Qx, PhiLaw ds st Q Qx → specW false 11 w_law ds st Q Qx := by
  rintro _ st Q Qx ⟨ns, rfl, hns, rfl, hQ⟩
  rw [w_eq_law]
  walk_at "wp"
  refine ⟨ns, rfl, hns, rfl, fun st1 hd1 => ?_⟩
  walk_at "wp"
  refine w_range (α := Option Slot × Option Slot × Option Slot × Option Slot × Option Slot × Option Slot × Sto) (fun k a => Dk (300 * (k : Int)) [] a.2.2.2.2.2.2) (fun a => lE ns a.1 a.2.1 a.2.2.1 a.2.2.2.1 a.2.2.2.2.1 a.2.2.2.2.2.1 none) (fun a => a.2.2.2.2.2.2) (none, none, none, none, none, none, st1) rfl rfl (hd1.le (by omega)) ?_ ?_
  · rintro k ⟨y2, y3, y4, y5, y7, y9, s⟩ N hk hd2 hN
    dsimp only at hd2 ⊢
    rw [show gN 2 = gN 2 from rfl]
    unfold lE
    walk_at "wp"
    show lb (lE ns (some (.sh (.int (0 + k)))) y3 y4 y5 y7 y9 none) s _ _
    unfold lb
    rw [q_seq]
    refine lb1_ok (by omega) hd2 fun b s1 b1 b2 hd3 => ?_
    rw [q_seq1, q_seq]
    refine lb2_ok b1 b2 (by omega) hd3 fun n s2 hn hd4 => ?_
    rw [q_seq1, q_seq]
    refine lb3_ok b1 b2 hn fun xs hl hx => ?_
    rw [q_seq1, q_seq]
    refine lb4_ok b1 b2 hl hx (by omega) hd4 fun L s3 hL1 hL2 hd5 => ?_
    rw [q_seq1, q_seq]
    refine lb5_ok hl hx hL2 hL1 fun L2 hL3 hL4 => ?_
    rw [q_seq1]
    refine lb6_ok b1 b2 hl hx hL4 hL3 (by omega) hd5 fun z9 s4 hd6 => ?_
    walk_at "wp"
    exact hN (_, _, _, _, _, _, s4) (hd6.le (by push_cast; omega))
  · rintro ⟨y2, y3, y4, y5, y7, y9, s⟩ hd2
    dsimp only at hd2 ⊢
    rw [show ∀ (q : KS) (x : KX) e t, kSeq (wSeq la3 (wSeq la4 la5)) q x .nx e t = (wSeq la3 (wSeq la4 la5)) e t q x from fun _ _ _ _ => rfl]
    rw [q_seq]
    refine la3_ok (by omega) hd2 fun z s1 hz => ?_
    rw [q_seq1, q_seq]
    refine la4_ok hz ?_
    rw [q_seq1]
    refine la5_ok fun e => ?_
    exact hQ _

section
open PySem PySem.Spec PyProof.Rows L2 VL
structure Tx (mg : Str → Option Value) : Prop where
  z_ValueError : mg "ValueError" = none
  z_bool : mg "bool" = none
  z_enumerate : mg "enumerate" = none
  z_int : mg "int" = none
  z_isinstance : mg "isinstance" = none
  z_len : mg "len" = none
  z_max : mg "max" = none
  z_min : mg "min" = none
  z_range : mg "range" = none
  z_str : mg "str" = none
  z_sum : mg "sum" = none
  z_tuple : mg "tuple" = none
  c_FIGURES : ∃ t, mg "FIGURES" = some (.str "0123456789abcdef" t)
variable {P : Program} {wd : World} {K : PySem.W.Frag} {mg : Str → Option Value} {base : Heap} {Cl : Str → Option Addr}
theorem sc_read_number : FnScope ["text", "base", "number", "place", "sign"] ["text", "base"] (defScope s_read_number) := ⟨rfl, rfl, rfl, by decide +kernel, rfl, by decide +kernel, by decide +kernel⟩
theorem ok_read_number {f : Addr} {fd : FuncData} (F : FnP K "read_number" s_read_number f fd) (m : mg "read_number" = some (.ref f)) (T : Tx mg) (xf : ExF csL K mg Cl) (c_NN : CalleeN P wd K mg base Cl 1) : Callee P wd K mg base Cl "read_number" 3 2 false Phi_read_number :=
  mk_calleeQ (w := w_read_number) F sc_read_number m (fun _ _ _ _ _ _ us hl => match us, hl with | [_, _], _ => rfl) (fun cdv A outer s H E Fr W hr tk hp => (s_cons (s_if (t_bool (w_or (t_eq hr.units rfl (o_val (e_var (pv 0))) (o_val e_str)) (w_or1 (t_bool (w_and (t_eq hr.units rfl (o_val (e_ix (hu_of hr) rfl (o_val (e_var (pv 0))) (o_val e_int))) (o_val e_str)) (w_and1 (t_ne hr.units rfl (o_val (e_var (pv 0))) (o_val e_str)))))))) (s_one (s_raiseN c_NN hr (by decide) rfl tk (by rfl) e_int)) s_nil)
    (s_cons (s_set (i := 2) sc_read_number.nd rfl (by first | exact .inl rfl | exact .inr rfl) e_int)
    (s_cons (s_for hp rfl (i_enumS (by rfl) T.z_enumerate (a_cons (e_var (pv 0)) a_nil)) (g_tup rfl rfl (gs_cons (g_name (i := 3) (fun l h => by cases h) sc_read_number.nd rfl (by first | exact .inl rfl | exact .inr rfl)) (gs_cons (g_name (i := 4) (fun l h => by cases h) sc_read_number.nd rfl (by first | exact .inl rfl | exact .inr rfl)) gs_nil))) (s_cons (s_if (t_nin (hu_of hr) (o_val (e_var (pv 4))) (o_val (e_slcS (o_val (e_gS (by rfl) T.c_FIGURES)) sl_no (sl_some (e_var (pv 1)))))) (s_one (s_raiseN c_NN hr (by decide) rfl tk (by rfl) (e_var (pv 3)))) s_nil)
    (s_one (s_set (i := 2) sc_read_number.nd rfl (by first | exact .inl rfl | exact .inr rfl) (e_add rfl (o_val (e_mul rfl (o_val (e_var (pv 2))) (o_val (e_var (pv 1))))) (o_val (e_index (e_gS (by rfl) T.c_FIGURES) (e_var (pv 4)))))))))
    (s_one (s_ret rfl (e_var (pv 2)))))))) m_read_number
theorem sc__law_mix : FnScope ["cell", "k", "number"] ["cell", "k"] (defScope s__law_mix) := ⟨rfl, rfl, rfl, by decide +kernel, rfl, by decide +kernel, by decide +kernel⟩
theorem ok__law_mix {f : Addr} {fd : FuncData} (F : FnP K "_law_mix" s__law_mix f fd) (m : mg "_law_mix" = some (.ref f)) (T : Tx mg) (xf : ExF csL K mg Cl)  : Callee P wd K mg base Cl "_law_mix" 1 2 false Phi__law_mix :=
  mk_calleeQ (w := w__law_mix) F sc__law_mix m (fun _ _ _ _ _ _ us hl => match us, hl with | [_, _], _ => rfl) (fun cdv A outer s H E Fr W hr tk hp => (s_cons (s_set (i := 2) sc__law_mix.nd rfl (by first | exact .inl rfl | exact .inr rfl) (e_add rfl (o_val (e_mod (o_val (e_var (pv 0))) (o_val e_int))) (o_val (e_mul rfl (o_val (e_mul rfl (o_val e_int) (o_val (e_var (pv 1))))) (o_val (e_var (pv 1)))))))
    (s_cons (s_set (i := 2) sc__law_mix.nd rfl (by first | exact .inl rfl | exact .inr rfl) (e_mod (o_val (e_add rfl (o_val (e_var (pv 2))) (o_val (e_mul rfl (o_val e_int) (o_val (e_var (pv 1))))))) (o_val e_int)))
    (s_cons (s_set (i := 2) sc__law_mix.nd rfl (by first | exact .inl rfl | exact .inr rfl) (e_mod (o_val (e_mul rfl (o_val (e_var (pv 2))) (o_val (e_var (pv 2))))) (o_val e_int)))
    (s_one (s_ret rfl (e_div (o_val (e_mod (o_val (e_mul rfl (o_val (e_var (pv 2))) (o_val (e_add rfl (o_val (e_var (pv 2))) (o_val e_int))))) (o_val e_int))) (o_val e_int)))))))) m__law_mix
theorem sc__law_deck : FnScope ["script"] ["script"] (defScope s__law_deck) := ⟨rfl, rfl, rfl, by decide +kernel, rfl, by decide +kernel, by decide +kernel⟩
theorem ok__law_deck {f : Addr} {fd : FuncData} (F : FnP K "_law_deck" s__law_deck f fd) (m : mg "_law_deck" = some (.ref f)) (T : Tx mg) (xf : ExF csL K mg Cl)  : Callee P wd K mg base Cl "_law_deck" 1 1 false Phi__law_deck :=
  mk_calleeQ (w := w__law_deck) F sc__law_deck m (fun _ _ _ _ _ _ us hl => match us, hl with | [_], _ => rfl) (fun cdv A outer s H E Fr W hr tk hp => (s_one (s_ret rfl (e_hl (a_cons (f_toE (f_slc rfl (o_val (e_var (pv 0))) sl_no (sl_some e_int))) (a_cons e_int (a_cons e_int (a_cons e_int (a_cons (e_sum rfl rfl (by rfl) T.z_sum (o_val (f_toE (f_slc rfl (o_val (e_var (pv 0))) sl_no (sl_some e_int))))) a_nil))))))))) m__law_deck
theorem sc__law_next : FnScope ["deck", "many", "cell", "found"] ["deck", "many"] (defScope s__law_next) := ⟨rfl, rfl, rfl, by decide +kernel, rfl, by decide +kernel, by decide +kernel⟩
theorem ok__law_next {f : Addr} {fd : FuncData} (F : FnP K "_law_next" s__law_next f fd) (m : mg "_law_next" = some (.ref f)) (T : Tx mg) (xf : ExF csL K mg Cl) (c__law_mix : Callee P wd K mg base Cl "_law_mix" 1 2 false Phi__law_mix) : Callee P wd K mg base Cl "_law_next" 2 2 false Phi__law_next :=
  mk_calleeQ (w := w__law_next) F sc__law_next m (fun _ _ _ _ _ _ us hl => match us, hl with | [_, _], _ => rfl) (fun cdv A outer s H E Fr W hr tk hp => (s_cons (s_if (t_bool (w_and (t_eq hr.units rfl (o_val (e_ix (hu_of hr) rfl (o_val (e_var (pv 0))) (o_val e_int))) (o_val e_int)) (w_and1 (t_lt (o_val (e_ix (hu_of hr) rfl (o_val (e_var (pv 0))) (o_val e_int))) (o_val (e_len rfl (by rfl) T.z_len (o_val (e_ix (hu_of hr) rfl (o_val (e_var (pv 0))) (o_val e_int))))))))) (s_cons (s_set (i := 2) sc__law_next.nd rfl (by first | exact .inl rfl | exact .inr rfl) (e_ix (hu_of hr) rfl (o_val (e_ix (hu_of hr) rfl (o_val (e_var (pv 0))) (o_val e_int))) (o_val (e_ix (hu_of hr) rfl (o_val (e_var (pv 0))) (o_val e_int)))))
    (s_cons (s_put (hu_of hr) (o_val (e_var (pv 0))) e_int (e_add rfl (o_val (e_ix (hu_of hr) rfl (o_val (e_var (pv 0))) (o_val e_int))) (o_val e_int)))
    (s_cons (s_if (t_lt (o_val (e_var (pv 2))) (o_val (e_pow (o_val e_int) (o_val e_int)))) (s_one (s_ret rfl (e_mod (o_val (e_own c__law_mix rfl hr (by decide) (by rfl) tk (a_cons (e_var (pv 2)) (a_cons (e_ix (hu_of hr) rfl (o_val (e_var (pv 0))) (o_val e_int)) a_nil)))) (o_val (e_var (pv 1)))))) s_nil)
    (s_one (s_put (hu_of hr) (o_val (e_var (pv 0))) e_int (e_var (pv 2))))))) s_nil)
    (s_cons (s_if (t_gt (o_val (e_ix (hu_of hr) rfl (o_val (e_var (pv 0))) (o_val e_int))) (o_val e_int)) (s_cons (s_set (i := 3) sc__law_next.nd rfl (by first | exact .inl rfl | exact .inr rfl) (e_mod (o_val (e_ix (hu_of hr) rfl (o_val (e_var (pv 0))) (o_val e_int))) (o_val (e_var (pv 1)))))
    (s_cons (s_put (hu_of hr) (o_val (e_var (pv 0))) e_int (e_div (o_val (e_ix (hu_of hr) rfl (o_val (e_var (pv 0))) (o_val e_int))) (o_val (e_var (pv 1)))))
    (s_one (s_ret rfl (e_var (pv 3)))))) s_nil)
    (s_cons (s_put (hu_of hr) (o_val (e_var (pv 0))) e_int (e_add rfl (o_val (e_ix (hu_of hr) rfl (o_val (e_var (pv 0))) (o_val e_int))) (o_val e_int)))
    (s_one (s_ret rfl (e_mod (o_val (e_own c__law_mix rfl hr (by decide) (by rfl) tk (a_cons (e_ix (hu_of hr) rfl (o_val (e_var (pv 0))) (o_val e_int)) (a_cons (e_add rfl (o_val (e_ix (hu_of hr) rfl (o_val (e_var (pv 0))) (o_val e_int))) (o_val e_int)) a_nil)))) (o_val (e_var (pv 1)))))))))) m__law_next
theorem sc__law_great : FnScope ["deck", "most", "found", "k"] ["deck", "most"] (defScope s__law_great) := ⟨rfl, rfl, rfl, by decide +kernel, rfl, by decide +kernel, by decide +kernel⟩
theorem ok__law_great {f : Addr} {fd : FuncData} (F : FnP K "_law_great" s__law_great f fd) (m : mg "_law_great" = some (.ref f)) (T : Tx mg) (xf : ExF csL K mg Cl) (c__law_next : Callee P wd K mg base Cl "_law_next" 2 2 false Phi__law_next) : Callee P wd K mg base Cl "_law_great" 3 2 false Phi__law_great :=
  mk_calleeQ (w := w__law_great) F sc__law_great m (fun _ _ _ _ _ _ us hl => match us, hl with | [_, _], _ => rfl) (fun cdv A outer s H E Fr W hr tk hp => (s_cons (s_set (i := 2) sc__law_great.nd rfl (by first | exact .inl rfl | exact .inr rfl) e_int)
    (s_cons (s_for hp rfl (i_range1 (by rfl) T.z_range (a_cons e_int a_nil)) (g_name (i := 3) (fun l h => by cases h) sc__law_great.nd rfl (by first | exact .inl rfl | exact .inr rfl)) (s_one (s_set (i := 2) sc__law_great.nd rfl (by first | exact .inl rfl | exact .inr rfl) (e_add rfl (o_val (e_mul rfl (o_val (e_var (pv 2))) (o_val (e_pow (o_val e_int) (o_val e_int))))) (o_val (e_own c__law_next rfl hr (by decide) (by rfl) tk (a_cons (e_var (pv 0)) (a_cons (e_pow (o_val e_int) (o_val e_int)) a_nil))))))))
    (s_one (s_ret rfl (e_mod (o_val (e_var (pv 2))) (o_val (e_var (pv 1))))))))) m__law_great
theorem sc__law_number : FnScope ["deck", "base", "most", "power", "rep", "figure", "k", "some"] ["deck", "base", "most"] (defScope s__law_number) := ⟨rfl, rfl, rfl, by decide +kernel, rfl, by decide +kernel, by decide +kernel⟩
theorem ok__law_number {f : Addr} {fd : FuncData} (F : FnP K "_law_number" s__law_number f fd) (m : mg "_law_number" = some (.ref f)) (T : Tx mg) (xf : ExF csL K mg Cl) (c__law_next : Callee P wd K mg base Cl "_law_next" 2 2 false Phi__law_next) (c__law_great : Callee P wd K mg base Cl "_law_great" 3 2 false Phi__law_great) : Callee P wd K mg base Cl "_law_number" 4 3 false Phi__law_number :=
  mk_calleeQ (w := w__law_number) F sc__law_number m (fun _ _ _ _ _ _ us hl => match us, hl with | [_, _, _], _ => rfl) (fun cdv A outer s H E Fr W hr tk hp => (s_cons (s_set (i := 3) sc__law_number.nd rfl (by first | exact .inl rfl | exact .inr rfl) e_int)
    (s_cons (s_set (i := 4) sc__law_number.nd rfl (by first | exact .inl rfl | exact .inr rfl) e_int)
    (s_cons (s_set (i := 5) sc__law_number.nd rfl (by first | exact .inl rfl | exact .inr rfl) (e_own c__law_next rfl hr (by decide) (by rfl) tk (a_cons (e_var (pv 0)) (a_cons (e_var (pv 1)) a_nil))))
    (s_cons (s_for hp rfl (i_range1 (by rfl) T.z_range (a_cons (e_own c__law_next rfl hr (by decide) (by rfl) tk (a_cons (e_var (pv 0)) (a_cons e_int a_nil))) a_nil)) (g_name (i := 6) (fun l h => by cases h) sc__law_number.nd rfl (by first | exact .inl rfl | exact .inr rfl)) (s_one (s_if (t_le (o_val (e_mul rfl (o_val (e_var (pv 3))) (o_val (e_var (pv 1))))) (o_val (e_var (pv 2)))) (s_cons (s_set (i := 3) sc__law_number.nd rfl (by first | exact .inl rfl | exact .inr rfl) (e_mul rfl (o_val (e_var (pv 3))) (o_val (e_var (pv 1)))))
    (s_one (s_set (i := 4) sc__law_number.nd rfl (by first | exact .inl rfl | exact .inr rfl) (e_add rfl (o_val (e_mul rfl (o_val (e_var (pv 4))) (o_val (e_var (pv 1))))) (o_val (e_var (pv 5))))))) s_nil)))
    (s_cons (s_set (i := 7) sc__law_number.nd rfl (by first | exact .inl rfl | exact .inr rfl) (f_toE (f_lst (a_cons (e_own c__law_next rfl hr (by decide) (by rfl) tk (a_cons (e_var (pv 0)) (a_cons e_int a_nil))) (a_cons (e_own c__law_great rfl hr (by decide) (by rfl) tk (a_cons (e_var (pv 0)) (a_cons (e_add rfl (o_val (e_var (pv 2))) (o_val e_int)) a_nil))) (a_cons (e_sub (o_val (e_add rfl (o_val (e_var (pv 3))) (o_val (e_own c__law_next rfl hr (by decide) (by rfl) tk (a_cons (e_var (pv 0)) (a_cons e_int a_nil)))))) (o_val e_int)) (a_cons (e_var (pv 4)) a_nil)))))))
    (s_cons (s_set (i := 7) sc__law_number.nd rfl (by first | exact .inl rfl | exact .inr rfl) (e_add rfl (o_val (e_var (pv 7))) (o_val (f_toE (f_lst (a_cons (e_sub (o_val (e_var (pv 2))) (o_val (e_own c__law_next rfl hr (by decide) (by rfl) tk (a_cons (e_var (pv 0)) (a_cons e_int a_nil))))) (a_cons (e_div (o_val (e_own c__law_great rfl hr (by decide) (by rfl) tk (a_cons (e_var (pv 0)) (a_cons (e_add rfl (o_val (e_var (pv 2))) (o_val e_int)) a_nil)))) (o_val (e_var (pv 3)))) a_nil)))))))
    (s_one (s_ret rfl (e_min2 rfl (by rfl) T.z_min (a_cons (e_var (pv 2)) (a_cons (e_max2 rfl (by rfl) T.z_max (a_cons e_int (a_cons (e_ix (hu_of hr) rfl (o_val (e_var (pv 7))) (o_val (e_own c__law_next rfl hr (by decide) (by rfl) tk (a_cons (e_var (pv 0)) (a_cons e_int a_nil))))) a_nil))) a_nil)))))))))))) m__law_number
theorem sc__law_figures : FnScope ["number", "base", "found"] ["number", "base"] (defScope s__law_figures) := ⟨rfl, rfl, rfl, by decide +kernel, rfl, by decide +kernel, by decide +kernel⟩
theorem ok__law_figures {f : Addr} {fd : FuncData} (F : FnP K "_law_figures" s__law_figures f fd) (m : mg "_law_figures" = some (.ref f)) (T : Tx mg) (xf : ExF csL K mg Cl)  : Callee P wd K mg base Cl "_law_figures" 1 2 false Phi__law_figures :=
  mk_calleeQ (w := w__law_figures) F sc__law_figures m (fun _ _ _ _ _ _ us hl => match us, hl with | [_, _], _ => rfl) (fun cdv A outer s H E Fr W hr tk hp => (s_cons (s_setF (i := 2) sc__law_figures.nd rfl (by first | exact .inl rfl | exact .inr rfl) (f_lst a_nil))
    (s_cons (s_while hp (t_gt (o_val (e_var (pv 0))) (o_val e_int)) (s_cons (s_app (o_slot (pv 2)) (a_cons (e_mod (o_val (e_var (pv 0))) (o_val (e_var (pv 1)))) a_nil) rfl)
    (s_one (s_set (i := 0) sc__law_figures.nd rfl (by first | exact .inl rfl | exact .inr rfl) (e_div (o_val (e_var (pv 0))) (o_val (e_var (pv 1))))))))
    (s_one (s_ret rfl (e_orL (pv 2) (f_toE (f_lst (a_cons e_int a_nil))))))))) m__law_figures
theorem sc__law_is_whole : FnScope ["found", "due"] ["found", "due"] (defScope s__law_is_whole) := ⟨rfl, rfl, rfl, by decide +kernel, rfl, by decide +kernel, by decide +kernel⟩
theorem ok__law_is_whole {f : Addr} {fd : FuncData} (F : FnP K "_law_is_whole" s__law_is_whole f fd) (m : mg "_law_is_whole" = some (.ref f)) (T : Tx mg) (xf : ExF csL K mg Cl)  : Callee P wd K mg base Cl "_law_is_whole" 1 2 false Phi__law_is_whole :=
  mk_calleeQ (w := w__law_is_whole) F sc__law_is_whole m (fun _ _ _ _ _ _ us hl => match us, hl with | [_, _], _ => rfl) (fun cdv A outer s H E Fr W hr tk hp => (s_one (s_ret rfl (e_and (e_isi rfl (by decide) (by rfl) T.z_isinstance (o_val (e_var (pv 0))) (by rfl) T.z_int (by decide +kernel)) (e_and (e_not (e_isi rfl (by decide) (by rfl) T.z_isinstance (o_val (e_var (pv 0))) (by rfl) T.z_bool (by decide +kernel))) (e_one (e_eq hr.units rfl (o_val (e_var (pv 0))) (o_val (e_var (pv 1)))))))))) m__law_is_whole
theorem sc__law_kind : FnScope ["caught", "kinds"] ["caught"] (defScope s__law_kind) := ⟨rfl, rfl, rfl, by decide +kernel, rfl, by decide +kernel, by decide +kernel⟩
theorem ok__law_kind {f : Addr} {fd : FuncData} (F : FnP K "_law_kind" s__law_kind f fd) (m : mg "_law_kind" = some (.ref f)) (T : Tx mg) (xf : ExF csL K mg Cl)  : Callee P wd K mg base Cl "_law_kind" 1 1 false Phi__law_kind :=
  mk_calleeQ (w := w__law_kind) F sc__law_kind m (fun _ _ _ _ _ _ us hl => match us, hl with | [_], _ => rfl) (fun cdv A outer s H E Fr W hr tk hp => (s_cons (s_set (i := 1) sc__law_kind.nd rfl (by first | exact .inl rfl | exact .inr rfl) (f_toE (f_lst (a_cons (e_isE xf (by decide +kernel) rfl (by rfl) T.z_isinstance (o_val (e_var (pv 0))) (by rfl)) (a_cons (e_isE xf (by decide +kernel) rfl (by rfl) T.z_isinstance (o_val (e_var (pv 0))) (by rfl)) (a_cons (e_isE xf (by decide +kernel) rfl (by rfl) T.z_isinstance (o_val (e_var (pv 0))) (by rfl)) a_nil))))))
    (s_cons (s_if (t_bool (w_or (t_not (t_val (e_isE xf (by decide +kernel) rfl (by rfl) T.z_isinstance (o_val (e_var (pv 0))) (by rfl)))) (w_or (t_not (t_val (e_isV xf rfl (by rfl) T.z_isinstance (o_val (e_var (pv 0))) (by rfl) T.z_ValueError))) (w_or1 (t_ne hr.units rfl (o_val (e_cnt rfl (o_val (e_var (pv 1))) (a_cons e_bl a_nil))) (o_val e_int)))))) (s_one (s_ret rfl (e_tup (a_cons e_str a_nil)))) s_nil)
    (s_cons (s_if (t_val (e_ix (hu_of hr) rfl (o_val (e_var (pv 1))) (o_val e_int))) (s_cons (s_if (t_val (e_isi rfl (by decide) (by rfl) T.z_isinstance (o_val (e_place xf rfl (e_var (pv 0)))) (by rfl) T.z_bool (by decide +kernel))) (s_one (s_ret rfl (e_tup (a_cons e_str a_nil)))) s_nil)
    (s_one (s_ret rfl (e_tup (a_cons e_str (a_cons (e_place xf rfl (e_var (pv 0))) a_nil)))))) s_nil)
    (s_one (s_ret rfl (e_tup (a_cons (e_ix (hu_of hr) rfl (o_val (f_toE (f_lst (a_cons e_str (a_cons e_str (a_cons e_str a_nil)))))) (o_val (e_idx rfl (o_val (e_var (pv 1))) (a_cons e_bl a_nil)))) a_nil)))))))) m__law_kind
theorem sc__law_sign : FnScope ["deck", "base", "signs", "figures"] ["deck", "base"] (defScope s__law_sign) := ⟨rfl, rfl, rfl, by decide +kernel, rfl, by decide +kernel, by decide +kernel⟩
theorem ok__law_sign {f : Addr} {fd : FuncData} (F : FnP K "_law_sign" s__law_sign f fd) (m : mg "_law_sign" = some (.ref f)) (T : Tx mg) (xf : ExF csL K mg Cl) (c__law_next : Callee P wd K mg base Cl "_law_next" 2 2 false Phi__law_next) : Callee P wd K mg base Cl "_law_sign" 3 2 false Phi__law_sign :=
  mk_calleeQ (w := w__law_sign) F sc__law_sign m (fun _ _ _ _ _ _ us hl => match us, hl with | [_, _], _ => rfl) (fun cdv A outer s H E Fr W hr tk hp => (s_cons (s_set (i := 2) sc__law_sign.nd rfl (by first | exact .inl rfl | exact .inr rfl) e_str)
    (s_cons (s_set (i := 3) sc__law_sign.nd rfl (by first | exact .inl rfl | exact .inr rfl) e_str)
    (s_one (s_ret rfl (e_ix (hu_of hr) rfl (o_val (f_toE (f_lst (a_cons (e_ix (hu_of hr) rfl (o_val (e_var (pv 2))) (o_val (e_own c__law_next rfl hr (by decide) (by rfl) tk (a_cons (e_var (pv 0)) (a_cons (e_len rfl (by rfl) T.z_len (o_val (e_var (pv 2)))) a_nil))))) (a_cons (e_ix (hu_of hr) rfl (o_val (e_var (pv 3))) (o_val (e_own c__law_next rfl hr (by decide) (by rfl) tk (a_cons (e_var (pv 0)) (a_cons e_int a_nil))))) (a_cons (e_ix (hu_of hr) rfl (o_val (e_var (pv 3))) (o_val (e_var (pv 1)))) a_nil)))))) (o_val (e_own c__law_next rfl hr (by decide) (by rfl) tk (a_cons (e_var (pv 0)) (a_cons e_int a_nil)))))))))) m__law_sign
theorem sc__law_spoilt : FnScope ["deck", "text", "base", "k", "at", "sign", "some"] ["deck", "text", "base"] (defScope s__law_spoilt) := ⟨rfl, rfl, rfl, by decide +kernel, rfl, by decide +kernel, by decide +kernel⟩
theorem ok__law_spoilt {f : Addr} {fd : FuncData} (F : FnP K "_law_spoilt" s__law_spoilt f fd) (m : mg "_law_spoilt" = some (.ref f)) (T : Tx mg) (xf : ExF csL K mg Cl) (c__law_next : Callee P wd K mg base Cl "_law_next" 2 2 false Phi__law_next) (c__law_sign : Callee P wd K mg base Cl "_law_sign" 3 2 false Phi__law_sign) : Callee P wd K mg base Cl "_law_spoilt" 4 3 false Phi__law_spoilt :=
  mk_calleeQ (w := w__law_spoilt) F sc__law_spoilt m (fun _ _ _ _ _ _ us hl => match us, hl with | [_, _, _], _ => rfl) (fun cdv A outer s H E Fr W hr tk hp => (s_cons (s_for hp rfl (i_range1 (by rfl) T.z_range (a_cons (e_add rfl (o_val e_int) (o_val (e_own c__law_next rfl hr (by decide) (by rfl) tk (a_cons (e_var (pv 0)) (a_cons e_int a_nil))))) a_nil)) (g_name (i := 3) (fun l h => by cases h) sc__law_spoilt.nd rfl (by first | exact .inl rfl | exact .inr rfl)) (s_cons (s_set (i := 4) sc__law_spoilt.nd rfl (by first | exact .inl rfl | exact .inr rfl) (e_ix (hu_of hr) rfl (o_val (f_toE (f_lst (a_cons (e_own c__law_next rfl hr (by decide) (by rfl) tk (a_cons (e_var (pv 0)) (a_cons (e_add rfl (o_val (e_len rfl (by rfl) T.z_len (o_val (e_var (pv 1))))) (o_val e_int)) a_nil))) (a_cons (e_max2 rfl (by rfl) T.z_max (a_cons e_int (a_cons (e_sub (o_val (e_len rfl (by rfl) T.z_len (o_val (e_var (pv 1))))) (o_val e_int)) a_nil))) (a_cons e_int a_nil)))))) (o_val (e_own c__law_next rfl hr (by decide) (by rfl) tk (a_cons (e_var (pv 0)) (a_cons e_int a_nil))))))
    (s_cons (s_set (i := 5) sc__law_spoilt.nd rfl (by first | exact .inl rfl | exact .inr rfl) (e_own c__law_sign rfl hr (by decide) (by rfl) tk (a_cons (e_var (pv 0)) (a_cons (e_var (pv 2)) a_nil))))
    (s_cons (s_set (i := 6) sc__law_spoilt.nd rfl (by first | exact .inl rfl | exact .inr rfl) (f_toE (f_lst (a_cons (e_add rfl (o_val (e_add rfl (o_val (e_slcS (o_val (e_var (pv 1))) sl_no (sl_some (e_var (pv 4))))) (o_val (e_var (pv 5))))) (o_val (e_slcS (o_val (e_var (pv 1))) (sl_some (e_var (pv 4))) sl_no))) (a_cons (e_add rfl (o_val (e_add rfl (o_val (e_slcS (o_val (e_var (pv 1))) sl_no (sl_some (e_var (pv 4))))) (o_val (e_var (pv 5))))) (o_val (e_slcS (o_val (e_var (pv 1))) (sl_some (e_add rfl (o_val (e_var (pv 4))) (o_val e_int))) sl_no))) (a_cons (e_add rfl (o_val (e_slcS (o_val (e_var (pv 1))) sl_no (sl_some (e_var (pv 4))))) (o_val (e_slcS (o_val (e_var (pv 1))) (sl_some (e_add rfl (o_val (e_var (pv 4))) (o_val e_int))) sl_no))) a_nil))))))
    (s_one (s_set (i := 1) sc__law_spoilt.nd rfl (by first | exact .inl rfl | exact .inr rfl) (e_ix (hu_of hr) rfl (o_val (e_var (pv 6))) (o_val (e_own c__law_next rfl hr (by decide) (by rfl) tk (a_cons (e_var (pv 0)) (a_cons e_int a_nil)))))))))))
    (s_one (s_ret rfl (e_var (pv 1)))))) m__law_spoilt
theorem sc__law_due : FnScope ["text", "base", "number", "place", "figure"] ["text", "base"] (defScope s__law_due) := ⟨rfl, rfl, rfl, by decide +kernel, rfl, by decide +kernel, by decide +kernel⟩
theorem ok__law_due {f : Addr} {fd : FuncData} (F : FnP K "_law_due" s__law_due f fd) (m : mg "_law_due" = some (.ref f)) (T : Tx mg) (xf : ExF csL K mg Cl)  : Callee P wd K mg base Cl "_law_due" 1 2 false Phi__law_due :=
  mk_calleeQ (w := w__law_due) F sc__law_due m (fun _ _ _ _ _ _ us hl => match us, hl with | [_, _], _ => rfl) (fun cdv A outer s H E Fr W hr tk hp => (s_cons (s_if (t_bool (w_or (t_eq hr.units rfl (o_val (e_var (pv 0))) (o_val e_str)) (w_or1 (t_bool (w_and (t_eq hr.units rfl (o_val (e_slcS (o_val (e_var (pv 0))) sl_no (sl_some e_int))) (o_val e_str)) (w_and1 (t_gt (o_val (e_len rfl (by rfl) T.z_len (o_val (e_var (pv 0))))) (o_val e_int)))))))) (s_one (s_ret rfl (e_tup (a_cons e_str (a_cons e_int a_nil))))) s_nil)
    (s_cons (s_set (i := 2) sc__law_due.nd rfl (by first | exact .inl rfl | exact .inr rfl) e_int)
    (s_cons (s_for hp rfl (i_range1 (by rfl) T.z_range (a_cons (e_len rfl (by rfl) T.z_len (o_val (e_var (pv 0)))) a_nil)) (g_name (i := 3) (fun l h => by cases h) sc__law_due.nd rfl (by first | exact .inl rfl | exact .inr rfl)) (s_cons (s_set (i := 4) sc__law_due.nd rfl (by first | exact .inl rfl | exact .inr rfl) (e_find e_str (e_ix (hu_of hr) rfl (o_val (e_var (pv 0))) (o_val (e_var (pv 3))))))
    (s_cons (s_if (t_bool (w_or (t_lt (o_val (e_var (pv 4))) (o_val e_int)) (w_or1 (t_ge (o_val (e_var (pv 4))) (o_val (e_var (pv 1))))))) (s_one (s_ret rfl (e_tup (a_cons e_str (a_cons (e_var (pv 3)) a_nil))))) s_nil)
    (s_one (s_set (i := 2) sc__law_due.nd rfl (by first | exact .inl rfl | exact .inr rfl) (e_add rfl (o_val (e_mul rfl (o_val (e_var (pv 2))) (o_val (e_var (pv 1))))) (o_val (e_var (pv 4)))))))))
    (s_one (s_ret rfl (e_var (pv 2)))))))) m__law_due
theorem sc__law_right : FnScope ["text", "base", "due", "again", "found", "caught", "e"] ["text", "base"] (defScope s__law_right) := ⟨rfl, rfl, rfl, by decide +kernel, rfl, by decide +kernel, by decide +kernel⟩
theorem ok__law_right {f : Addr} {fd : FuncData} (F : FnP K "_law_right" s__law_right f fd) (m : mg "_law_right" = some (.ref f)) (T : Tx mg) (xf : ExF csL K mg Cl) (c__law_due : Callee P wd K mg base Cl "_law_due" 1 2 false Phi__law_due) (c_read_number : Callee P wd K mg base Cl "read_number" 3 2 false Phi_read_number) (c__law_kind : Callee P wd K mg base Cl "_law_kind" 1 1 false Phi__law_kind) (c__law_is_whole : Callee P wd K mg base Cl "_law_is_whole" 1 2 false Phi__law_is_whole) : Callee P wd K mg base Cl "_law_right" 4 2 false Phi__law_right :=
  mk_calleeQ (w := w__law_right) F sc__law_right m (fun _ _ _ _ _ _ us hl => match us, hl with | [_, _], _ => rfl) (fun cdv A outer s H E Fr W hr tk hp => (s_cons (s_set (i := 2) sc__law_right.nd rfl (by first | exact .inl rfl | exact .inr rfl) (e_own c__law_due rfl hr (by decide) (by rfl) tk (a_cons (e_var (pv 0)) (a_cons (e_var (pv 1)) a_nil))))
    (s_cons (s_if (t_bool (w_and (t_val (e_isi rfl (by decide) (by rfl) T.z_isinstance (o_val (e_var (pv 2))) (by rfl) T.z_int (by decide +kernel))) (w_and1 (t_gt (o_val (e_var (pv 2))) (o_val (e_pow (o_val e_int) (o_val e_int))))))) (s_one (s_ret rfl e_bl)) s_nil)
    (s_cons (s_for hp rfl (i_range1 (by rfl) T.z_range (a_cons e_int a_nil)) (g_name (i := 3) (fun l h => by cases h) sc__law_right.nd rfl (by first | exact .inl rfl | exact .inr rfl)) (s_cons (s_set (i := 4) sc__law_right.nd rfl (by first | exact .inl rfl | exact .inr rfl) e_non)
    (s_cons (s_set (i := 5) sc__law_right.nd rfl (by first | exact .inl rfl | exact .inr rfl) e_non)
    (s_cons (s_try (i := 6) xf (by decide +kernel) rfl tk sc__law_right.nd rfl rfl rfl rfl rfl (by rfl) (fun W pn xe tk hp => (s_one (s_set (i := 4) sc__law_right.nd rfl (by first | exact .inl rfl | exact .inr rfl) (e_own c_read_number rfl hr (by decide) (by rfl) tk (a_cons (e_var (pv 0)) (a_cons (e_var (pv 1)) a_nil)))))) (fun a pn => (s_one (s_set (i := 5) sc__law_right.nd rfl (by first | exact .inl rfl | exact .inr rfl) (e_var (pv 6))))))
    (s_cons (s_if (t_bool (w_and (t_val (e_isi rfl (by decide) (by rfl) T.z_isinstance (o_val (e_var (pv 2))) (by rfl) T.z_tuple (by decide +kernel))) (w_and1 (t_bool (w_or (t_is (o_val (e_var (pv 5))) (o_val e_non)) (w_or1 (t_ne hr.units rfl (o_val (e_own c__law_kind rfl hr (by decide) (by rfl) tk (a_cons (e_var (pv 5)) a_nil))) (o_val (e_var (pv 2)))))))))) (s_one (s_ret rfl e_bl)) s_nil)
    (s_one (s_if (t_bool (w_and (t_val (e_isi rfl (by decide) (by rfl) T.z_isinstance (o_val (e_var (pv 2))) (by rfl) T.z_int (by decide +kernel))) (w_and1 (t_not (t_val (e_own c__law_is_whole rfl hr (by decide) (by rfl) tk (a_cons (e_var (pv 4)) (a_cons (e_var (pv 2)) a_nil)))))))) (s_one (s_ret rfl e_bl)) s_nil)))))))
    (s_one (s_ret rfl e_bl)))))) m__law_right
theorem sc_law : FnScope ["script", "deck", "turn", "base", "number", "text", "figure", "some", "k", "odd", "said"] ["script"] (defScope s_law) := ⟨rfl, rfl, rfl, by decide +kernel, rfl, by decide +kernel, by decide +kernel⟩
theorem sc_NN : FnScope ["self", "place"] ["self", "place"] (defScope s_NN) := ⟨rfl, rfl, rfl, by decide +kernel, rfl, by decide +kernel, by decide +kernel⟩
theorem ok_NN {f : Addr} {fd : FuncData} (F : FunD K "__init__" "NoNumber.__init__" (defArgs s_NN) (defBody s_NN) (defScope s_NN) [] [] f fd) (hC : Cl "NoNumber" = some (He.ga K "NoNumber")) (hmg : mg "NoNumber" = some (.ref (He.ga K "NoNumber"))) (hS : mg "SumError" = some (.ref (He.ga K "SumError"))) (x : exnB K = true) (hf : f = He.ma K (He.ga K "NoNumber") "__init__") (T : Tx mg) : CalleeN P wd K mg base Cl 1 :=
  mk_calleeN (m := "no number by place ") F sc_NN (by decide +kernel) hC hmg x hf (fun _ _ _ _ _ _ us hl => match us, hl with | [_, _], _ => rfl) (fun cdv A outer s H E => pss_cons (ps_expr (pe_clinit (by rfl) hS (exn_sum x) (pa_cons (pv 0) (pa_cons (pe_op op_add_str pe_str (pe_callTy call_str_int (by rfl) T.z_str (by decide +kernel) (pa_cons (pv 1) pa_nil rfl))) pa_nil rfl) rfl))) (pss_one (ps_ost (pv 0) (pv 1))))
theorem facts {P : Program} {wd : World} {K : PySem.W.Frag} {h : Heap} {mg : Str → Option Value} {f : Addr} (X : K.In h) (G : h.Ns mainGlobals mg) (hfa : mg ("law" : Str) = some (.ref f)) (c : SaysX fas dfs (fun K => exB csL K && exnB K) K) :
    ∃ fd : FuncData, (∀ (s : Shared) (v : Value), BindsTo s fd ⟨[v], []⟩ [("script", v)]) ∧ ∀ base : Heap, K.In base → base.Ns mainGlobals mg → FnOk P wd K mg base (L2.CX P wd) 5 f fd ["script"] (spOf K (exCl csL K) 1 false PhiLaw) := by
  have T : Tx mg := ⟨He.free_ok X G (c.d.fact 14 (f := .free "ValueError") rfl), He.free_ok X G (c.d.fact 15 (f := .free "bool") rfl), He.free_ok X G (c.d.fact 16 (f := .free "enumerate") rfl), He.free_ok X G (c.d.fact 17 (f := .free "int") rfl), He.free_ok X G (c.d.fact 18 (f := .free "isinstance") rfl), He.free_ok X G (c.d.fact 19 (f := .free "len") rfl), He.free_ok X G (c.d.fact 20 (f := .free "max") rfl), He.free_ok X G (c.d.fact 21 (f := .free "min") rfl), He.free_ok X G (c.d.fact 22 (f := .free "range") rfl), He.free_ok X G (c.d.fact 23 (f := .free "str") rfl), He.free_ok X G (c.d.fact 24 (f := .free "sum") rfl), He.free_ok X G (c.d.fact 25 (f := .free "tuple") rfl), He.str_ok X G (c.d.fact 26 (f := .str "FIGURES" "0123456789abcdef") rfl)⟩
  obtain ⟨fd_read_number, F_read_number⟩ := c.d.def_ 0 (d := ⟨("read_number", none), "read_number", "read_number", defArgs s_read_number, defBody s_read_number, defScope s_read_number, [], []⟩) rfl
  have m_read_number := He.glo_ok X G (c.d.fact 0 (f := .glo "read_number") rfl)
  obtain ⟨fd__law_mix, F__law_mix⟩ := c.d.def_ 1 (d := ⟨("_law_mix", none), "_law_mix", "_law_mix", defArgs s__law_mix, defBody s__law_mix, defScope s__law_mix, [], []⟩) rfl
  have m__law_mix := He.glo_ok X G (c.d.fact 1 (f := .glo "_law_mix") rfl)
  obtain ⟨fd__law_deck, F__law_deck⟩ := c.d.def_ 2 (d := ⟨("_law_deck", none), "_law_deck", "_law_deck", defArgs s__law_deck, defBody s__law_deck, defScope s__law_deck, [], []⟩) rfl
  have m__law_deck := He.glo_ok X G (c.d.fact 2 (f := .glo "_law_deck") rfl)
  obtain ⟨fd__law_next, F__law_next⟩ := c.d.def_ 3 (d := ⟨("_law_next", none), "_law_next", "_law_next", defArgs s__law_next, defBody s__law_next, defScope s__law_next, [], []⟩) rfl
  have m__law_next := He.glo_ok X G (c.d.fact 3 (f := .glo "_law_next") rfl)
  obtain ⟨fd__law_great, F__law_great⟩ := c.d.def_ 4 (d := ⟨("_law_great", none), "_law_great", "_law_great", defArgs s__law_great, defBody s__law_great, defScope s__law_great, [], []⟩) rfl
  have m__law_great := He.glo_ok X G (c.d.fact 4 (f := .glo "_law_great") rfl)
  obtain ⟨fd__law_number, F__law_number⟩ := c.d.def_ 5 (d := ⟨("_law_number", none), "_law_number", "_law_number", defArgs s__law_number, defBody s__law_number, defScope s__law_number, [], []⟩) rfl
  have m__law_number := He.glo_ok X G (c.d.fact 5 (f := .glo "_law_number") rfl)
  obtain ⟨fd__law_figures, F__law_figures⟩ := c.d.def_ 6 (d := ⟨("_law_figures", none), "_law_figures", "_law_figures", defArgs s__law_figures, defBody s__law_figures, defScope s__law_figures, [], []⟩) rfl
  have m__law_figures := He.glo_ok X G (c.d.fact 6 (f := .glo "_law_figures") rfl)
  obtain ⟨fd__law_is_whole, F__law_is_whole⟩ := c.d.def_ 7 (d := ⟨("_law_is_whole", none), "_law_is_whole", "_law_is_whole", defArgs s__law_is_whole, defBody s__law_is_whole, defScope s__law_is_whole, [], []⟩) rfl
  have m__law_is_whole := He.glo_ok X G (c.d.fact 7 (f := .glo "_law_is_whole") rfl)
  obtain ⟨fd__law_kind, F__law_kind⟩ := c.d.def_ 8 (d := ⟨("_law_kind", none), "_law_kind", "_law_kind", defArgs s__law_kind, defBody s__law_kind, defScope s__law_kind, [], []⟩) rfl
  have m__law_kind := He.glo_ok X G (c.d.fact 8 (f := .glo "_law_kind") rfl)
  obtain ⟨fd__law_sign, F__law_sign⟩ := c.d.def_ 9 (d := ⟨("_law_sign", none), "_law_sign", "_law_sign", defArgs s__law_sign, defBody s__law_sign, defScope s__law_sign, [], []⟩) rfl
  have m__law_sign := He.glo_ok X G (c.d.fact 9 (f := .glo "_law_sign") rfl)
  obtain ⟨fd__law_spoilt, F__law_spoilt⟩ := c.d.def_ 10 (d := ⟨("_law_spoilt", none), "_law_spoilt", "_law_spoilt", defArgs s__law_spoilt, defBody s__law_spoilt, defScope s__law_spoilt, [], []⟩) rfl
  have m__law_spoilt := He.glo_ok X G (c.d.fact 10 (f := .glo "_law_spoilt") rfl)
  obtain ⟨fd__law_due, F__law_due⟩ := c.d.def_ 11 (d := ⟨("_law_due", none), "_law_due", "_law_due", defArgs s__law_due, defBody s__law_due, defScope s__law_due, [], []⟩) rfl
  have m__law_due := He.glo_ok X G (c.d.fact 11 (f := .glo "_law_due") rfl)
  obtain ⟨fd__law_right, F__law_right⟩ := c.d.def_ 12 (d := ⟨("_law_right", none), "_law_right", "_law_right", defArgs s__law_right, defBody s__law_right, defScope s__law_right, [], []⟩) rfl
  have m__law_right := He.glo_ok X G (c.d.fact 12 (f := .glo "_law_right") rfl)
  obtain ⟨fd_law, F_law⟩ := c.d.def_ 13 (d := ⟨("law", none), "law", "law", defArgs s_law, defBody s_law, defScope s_law, [], []⟩) rfl
  have m_law := He.glo_ok X G (c.d.fact 13 (f := .glo "law") rfl)
  have xf := exF_of (l := csL) X G ((Bool.and_eq_true _ _).mp c.b).1 (by decide +kernel) (by decide +kernel)
  obtain ⟨fd_NN, F_NN⟩ := c.d.def_ 14 (d := ⟨("NoNumber", some "__init__"), "__init__", "NoNumber.__init__", defArgs s_NN, defBody s_NN, defScope s_NN, [], []⟩) rfl
  have hN_NN := He.glo_ok X G (c.d.fact 27 (f := .glo "NoNumber") rfl)
  have hS_NN := He.glo_ok X G (c.d.fact 28 (f := .glo "SumError") rfl)
  have e := hfa.symm.trans m_law
  cases e
  have b := FunD.bindsA (ps := ["script"]) F_law fun _ _ _ _ _ _ us hl => match us, hl with | [_], _ => rfl
  refine ⟨fd_law, fun s v => b s [v] rfl, fun base _ _ => ?_⟩
  have c_NN : CalleeN P wd K mg base (exCl csL K) 1 := ok_NN F_NN (by rfl) hN_NN hS_NN ((Bool.and_eq_true _ _).mp c.b).2 rfl T
  have c_read_number : Callee P wd K mg base (exCl csL K) "read_number" 3 2 false Phi_read_number := ok_read_number F_read_number m_read_number T xf c_NN
  have c__law_mix : Callee P wd K mg base (exCl csL K) "_law_mix" 1 2 false Phi__law_mix := ok__law_mix F__law_mix m__law_mix T xf 
  have c__law_deck : Callee P wd K mg base (exCl csL K) "_law_deck" 1 1 false Phi__law_deck := ok__law_deck F__law_deck m__law_deck T xf 
  have c__law_next : Callee P wd K mg base (exCl csL K) "_law_next" 2 2 false Phi__law_next := ok__law_next F__law_next m__law_next T xf c__law_mix
  have c__law_great : Callee P wd K mg base (exCl csL K) "_law_great" 3 2 false Phi__law_great := ok__law_great F__law_great m__law_great T xf c__law_next
  have c__law_number : Callee P wd K mg base (exCl csL K) "_law_number" 4 3 false Phi__law_number := ok__law_number F__law_number m__law_number T xf c__law_next c__law_great
  have c__law_figures : Callee P wd K mg base (exCl csL K) "_law_figures" 1 2 false Phi__law_figures := ok__law_figures F__law_figures m__law_figures T xf 
  have c__law_is_whole : Callee P wd K mg base (exCl csL K) "_law_is_whole" 1 2 false Phi__law_is_whole := ok__law_is_whole F__law_is_whole m__law_is_whole T xf 
  have c__law_kind : Callee P wd K mg base (exCl csL K) "_law_kind" 1 1 false Phi__law_kind := ok__law_kind F__law_kind m__law_kind T xf 
  have c__law_sign : Callee P wd K mg base (exCl csL K) "_law_sign" 3 2 false Phi__law_sign := ok__law_sign F__law_sign m__law_sign T xf c__law_next
  have c__law_spoilt : Callee P wd K mg base (exCl csL K) "_law_spoilt" 4 3 false Phi__law_spoilt := ok__law_spoilt F__law_spoilt m__law_spoilt T xf c__law_next c__law_sign
  have c__law_due : Callee P wd K mg base (exCl csL K) "_law_due" 1 2 false Phi__law_due := ok__law_due F__law_due m__law_due T xf 
  have c__law_right : Callee P wd K mg base (exCl csL K) "_law_right" 4 2 false Phi__law_right := ok__law_right F__law_right m__law_right T xf c__law_due c_read_number c__law_kind c__law_is_whole
  exact fn_imp (fn_okD (w := w_law) F_law sc_law (fun cdv A outer s H E Fr W hr tk hp => (s_cons (s_set (i := 1) sc_law.nd rfl (by first | exact .inl rfl | exact .inr rfl) (e_own c__law_deck rfl hr (by decide) (by rfl) tk (a_cons (e_var (pv 0)) a_nil)))
    (s_cons (s_for hp rfl (i_range1 (by rfl) T.z_range (a_cons e_int a_nil)) (g_name (i := 2) (fun l h => by cases h) sc_law.nd rfl (by first | exact .inl rfl | exact .inr rfl)) (s_cons (s_set (i := 3) sc_law.nd rfl (by first | exact .inl rfl | exact .inr rfl) (e_add rfl (o_val e_int) (o_val (e_own c__law_next rfl hr (by decide) (by rfl) tk (a_cons (e_var (pv 1)) (a_cons e_int a_nil))))))
    (s_cons (s_set (i := 4) sc_law.nd rfl (by first | exact .inl rfl | exact .inr rfl) (e_own c__law_number rfl hr (by decide) (by rfl) tk (a_cons (e_var (pv 1)) (a_cons (e_var (pv 3)) (a_cons (e_pow (o_val e_int) (o_val e_int)) a_nil)))))
    (s_cons (s_set (i := 5) sc_law.nd rfl (by first | exact .inl rfl | exact .inr rfl) (e_join rfl e_str (f_toE (f_lc (own := [("figure", 6)]) rfl sc_law.nd (i_val rfl (f_toE (f_rev (o_val (e_own c__law_figures rfl hr (by decide) (by rfl) tk (a_cons (e_var (pv 4)) (a_cons (e_var (pv 3)) a_nil))))))) (blkOk_by (N := ["script", "deck", "turn", "base", "number", "text", "figure", "some", "k", "odd", "said"]) (sc := defScope s_law) (by decide +kernel)) (fun _ _ _ _ _ _ => (g_name (i := 6) (fun l h => by cases h; decide) sc_law.nd rfl (by first | exact .inl rfl | exact .inr rfl))) (fun _ _ _ _ _ _ => ts_nil) (fun _ _ _ _ _ _ => (e_ix (hu_of hr) rfl (o_val e_str) (o_val (e_var (pv 6)))))))))
    (s_cons (s_setLc (i := 7) (own := [("k", 8)]) rfl sc_law.nd rfl rfl (sw_true rfl rfl rfl (by decide +kernel)) (i_range1 (by rfl) T.z_range (a_cons e_int a_nil)) (blkOk_by (N := ["script", "deck", "turn", "base", "number", "text", "figure", "some", "k", "odd", "said"]) (sc := defScope s_law) (by decide +kernel)) (fun _ _ _ _ _ _ => (g_name (i := 8) (fun l h => by cases h; decide) sc_law.nd rfl (by first | exact .inl rfl | exact .inr rfl))) (fun _ _ _ _ _ _ => ts_nil) (fun _ _ _ _ _ _ => (e_own c__law_spoilt rfl hr (by decide) (by rfl) takes0 (a_cons (e_var (pv 1)) (a_cons (e_var (pv 5)) (a_cons (e_var (pv 3)) a_nil))))))
    (s_cons (s_set (i := 7) sc_law.nd rfl (by first | exact .inl rfl | exact .inr rfl) (e_add rfl (o_val (e_var (pv 7))) (o_val (f_toE (f_lst (a_cons (e_add rfl (o_val e_str) (o_val (e_var (pv 5)))) (a_cons (e_add rfl (o_val (e_var (pv 5))) (o_val e_str)) (a_cons (e_add rfl (o_val (e_var (pv 5))) (o_val e_str)) (a_cons (e_add rfl (o_val e_str) (o_val (e_var (pv 5)))) (a_cons (e_add rfl (o_val e_str) (o_val (e_var (pv 5)))) (a_cons (e_add rfl (o_val e_str) (o_val (e_var (pv 5)))) (a_cons (e_upper (e_var (pv 5))) (a_cons (e_var (pv 5)) a_nil)))))))))))))
    (s_one (s_for hp rfl (i_val rfl (e_add rfl (o_val (e_var (pv 7))) (o_val (f_toE (f_lst (a_cons (e_own c__law_sign rfl hr (by decide) (by rfl) tk (a_cons (e_var (pv 1)) (a_cons (e_var (pv 3)) a_nil))) (a_cons (e_add rfl (o_val (e_add rfl (o_val (e_slcS (o_val (e_var (pv 5))) sl_no (sl_some e_int))) (o_val e_str))) (o_val (e_slcS (o_val (e_var (pv 5))) (sl_some e_int) sl_no))) a_nil))))))) (g_name (i := 9) (fun l h => by cases h) sc_law.nd rfl (by first | exact .inl rfl | exact .inr rfl)) (s_one (s_if (t_bool (w_or (t_not (t_val (e_own c__law_right rfl hr (by decide) (by rfl) tk (a_cons (e_var (pv 9)) (a_cons (e_var (pv 3)) a_nil))))) (w_or1 (t_not (t_val (e_own c__law_right rfl hr (by decide) (by rfl) tk (a_cons (e_var (pv 9)) (a_cons (e_add rfl (o_val e_int) (o_val (e_own c__law_next rfl hr (by decide) (by rfl) tk (a_cons (e_var (pv 1)) (a_cons e_int a_nil))))) a_nil)))))))) (s_one (s_ret rfl e_bl)) s_nil))))))))))
    (s_cons (s_set (i := 10) sc_law.nd rfl (by first | exact .inl rfl | exact .inr rfl) (e_ix (hu_of hr) rfl (o_val (f_toE (f_lst (a_cons e_str (a_cons e_str (a_cons e_str (a_cons (e_add rfl (o_val (e_mulS (o_val e_str) (o_val e_int))) (o_val e_str)) a_nil))))))) (o_val (e_own c__law_next rfl hr (by decide) (by rfl) tk (a_cons (e_var (pv 1)) (a_cons e_int a_nil))))))
    (s_cons (s_if (t_bool (w_or (t_ne hr.units rfl (o_val (f_toE (f_lst (a_cons (e_strT xf rfl hr (by rfl) T.z_str (e_mkT xf (by decide +kernel) (by decide +kernel) (by rfl) (e_var (pv 10)))) (a_cons (e_strT xf rfl hr (by rfl) T.z_str (e_mkT xf (by decide +kernel) (by decide +kernel) (by rfl) (e_var (pv 10)))) a_nil))))) (o_val (e_mul rfl (o_val (f_toE (f_lst (a_cons (e_var (pv 10)) a_nil)))) (o_val e_int)))) (w_or1 (t_ne hr.units rfl (o_val (e_own c__law_kind rfl hr (by decide) (by rfl) tk (a_cons (e_mkN c_NN hr (by decide) (by rfl) e_int) a_nil))) (o_val (e_tup (a_cons e_str (a_cons e_int a_nil)))))))) (s_one (s_ret rfl e_bl)) s_nil)
    (s_one (s_ret rfl (e_eq hr.units rfl (o_val (f_toE (f_lc (own := [("text", 5)]) rfl sc_law.nd (i_val rfl (f_toE (f_lst (a_cons e_str (a_cons e_str (a_cons e_str (a_cons e_str (a_cons e_str (a_cons e_str (a_cons e_str (a_cons e_str (a_cons (e_mulS (o_val e_str) (o_val e_int)) a_nil)))))))))))) (blkOk_by (N := ["script", "deck", "turn", "base", "number", "text", "figure", "some", "k", "odd", "said"]) (sc := defScope s_law) (by decide +kernel)) (fun _ _ _ _ _ _ => (g_name (i := 5) (fun l h => by cases h; decide) sc_law.nd rfl (by first | exact .inl rfl | exact .inr rfl))) (fun _ _ _ _ _ _ => (ts_one (t_not (t_val (e_own c__law_right rfl hr (by decide) (by rfl) takes0 (a_cons (e_var (pv 5)) (a_cons e_int a_nil))))))) (fun _ _ _ _ _ _ => (e_var (pv 5)))))) (o_val (f_toE (f_lst a_nil)))))))))))) m_law_law
end
open PySem PySem.W PySem.Calls PyProof.Rows
end Lk02
open PySem PySem.W PySem.Calls PyProof.Rows
set_option maxHeartbeats 0
theorem PySem.Challenge.cw_figuresums_k02_texts_of_no_numbers_holds : PySem.Challenge.rw_figuresums_k02_texts_of_no_numbers.Holds := by
  w_on; o_law
  refine HandSHeadRun.head_any (r := OpenLaw.row PySem.Challenge.rw_figuresums_k02_texts_of_no_numbers) (q := view (OpenLaw.row PySem.Challenge.rw_figuresums_k02_texts_of_no_numbers).prog [21]) (H := Lk02.hk) (ob := Lk02.ob) (M := 4000) (loose := ["SumError", "NoNumber", "NoStretch", "NoAsk", "FIGURES", "read_number", "_law_mix", "_law_deck", "_law_next", "_law_great", "_law_number", "_law_figures", "_law_is_whole", "_law_kind", "_law_sign", "_law_spoilt", "_law_due", "_law_right"]) (d := HandSHeadRun.topDef (OpenLaw.row PySem.Challenge.rw_figuresums_k02_texts_of_no_numbers).prog 21) (kwd := []) Lk02.ob_eq
    (by kernel_rfl) (fun s => by kernel_rfl) Lk02.run (by kernel_rfl) (by kernel_rfl) (by kernel_rfl) (by rfl) (by first | assumption | decide +kernel) (by decide +kernel) ⟨rfl, rfl, rfl, rfl, rfl, by decide +kernel⟩ ?hw ?hc
  case hw => w_witness2
  case hc =>
    refine VL.walk_ofW (l := PySem.Challenge.rw_figuresums_k02_texts_of_no_numbers) (n := 63) (k := 5) (x := "script") (CX := fun w => L2.CX (PySem.Challenge.rw_figuresums_k02_texts_of_no_numbers).prog w) rfl (by decide) (by kernel_rfl) ⟨rfl, by decide, by decide⟩ ?F (fun _ _ _ _ _ z => VL.cx_no z)
    intro w mg fa h Y G hmg0
    obtain ⟨K, KX, c⟩ := Y
    have hmg : mg ("law" : PySem.Str) = some (.ref fa) := by
      have e : (HandSHeadRun.topDef (OpenLaw.row PySem.Challenge.rw_figuresums_k02_texts_of_no_numbers).prog 21).name = ("law" : PySem.Str) := by kernel_rfl
      rw [← e]
      exact hmg0
    obtain ⟨fd, hb, hF⟩ := Lk02.facts (P := (PySem.Challenge.rw_figuresums_k02_texts_of_no_numbers).prog) (wd := w) KX G hmg c
    exact ⟨K, fd, VL.spOf K (VL.exCl Lk02.csL K) 1 false VL.PhiLaw, KX, hb, fun H a ns hl _ hS => VL.law_sp hl hS, hF⟩
