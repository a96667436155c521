import PyProof.Rows.All
import Wide.All
import OpenK.AllK
import Wide.FinOn
import Lean
import HandS.ExcInit
import HandS.ExcField
import HandS.WordsExc
import HandS.Walk
import HandS.Head0
import HandS.Head1
import HandS.Head2
import HandS.Head3
import HandS.HeadHook1
import HandS.HeadHook2
import HandS.HeadHook3
import HandS.HeadHook4
import PySem.Challenge.RW_headsheard_k20_whole_letters_checked_and
import HandS.ForMost
import HandS.Exc
import HandS.TryOnly
import HandS.ExcOwn
import HandS.Defaults
import HandS.Wide
import HandS.Gcd
import HandS.IsInst
import HandS.TupAny
import HandS.Deep
import HandS.More
import HandS.Steps
import HandS.Flow
import HandS.Conv
import KE.SortData
import KE.DataCmp
import HandS.ExcInitHot
import HandS.TryMany
import HandS.ExcCtx
import HandS.SuiteRaise
import KE.GoesMore
import PyProof.Rows.SeqGen
import HandS.Text
import HandS.Iter
import KE.KExcPX
set_option Elab.async false
set_option linter.all false
set_option maxRecDepth 100000
set_option maxHeartbeats 4000000
/-! The head: what is asked of the module's top; its run. -/
namespace K20
open PySem PySem.Spec PyProof.Rows L2
open PySem.W (nsIn findIn typeIn keepIn subIn mroIn exmOne)
def top (i : Nat) : Stmt := PySem.Challenge.pw_headsheard_k20_whole_letters_checked_and.main.body.getD i (.Pass ⟨0, 0, 0, 0⟩)
/-- the defs without defaults, by their places -/
def defNos : List Nat := [13, 21, 23, 24, 25, 26, 27, 32, 34, 35, 39, 40, 41, 42, 43, 44, 47, 48, 49, 50, 51, 52, 53, 55, 56, 57, 58, 59, 60, 61, 62, 63, 64, 65, 66, 67, 68, 69, 70, 71, 72, 73, 74, 75, 76, 77, 78, 79, 80, 81, 82, 83, 84]
def nm (i : Nat) : Str := match top i with
  | .FunctionDef n .. => n
  | _ => ""
/-- names that stay the built-ins' -/
def freeNames : List Str := ["len", "isinstance", "int", "bool", "list", "tuple", "str", "range", "sorted", "enumerate", "all", "any", "min", "max"]
def fieldsOf (x : Str) : List Str := if x = "BadView" then ["what", "level", "node"] else if x = "BadText" then ["place"] else ["what"]
/-- the j-th statement of the i-th top's class -/
def mtop (i j : Nat) : Stmt := match top i with
  | .ClassDef _ _ _ b _ _ _ _ _ _ _ => b.getD j (.Pass ⟨0, 0, 0, 0⟩)
  | _ => .Pass ⟨0, 0, 0, 0⟩
def four : List Str := ["WrongLetter", "BadFacts", "BadView", "BadText"]
abbrev excL : List (Nat × Str × Str) := [(4, "BadStrength", "BadStrength.__init__"), (5, "BadFacts", "BadFacts.__init__"), (7, "BadText", "BadText.__init__"), (8, "BadView", "BadView.__init__"), (9, "WrongLetter", "WrongLetter.__init__")]
abbrev viL : List Str := ["levels", "round"]
abbrev faL : List Str := ["most", "lamps", "words", "hearing", "stretch", "told"]
def dFn (i : Nat) (n : Str) (dv : List He.Dv) : He.DefD := ⟨(n, none), n, n, defArgs (top i), defBody (top i), defScope (top i), dv, []⟩
def dIni (i : Nat) (x q : Str) (dv : List He.Dv) : He.DefD := ⟨(x, some "__init__"), "__init__", q, defArgs (mtop i 0), defBody (mtop i 0), defScope (mtop i 0), dv, []⟩
def fnA : List He.DefD := defNos.map fun i => dFn i (nm i) []
def fnB : List He.DefD := [dFn 12 "is_whole" [.non, .non], dFn 22 "data_text" [.int 0]]
def fnC : List He.DefD := excL.map fun e => dIni e.1 e.2.1 e.2.2 []
def fnD : List He.DefD := [dIni 45 "View" "View.__init__" [], dIni 31 "Facts" "Facts.__init__" [.non, .int 1, .int 1, .str "sums", .int 1]]
def fnL : List He.DefD := fnA ++ (fnB ++ (fnC ++ fnD))
def faA : List He.Fa := defNos.map fun i => .glo (nm i)
def faB : List He.Fa := ([("is_whole" : Str), "data_text", "View", "Facts", "BadStrength", "BadFacts", "BadText", "BadView", "WrongLetter"]).map .glo
def faC : List He.Fa := freeNames.map .free
def faD : List He.Fa := [.int "MOST_WORDS" 4, .int "LONGEST_WORD" 12, .int "MOST_FIGURES" 400, .int "DEEPEST" 20, .int "BEYOND" (10 ^ 400), .int "MOST_HEADS" 12, .int "MOST_STRETCH" 12, .int "MOST_LEVELS" 37, .int "MOST_NODES" 12, .str "LETTERS" "abcdefghijklmnopqrstuvwxyz", .str "FIGURES" "0123456789"]
def faE : List He.Fa := [.cls "View", .mkr "View", .cls "Facts", .mkr "Facts"]
def faF : List He.Fa := viL.map fun f => .noat "View" f
def faG : List He.Fa := faL.map fun f => .noat "Facts" f
def faAll : List He.Fa := faA ++ (faB ++ (faC ++ (faD ++ (faE ++ (faF ++ faG)))))
/-- an own exception class, made with its own __init__ -/
def oexB (K : PySem.W.Frag) (C : Addr) : Bool := (match K.lookup C with
    | some ⟨.type t, _, .cls cd, sl⟩ => decide (t = "type") && (match cd.mro, sl.toList with
      | .ref C' :: bm, [_, _, _, _, some (.builtin n), _] => decide (C' = C) && (decide (n = "ValueError.__new__") && (cd.hasDict && (!cd.hasDel && HandSPX.refsVE bm)))
      | _, _ => false)
    | _ => false) && (He.eqO (findIn K (.ref C) "__setattr__") (some (some (.builtin "object.__setattr__"))) && (decide (subIn K (.ref C) (.type "BaseException") = some true) && (decide (typeIn K (.ref C) = some (.type "type")) && keepIn K (.ref C))))
def exOne (K : PySem.W.Frag) (x : Str) : Bool := oexB K (He.ga K x) && (xfB K (He.ga K x) && (He.eqO (findIn K (.ref (He.ga K x)) "__init__") (some (some (.ref (He.ma K (He.ga K x) "__init__")))) && (decide (typeIn K (.ref (He.ma K (He.ga K x) "__init__")) = some (.type "function")) && (fieldsOf x).all fun f => He.eqO (findIn K (.ref (He.ga K x)) f) (some none))))
def vqB (K : PySem.W.Frag) (C : Addr) : Bool := He.eqO (findIn K (.ref C) "__class__") (some (some (.builtin "object.__class__"))) && (decide (PySem.W.specialIn K (.builtin "object.__class__") "__get__" = some (some (.builtin "getset_descriptor.__get__"))) && (decide (PySem.W.takesIn K (.builtin "object.__class__") = some true) && decide (mroIn K C (.type "object") = some true)))
def exB (K : PySem.W.Frag) : Bool := He.eqO (nsIn K mainGlobals "gcd") (some (some (.builtin "math.gcd"))) && ((excL.all fun e => exOne K e.2.1) && ((four.all fun x => four.all fun y => decide (exmOne K (.ref (He.ga K x)) (.ref (He.ga K y)) = some (decide (x = y)))) && (decide (exmOne K (.ref (He.ga K "BadStrength")) (.ref (He.ga K "BadStrength")) = some true) && vqB K (He.ga K "View"))))

/-! ### the Hook: what the module's names reach, frontier by frontier -/
def asF (g : Addr → Option Obj) : Nat → List Addr → List Addr
  | 0, _ => []
  | n + 1, as => as ++ asF g n (as.flatMap fun a => match g a with
    | some o => He.refsD o
    | none => [])
def fragF (g : Addr → Option Obj) : PySem.W.Frag := He.frT g (asF g 5 [mainGlobals])
def obsF (g : Addr → Option Obj) : He.AlD × Bool := (He.obsD faAll fnL (fragF g), exB (fragF g))
/-- what is told of the heap behind the top -/
def SaysF (h : Heap) (K : PySem.W.Frag) : Prop := K.In h ∧ He.SaysD faAll fnL K ∧ exB K = true
def hk : PySem.W.Hook where
  α := He.AlD × Bool
  obs := fun s => obsF s.heap.get?
  val := fun _ => (He.valD fnL, true)
  says := fun _ h => ∃ K : PySem.W.Frag, SaysF h K
  of := fun _ _ e => ⟨_, He.frT_in, congrArg (fun z : He.AlD × Bool => z.1) e, congrArg (fun z : He.AlD × Bool => z.2) e⟩
  keeps := fun _ _ _ ⟨K, hK, c⟩ k => ⟨K, PySem.W.Frag.In.keeps hK k, c⟩
abbrev R : PySem.W.OpenRow := PySem.W.OpenLaw.row PySem.Challenge.rw_headsheard_k20_whole_letters_checked_and
def ob (s : PySem.W.SharedT) : He.AlD × Bool := obsF (HandSHeadRun.getT s)
theorem ob_eq (s : PySem.W.SharedT) : ob s = hk.obs s.abs := congrArg obsF (funext (HandSHeadRun.getT_eq s))
def looseN : List PySem.Str := R.prog.boundNames.filter fun n => n != ("law" : PySem.Str) && n != ("__name__" : PySem.Str) && n != ("gcd" : PySem.Str)
/-- the run of the whole head -/
noncomputable def rr (w : World) : Option (Shared × PySem.W.SharedT) := HandSHeadRun.wholeF (fun p => HandSHeadRun.stepQ (HandSHeadRun.denQ HandSHeadRun.tabQ) p w) HandSHeadRun.fenceQ 20000 R.prog
set_option maxHeartbeats 0
section
open PySem.W
theorem run_looks (w : World) : (rr w).map (fun x => HandSHeadRun.looksF R.prog x.1.heap x.2.abs) = some true := by kernel_rfl
theorem run_seen (w : World) : (rr w).map (fun x => HandSHeadRun.seenQ (view R.prog [0, 84]) looseN (importedModules R.prog.main.body) (fun s => xlAt (view R.prog [0, 84]) [] s && recOk R.toRowW.records s) x.2.abs) = some (openGood (view R.prog [0, 84]) looseN) := by kernel_rfl
theorem run_ob (w : World) : (rr w).map (fun x => ob x.2) = some (hk.val w) := by kernel_rfl
theorem map3 {α β γ δ : Type} {x : Option α} {f : α → β} {g : α → γ} {k : α → δ} {b : β} {c : γ} {d : δ} (h1 : x.map f = some b) (h2 : x.map g = some c) (h3 : x.map k = some d) : x.map (fun a => (f a, g a, k a)) = some (b, c, d) := by
  cases x with
  | none => cases h1
  | some a =>
    cases h1
    cases h2
    cases h3
    rfl
theorem run (w : World) : HandSHeadRun.RunEqI R (view R.prog [0, 84]) hk ob 20000 looseN w := map3 (run_looks w) (run_seen w) (run_ob w)
end
end K20
set_option maxHeartbeats 2000000
/-! The data layer: what is known of the heap (B), what an expression gives as plain data. -/
namespace L2
open PySem PySem.Spec PyProof.Rows

abbrev Fg := PySem.W.Frag
section
variable {K : Fg} {B B' B'' H H' H'' : Hp}
theorem sqT_mono {a : Addr} {xs : List V} (e : Same B B') (h : SqT K B a xs) : SqT K B' a xs := by
  rcases h with (h | ⟨o, h⟩) | h
  · exact .inl (.inl (e _ _ h))
  · exact .inl (.inr ⟨o, e _ _ h⟩)
  · exact .inr h
mutual
theorem Dp.up (e : Same B B') : ∀ {d : PyData} {v : V}, Dp K B v d → Dp K B' v d
  | .none, _, h => by cases h; exact .non
  | .bool b, _, h => by cases h; exact .bl b
  | .int i, _, h => by cases h; exact .int i
  | .str x, _, h => by cases h; exact .str x
  | .list ds, _, h => by
    cases h with
    | lst hs ha => exact .lst (e.seq hs) (DpAll.up e ha)
  | .tuple ds, _, h => by
    cases h with
    | tup hs ha => exact .tup (sqT_mono e hs) (DpAll.up e ha)
  | .dict _, _, h => by cases h
theorem DpAll.up (e : Same B B') : ∀ {ds : List PyData} {vs : List V}, DpAll K B vs ds → DpAll K B' vs ds
  | [], _, h => by cases h; exact .nil
  | d :: ds, _, h => by
    cases h with
    | cons h1 h2 => exact .cons (Dp.up e h1) (DpAll.up e h2)
end
theorem DpAll.len : ∀ {ds : List PyData} {vs : List V}, DpAll K B vs ds → vs.length = ds.length
  | [], _, h => by cases h; rfl
  | d :: ds, _, h => by
    cases h with
    | cons h1 h2 => exact congrArg Nat.succ (DpAll.len h2)
theorem DpAll.get : ∀ {ds : List PyData} {vs : List V} {i : Nat} {v : V}, DpAll K B vs ds → vs[i]? = some v → ∃ d, ds[i]? = some d ∧ Dp K B v d
  | [], _, i, v, h, e => by cases h; simp at e
  | d :: ds, _, 0, v, h, e => by
    cases h with
    | cons h1 h2 =>
      cases (Option.some.inj e)
      exact ⟨d, rfl, h1⟩
  | d :: ds, _, i + 1, v, h, e => by
    cases h with
    | cons h1 h2 => exact DpAll.get (i := i) h2 (by simpa using e)
theorem DpAll.at : ∀ {ds : List PyData} {vs : List V} {i : Nat} {d : PyData}, DpAll K B vs ds → ds[i]? = some d → ∃ v, vs[i]? = some v ∧ Dp K B v d
  | [], _, i, v, h, e => by simp at e
  | d :: ds, _, 0, v, h, e => by
    cases h with
    | cons h1 h2 =>
      cases (Option.some.inj e)
      exact ⟨_, rfl, h1⟩
  | d :: ds, _, i + 1, v, h, e => by
    cases h with
    | cons h1 h2 => exact DpAll.at (i := i) h2 (by simpa using e)
theorem DpAll.app : ∀ {ds es : List PyData} {vs ws : List V}, DpAll K B vs ds → DpAll K B ws es → DpAll K B (vs ++ ws) (ds ++ es)
  | [], _, _, _, h, g => by cases h; exact g
  | d :: ds, _, _, _, h, g => by
    cases h with
    | cons h1 h2 => exact .cons h1 (DpAll.app h2 g)
theorem DpAll.take : ∀ {ds : List PyData} {vs : List V} (n : Nat), DpAll K B vs ds → DpAll K B (vs.take n) (ds.take n)
  | _, _, 0, h => .nil
  | [], _, n + 1, h => by cases h; exact .nil
  | d :: ds, _, n + 1, h => by
    cases h with
    | cons h1 h2 => exact .cons h1 (DpAll.take n h2)
theorem DpAll.drop : ∀ {ds : List PyData} {vs : List V} (n : Nat), DpAll K B vs ds → DpAll K B (vs.drop n) (ds.drop n)
  | _, _, 0, h => h
  | [], _, n + 1, h => by cases h; exact .nil
  | d :: ds, _, n + 1, h => by
    cases h with
    | cons h1 h2 => exact DpAll.drop n h2
theorem DpAll.snoc {ds : List PyData} {vs : List V} {v : V} {d : PyData} (h : DpAll K B vs ds) (g : Dp K B v d) : DpAll K B (vs ++ [v]) (ds ++ [d]) := h.app (.cons g .nil)
theorem Dp.int_inv {v : V} {i : Int} (h : Dp K B v (.int i)) : v = .int i := by cases h; rfl
theorem Dp.str_inv {v : V} {x : Str} (h : Dp K B v (.str x)) : v = .str x := by cases h; rfl
theorem Dp.bl_inv {v : V} {b : Bool} (h : Dp K B v (.bool b)) : v = .bl b := by cases h; rfl
theorem Dp.non_inv {v : V} (h : Dp K B v .none) : v = .non := by cases h; rfl
theorem Dp.tup_inv {v : V} {ds : List PyData} (h : Dp K B v (.tuple ds)) : ∃ a vs, v = .ref a ∧ SqT K B a vs ∧ DpAll K B vs ds := by
  cases h with
  | tup hs ha => exact ⟨_, _, rfl, hs, ha⟩
theorem Dp.lst_inv {v : V} {ds : List PyData} (h : Dp K B v (.list ds)) : ∃ a vs, v = .ref a ∧ SqL K B a vs ∧ DpAll K B vs ds := by
  cases h with
  | lst hs ha => exact ⟨_, _, rfl, hs, ha⟩
theorem DpAll.two {vs : List V} {d e : PyData} (h : DpAll K B vs [d, e]) : ∃ v w, vs = [v, w] ∧ Dp K B v d ∧ Dp K B w e := by
  cases h with
  | cons h1 h2 => cases h2 with
    | cons h2 h3 => cases h3; exact ⟨_, _, rfl, h1, h2⟩
theorem DpAll.three {vs : List V} {d e f : PyData} (h : DpAll K B vs [d, e, f]) : ∃ v w u, vs = [v, w, u] ∧ Dp K B v d ∧ Dp K B w e ∧ Dp K B u f := by
  cases h with
  | cons h1 h2 =>
    obtain ⟨v, w, rfl, h3, h4⟩ := h2.two
    exact ⟨_, _, _, rfl, h1, h3, h4⟩
theorem DpAll.one {vs : List V} {d : PyData} (h : DpAll K B vs [d]) : ∃ v, vs = [v] ∧ Dp K B v d := by
  cases h with
  | cons h1 h2 => cases h2; exact ⟨_, rfl, h1⟩
theorem DpAll.zero {vs : List V} (h : DpAll K B vs []) : vs = [] := by cases h; rfl
end

end L2
namespace K20
open PySem PySem.Spec L2
open PyProof.Rows hiding St
/-! ### the state of the draws -/
/-- where the draws' state lies (its list, its cells' list), if there is one -/
abbrev Dr := Option (Addr × Addr)
def DS (H : Hp) (a c : Addr) : Prop := ∃ (xs : List Int) (p : Nat) (g m k : Int), H a = some (.lst [.ref c, .int p, .int g, .int m, .int k]) ∧ c ≠ a ∧ H c = some (.lst (xs.map V.int)) ∧ p ≤ xs.length
/-- what is known (B) of the heap (H); the draws' state, if there is one -/
structure Ok (d : Dr) (B H : Hp) : Prop where
  kh : Same B H
  ds : ∀ a c, d = some (a, c) → B a = none ∧ DS H a c
/-- from (B, H) to (B', H'): all that stood stands but the draws' state; what is newly known is new -/
structure Tr (d : Dr) (B H B' H' : Hp) : Prop where
  kb : Same B B'
  old : ∀ a o, H a = some o → (∀ c, d ≠ some (a, c)) → H' a = some o
  dom : ∀ a, H' a = none → H a = none
  new : ∀ a, H a ≠ none → B a = none → B' a = none
section
variable {K : Fg} {d : Dr} {B B1 B2 B3 H H1 H2 H3 H0 : Hp}
theorem Tr.refl : Tr d B H B H := ⟨Same.refl B, fun _ _ h _ => h, fun _ h => h, fun _ _ h => h⟩
theorem Tr.trans (a : Tr d B H B1 H1) (b : Tr d B1 H1 B2 H2) : Tr d B H B2 H2 :=
  ⟨a.kb.trans b.kb, fun x o h n => b.old x o (a.old x o h n) n, fun x h => a.dom x (b.dom x h), fun x h n => b.new x (fun z => h (a.dom x z)) (a.new x h n)⟩
/-- a call that leaves the draws alone -/
theorem Tr.all (a : Tr none B H B1 H1) : Same H H1 := fun x o h => a.old x o h (fun _ z => nomatch z)
theorem Tr.weak (a : Tr none B H B1 H1) : Tr d B H B1 H1 := ⟨a.kb, fun x o h _ => a.all x o h, a.dom, a.new⟩
theorem DS.keep {a c : Addr} (h : DS H a c) (k : Same H H1) : DS H1 a c := by
  obtain ⟨xs, p, g, m, kk, h1, h2, h3, h4⟩ := h
  exact ⟨xs, p, g, m, kk, k _ _ h1, h2, k _ _ h3, h4⟩
theorem DS.a {a c : Addr} (h : DS H a c) : H a ≠ none := by
  obtain ⟨xs, p, g, m, kk, h1, h2, h3, h4⟩ := h
  rw [h1]
  exact fun z => nomatch z
theorem DS.c {a c : Addr} (h : DS H a c) : H c ≠ none := by
  obtain ⟨xs, p, g, m, kk, h1, h2, h3, h4⟩ := h
  rw [h3]
  exact fun z => nomatch z
theorem Ok.pure (ok : Ok d B H) : Ok none B H := ⟨ok.kh, fun _ _ z => nomatch z⟩
theorem Ok.step (ok : Ok d B H) (t : Tr none B H B1 H1) (k : Ok none B1 H1) : Ok d B1 H1 := by
  refine ⟨k.kh, fun a c e => ?_⟩
  obtain ⟨n, s⟩ := ok.ds a c e
  exact ⟨t.new a s.a n, s.keep t.all⟩
/-- the knowledge of before is knowledge still -/
theorem Ok.back (ok : Ok d B H) (t : Tr d B H B1 H1) (k : Ok d B1 H1) : Ok d B H1 := ⟨t.kb.trans k.kh, fun a c e => ⟨(ok.ds a c e).1, (k.ds a c e).2⟩⟩
theorem Tr.back (t : Tr d B H B1 H1) : Tr d B H B H1 := ⟨Same.refl B, t.old, t.dom, fun _ _ h => h⟩
theorem Ok.free (ok : Ok d B H) {p : Addr} (hp : H p = none) : B p = none := by
  cases e : B p with
  | none => rfl
  | some v => rw [ok.kh _ _ e] at hp; cases hp
theorem same_upd {p : Addr} {o : HO} (hp : H p = none) : Same H (upd H p o) := fun a u h => by
  rw [upd_ne (ne_of_none h hp)]
  exact h
theorem same_upd2 {p : Addr} {o : HO} (h : Same B H) (hp : B p = none) : Same B (upd H p o) := fun a u e => by
  rw [upd_ne (ne_of_none e hp)]
  exact h _ _ e
theorem dom_upd {p a : Addr} {o : HO} (h : upd H p o a = none) : H a = none := by
  by_cases e : a = p
  · rw [e, upd_same] at h
    cases h
  · rw [upd_ne e] at h
    exact h
/-- a new object that is known from now on -/
theorem Tr.lay {p : Addr} {o : HO} (ok : Ok d B H) (hp : H p = none) : Tr d B H (upd B p o) (upd H p o) := by
  refine ⟨same_upd (ok.free hp), fun a u h _ => same_upd hp a u h, fun a h => dom_upd h, fun a h n => ?_⟩
  rw [upd_ne fun z => h (by rw [z]; exact hp)]
  exact n
theorem Ok.lay {p : Addr} {o : HO} (ok : Ok d B H) (hp : H p = none) : Ok d (upd B p o) (upd H p o) := by
  refine ⟨fun a u h => ?_, fun a c e => ?_⟩
  · by_cases z : a = p
    · rw [z, upd_same] at h
      rw [z, upd_same]
      exact h
    · rw [upd_ne z] at h
      rw [upd_ne z]
      exact ok.kh _ _ h
  · obtain ⟨n, s⟩ := ok.ds a c e
    refine ⟨?_, s.keep (same_upd hp)⟩
    rw [upd_ne fun z => s.a (by rw [z]; exact hp)]
    exact n
/-- a new object that is not known (it will change) -/
theorem Tr.lay0 {p : Addr} {o : HO} (hp : H p = none) : Tr d B H B (upd H p o) := ⟨Same.refl B, fun a u h _ => same_upd hp a u h, fun a h => dom_upd h, fun _ _ n => n⟩
theorem Ok.lay0 {p : Addr} {o : HO} (ok : Ok d B H) (hp : H p = none) : Ok d B (upd H p o) := ⟨same_upd2 ok.kh (ok.free hp), fun a c e => ⟨(ok.ds a c e).1, (ok.ds a c e).2.keep (same_upd hp)⟩⟩
/-- an object of one's own that changes: it was not there at the entry (H0), and is not known -/
structure Mu (d : Dr) (H0 B H : Hp) (p : Addr) (o : HO) : Prop where
  new : H0 p = none
  hid : B p = none
  at_ : H p = some o
  nd : ∀ a c, d = some (a, c) → p ≠ a ∧ p ≠ c
theorem Mu.on {p : Addr} {o : HO} (m : Mu d H0 B H p o) (t : Tr d B H B1 H1) : Mu d H0 B1 H1 p o :=
  ⟨m.new, t.new p (by rw [m.at_]; exact fun z => nomatch z) m.hid, t.old p o m.at_ fun c e => (m.nd p c e).1 rfl, m.nd⟩
theorem Mu.other {p q : Addr} {o u : HO} (m : Mu d H0 B H q u) (h : q ≠ p) : Mu d H0 B (upd H p o) q u := ⟨m.new, m.hid, by rw [upd_ne h]; exact m.at_, m.nd⟩
theorem Mu.set {p : Addr} {o u : HO} (m : Mu d H0 B H p o) : Mu d H0 B (upd H p u) p u := ⟨m.new, m.hid, upd_same, m.nd⟩
theorem Mu.make {p : Addr} {o : HO} (ok0 : Ok d B1 H0) (ok : Ok d B H) (t : Tr d B1 H0 B H) (hp : H p = none) : Mu d H0 B (upd H p o) p o :=
  ⟨t.dom p hp, ok.free hp, upd_same, fun a c e => by
    obtain ⟨_, s⟩ := ok.ds a c e
    exact ⟨fun z => s.a (by rw [← z]; exact hp), fun z => s.c (by rw [← z]; exact hp)⟩⟩
theorem Tr.mut {p : Addr} {o u : HO} (t : Tr d B2 H0 B H) (m : Mu d H0 B H p u) : Tr d B2 H0 B (upd H p o) := by
  refine ⟨t.kb, fun a v h n => ?_, fun a h => t.dom a (dom_upd h), t.new⟩
  rw [upd_ne (ne_of_none h m.new)]
  exact t.old a v h n
theorem Ok.mut {p : Addr} {o u : HO} (ok : Ok d B H) (m : Mu d H0 B H p u) : Ok d B (upd H p o) := by
  refine ⟨same_upd2 ok.kh m.hid, fun a c e => ⟨(ok.ds a c e).1, ?_⟩⟩
  obtain ⟨xs, q, g, mm, kk, h1, h2, h3, h4⟩ := (ok.ds a c e).2
  obtain ⟨n1, n2⟩ := m.nd a c e
  exact ⟨xs, q, g, mm, kk, by rw [upd_ne (Ne.symm n1)]; exact h1, h2, by rw [upd_ne (Ne.symm n2)]; exact h3, h4⟩
/-- .. and is known from now on -/
theorem Tr.freeze {p : Addr} {o : HO} (t : Tr d B2 H0 B H) (m : Mu d H0 B H p o) : Tr d B2 H0 (upd B p o) H := by
  refine ⟨fun a u h => same_upd m.hid a u (t.kb _ _ h), t.old, t.dom, fun a h n => ?_⟩
  rw [upd_ne fun z => h (by rw [z]; exact m.new)]
  exact t.new a h n
theorem Ok.freeze {p : Addr} {o : HO} (ok : Ok d B H) (m : Mu d H0 B H p o) : Ok d (upd B p o) H := by
  refine ⟨fun a u h => ?_, fun a c e => ⟨?_, (ok.ds a c e).2⟩⟩
  · by_cases z : a = p
    · rw [z, upd_same] at h
      rw [z, m.at_]
      exact h
    · rw [upd_ne z] at h
      exact ok.kh _ _ h
  · rw [upd_ne (Ne.symm (m.nd a c e).1)]
    exact (ok.ds a c e).1
end

/-! ### what stands in the slots -/
inductive Sd where
  | any
  | dat (t : PyData)
  | raw (v : V)
def SdOk (K : Fg) (B : Hp) : Sd → Option V → Prop
  | .any, _ => True
  | .dat t, s => ∃ v, s = some v ∧ Dp K B v t
  | .raw v, s => s = some v
structure Sl (K : Fg) (B : Hp) (σ : St) (ds : List Sd) : Prop where
  at_ : ∀ (i : Nat) (x : Sd), ds[i]? = some x → ∃ s, σ[i]? = some s ∧ SdOk K B x s
section
variable {K : Fg} {d : Dr} {B B1 B2 H H1 H2 : Hp} {σ : St} {ds : List Sd}
theorem SdOk.up (e : Same B B1) {x : Sd} {s : Option V} (h : SdOk K B x s) : SdOk K B1 x s := by
  cases x with
  | any => trivial
  | dat t =>
    obtain ⟨v, h1, h2⟩ := h
    exact ⟨v, h1, h2.up e⟩
  | raw v => exact h
theorem Sl.up (h : Sl K B σ ds) (e : Same B B1) : Sl K B1 σ ds := ⟨fun i x hx => by
  obtain ⟨s, h1, h2⟩ := h.at_ i x hx
  exact ⟨s, h1, h2.up e⟩⟩
theorem Sl.dat (h : Sl K B σ ds) {i : Nat} {t : PyData} (e : ds[i]? = some (.dat t)) : ∃ v, σ[i]? = some (some v) ∧ Dp K B v t := by
  obtain ⟨s, h1, v, h2, h3⟩ := h.at_ i _ e
  rw [h2] at h1
  exact ⟨v, h1, h3⟩
theorem Sl.raw (h : Sl K B σ ds) {i : Nat} {v : V} (e : ds[i]? = some (.raw v)) : σ[i]? = some (some v) := by
  obtain ⟨s, h1, h2⟩ := h.at_ i _ e
  rw [show s = some v from h2] at h1
  exact h1
theorem Sl.put (h : Sl K B σ ds) (i : Nat) {s : Option V} {x : Sd} (g : SdOk K B x s) : Sl K B (σ.set i s) (ds.set i x) := ⟨fun j y hy => by
  by_cases e : i = j
  · subst e
    by_cases hl : i < ds.length
    · rw [List.getElem?_set_self hl] at hy
      cases hy
      obtain ⟨s1, h1, _⟩ := h.at_ i _ (List.getElem?_eq_getElem hl)
      have hs : i < σ.length := (List.getElem?_eq_some_iff.mp h1).1
      exact ⟨_, List.getElem?_set_self hs, g⟩
    · rw [List.getElem?_eq_none (by simpa using hl)] at hy
      cases hy
  · rw [List.getElem?_set_ne e] at hy
    rw [List.getElem?_set_ne e]
    exact h.at_ j y hy⟩
theorem Sl.set (h : Sl K B σ ds) {i : Nat} {v : V} {x : Sd} (g : SdOk K B x (some v)) : Sl K B (σ.set i (some v)) (ds.set i x) := h.put i g
theorem Sl.forget (h : Sl K B σ ds) (i : Nat) : Sl K B (σ.set i none) (ds.set i .any) := h.put i trivial
/-- less is said -/
theorem Sl.weak {ds' : List Sd} (h : Sl K B σ ds) (g : ∀ (i : Nat) (x : Sd), ds'[i]? = some x → x = .any ∧ i < ds.length ∨ ds[i]? = some x) : Sl K B σ ds' := ⟨fun i x hx => by
  rcases g i x hx with ⟨e, hl⟩ | e
  · obtain ⟨s, h1, _⟩ := h.at_ i _ (List.getElem?_eq_getElem hl)
    rw [e]
    exact ⟨s, h1, trivial⟩
  · exact h.at_ i x e⟩
end

/-! ### what an expression gives -/
/-- the result's set -/
def Ret (K : Fg) (d : Dr) (B H : Hp) (S : PyData → Prop) (Q : VK) : Prop := ∀ v t B' H', Tr d B H B' H' → Ok d B' H' → Dp K B' v t → S t → Q v H'
def Ev (K : Fg) (d : Dr) (te : TE) (ds : List Sd) (B : Hp) (S : PyData → Prop) : Prop :=
  ∀ B1 σ H, Same B B1 → Sl K B1 σ ds → Ok d B1 H → ∀ Q : VK, Ret K d B1 H S Q → te σ H Q
def RetA (K : Fg) (d : Dr) (B H : Hp) (S : List PyData → Prop) (Q : List V → Hp → Prop) : Prop := ∀ vs ts B' H', Tr d B H B' H' → Ok d B' H' → DpAll K B' vs ts → S ts → Q vs H'
def EvA (K : Fg) (d : Dr) (te : TA) (ds : List Sd) (B : Hp) (S : List PyData → Prop) : Prop :=
  ∀ B1 σ H, Same B B1 → Sl K B1 σ ds → Ok d B1 H → ∀ Q : List V → Hp → Prop, RetA K d B1 H S Q → te σ H Q
def RetT (d : Dr) (B H : Hp) (S : Bool → Prop) (Q : Bool → Hp → Prop) : Prop := ∀ b H', Tr d B H B H' → Ok d B H' → S b → Q b H'
def EvT (K : Fg) (d : Dr) (te : TT) (ds : List Sd) (B : Hp) (S : Bool → Prop) : Prop :=
  ∀ B1 σ H, Same B B1 → Sl K B1 σ ds → Ok d B1 H → ∀ Q : Bool → Hp → Prop, RetT d B1 H S Q → te σ H Q
section
variable {K : Fg} {d : Dr} {B B1 B2 H H1 H2 : Hp} {σ : St} {ds : List Sd} {S S' Sa Sb : PyData → Prop} {te ta tb : TE} {tt tu : TT}
theorem Ev.up (h : Ev K d te ds B S) (e : Same B B1) : Ev K d te ds B1 S := fun B2 σ H e2 => h B2 σ H (e.trans e2)
theorem EvT.up {S : Bool → Prop} (h : EvT K d tt ds B S) (e : Same B B1) : EvT K d tt ds B1 S := fun B2 σ H e2 => h B2 σ H (e.trans e2)
theorem Ev.to (h : Ev K d te ds B S) (k : ∀ t, S t → S' t) : Ev K d te ds B S' := fun B1 σ H e sl ok Q r => h B1 σ H e sl ok Q fun v t B' H' tr ok' hd hs => r v t B' H' tr ok' hd (k t hs)
theorem Ret.after {Q : VK} (r : Ret K d B H S Q) (t : Tr d B H B1 H1) : Ret K d B1 H1 S Q := fun v x B' H' tr ok hd hs => r v x B' H' (t.trans tr) ok hd hs
theorem RetT.after {S : Bool → Prop} {Q : Bool → Hp → Prop} (r : RetT d B H S Q) (t : Tr d B H B H1) : RetT d B H1 S Q := fun b H' tr ok hs => r b H' (t.trans tr) ok hs
theorem ev_var {i : Nat} {t : PyData} (e : ds[i]? = some (.dat t)) : Ev K d (tVar i) ds B (· = t) := fun B1 σ H _ sl ok Q r => by
  obtain ⟨v, h1, h2⟩ := sl.dat e
  exact ⟨v, h1, r v t B1 H .refl ok h2 rfl⟩
/-- two values, then the rest -/
def RV (K : Fg) (d : Dr) (r : R2) (B : Hp) (Sa Sb S : PyData → Prop) : Prop :=
  ∀ B1 H x y ta tb, Same B B1 → Ok d B1 H → Dp K B1 x ta → Dp K B1 y tb → Sa ta → Sb tb → ∀ Q, Ret K d B1 H S Q → r x y H Q
theorem ev_op {r : R2} (ha : Ev K d ta ds B Sa) (hb : Ev K d tb ds B Sb) (hr : RV K d r B Sa Sb S) : Ev K d (tOp r ta tb) ds B S := fun B1 σ H e sl ok Q k =>
  ha B1 σ H e sl ok _ fun v t B2 H2 tr2 ok2 hd hs => hb B2 σ H2 (e.trans tr2.kb) (sl.up tr2.kb) ok2 _ fun w u B3 H3 tr3 ok3 hd3 hs3 =>
    hr B3 H3 v w t u ((e.trans tr2.kb).trans tr3.kb) ok3 (hd.up tr3.kb) hd3 hs hs3 Q ((k.after tr2).after tr3)
theorem ev_un {r : V → Hp → VK → Prop} (ha : Ev K d ta ds B Sa) (hr : ∀ B1 H x t, Same B B1 → Ok d B1 H → Dp K B1 x t → Sa t → ∀ Q, Ret K d B1 H S Q → r x H Q) : Ev K d (tUn r ta) ds B S := fun B1 σ H e sl ok Q k =>
  ha B1 σ H e sl ok _ fun v t B2 H2 tr2 ok2 hd hs => hr B2 H2 v t (e.trans tr2.kb) ok2 hd hs Q (k.after tr2)
theorem ea_nil : EvA K d tNil ds B (· = []) := fun B1 σ H _ _ ok Q r => r [] [] B1 H .refl ok .nil rfl
theorem ea_cons {tr : TA} {Ss S2 : List PyData → Prop} (h : Ev K d te ds B Sa) (hr : EvA K d tr ds B Ss) (k : ∀ t ts, Sa t → Ss ts → S2 (t :: ts)) : EvA K d (tCons te tr) ds B S2 := fun B1 σ H e sl ok Q r =>
  h B1 σ H e sl ok _ fun v t B2 H2 tr2 ok2 hd hs => hr B2 σ H2 (e.trans tr2.kb) (sl.up tr2.kb) ok2 _ fun vs ts B3 H3 tr3 ok3 hd3 hs3 =>
    r (v :: vs) (t :: ts) B3 H3 (tr2.trans tr3) ok3 (.cons (hd.up tr3.kb) hd3) (k t ts hs hs3)
theorem small_line {n : Nat} (h : n ≤ 100000) : n ≤ sizeLine := Nat.le_trans h (by decide)
theorem ev_tup {t : TA} {Ss : List PyData → Prop} (h : EvA K d t ds B Ss) (hl : ∀ ts, Ss ts → ts.length ≤ 100000) (k : ∀ ts, Ss ts → S (.tuple ts)) : Ev K d (tTup t) ds B S := fun B1 σ H e sl ok Q r =>
  h B1 σ H e sl ok _ fun vs ts B2 H2 tr2 ok2 hd hs => ⟨small_line (by rw [hd.len]; exact hl ts hs), fun p hp => by
    have s1 : Same B2 (upd B2 p (.tup vs)) := (Tr.lay (o := .tup vs) ok2 hp).kb
    exact r (.ref p) (.tuple ts) _ _ (tr2.trans (Tr.lay ok2 hp)) (ok2.lay hp) (.tup (SqT.of upd_same) (hd.up s1)) (k ts hs)⟩
theorem ev_lst {t : TA} {Ss : List PyData → Prop} (h : EvA K d t ds B Ss) (hl : ∀ ts, Ss ts → ts.length ≤ 100000) (k : ∀ ts, Ss ts → S (.list ts)) : Ev K d (tLst t) ds B S := fun B1 σ H e sl ok Q r =>
  h B1 σ H e sl ok _ fun vs ts B2 H2 tr2 ok2 hd hs => ⟨small_line (by rw [hd.len]; exact hl ts hs), fun p hp => by
    have s1 : Same B2 (upd B2 p (.lst vs)) := (Tr.lay (o := .lst vs) ok2 hp).kb
    exact r (.ref p) (.list ts) _ _ (tr2.trans (Tr.lay ok2 hp)) (ok2.lay hp) (.lst (SqL.of upd_same) (hd.up s1)) (k ts hs)⟩
/-- a built-in's call -/
def RC (K : Fg) (d : Dr) (r : List V → Hp → VK → Prop) (B : Hp) (Ss : List PyData → Prop) (S : PyData → Prop) : Prop :=
  ∀ B1 H vs ts, Same B B1 → Ok d B1 H → DpAll K B1 vs ts → Ss ts → ∀ Q, Ret K d B1 H S Q → r vs H Q
theorem ev_cb {r : List V → Hp → VK → Prop} {t : TA} {Ss : List PyData → Prop} (h : EvA K d t ds B Ss) (hr : RC K d r B Ss S) : Ev K d (tCB r t) ds B S := fun B1 σ H e sl ok Q k =>
  h B1 σ H e sl ok _ fun vs ts B2 H2 tr2 ok2 hd hs => hr B2 H2 vs ts (e.trans tr2.kb) ok2 hd hs Q (k.after tr2)
/-! tests -/
theorem et_test {Sb : Bool → Prop} (h : Ev K d te ds B S) (k : ∀ t, S t → ∃ b, t = .bool b ∧ Sb b) : EvT K d (tTest te) ds B Sb := fun B1 σ H e sl ok Q r =>
  h B1 σ H e sl ok _ fun v t B2 H2 tr2 ok2 hd hs => by
    obtain ⟨b, rfl, hb⟩ := k t hs
    exact ⟨b, hd.bl_inv, r b H2 tr2.back (ok.back tr2 ok2) hb⟩
theorem et_B {Sb : Bool → Prop} (h : Ev K d te ds B S) (k : ∀ t, S t → ∃ b, t = .bool b ∧ Sb b) : EvT K d (tB te) ds B Sb := fun B1 σ H e sl ok Q r =>
  h B1 σ H e sl ok _ fun v t B2 H2 tr2 ok2 hd hs => by
    obtain ⟨b, rfl, hb⟩ := k t hs
    exact ⟨b, hd.bl_inv, r b H2 tr2.back (ok.back tr2 ok2) hb⟩
theorem et_and {S1 S2 S3 : Bool → Prop} (h1 : EvT K d tt ds B S1) (h2 : S1 true → EvT K d tu ds B S2) (k0 : S1 false → S3 false) (k1 : ∀ b, S1 true → S2 b → S3 b) : EvT K d (tAnd tt tu) ds B S3 := fun B1 σ H e sl ok Q r =>
  h1 B1 σ H e sl ok _ fun b H2 tr2 ok2 hs => by
    cases b with
    | true => exact iteT (h2 hs B1 σ H2 e sl ok2 _ fun b H3 tr3 ok3 hs3 => r b H3 (tr2.trans tr3) ok3 (k1 b hs hs3))
    | false => exact iteF (r false H2 tr2 ok2 (k0 hs))
theorem et_or {S1 S2 S3 : Bool → Prop} (h1 : EvT K d tt ds B S1) (h2 : S1 false → EvT K d tu ds B S2) (k0 : S1 true → S3 true) (k1 : ∀ b, S1 false → S2 b → S3 b) : EvT K d (tOr tt tu) ds B S3 := fun B1 σ H e sl ok Q r =>
  h1 B1 σ H e sl ok _ fun b H2 tr2 ok2 hs => by
    cases b with
    | false => exact iteF (h2 hs B1 σ H2 e sl ok2 _ fun b H3 tr3 ok3 hs3 => r b H3 (tr2.trans tr3) ok3 (k1 b hs hs3))
    | true => exact iteT (r true H2 tr2 ok2 (k0 hs))
theorem et_not {S1 S2 : Bool → Prop} (h1 : EvT K d tt ds B S1) (k : ∀ b, S1 b → S2 (!b)) : EvT K d (tNot tt) ds B S2 := fun B1 σ H e sl ok Q r =>
  h1 B1 σ H e sl ok _ fun b H2 tr2 ok2 hs => r (!b) H2 tr2 ok2 (k b hs)
theorem ev_if {S1 : Bool → Prop} (h1 : EvT K d tt ds B S1) (ha : S1 true → Ev K d ta ds B S) (hb : S1 false → Ev K d tb ds B S) : Ev K d (tIf tt ta tb) ds B S := fun B1 σ H e sl ok Q r =>
  h1 B1 σ H e sl ok _ fun b H2 tr2 ok2 hs => by
    cases b with
    | true => exact iteT (ha hs B1 σ H2 e sl ok2 Q (r.after tr2))
    | false => exact iteF (hb hs B1 σ H2 e sl ok2 Q (r.after tr2))
theorem ev_and {S1 : PyData → Prop} (h1 : Ev K d ta ds B S1) (hk : ∀ t, S1 t → ∃ b, t = .bool b) (h2 : S1 (.bool true) → Ev K d tb ds B S) (k0 : S1 (.bool false) → S (.bool false)) : Ev K d (tAndV ta tb) ds B S := fun B1 σ H e sl ok Q r =>
  h1 B1 σ H e sl ok _ fun v t B2 H2 tr2 ok2 hd hs => by
    obtain ⟨b, rfl⟩ := hk t hs
    refine ⟨b, hd.bl_inv, ?_⟩
    cases b with
    | true => exact iteT (h2 hs B2 σ H2 (e.trans tr2.kb) (sl.up tr2.kb) ok2 Q (r.after tr2))
    | false => exact iteF (r (.bl false) (.bool false) B2 H2 tr2 ok2 (.bl false) (k0 hs))
theorem ev_or {S1 : PyData → Prop} (h1 : Ev K d ta ds B S1) (hk : ∀ t, S1 t → ∃ b, t = .bool b) (h2 : S1 (.bool false) → Ev K d tb ds B S) (k0 : S1 (.bool true) → S (.bool true)) : Ev K d (tOrV ta tb) ds B S := fun B1 σ H e sl ok Q r =>
  h1 B1 σ H e sl ok _ fun v t B2 H2 tr2 ok2 hd hs => by
    obtain ⟨b, rfl⟩ := hk t hs
    refine ⟨b, hd.bl_inv, ?_⟩
    cases b with
    | false => exact iteF (h2 hs B2 σ H2 (e.trans tr2.kb) (sl.up tr2.kb) ok2 Q (r.after tr2))
    | true => exact iteT (r (.bl true) (.bool true) B2 H2 tr2 ok2 (.bl true) (k0 hs))
theorem ev_not {S1 : PyData → Prop} (h1 : Ev K d ta ds B S1) (k : ∀ t, S1 t → ∃ b, t = .bool b ∧ S (.bool (!b))) : Ev K d (tNotV ta) ds B S := fun B1 σ H e sl ok Q r =>
  h1 B1 σ H e sl ok _ fun v t B2 H2 tr2 ok2 hd hs => by
    obtain ⟨b, rfl, hb⟩ := k t hs
    exact ⟨b, hd.bl_inv, r (.bl (!b)) (.bool (!b)) B2 H2 tr2 ok2 (.bl _) hb⟩
end
end K20
set_option maxHeartbeats 2000000
/-! Expressions of the text, one lemma a construct. -/
namespace K20
open PySem PySem.Spec L2
open PyProof.Rows hiding St
/-! ### the weakest readings -/
structure wE (X : Cx) (e : Expr) (σ : St) (H : Hp) (Q : VK) : Prop where
  run : ∀ pins s, Inv X pins σ H s → wpAny (model X.prog X.w) X.A (eval e X.env) (EP X pins σ Q) X.xe s
structure wT (X : Cx) (e : Expr) (σ : St) (H : Hp) (Q : Bool → Hp → Prop) : Prop where
  run : ∀ pins s, Inv X pins σ H s → wpAny (model X.prog X.w) X.A (isTrue e X.env (eval e X.env)) (TP X pins σ Q) X.xe s
structure wA (X : Cx) (es : List Expr) (σ : St) (H : Hp) (Q : List V → Hp → Prop) : Prop where
  run : ∀ pos pins s, Inv X pins σ H s → wpAny (model X.prog X.w) X.A (spliced (backTo pos (starEach es X.env))) (AP X pins σ Q) X.xe s
structure wS (X : Cx) (st : Stmt) (D : Ends) (σ : St) (H : Hp) : Prop where
  run : ∀ pins s, Inv X pins σ H s → wpAny (model X.prog X.w) X.A (exec st X.env) (SP X pins D) X.xe s
structure wSs (X : Cx) (st : List Stmt) (D : Ends) (σ : St) (H : Hp) : Prop where
  run : ∀ pins s, Inv X pins σ H s → wpAny (model X.prog X.w) X.A (execs st X.env) (SP X pins D) X.xe s
section
variable {X : Cx}
theorem pe_w {e : Expr} : PE X e (wE X e) := ⟨fun pins s σ H Q I h => h.run pins s I⟩
theorem pt_w {e : Expr} : PT X e (wT X e) := ⟨fun pins s σ H Q I h => h.run pins s I⟩
theorem pa_w {es : List Expr} : PA X es (wA X es) := ⟨fun pos pins s σ H Q I h => h.run pos pins s I⟩
theorem ps_w {st : Stmt} : PS X st (wS X st) := ⟨fun pins s σ H D I h => h.run pins s I⟩
theorem pss_w {st : List Stmt} : PSs X st (wSs X st) := ⟨fun pins s σ H D I h => h.run pins s I⟩
theorem w_e {e : Expr} {te : TE} (h : PE X e te) {σ : St} {H : Hp} {Q : VK} (q : te σ H Q) : wE X e σ H Q := ⟨fun pins s I => h.run pins s σ H Q I q⟩
theorem w_t {e : Expr} {te : TT} (h : PT X e te) {σ : St} {H : Hp} {Q : Bool → Hp → Prop} (q : te σ H Q) : wT X e σ H Q := ⟨fun pins s I => h.run pins s σ H Q I q⟩
theorem w_a {e : List Expr} {te : TA} (h : PA X e te) {σ : St} {H : Hp} {Q : List V → Hp → Prop} (q : te σ H Q) : wA X e σ H Q := ⟨fun pos pins s I => h.run pos pins s σ H Q I q⟩
theorem w_s {st : Stmt} {t : TS} (h : PS X st t) {D : Ends} {σ : St} {H : Hp} (q : t D σ H) : wS X st D σ H := ⟨fun pins s I => h.run pins s σ H D I q⟩
theorem w_ss {st : List Stmt} {t : TS} (h : PSs X st t) {D : Ends} {σ : St} {H : Hp} (q : t D σ H) : wSs X st D σ H := ⟨fun pins s I => h.run pins s σ H D I q⟩
end
/-! ### expressions as data -/
abbrev DE (X : Cx) (d : Dr) (e : Expr) (ds : List Sd) (B : Hp) (S : PyData → Prop) : Prop := Ev X.K d (wE X e) ds B S
abbrev DA (X : Cx) (d : Dr) (es : List Expr) (ds : List Sd) (B : Hp) (S : List PyData → Prop) : Prop := EvA X.K d (wA X es) ds B S
abbrev DT (X : Cx) (d : Dr) (e : Expr) (ds : List Sd) (B : Hp) (S : Bool → Prop) : Prop := EvT X.K d (wT X e) ds B S
section
variable {X : Cx} {d : Dr} {ds : List Sd} {B : Hp} {S Sa Sb Sc : PyData → Prop} {e a b c : Expr} {es : List Expr} {pos p p2 : Pos} {x : Str}
theorem de_of {te : TE} (h : PE X e te) (q : Ev X.K d te ds B S) : DE X d e ds B S := fun B1 σ H e sl ok Q r => w_e h (q B1 σ H e sl ok Q r)
theorem da_of {te : TA} (h : PA X es te) {S : List PyData → Prop} (q : EvA X.K d te ds B S) : DA X d es ds B S := fun B1 σ H e sl ok Q r => w_a h (q B1 σ H e sl ok Q r)
theorem dt_of {te : TT} (h : PT X e te) {S : Bool → Prop} (q : EvT X.K d te ds B S) : DT X d e ds B S := fun B1 σ H e sl ok Q r => w_t h (q B1 σ H e sl ok Q r)
/-- a name of the def's -/
theorem v (i : Nat) {t : PyData} (e : ds[i]? = some (.dat t) := by rfl) (hN : X.N[i]? = some x := by rfl) (hv : Vis X.env.scope x := by first | exact Or.inl rfl | exact Or.inr (Or.inl rfl) | exact Or.inr (Or.inr rfl)) (hd : (x == ("__debug__" : Str)) = false := by decide)
    (hcd : (x == ("__classdict__" : Str)) = false := by decide) : DE X d (.Name x pos) ds B (· = t) := de_of (pe_var hN hv hd hcd) (ev_var e)
theorem ev_c {K : Fg} {w : V} {t : PyData} (h : ∀ B, Dp K B w t) : Ev K d (tC w) ds B (· = t) := fun B1 σ H _ sl ok Q r => r w t B1 H .refl ok (h B1) rfl
theorem dI {i : Int} {j} : DE X d (.Constant (.int i) j pos) ds B (· = .int i) := de_of pe_int (ev_c fun _ => .int i)
theorem dB {i : Bool} {j} : DE X d (.Constant (.bool i) j pos) ds B (· = .bool i) := de_of pe_bl (ev_c fun _ => .bl i)
theorem dN {j} : DE X d (.Constant .none j pos) ds B (· = .none) := de_of pe_non (ev_c fun _ => .non)
theorem dS {i : Str} {j} : DE X d (.Constant (.str i) j pos) ds B (· = .str i) := de_of pe_str (ev_c fun _ => .str i)
/-- a module's constant -/
theorem dGI {i : Int} (h : ∃ t, X.mg x = some (.int i t)) (hg : Gl X x := by rfl) (hd : (x == ("__debug__" : Str)) = false := by decide) : DE X d (.Name x pos) ds B (· = .int i) := by
  obtain ⟨t, h⟩ := h
  exact de_of (pe_glob (v := .int i) hg h ⟨t, rfl⟩ hd) (ev_c fun _ => .int i)
theorem dGS {i : Str} (h : ∃ t, X.mg x = some (.str i t)) (hg : Gl X x := by rfl) (hd : (x == ("__debug__" : Str)) = false := by decide) : DE X d (.Name x pos) ds B (· = .str i) := by
  obtain ⟨t, h⟩ := h
  exact de_of (pe_glob (v := .str i) hg h ⟨t, rfl⟩ hd) (ev_c fun _ => .str i)
/-! displays, arguments -/
theorem aN : DA X d [] ds B (· = []) := da_of pa_nil ea_nil
theorem aC {t : PyData} {ts : List PyData} (h : DE X d e ds B (· = t)) (hr : DA X d es ds B (· = ts)) (hs : starEach (e :: es) X.env = (false, eval e X.env) :: starEach es X.env := by rfl) : DA X d (e :: es) ds B (· = t :: ts) :=
  da_of (pa_cons pe_w pa_w hs) (ea_cons h hr (by rintro _ _ rfl rfl; rfl))
theorem aCS {Ss S2 : List PyData → Prop} (h : DE X d e ds B Sa) (hr : DA X d es ds B Ss) (k : ∀ t ts, Sa t → Ss ts → S2 (t :: ts)) (hs : starEach (e :: es) X.env = (false, eval e X.env) :: starEach es X.env := by rfl) : DA X d (e :: es) ds B S2 :=
  da_of (pa_cons pe_w pa_w hs) (ea_cons h hr k)
theorem dTup {ts : List PyData} {j} (h : DA X d es ds B (· = ts)) (hl : ts.length ≤ 100000 := by exact Nat.le_of_ble_eq_true rfl) : DE X d (.Tuple es j pos) ds B (· = .tuple ts) := de_of (pe_tup pa_w) (ev_tup h (by rintro _ rfl; exact hl) (by rintro _ rfl; rfl))
theorem dTupS {Ss : List PyData → Prop} {j} (h : DA X d es ds B Ss) (hl : ∀ ts, Ss ts → ts.length ≤ 100000) (k : ∀ ts, Ss ts → S (.tuple ts)) : DE X d (.Tuple es j pos) ds B S := de_of (pe_tup pa_w) (ev_tup h hl k)
theorem dLst {ts : List PyData} (h : DA X d es ds B (· = ts)) (hl : ts.length ≤ 100000 := by exact Nat.le_of_ble_eq_true rfl) : DE X d (.List es pos) ds B (· = .list ts) := de_of (pe_lst pa_w) (ev_lst h (by rintro _ rfl; exact hl) (by rintro _ rfl; rfl))
theorem dLstS {Ss : List PyData → Prop} (h : DA X d es ds B Ss) (hl : ∀ ts, Ss ts → ts.length ≤ 100000) (k : ∀ ts, Ss ts → S (.list ts)) : DE X d (.List es pos) ds B S := de_of (pe_lst pa_w) (ev_lst h hl k)
/-! operators -/
theorem dBin {op : Operator} {r : R2} (ho : OpR X (binaryOp op) r) (ha : DE X d a ds B Sa) (hb : DE X d b ds B Sb) (hr : RV X.K d r B Sa Sb S) : DE X d (.BinOp a op b pos) ds B S := de_of (pe_op ho pe_w pe_w) (ev_op ha hb hr)
theorem dCmp {op : CmpOp} {r : R2} (ho : OpR X (compareOp op) r) (ha : DE X d a ds B Sa) (hb : DE X d b ds B Sb) (hr : RV X.K d r B Sa Sb S) (hm : behindInMarks op b = false := by rfl) : DE X d (.Compare a [op] [b] pos) ds B S := de_of (pe_cmpR ho pe_w pe_w hm) (ev_op ha hb hr)
theorem tCmp' {op : CmpOp} {r : R2} {St : Bool → Prop} (ho : OpR X (compareOp op) r) (ha : DE X d a ds B Sa) (hb : DE X d b ds B Sb) (hr : RV X.K d r B Sa Sb (fun t => ∃ k, t = .bool k ∧ St k)) (hm : behindInMarks op b = false := by rfl) : DT X d (.Compare a [op] [b] pos) ds B St :=
  dt_of (pt_cmpR ho pe_w pe_w hm) (et_test (ev_op ha hb hr) fun t h => h)
section
variable {K : Fg} {i j : Int} {op : Operator}
/-- two ints, any -/
def IntP (S : PyData → Prop) (P : Int → Prop) : Prop := ∀ t, S t → ∃ i, t = .int i ∧ P i
theorem rv_i0 {g : Int → Int → V} {g' : Int → Int → PyData} (hg : ∀ B i j, Dp K B (g i j) (g' i j)) : RV K d (rI0 g) B (· = .int i) (· = .int j) (· = g' i j) := fun B1 H x y ta tb e ok h1 h2 e1 e2 Q r => by
  subst e1 e2
  exact ⟨i, j, h1.int_inv, h2.int_inv, r _ _ B1 H .refl ok (hg _ _ _) rfl⟩
theorem rv_i0S {g : Int → Int → V} {g' : Int → Int → PyData} (hg : ∀ B i j, Dp K B (g i j) (g' i j)) (k : ∀ ta tb, Sa ta → Sb tb → ∃ i j, ta = .int i ∧ tb = .int j ∧ S (g' i j)) : RV K d (rI0 g) B Sa Sb S := fun B1 H x y ta tb e ok h1 h2 e1 e2 Q r => by
  obtain ⟨i, j, rfl, rfl, hs⟩ := k ta tb e1 e2
  exact ⟨i, j, h1.int_inv, h2.int_inv, r _ _ B1 H .refl ok (hg _ _ _) hs⟩
theorem rv_iS {C : Int → Int → Prop} {g : Int → Int → V} {g' : Int → Int → PyData} (hg : ∀ B i j, Dp K B (g i j) (g' i j)) (k : ∀ ta tb, Sa ta → Sb tb → ∃ i j, ta = .int i ∧ tb = .int j ∧ C i j ∧ S (g' i j)) : RV K d (rI C g) B Sa Sb S := fun B1 H x y ta tb e ok h1 h2 e1 e2 Q r => by
  obtain ⟨i, j, rfl, rfl, hc, hs⟩ := k ta tb e1 e2
  exact ⟨i, j, h1.int_inv, h2.int_inv, hc, r _ _ B1 H .refl ok (hg _ _ _) hs⟩
end
theorem dAdd {i j : Int} (ha : DE X d a ds B (· = .int i)) (hb : DE X d b ds B (· = .int j)) : DE X d (.BinOp a .Add b pos) ds B (· = .int (i + j)) := dBin op_add ha hb (rv_i0 (g' := fun i j => .int (i + j)) fun _ _ _ => .int _)
theorem dSub {i j : Int} (ha : DE X d a ds B (· = .int i)) (hb : DE X d b ds B (· = .int j)) : DE X d (.BinOp a .Sub b pos) ds B (· = .int (i - j)) := dBin op_sub ha hb (rv_i0 (g' := fun i j => .int (i - j)) fun _ _ _ => .int _)
theorem dMul {i j : Int} (ha : DE X d a ds B (· = .int i)) (hb : DE X d b ds B (· = .int j)) (hc : CMulW i j) : DE X d (.BinOp a .Mult b pos) ds B (· = .int (i * j)) :=
  dBin op_mulW ha hb (rv_iS (g' := fun i j => .int (i * j)) (fun _ _ _ => .int _) (by rintro _ _ rfl rfl; exact ⟨i, j, rfl, rfl, hc, rfl⟩))
theorem dMulS {i j : Int} (ha : DE X d a ds B (· = .int i)) (hb : DE X d b ds B (· = .int j)) (hc : CMul i j) : DE X d (.BinOp a .Mult b pos) ds B (· = .int (i * j)) :=
  dBin op_mul ha hb (rv_iS (g' := fun i j => .int (i * j)) (fun _ _ _ => .int _) (by rintro _ _ rfl rfl; exact ⟨i, j, rfl, rfl, hc, rfl⟩))
theorem dDiv {i j : Int} (ha : DE X d a ds B (· = .int i)) (hb : DE X d b ds B (· = .int j)) (hc : CDivW i j) : DE X d (.BinOp a .FloorDiv b pos) ds B (· = .int (i / j)) :=
  dBin op_fdivW ha hb (rv_iS (g' := fun i j => .int (i / j)) (fun _ _ _ => .int _) (by rintro _ _ rfl rfl; exact ⟨i, j, rfl, rfl, hc, rfl⟩))
theorem dMod {i j : Int} (ha : DE X d a ds B (· = .int i)) (hb : DE X d b ds B (· = .int j)) (hc : j ≠ 0) : DE X d (.BinOp a .Mod b pos) ds B (· = .int (i.fmod j)) :=
  dBin op_modN ha hb (rv_iS (g' := fun i j => .int (i.fmod j)) (fun _ _ _ => .int _) (by rintro _ _ rfl rfl; exact ⟨i, j, rfl, rfl, hc, rfl⟩))
theorem dPow {i j : Int} (ha : DE X d a ds B (· = .int i)) (hb : DE X d b ds B (· = .int j)) (hc : CPow i j) : DE X d (.BinOp a .Pow b pos) ds B (· = .int (i ^ j.toNat)) :=
  dBin op_pow ha hb (rv_iS (g' := fun i j => .int (i ^ j.toNat)) (fun _ _ _ => .int _) (by rintro _ _ rfl rfl; exact ⟨i, j, rfl, rfl, hc, rfl⟩))
/-! comparisons of ints -/
theorem dLt {i j : Int} (ha : DE X d a ds B (· = .int i)) (hb : DE X d b ds B (· = .int j)) : DE X d (.Compare a [.Lt] [b] pos) ds B (· = .bool (decide (i < j))) := dCmp op_lt ha hb (rv_i0 (g' := fun i j => .bool (decide (i < j))) fun _ _ _ => .bl _) (nomark _)
theorem dLe {i j : Int} (ha : DE X d a ds B (· = .int i)) (hb : DE X d b ds B (· = .int j)) : DE X d (.Compare a [.LtE] [b] pos) ds B (· = .bool (decide (i ≤ j))) := dCmp op_le ha hb (rv_i0 (g' := fun i j => .bool (decide (i ≤ j))) fun _ _ _ => .bl _) (nomark _)
theorem dGt {i j : Int} (ha : DE X d a ds B (· = .int i)) (hb : DE X d b ds B (· = .int j)) : DE X d (.Compare a [.Gt] [b] pos) ds B (· = .bool (decide (j < i))) := dCmp op_gt ha hb (rv_i0 (g' := fun i j => .bool (decide (j < i))) fun _ _ _ => .bl _) (nomark _)
theorem dGe {i j : Int} (ha : DE X d a ds B (· = .int i)) (hb : DE X d b ds B (· = .int j)) : DE X d (.Compare a [.GtE] [b] pos) ds B (· = .bool (decide (j ≤ i))) := dCmp op_ge ha hb (rv_i0 (g' := fun i j => .bool (decide (j ≤ i))) fun _ _ _ => .bl _) (nomark _)
theorem cmpT {op : CmpOp} {r : R2} {k : Bool} (ho : OpR X (compareOp op) r) (ha : DE X d a ds B Sa) (hb : DE X d b ds B Sb) (hr : RV X.K d r B Sa Sb (· = .bool k)) (hm : behindInMarks op b = false) : DT X d (.Compare a [op] [b] pos) ds B (· = k) :=
  dt_of (pt_cmpR ho pe_w pe_w hm) (et_test (ev_op ha hb hr) fun t h => ⟨k, h, rfl⟩)
theorem tLt {i j : Int} (ha : DE X d a ds B (· = .int i)) (hb : DE X d b ds B (· = .int j)) : DT X d (.Compare a [.Lt] [b] pos) ds B (· = decide (i < j)) := cmpT op_lt ha hb (rv_i0 (g' := fun i j => .bool (decide (i < j))) fun _ _ _ => .bl _) (nomark _)
theorem tLe {i j : Int} (ha : DE X d a ds B (· = .int i)) (hb : DE X d b ds B (· = .int j)) : DT X d (.Compare a [.LtE] [b] pos) ds B (· = decide (i ≤ j)) := cmpT op_le ha hb (rv_i0 (g' := fun i j => .bool (decide (i ≤ j))) fun _ _ _ => .bl _) (nomark _)
theorem tGt {i j : Int} (ha : DE X d a ds B (· = .int i)) (hb : DE X d b ds B (· = .int j)) : DT X d (.Compare a [.Gt] [b] pos) ds B (· = decide (j < i)) := cmpT op_gt ha hb (rv_i0 (g' := fun i j => .bool (decide (j < i))) fun _ _ _ => .bl _) (nomark _)
theorem tGe {i j : Int} (ha : DE X d a ds B (· = .int i)) (hb : DE X d b ds B (· = .int j)) : DT X d (.Compare a [.GtE] [b] pos) ds B (· = decide (j ≤ i)) := cmpT op_ge ha hb (rv_i0 (g' := fun i j => .bool (decide (j ≤ i))) fun _ _ _ => .bl _) (nomark _)
/-! == of data -/
theorem rv_eqD {K : Fg} {t u : PyData} (h1 : SeqAt.shaped t = true) (h2 : SeqAt.shaped u = true) : RV K d (rEqD K) B (· = t) (· = u) (· = .bool (PyData.eqv t u)) := fun B1 H x y ta tb e ok g1 g2 e1 e2 Q r => by
  subst e1 e2
  exact ⟨_, _, g1.up ok.kh, g2.up ok.kh, h1, h2, r _ _ B1 H .refl ok (.bl _) rfl⟩
theorem rv_neD {K : Fg} {t u : PyData} (h1 : SeqAt.shaped t = true) (h2 : SeqAt.shaped u = true) : RV K d (rNeD K) B (· = t) (· = u) (· = .bool (!PyData.eqv t u)) := fun B1 H x y ta tb e ok g1 g2 e1 e2 Q r => by
  subst e1 e2
  exact ⟨_, _, g1.up ok.kh, g2.up ok.kh, h1, h2, r _ _ B1 H .refl ok (.bl _) rfl⟩
theorem dEq {k : Nat} {t u : PyData} (hr : Room k X.A) (ha : DE X d a ds B (· = t)) (hb : DE X d b ds B (· = u)) (h1 : SeqAt.shaped t = true) (h2 : SeqAt.shaped u = true) : DE X d (.Compare a [.Eq] [b] pos) ds B (· = .bool (PyData.eqv t u)) := dCmp (op_eqD hr.units) ha hb (rv_eqD h1 h2) (nomark _)
theorem tEq {k : Nat} {t u : PyData} (hr : Room k X.A) (ha : DE X d a ds B (· = t)) (hb : DE X d b ds B (· = u)) (h1 : SeqAt.shaped t = true) (h2 : SeqAt.shaped u = true) : DT X d (.Compare a [.Eq] [b] pos) ds B (· = PyData.eqv t u) := cmpT (op_eqD hr.units) ha hb (rv_eqD h1 h2) (nomark _)
theorem tNe {k : Nat} {t u : PyData} (hr : Room k X.A) (ha : DE X d a ds B (· = t)) (hb : DE X d b ds B (· = u)) (h1 : SeqAt.shaped t = true) (h2 : SeqAt.shaped u = true) : DT X d (.Compare a [.NotEq] [b] pos) ds B (· = !PyData.eqv t u) := cmpT (op_neD hr.units) ha hb (rv_neD h1 h2) (nomark _)
theorem dNe {k : Nat} {t u : PyData} (hr : Room k X.A) (ha : DE X d a ds B (· = t)) (hb : DE X d b ds B (· = u)) (h1 : SeqAt.shaped t = true) (h2 : SeqAt.shaped u = true) : DE X d (.Compare a [.NotEq] [b] pos) ds B (· = .bool (!PyData.eqv t u)) := dCmp (op_neD hr.units) ha hb (rv_neD h1 h2) (nomark _)
/-! is None -/
def isNon : PyData → Bool
  | .none => true
  | _ => false
theorem Dp.isNon {K : Fg} {B : Hp} {w : V} {t : PyData} (h : Dp K B w t) : decide (w = V.non) = isNon t := by
  cases h <;> rfl
theorem rv_isN {K : Fg} {t u : PyData} (hu : u = .none) : RV K d rIsN B (· = t) (· = u) (· = .bool (isNon t)) := fun B1 H x y ta tb e ok g1 g2 e1 e2 Q r => by
  subst e1 e2 hu
  exact ⟨g2.non_inv, r _ _ B1 H .refl ok (by rw [Dp.isNon g1]; exact .bl _) rfl⟩
theorem rv_notN {K : Fg} {t u : PyData} (hu : u = .none) : RV K d rNotN B (· = t) (· = u) (· = .bool (!isNon t)) := fun B1 H x y ta tb e ok g1 g2 e1 e2 Q r => by
  subst e1 e2 hu
  exact ⟨g2.non_inv, r _ _ B1 H .refl ok (by rw [Dp.isNon g1]; exact .bl _) rfl⟩
theorem dIs {t : PyData} (ha : DE X d a ds B (· = t)) (hb : DE X d b ds B (· = .none)) : DE X d (.Compare a [.Is] [b] pos) ds B (· = .bool (isNon t)) := dCmp op_isN1 ha hb (rv_isN rfl) (nomark _)
theorem tIs {t : PyData} (ha : DE X d a ds B (· = t)) (hb : DE X d b ds B (· = .none)) : DT X d (.Compare a [.Is] [b] pos) ds B (· = isNon t) := cmpT op_isN1 ha hb (rv_isN rfl) (nomark _)
theorem dIsnt {t : PyData} (ha : DE X d a ds B (· = t)) (hb : DE X d b ds B (· = .none)) : DE X d (.Compare a [.IsNot] [b] pos) ds B (· = .bool (!isNon t)) := dCmp op_notN1 ha hb (rv_notN rfl) (nomark _)
theorem tIsnt {t : PyData} (ha : DE X d a ds B (· = t)) (hb : DE X d b ds B (· = .none)) : DT X d (.Compare a [.IsNot] [b] pos) ds B (· = !isNon t) := cmpT op_notN1 ha hb (rv_notN rfl) (nomark _)
/-! and, or, not, if -/
theorem dVal {k : Bool} (h : DE X d e ds B (· = .bool k)) (he : ∀ whole, isTrue e X.env whole = (do let v ← whole; standAt e.pos; holding [v] (truthy v)) := by intro _; rfl) : DT X d e ds B (· = k) := dt_of (pt_val pe_w he) (et_B h fun t h => ⟨k, h, rfl⟩)
theorem dValS {Sk : Bool → Prop} (h : DE X d e ds B S) (k : ∀ t, S t → ∃ b, t = .bool b ∧ Sk b) (he : ∀ whole, isTrue e X.env whole = (do let v ← whole; standAt e.pos; holding [v] (truthy v)) := by intro _; rfl) : DT X d e ds B Sk := dt_of (pt_val pe_w he) (et_B h k)
/-- a chain of and, or as a test -/
structure wW (X : Cx) (e : Expr) (σ : St) (H : Hp) (Q : Bool → Hp → Prop) : Prop where
  run : ∀ (whole : Sem Value) pins s, Inv X pins σ H s → wpAny (model X.prog X.w) X.A (isTrue e X.env whole) (TP X pins σ Q) X.xe s
theorem pw_w {e : Expr} : PW X e (wW X e) := ⟨fun whole pins s σ H Q I h => h.run whole pins s I⟩
abbrev DW (X : Cx) (d : Dr) (e : Expr) (ds : List Sd) (B : Hp) (S : Bool → Prop) : Prop := EvT X.K d (wW X e) ds B S
theorem dw_of {te : TT} (h : PW X e te) {S : Bool → Prop} (q : EvT X.K d te ds B S) : DW X d e ds B S := fun B1 σ H e sl ok Q r => ⟨fun wh pins s I => h.run wh pins s σ H Q I (q B1 σ H e sl ok Q r)⟩
theorem tW {Sk : Bool → Prop} (h : DW X d e ds B Sk) : DT X d e ds B Sk := dt_of (PW.pt pw_w) h
theorem wAnd1 {Sk : Bool → Prop} (h : DT X d a ds B Sk) : DW X d (.BoolOp .And [a] pos) ds B Sk := dw_of (pw_and1 pt_w) h
theorem wOr1 {Sk : Bool → Prop} (h : DT X d a ds B Sk) : DW X d (.BoolOp .Or [a] pos) ds B Sk := dw_of (pw_or1 pt_w) h
theorem wAnd {k l : Bool} (h1 : DT X d a ds B (· = k)) (h2 : k = true → DW X d (.BoolOp .And (b :: es) pos) ds B (· = l)) : DW X d (.BoolOp .And (a :: b :: es) pos) ds B (· = (k && l)) :=
  dw_of (pw_and pt_w pw_w) (et_and h1 (fun e => h2 e.symm) (by rintro rfl; rfl) (by rintro _ rfl rfl; rfl))
theorem wOr {k l : Bool} (h1 : DT X d a ds B (· = k)) (h2 : k = false → DW X d (.BoolOp .Or (b :: es) pos) ds B (· = l)) : DW X d (.BoolOp .Or (a :: b :: es) pos) ds B (· = (k || l)) :=
  dw_of (pw_or pt_w pw_w) (et_or h1 (fun e => h2 e.symm) (by rintro rfl; rfl) (by rintro _ rfl rfl; rfl))
theorem wAndS {S1 S2 S3 : Bool → Prop} (h1 : DT X d a ds B S1) (h2 : S1 true → DW X d (.BoolOp .And (b :: es) pos) ds B S2) (k0 : S1 false → S3 false) (k1 : ∀ b, S1 true → S2 b → S3 b) : DW X d (.BoolOp .And (a :: b :: es) pos) ds B S3 :=
  dw_of (pw_and pt_w pw_w) (et_and h1 h2 k0 k1)
theorem wOrS {S1 S2 S3 : Bool → Prop} (h1 : DT X d a ds B S1) (h2 : S1 false → DW X d (.BoolOp .Or (b :: es) pos) ds B S2) (k0 : S1 true → S3 true) (k1 : ∀ b, S1 false → S2 b → S3 b) : DW X d (.BoolOp .Or (a :: b :: es) pos) ds B S3 :=
  dw_of (pw_or pt_w pw_w) (et_or h1 h2 k0 k1)
theorem tNot' {k : Bool} (h : DT X d a ds B (· = k)) : DT X d (.UnaryOp .Not a pos) ds B (· = !k) := dt_of (pt_not pt_w) (et_not h (by rintro _ rfl; rfl))
theorem tNotS {S1 S2 : Bool → Prop} (h : DT X d a ds B S1) (k : ∀ b, S1 b → S2 (!b)) : DT X d (.UnaryOp .Not a pos) ds B S2 := dt_of (pt_not pt_w) (et_not h k)
theorem dNot {k : Bool} (h : DE X d a ds B (· = .bool k)) : DE X d (.UnaryOp .Not a pos) ds B (· = .bool (!k)) := de_of (pe_not pe_w) (ev_not h (by rintro _ rfl; exact ⟨k, rfl, rfl⟩))
theorem dOne {op} (h : DE X d a ds B S) : DE X d (.BoolOp op [a] pos) ds B S := de_of (pe_one pe_w) h
theorem dAnd {k l : Bool} (h1 : DE X d a ds B (· = .bool k)) (h2 : k = true → DE X d (.BoolOp .And (b :: es) pos) ds B (· = .bool l)) : DE X d (.BoolOp .And (a :: b :: es) pos) ds B (· = .bool (k && l)) :=
  de_of (pe_and pe_w pe_w) (ev_and h1 (fun t h => ⟨k, h⟩) (fun e => by cases e; exact h2 rfl) (fun e => by cases e; rfl))
theorem dOr {k l : Bool} (h1 : DE X d a ds B (· = .bool k)) (h2 : k = false → DE X d (.BoolOp .Or (b :: es) pos) ds B (· = .bool l)) : DE X d (.BoolOp .Or (a :: b :: es) pos) ds B (· = .bool (k || l)) :=
  de_of (pe_or pe_w pe_w) (ev_or h1 (fun t h => ⟨k, h⟩) (fun e => by cases e; exact h2 rfl) (fun e => by cases e; rfl))
theorem dIf {k : Bool} (h : DT X d c ds B (· = k)) (h1 : k = true → DE X d a ds B S) (h2 : k = false → DE X d b ds B S) : DE X d (.IfExp c a b pos) ds B S :=
  de_of (pe_ifExp pt_w pe_w pe_w) (ev_if h (fun e => h1 e.symm) (fun e => h2 e.symm))
theorem dIfS {S1 : Bool → Prop} (h : DT X d c ds B S1) (h1 : S1 true → DE X d a ds B S) (h2 : S1 false → DE X d b ds B S) : DE X d (.IfExp c a b pos) ds B S := de_of (pe_ifExp pt_w pe_w pe_w) (ev_if h h1 h2)
/-! items, length -/
def seqOf : PyData → Option (List PyData)
  | .list xs => some xs
  | .tuple xs => some xs
  | _ => none
theorem Dp.seq {K : Fg} {B : Hp} {w : V} {t : PyData} {xs : List PyData} (h : Dp K B w t) (e : seqOf t = some xs) : ∃ a vs, w = .ref a ∧ (SqL K B a vs ∨ SqT K B a vs) ∧ DpAll K B vs xs := by
  cases h with
  | lst hs ha => cases e; exact ⟨_, _, rfl, .inl hs, ha⟩
  | tup hs ha => cases e; exact ⟨_, _, rfl, .inr hs, ha⟩
  | _ => cases e
theorem atI_ix {α β : Type} {xs : List α} {ys : List β} (hl : xs.length = ys.length) {i : Int} {x : α} (h : atI xs i = some x) : ∃ j : Nat, xs[j]? = some x ∧ ∀ y, ys[j]? = some y → atI ys i = some y := by
  unfold atI at h
  cases e : ixN xs.length i with
  | none => rw [e] at h; cases h
  | some j =>
    rw [e] at h
    refine ⟨j, h, fun y hy => ?_⟩
    unfold atI
    rw [← hl, e]
    exact hy
theorem rv_ix {K : Fg} {t u : PyData} {xs : List PyData} {i : Int} (hx : seqOf t = some xs) (hu : atI xs i = some u) : RV K d (rIx K) B (· = t) (· = .int i) (· = u) := fun B1 H x y ta tb e ok g1 g2 e1 e2 Q r => by
  subst e1 e2
  obtain ⟨a, vs, rfl, hs, hv⟩ := Dp.seq g1 hx
  obtain ⟨j, hj, hk⟩ := atI_ix (ys := vs) hv.len.symm hu
  obtain ⟨w, hw, hd⟩ := hv.at hj
  have q := r w u B1 H .refl ok hd rfl
  rcases hs with hs | hs
  · exact .inl ⟨a, vs, i, w, rfl, g2.int_inv, ok.kh.seq hs, hk w hw, q⟩
  · exact .inr (.inl ⟨a, vs, i, w, rfl, g2.int_inv, sqT_mono ok.kh hs, hk w hw, q⟩)
theorem rv_ixS {K : Fg} (k : ∀ ta tb, Sa ta → Sb tb → ∃ xs i u, seqOf ta = some xs ∧ tb = .int i ∧ atI xs i = some u ∧ S u) : RV K d (rIx K) B Sa Sb S := fun B1 H x y ta tb e ok g1 g2 e1 e2 Q r => by
  obtain ⟨xs, i, u, hx, rfl, hu, hs⟩ := k ta tb e1 e2
  exact rv_ix (B := B) hx hu B1 H x y _ _ e ok g1 g2 rfl rfl Q fun v t B' H' tr ok' hd he => r v t B' H' tr ok' hd (by rw [he]; exact hs)
theorem dIx {t u : PyData} {xs : List PyData} {i : Int} (ha : DE X d a ds B (· = t)) (hb : DE X d b ds B (· = .int i)) (hx : seqOf t = some xs := by rfl) (hu : atI xs i = some u := by rfl) (hs : PlainIx b := by exact fun _ _ => rfl) : DE X d (.Subscript a b pos) ds B (· = u) :=
  de_of (pe_ix ix_seq pe_w pe_w hs) (ev_op ha hb (rv_ix hx hu))
theorem dIxS (ha : DE X d a ds B Sa) (hb : DE X d b ds B Sb) (k : ∀ ta tb, Sa ta → Sb tb → ∃ xs i u, seqOf ta = some xs ∧ tb = .int i ∧ atI xs i = some u ∧ S u) (hs : PlainIx b := by exact fun _ _ => rfl) : DE X d (.Subscript a b pos) ds B S :=
  de_of (pe_ix ix_seq pe_w pe_w hs) (ev_op ha hb (rv_ixS k))
/-! built-ins by name -/
theorem dCB {id : String} {r : List V → Hp → VK → Prop} {Ss : List PyData → Prop} (hc : CallR X (.builtin id) r) (hm : X.mg x = none) (hv : bootBuiltins x = some (.builtin id)) (ha : DA X d (e :: es) ds B Ss) (hr : RC X.K d r B Ss S) (hg : Gl X x := by rfl) (hn : x ≠ "__name__" := by decide) (hdb : (x == ("__debug__" : Str)) = false := by decide)
    (he : starEach (e :: es) X.env = (false, eval e X.env) :: starEach es X.env := by rfl) (hpl : (backTo pos (starEach es X.env)).any (·.1) = false := by rfl) : DE X d (.Call (.Name x p) (e :: es) [] pos) ds B S :=
  de_of (pe_callB hc hg hm hv pa_w hn hdb he hpl) (ev_cb ha hr)
theorem dCT {id : String} {r : List V → Hp → VK → Prop} {Ss : List PyData → Prop} (hc : CallR X (.type id) r) (hm : X.mg x = none) (hv : bootBuiltins x = some (.type id)) (ha : DA X d (e :: es) ds B Ss) (hr : RC X.K d r B Ss S) (hg : Gl X x := by rfl) (hn : x ≠ "__name__" := by decide) (hdb : (x == ("__debug__" : Str)) = false := by decide)
    (he : starEach (e :: es) X.env = (false, eval e X.env) :: starEach es X.env := by rfl) (hpl : (backTo pos (starEach es X.env)).any (·.1) = false := by rfl) : DE X d (.Call (.Name x p) (e :: es) [] pos) ds B S :=
  de_of (pe_callTy hc hg hm hv pa_w hn hdb he hpl) (ev_cb ha hr)
def lenD : PyData → Option Nat
  | .list xs => some xs.length
  | .tuple xs => some xs.length
  | .str x => if x.length ≤ 100000 then some x.length else none
  | _ => none
theorem rc_len {K : Fg} {t : PyData} {n : Nat} (h : lenD t = some n) : RC K d (fun xs H Q => ∃ x n, xs = [x] ∧ LenV K x H n ∧ Q (.int n) H) B (· = [t]) (· = .int n) := fun B1 H vs ts e ok g e1 Q r => by
  subst e1
  obtain ⟨w, rfl, g2⟩ := DpAll.one g
  have q := r (.int n) (.int n) B1 H .refl ok (.int _) rfl
  refine ⟨w, n, rfl, ?_, q⟩
  cases g2 with
  | lst hs ha =>
    cases h
    exact .inl ⟨_, ok.kh.seq hs, ha.len.symm⟩
  | tup hs ha =>
    cases h
    exact .inr ⟨_, sqT_mono ok.kh hs, ha.len.symm⟩
  | str x =>
    have h2 : (if x.length ≤ 100000 then some x.length else none) = some n := h
    by_cases c : x.length ≤ 100000
    · rw [if_pos c] at h2
      cases h2
      exact ⟨small_line c, rfl⟩
    · rw [if_neg c] at h2
      cases h2
  | _ => cases h
theorem dLen {t : PyData} {n : Nat} (hm : X.mg "len" = none) (ha : DE X d e ds B (· = t)) (h : lenD t = some n := by rfl) (hg : Gl X "len" := by rfl) (he : starEach [e] X.env = (false, eval e X.env) :: starEach [] X.env := by rfl) (hpl : (backTo pos (starEach [] X.env)).any (·.1) = false := by rfl) :
    DE X d (.Call (.Name "len" p) [e] [] pos) ds B (· = .int n) := dCB call_len hm PySem.boot_len (aC ha aN he) (rc_len h) hg (by decide) (by decide) he hpl
end
end K20
set_option maxHeartbeats 2000000
/-! Statements, loops, defs and their calls. -/
namespace K20
open PySem PySem.Spec L2
open PyProof.Rows hiding St
structure Sy (K : Fg) (d : Dr) (B0 H0 B H : Hp) (σ : St) (ds : List Sd) : Prop where
  tr : Tr d B0 H0 B H
  ok : Ok d B H
  sl : Sl K B σ ds
section
variable {K : Fg} {d : Dr} {B0 H0 B B1 H H1 : Hp} {σ : St} {ds ds' : List Sd}
theorem Sy.on (y : Sy K d B0 H0 B H σ ds) (t : Tr d B H B1 H1) (ok : Ok d B1 H1) : Sy K d B0 H0 B1 H1 σ ds := ⟨y.tr.trans t, ok, y.sl.up t.kb⟩
theorem Sy.put (y : Sy K d B0 H0 B H σ ds) (i : Nat) {s : Option V} {x : Sd} (g : SdOk K B x s) : Sy K d B0 H0 B H (σ.set i s) (ds.set i x) := ⟨y.tr, y.ok, y.sl.put i g⟩
theorem Sy.same (y : Sy K d B0 H0 B H σ ds) : Same B H := y.ok.kh
/-- the end: what is wanted behind the call -/
theorem Sy.ret {S : PyData → Prop} {Q : VK} (y : Sy K d B0 H0 B H σ ds) (r : Ret K d B0 H0 S Q) : Ret K d B H S Q := r.after y.tr
end
section
variable {X : Cx} {d : Dr} {ds : List Sd} {B0 H0 B H : Hp} {σ : St} {S : PyData → Prop} {D : Ends} {st : Stmt} {rest a b body : List Stmt} {e c iter tg : Expr} {pos p p' : Pos} {x : Str}
theorem ssC (h : wS X st { D with nx := wSs X rest D } σ H) : wSs X (st :: rest) D σ H := w_ss (pss_cons ps_w pss_w) h
/-- a word between a statement and the rest -/
theorem ssCut (Mid : St → Hp → Prop) (h : wS X st { D with nx := Mid } σ H) (k : ∀ σ' H', Mid σ' H' → wSs X rest D σ' H') : wSs X (st :: rest) D σ H := by
  refine ⟨fun pins s I => wpAny_execs_cons (thn (h.run pins s I) fun f s1 q => ?_)⟩
  cases f with
  | next =>
    obtain ⟨σ', H', I', q⟩ := q
    exact (k σ' H' q).run pins s1 I'
  | ret v => exact q
  | brk => exact q
  | cont => exact q
theorem ss1 (h : wS X st D σ H) : wSs X [st] D σ H := w_ss (pss_one ps_w) h
theorem ssN (h : D.nx σ H) : wSs X [] D σ H := w_ss pss_nil h
theorem sSet (i : Nat) (y : Sy X.K d B0 H0 B H σ ds) (nd : X.N.Nodup) (h : DE X d e ds B S) (k : ∀ t B1 σ1 H1, S t → Tr d B H B1 H1 → Sy X.K d B0 H0 B1 H1 σ1 (ds.set i (.dat t)) → D.nx σ1 H1)
    (hi : X.N[i]? = some x := by rfl) (hx : Loc X.env.scope x := by first | exact Or.inl rfl | exact Or.inr rfl) (hs : swapsWith e (some (.Name x p')) pos.line X.env = pure false := by rfl) (hf : X.fn x = true ∨ X.env.scope.names.lookup x = some .local := by first | exact .inl rfl | exact .inr rfl) :
    wS X (.Assign [.Name x p'] e pos) D σ H :=
  w_s (ps_set nd hi hx pe_w hs hf) (h B σ H (Same.refl B) y.sl y.ok _ fun v t B1 H1 tr ok hd hs => k t B1 _ H1 hs tr ((y.on tr ok).put i ⟨v, rfl, hd⟩))
/-- .. one value -/
theorem sSet1 (i : Nat) {t : PyData} (y : Sy X.K d B0 H0 B H σ ds) (nd : X.N.Nodup) (h : DE X d e ds B (· = t)) (k : ∀ B1 σ1 H1, Tr d B H B1 H1 → Sy X.K d B0 H0 B1 H1 σ1 (ds.set i (.dat t)) → D.nx σ1 H1)
    (hi : X.N[i]? = some x := by rfl) (hx : Loc X.env.scope x := by first | exact Or.inl rfl | exact Or.inr rfl) (hs : swapsWith e (some (.Name x p')) pos.line X.env = pure false := by rfl) (hf : X.fn x = true ∨ X.env.scope.names.lookup x = some .local := by first | exact .inl rfl | exact .inr rfl) :
    wS X (.Assign [.Name x p'] e pos) D σ H := sSet i y nd h (by rintro _ B1 σ1 H1 rfl tr y1; exact k B1 σ1 H1 tr y1) hi hx hs hf
theorem sRet (y : Sy X.K d B0 H0 B H σ ds) (h : DE X d e ds B S) (k : Ret X.K d B0 H0 S D.rt) : wS X (.Return (some e) pos) D σ H :=
  w_s (ps_ret pe_w) (h B σ H (Same.refl B) y.sl y.ok _ (y.ret k))
theorem sIf {St' : Bool → Prop} (y : Sy X.K d B0 H0 B H σ ds) (h : DT X d c ds B St') (h1 : St' true → ∀ H1, Tr d B H B H1 → Sy X.K d B0 H0 B H1 σ ds → wSs X a D σ H1) (h2 : St' false → ∀ H1, Tr d B H B H1 → Sy X.K d B0 H0 B H1 σ ds → wSs X b D σ H1) :
    wS X (.If c a b pos) D σ H := w_s (ps_if pt_w pss_w pss_w) (h B σ H (Same.refl B) y.sl y.ok _ fun k H1 tr ok hs => by
  cases k with
  | true => exact iteT (h1 hs H1 tr (y.on tr ok))
  | false => exact iteF (h2 hs H1 tr (y.on tr ok)))
/-- if without else, the rest behind -/
theorem cWhen {St' : Bool → Prop} (y : Sy X.K d B0 H0 B H σ ds) (h : DT X d c ds B St') (h1 : St' true → ∀ H1, Tr d B H B H1 → Sy X.K d B0 H0 B H1 σ ds → wSs X a { D with nx := wSs X rest D } σ H1) (h2 : St' false → ∀ H1, Tr d B H B H1 → Sy X.K d B0 H0 B H1 σ ds → wSs X rest D σ H1) :
    wSs X (.If c a [] pos :: rest) D σ H := ssC (sIf y h h1 fun e H1 tr y1 => ssN (h2 e H1 tr y1))
theorem cWhen1 {k : Bool} (y : Sy X.K d B0 H0 B H σ ds) (h : DT X d c ds B (· = k)) (h1 : k = true → ∀ H1, Tr d B H B H1 → Sy X.K d B0 H0 B H1 σ ds → wSs X a { D with nx := wSs X rest D } σ H1) (h2 : k = false → ∀ H1, Tr d B H B H1 → Sy X.K d B0 H0 B H1 σ ds → wSs X rest D σ H1) :
    wSs X (.If c a [] pos :: rest) D σ H := cWhen y h (fun e => h1 e.symm) fun e => h2 e.symm
theorem sIf1 {k : Bool} (y : Sy X.K d B0 H0 B H σ ds) (h : DT X d c ds B (· = k)) (h1 : k = true → ∀ H1, Tr d B H B H1 → Sy X.K d B0 H0 B H1 σ ds → wSs X a D σ H1) (h2 : k = false → ∀ H1, Tr d B H B H1 → Sy X.K d B0 H0 B H1 σ ds → wSs X b D σ H1) :
    wS X (.If c a b pos) D σ H := sIf y h (fun e => h1 e.symm) fun e => h2 e.symm
/-! loops -/
theorem sWhile {α : Type} (I : α → Hp → St → Hp → Prop) (μ : α → Nat) (a0 : α) (hp : PassesOwn (model X.prog X.w) X.A X.env X.xe) (h0 : I a0 B σ H)
    (hs : ∀ a B σ H, I a B σ H → ∃ ds b, Sl X.K B σ ds ∧ Ok d B H ∧ DT X d c ds B (· = b) ∧
      (b = true → ∀ H1, Tr d B H B H1 → Ok d B H1 → wSs X body { D with nx := fun σ' H' => ∃ a' B', μ a' < μ a ∧ I a' B' σ' H', ct := fun σ' H' => ∃ a' B', μ a' < μ a ∧ I a' B' σ' H', bk := D.nx } σ H1) ∧ (b = false → ∀ H1, Tr d B H B H1 → Ok d B H1 → D.nx σ H1)) :
    wS X (.While c body [] pos) D σ H := by
  refine w_s (ps_while hp pt_w pss_w) ⟨fun m σ H => ∃ a B, m = μ a ∧ I a B σ H, ⟨μ a0, a0, B, rfl, h0⟩, ?_⟩
  rintro m σ H ⟨a, B, rfl, hI⟩
  obtain ⟨ds, b, sl, ok, ht, h1, h2⟩ := hs a B σ H hI
  refine ht B σ H (Same.refl B) sl ok _ fun k H1 tr ok1 e => ?_
  have e' : k = b := e
  cases k with
  | true => exact iteT ⟨_, fun σ' H' ⟨a', B', hm, h⟩ => ⟨_, hm, a', B', rfl, h⟩, h1 e'.symm H1 tr ok1⟩
  | false => exact iteF (h2 e'.symm H1 tr ok1)
/-- for over a list or a tuple -/
theorem sFor {t : PyData} {xs : List PyData} {g : TG} (sl : Sl X.K B σ ds) (ok : Ok d B H) (hp : PassesOwn (model X.prog X.w) X.A X.env X.xe) (hc : X.calm = true) (it : DE X d iter ds B (· = t)) (hx : seqOf t = some xs) (hg : PG X tg g)
    (k : ∀ w B1 H1, Tr d B H B1 H1 → Ok d B1 H1 → Dp X.K B1 w t → ∃ I : Nat → Hp → St → Hp → Prop, I 0 B1 σ H1 ∧ (∀ i B' σ' H', I i B' σ' H' → Same B' H') ∧
      (∀ i x w B' σ' H', xs[i]? = some x → Same B1 B' → I i B' σ' H' → Dp X.K B' w x → g w σ' H' fun σ2 H2 => wSs X body { D with nx := fun σ3 H3 => ∃ B3, Same B1 B3 ∧ I (i + 1) B3 σ3 H3, ct := fun σ3 H3 => ∃ B3, Same B1 B3 ∧ I (i + 1) B3 σ3 H3, bk := D.nx } σ2 H2) ∧
      (∀ B' σ' H', Same B1 B' → I xs.length B' σ' H' → D.nx σ' H'))
    (hs : ∀ x, foldedSetIterable iter X.env x = pure x := by intro _; rfl) : wS X (.For tg iter body [] pos) D σ H := by
  cases t with
  | list ys =>
    cases hx
    refine w_s (ps_for hp hc (pi_list pe_w) hg pss_w hs) (it B σ H (Same.refl B) sl ok _ fun w t B1 H1 tr ok1 hd e => ?_)
    have e' : t = .list xs := e
    subst e'
    obtain ⟨I, h0, hk, hs, hd'⟩ := k w B1 H1 tr ok1 hd
    obtain ⟨a, vs, rfl, hq, hv⟩ := hd.lst_inv
    refine ⟨a, rfl, ⟨vs, ok1.kh.seq hq⟩, for_it (walk_list (xs := vs)) (fun i σ' H' => ∃ B', Same B1 B' ∧ I i B' σ' H') ⟨B1, Same.refl _, h0⟩ (fun i σ' H' _ ⟨B', e, h⟩ => (e.trans (hk i B' σ' H' h)).seq hq) ?_ ?_⟩
    · rintro i x σ' H' H2 hi ⟨B', e, h⟩ ⟨rfl, hx⟩
      obtain ⟨u, hu, hd3⟩ := hv.get hx
      exact hs i u x B' σ' H2 hu e h (hd3.up e)
    · rintro σ' H' ⟨B', e, h⟩
      rw [hv.len] at h
      exact hd' B' σ' H' e h
  | tuple ys =>
    cases hx
    refine w_s (ps_for hp hc (pi_tup pe_w) hg pss_w hs) (it B σ H (Same.refl B) sl ok _ fun w t B1 H1 tr ok1 hd e => ?_)
    have e' : t = .tuple xs := e
    subst e'
    obtain ⟨I, h0, hk, hs, hd'⟩ := k w B1 H1 tr ok1 hd
    obtain ⟨a, vs, rfl, hq, hv⟩ := hd.tup_inv
    refine ⟨a, rfl, ⟨vs, sqT_mono ok1.kh hq⟩, for_it (walk_tup (xs := vs)) (fun i σ' H' => ∃ B', Same B1 B' ∧ I i B' σ' H') ⟨B1, Same.refl _, h0⟩ (fun i σ' H' _ ⟨B', e, h⟩ => sqT_mono (e.trans (hk i B' σ' H' h)) hq) ?_ ?_⟩
    · rintro i x σ' H' H2 hi ⟨B', e, h⟩ ⟨rfl, hx⟩
      obtain ⟨u, hu, hd3⟩ := hv.get hx
      exact hs i u x B' σ' H2 hu e h (hd3.up e)
    · rintro σ' H' ⟨B', e, h⟩
      rw [hv.len] at h
      exact hd' B' σ' H' e h
  | _ => cases hx
/-- for over range(n) -/
theorem sForR {n : Int} {g : TG} {rp : Pos} (sl : Sl X.K B σ ds) (ok : Ok d B H) (hp : PassesOwn (model X.prog X.w) X.A X.env X.xe) (hc : X.calm = true) (hm : X.mg "range" = none) (it : DE X d e ds B (· = .int n)) (hn : n ≤ 100000) (h0n : 0 ≤ n) (hg : PG X tg g)
    (k : ∀ B1 H1, Tr d B H B1 H1 → Ok d B1 H1 → ∃ I : Nat → St → Hp → Prop, I 0 σ H1 ∧
      (∀ (i : Nat) σ' H', (i : Int) < n → I i σ' H' → g (.int (i : Int)) σ' H' fun σ2 H2 => wSs X body { D with nx := I (i + 1), ct := I (i + 1), bk := D.nx } σ2 H2) ∧ (∀ σ' H', I n.toNat σ' H' → D.nx σ' H'))
    (hgr : Gl X "range" := by rfl) (hst : starEach [e] X.env = (false, eval e X.env) :: starEach [] X.env := by rfl) (hs : ∀ x, foldedSetIterable (.Call (.Name "range" p) [e] [] rp) X.env x = pure x := by intro _; rfl) : wS X (.For tg (.Call (.Name "range" p) [e] [] rp) body [] pos) D σ H := by
  refine w_s (ps_for hp hc (pi_range1 hgr hm (pa_cons pe_w pa_nil hst) hst) hg pss_w hs) (it B σ H (Same.refl B) sl ok _ fun w t B1 H1 tr ok1 hd e => ?_)
  have e' : t = .int n := e
  subst e'
  obtain ⟨I, h0, hs, hd'⟩ := k B1 H1 tr ok1
  refine ⟨n, by rw [hd.int_inv], by omega, by omega, for_it walk_range (fun i σ' H' => I i σ' H') h0 (fun _ _ _ _ _ => trivial) ?_ ?_⟩
  · rintro i x σ' H' H2 hi h ⟨rfl, rfl⟩
    have q := hs i σ' H2 (by omega) h
    rw [← Int.zero_add (i : Int)] at q
    exact q
  · intro σ' H' h
    exact hd' σ' H' h
/-- for over range(lo, hi) -/
theorem sForR2 {lo n : Int} {g : TG} {rp : Pos} {e2 : Expr} (sl : Sl X.K B σ ds) (ok : Ok d B H) (hp : PassesOwn (model X.prog X.w) X.A X.env X.xe) (hc : X.calm = true) (hm : X.mg "range" = none) (it : DE X d e ds B (· = .int lo)) (it2 : DE X d e2 ds B (· = .int n)) (hn : n ≤ 100000) (h0n : 0 ≤ lo) (hl : lo ≤ n) (hg : PG X tg g)
    (k : ∀ B1 H1, Tr d B H B1 H1 → Ok d B1 H1 → ∃ I : Nat → St → Hp → Prop, I 0 σ H1 ∧
      (∀ (i : Nat) σ' H', lo + (i : Int) < n → I i σ' H' → g (.int (lo + (i : Int))) σ' H' fun σ2 H2 => wSs X body { D with nx := I (i + 1), ct := I (i + 1), bk := D.nx } σ2 H2) ∧ (∀ σ' H', I (n - lo).toNat σ' H' → D.nx σ' H'))
    (hgr : Gl X "range" := by rfl) (hst : starEach [e, e2] X.env = (false, eval e X.env) :: starEach [e2] X.env := by rfl) (hst2 : starEach [e2] X.env = (false, eval e2 X.env) :: starEach [] X.env := by rfl) (hs : ∀ x, foldedSetIterable (.Call (.Name "range" p) [e, e2] [] rp) X.env x = pure x := by intro _; rfl) : wS X (.For tg (.Call (.Name "range" p) [e, e2] [] rp) body [] pos) D σ H := by
  refine w_s (ps_for hp hc (pi_range2 hgr hm (pa_cons pe_w (pa_cons pe_w pa_nil hst2) hst) (by rw [hst, hst2] <;> rfl) (by rw [hst2] <;> rfl)) hg pss_w hs) (it B σ H (Same.refl B) sl ok _ fun w t B1 H1 tr ok1 hd e => it2 B1 σ H1 tr.kb (sl.up tr.kb) ok1 _ fun w2 t2 B2 H2 tr2 ok2 hd2 e2 => ?_)
  have e' : t = .int lo := e
  have e2' : t2 = .int n := e2
  subst e' e2'
  obtain ⟨I, h0, hs, hd'⟩ := k B2 H2 (tr.trans tr2) ok2
  refine ⟨lo, n, by rw [hd.int_inv, hd2.int_inv], by omega, for_it walk_range (fun i σ' H' => I i σ' H') h0 (fun _ _ _ _ _ => trivial) ?_ ?_⟩
  · rintro i x σ' H' H2 hi h ⟨rfl, rfl⟩
    exact hs i σ' H2 (by omega) h
  · intro σ' H' h
    exact hd' σ' H' h
end
/-! ### defs -/
section
variable {P : Program} {w : World} {K : Fg} {mg : Str → Option Value} {base : Heap}
/-- a def of the module's that may be called by its name -/
structure Cal (P : Program) (w : World) (K : Fg) (mg : Str → Option Value) (base : Heap) (k : Nat) (x : Str) (sp : Sp) (dvs : List V) : Prop where
  ex : ∃ (f : Addr) (fd : FuncData) (ps : List Str) (ds : List Value), FnOk P w K mg base (L2.CX P w) k f fd ps sp ∧ mg x = some (.ref f) ∧ PySem.W.keepIn K (.ref f) = true ∧ Binds K fd ps ds ∧ Vals dvs ds
/-- it stands behind the top -/
structure Df (K : Fg) (mg : Str → Option Value) (x : Str) (st : Stmt) (dvs : List V) : Prop where
  ex : ∃ (f : Addr) (fd : FuncData), FunD K x x (defArgs st) (defBody st) (defScope st) dvs [] f fd ∧ mg x = some (.ref f)
theorem mkCal {x : Str} {st : Stmt} {N ps : List Str} {k : Nat} {sp : Sp} (F : Df K mg x st []) (S : FnScope N ps (defScope st))
    (hb : ∀ (kV doc pm : Value) (an : Option Addr) (cdv ct : Value) (us : List Value), us.length = ps.length → bindArgs (PySem.W.fnOf x x (defArgs st) (defBody st) (defScope st) .none kV doc pm an cdv ct) ⟨us, []⟩ = pure (ps.zip us))
    (len : ∀ vs H Q E, sp vs H Q E → vs.length = ps.length)
    (hbody : ∀ (f : Addr) (cdv : Value) (A : Around) (outer : List Env) (s : Shared) (H : Hp) (vs : List V) (Q : VK) (E : XK), Room k (A.deeper (envOfC x (defScope st) s.heap.objs.size f cdv)) → sp vs H Q E →
      wSs (cxOf (L2.CX P w) P w K mg base N x (defScope st) f cdv A outer s H E) (defBody st) { nx := fun _ H' => Q .non H', rt := Q } (L2.start N vs) H) : Cal P w K mg base (k + 1) x sp [] := by
  obtain ⟨f, fd, F, hm⟩ := F.ex
  exact ⟨f, fd, ps, [], F.ok S len fun cdv A outer s H vs Q E hr h => ⟨_, pss_w, hbody f cdv A outer s H vs Q E hr h⟩, hm, F.kp, F.bindsN hb, .nil⟩
/-- a promise about data -/
def Fn (K : Fg) (F : List PyData → (PyData → Prop) → Prop) : Sp := fun vs H Q _ => ∃ B ts S, Ok none B H ∧ DpAll K B vs ts ∧ F ts S ∧ Ret K none B H S Q
/-- .. of a def that draws -/
def FnD (K : Fg) (F : List PyData → (PyData → Prop) → Prop) : Sp := fun vs H Q _ => ∃ a c ws B ts S, vs = .ref a :: ws ∧ Ok (some (a, c)) B H ∧ DpAll K B ws ts ∧ F ts S ∧ Ret K (some (a, c)) B H S Q
theorem Sy.ini {d : Dr} {B H : Hp} {vs : List V} {ts : List PyData} {N : List Str} (ok : Ok d B H) (hv : DpAll K B vs ts) : Sy K d B H B H (L2.start N vs) (ts.map .dat ++ List.replicate (N.length - ts.length) .any) := by
  refine ⟨.refl, ok, ⟨fun i x hx => ?_⟩⟩
  have hl := hv.len
  unfold L2.start
  by_cases hi : i < ts.length
  · rw [List.getElem?_append_left (by simpa using hi), List.getElem?_map] at hx
    cases e : ts[i]? with
    | none => rw [e] at hx; cases hx
    | some t =>
      rw [e] at hx
      cases hx
      obtain ⟨v, h1, h2⟩ := hv.at e
      exact ⟨some v, by rw [List.getElem?_append_left (by rw [List.length_map, hl]; exact hi), List.getElem?_map, h1]; rfl, v, rfl, h2⟩
  · rw [List.getElem?_append_right (by simpa using hi), List.getElem?_replicate] at hx
    split at hx
    · cases hx
      rename_i h
      rw [List.length_map] at h
      refine ⟨none, ?_, trivial⟩
      rw [List.getElem?_append_right (by rw [List.length_map, hl]; omega), List.getElem?_replicate, if_pos (by rw [List.length_map, hl]; exact h)]
    · cases hx
theorem Sy.iniD {a c : Addr} {B H : Hp} {vs : List V} {ts : List PyData} {N : List Str} (ok : Ok (some (a, c)) B H) (hv : DpAll K B vs ts) : Sy K (some (a, c)) B H B H (L2.start N (.ref a :: vs)) (.raw (.ref a) :: (ts.map .dat ++ List.replicate (N.length - ts.length - 1) .any)) := by
  refine ⟨.refl, ok, ⟨fun i x hx => ?_⟩⟩
  cases i with
  | zero =>
    cases hx
    exact ⟨some (.ref a), rfl, rfl⟩
  | succ i =>
    have hx' : (ts.map Sd.dat ++ List.replicate (N.length - ts.length - 1) .any)[i]? = some x := by simpa using hx
    have y := (Sy.ini (K := K) (N := List.replicate (N.length - 1) ("" : Str)) ok hv).sl.at_ i x
    rw [List.length_replicate] at y
    have e : N.length - 1 - ts.length = N.length - ts.length - 1 := by omega
    rw [e] at y
    obtain ⟨s, h1, h2⟩ := y hx'
    refine ⟨s, ?_, h2⟩
    unfold L2.start at h1 ⊢
    rw [List.length_replicate] at h1
    rw [List.map_cons, List.cons_append, List.getElem?_cons_succ, List.length_cons]
    have e2 : N.length - (vs.length + 1) = N.length - 1 - vs.length := by omega
    rw [e2]
    exact h1
end
section
variable {X : Cx} {d : Dr} {ds : List Sd} {B : Hp} {S : PyData → Prop} {e : Expr} {es : List Expr} {pos p : Pos} {x : Str} {F : List PyData → (PyData → Prop) → Prop} {j k : Nat}
theorem Ret.none {K : Fg} {H : Hp} {S S' : PyData → Prop} {Q : VK} (r : Ret K d B H S Q) (ok : Ok d B H) (h : ∀ t, S' t → S t) : Ret K none B H S' Q := fun v t B' H' tr ok' hd hs => r v t B' H' tr.weak (ok.step tr ok') hd (h t hs)
theorem ev_call {K : Fg} {E : XK} {t : TA} {Ss : List PyData → Prop} (ha : EvA K d t ds B Ss) (hF : ∀ ts, Ss ts → ∃ S', F ts S' ∧ ∀ t, S' t → S t) : Ev K d (tCall (Fn K F) [] E t) ds B S := fun B1 σ H e sl ok Q r =>
  ha B1 σ H e sl ok _ fun vs ts B2 H2 tr2 ok2 hd hs => by
    obtain ⟨S', h1, h2⟩ := hF ts hs
    refine ⟨B2, ts, S', ok2.pure, by rw [List.append_nil]; exact hd, h1, (r.after tr2).none ok2 h2⟩
theorem dCall {Ss : List PyData → Prop} (c : Cal X.prog X.w X.K X.mg X.base k x (Fn X.K F) []) (hr : Room j X.A) (ha : DA X d (e :: es) ds B Ss) (hF : ∀ ts, Ss ts → ∃ S', F ts S' ∧ ∀ t, S' t → S t) (hk : k ≤ j := by decide) (hg : Gl X x := by rfl)
    (hdb : (x == ("__debug__" : Str)) = false := by decide) (he : starEach (e :: es) X.env = (false, eval e X.env) :: starEach es X.env := by rfl) (hpl : (backTo pos (starEach es X.env)).any (·.1) = false := by rfl) : DE X d (.Call (.Name x p) (e :: es) [] pos) ds B S := by
  obtain ⟨f, fd, ps, ds', F', hm, kp, b, dv⟩ := c.ex
  exact de_of (pe_call F' (hr.mono hk) hg hm kp b dv passL pa_w hdb he hpl) (ev_call ha hF)
/-- .. of one list of arguments -/
theorem dCall1 {ts : List PyData} (c : Cal X.prog X.w X.K X.mg X.base k x (Fn X.K F) []) (hr : Room j X.A) (ha : DA X d (e :: es) ds B (· = ts)) (hF : F ts S) (hk : k ≤ j := by decide) (hg : Gl X x := by rfl)
    (hdb : (x == ("__debug__" : Str)) = false := by decide) (he : starEach (e :: es) X.env = (false, eval e X.env) :: starEach es X.env := by rfl) (hpl : (backTo pos (starEach es X.env)).any (·.1) = false := by rfl) : DE X d (.Call (.Name x p) (e :: es) [] pos) ds B S :=
  dCall c hr ha (by rintro _ rfl; exact ⟨S, hF, fun _ h => h⟩) hk hg hdb he hpl
/-- a def that draws: its first argument is the draws' state, at slot i -/
theorem dCallD {a c' : Addr} {Ss : List PyData → Prop} {xd : Str} {pd : Pos} (i : Nat) (c : Cal X.prog X.w X.K X.mg X.base k x (FnD X.K F) []) (hr : Room j X.A) (ha : DA X (some (a, c')) es ds B Ss) (hF : ∀ ts, Ss ts → ∃ S', F ts S' ∧ ∀ t, S' t → S t) (hi : ds[i]? = some (.raw (.ref a)) := by rfl) (hN : X.N[i]? = some xd := by rfl)
    (hv : Vis X.env.scope xd := by first | exact Or.inl rfl | exact Or.inr (Or.inl rfl) | exact Or.inr (Or.inr rfl)) (hd : (xd == ("__debug__" : Str)) = false := by decide) (hcd : (xd == ("__classdict__" : Str)) = false := by decide) (hk : k ≤ j := by decide) (hg : Gl X x := by rfl)
    (hdb : (x == ("__debug__" : Str)) = false := by decide) (he : starEach (.Name xd pd :: es) X.env = (false, eval (.Name xd pd) X.env) :: starEach es X.env := by rfl) (hpl : (backTo pos (starEach es X.env)).any (·.1) = false := by rfl) : DE X (some (a, c')) (.Call (.Name x p) (.Name xd pd :: es) [] pos) ds B S := by
  obtain ⟨f, fd, ps, ds', F', hm, kp, b, dv⟩ := c.ex
  refine de_of (pe_call F' (hr.mono hk) hg hm kp b dv passL (pa_cons (pe_var hN hv hd hcd) pa_w he) hdb he hpl) fun B1 σ H e sl ok Q r => ⟨_, sl.raw hi, ha B1 σ H e sl ok _ fun vs ts B2 H2 tr2 ok2 hd hs => ?_⟩
  obtain ⟨S', h1, h2⟩ := hF ts hs
  refine ⟨a, c', vs, B2, ts, S', by rw [List.append_nil], ok2, hd, h1, fun v t B' H' tr ok' hdd hss => r v t B' H' (tr2.trans tr) ok' hdd (h2 t hss)⟩
theorem dCallD1 {a c' : Addr} {ts : List PyData} {xd : Str} {pd : Pos} (i : Nat) (c : Cal X.prog X.w X.K X.mg X.base k x (FnD X.K F) []) (hr : Room j X.A) (ha : DA X (some (a, c')) es ds B (· = ts)) (hF : F ts S) (hi : ds[i]? = some (.raw (.ref a)) := by rfl) (hN : X.N[i]? = some xd := by rfl)
    (hv : Vis X.env.scope xd := by first | exact Or.inl rfl | exact Or.inr (Or.inl rfl) | exact Or.inr (Or.inr rfl)) (hd : (xd == ("__debug__" : Str)) = false := by decide) (hcd : (xd == ("__classdict__" : Str)) = false := by decide) (hk : k ≤ j := by decide) (hg : Gl X x := by rfl)
    (hdb : (x == ("__debug__" : Str)) = false := by decide) (he : starEach (.Name xd pd :: es) X.env = (false, eval (.Name xd pd) X.env) :: starEach es X.env := by rfl) (hpl : (backTo pos (starEach es X.env)).any (·.1) = false := by rfl) : DE X (some (a, c')) (.Call (.Name x p) (.Name xd pd :: es) [] pos) ds B S :=
  dCallD i c hr ha (by rintro _ rfl; exact ⟨S, hF, fun _ h => h⟩) hi hN hv hd hcd hk hg hdb he hpl
end
end K20
set_option maxHeartbeats 2000000
/-! More statements; what the module's top leaves. -/
namespace K20
open PySem PySem.Spec L2
open PyProof.Rows hiding St
section
variable {X : Cx} {d : Dr} {ds : List Sd} {B0 H0 B H : Hp} {σ : St} {S : PyData → Prop} {D : Ends} {st : Stmt} {rest a b body : List Stmt} {e e1 e2 c iter tg : Expr} {es : List Expr} {pos p p2 p3 p' : Pos} {x x' : Str}
/-- x, y = e1, e2 -/
theorem sPar (i j : Nat) {t u : PyData} {kt k2 pt pt2} (y : Sy X.K d B0 H0 B H σ ds) (hc : X.calm = true) (nd : X.N.Nodup) (hij : i ≠ j) (h1 : DE X d e1 ds B (· = t)) (h2 : DE X d e2 ds B (· = u)) (k : ∀ B1 σ1 H1, Tr d B H B1 H1 → Sy X.K d B0 H0 B1 H1 σ1 ((ds.set i (.dat t)).set j (.dat u)) → D.nx σ1 H1)
    (hi : X.N[i]? = some x := by rfl) (hj : X.N[j]? = some x' := by rfl) (hx : X.env.scope.names.lookup x = some .local := by rfl) (hy : X.env.scope.names.lookup x' = some .local := by rfl)
    (hw : swappedStores [.Tuple [.Name x p, .Name x' p'] kt pt] (.Tuple [e1, e2] k2 pt2) X.env = pure (some [x, x']) := by rfl) (hs : swapsWithSole [.Tuple [.Name x p, .Name x' p'] kt pt] (.Tuple [e1, e2] k2 pt2) pos.line X.env = pure false := by rfl)
    (hst : starEach [e1, e2] X.env = (false, eval e1 X.env) :: starEach [e2] X.env := by rfl) (hst2 : starEach [e2] X.env = (false, eval e2 X.env) :: starEach [] X.env := by rfl) :
    wS X (.Assign [.Tuple [.Name x p, .Name x' p'] kt pt] (.Tuple [e1, e2] k2 pt2) pos) D σ H :=
  w_s (ps_par hc nd hi hj hij hx hy (pa_cons pe_w (pa_cons pe_w pa_nil hst2) hst) hw hs) (h1 B σ H (Same.refl B) y.sl y.ok _ fun v t1 B1 H1 tr ok hd e => h2 B1 σ H1 tr.kb (y.sl.up tr.kb) ok _ fun w u1 B2 H2 tr2 ok2 hd2 e2 =>
    ⟨v, w, rfl, k B2 _ H2 (tr.trans tr2) ((((y.on tr ok).on tr2 ok2).put i (x := .dat t) ⟨v, rfl, by rw [← show t1 = t from e]; exact hd.up tr2.kb⟩).put j (x := .dat u) ⟨w, rfl, by rw [← show u1 = u from e2]; exact hd2⟩)⟩)
theorem sRet0 (sl : Sl X.K B σ ds) (ok : Ok d B H) (h : DE X d e ds B S) (k : Ret X.K d B H S D.rt) : wS X (.Return (some e) pos) D σ H := w_s (ps_ret pe_w) (h B σ H (Same.refl B) sl ok _ k)
theorem sSet0 (i : Nat) (sl : Sl X.K B σ ds) (ok : Ok d B H) (nd : X.N.Nodup) (h : DE X d e ds B S) (k : ∀ v t B1 H1, S t → Tr d B H B1 H1 → Ok d B1 H1 → Dp X.K B1 v t → D.nx (σ.set i (some v)) H1)
    (hi : X.N[i]? = some x := by rfl) (hx : Loc X.env.scope x := by first | exact Or.inl rfl | exact Or.inr rfl) (hs : swapsWith e (some (.Name x p')) pos.line X.env = pure false := by rfl) (hf : X.fn x = true ∨ X.env.scope.names.lookup x = some .local := by first | exact .inl rfl | exact .inr rfl) :
    wS X (.Assign [.Name x p'] e pos) D σ H := w_s (ps_set nd hi hx pe_w hs hf) (h B σ H (Same.refl B) sl ok _ fun v t B1 H1 tr ok hd hs => k v t B1 H1 hs tr ok hd)
theorem sIf0 {St' : Bool → Prop} (sl : Sl X.K B σ ds) (ok : Ok d B H) (h : DT X d c ds B St') (h1 : St' true → ∀ H1, Tr d B H B H1 → Ok d B H1 → wSs X a D σ H1) (h2 : St' false → ∀ H1, Tr d B H B H1 → Ok d B H1 → wSs X b D σ H1) :
    wS X (.If c a b pos) D σ H := w_s (ps_if pt_w pss_w pss_w) (h B σ H (Same.refl B) sl ok _ fun k H1 tr ok hs => by
  cases k with
  | true => exact iteT (h1 hs H1 tr ok)
  | false => exact iteF (h2 hs H1 tr ok))
/-- int(e) -/
theorem rc_int {K : Fg} {i : Int} : RC K d (fun xs H Q => (∃ i, xs = [.int i] ∧ Q (.int i) H) ∨ ∃ k, xs = [.bl k] ∧ Q (.int (if k then 1 else 0)) H) B (· = [.int i]) (· = .int i) := fun B1 H vs ts e ok g e1 Q r => by
  subst e1
  obtain ⟨w, rfl, g2⟩ := DpAll.one g
  exact .inl ⟨i, by rw [g2.int_inv], r (.int i) (.int i) B1 H .refl ok (.int i) rfl⟩
theorem rc_intb {K : Fg} {i : Bool} : RC K d (fun xs H Q => (∃ i, xs = [.int i] ∧ Q (.int i) H) ∨ ∃ k, xs = [.bl k] ∧ Q (.int (if k then 1 else 0)) H) B (· = [.bool i]) (· = .int (if i then 1 else 0)) := fun B1 H vs ts e ok g e1 Q r => by
  subst e1
  obtain ⟨w, rfl, g2⟩ := DpAll.one g
  exact .inr ⟨i, by rw [g2.bl_inv], r _ _ B1 H .refl ok (.int _) rfl⟩
theorem dInt {i : Int} (hm : X.mg "int" = none) (ha : DE X d e ds B (· = .int i)) (hg : Gl X "int" := by rfl) (he : starEach [e] X.env = (false, eval e X.env) :: starEach [] X.env := by rfl) (hpl : (backTo pos (starEach [] X.env)).any (·.1) = false := by rfl) :
    DE X d (.Call (.Name "int" p) [e] [] pos) ds B (· = .int i) := dCT call_int1 hm boot_int (aC ha aN he) rc_int hg (by decide) (by decide) he hpl
theorem dIntB {i : Bool} (hm : X.mg "int" = none) (ha : DE X d e ds B (· = .bool i)) (hg : Gl X "int" := by rfl) (he : starEach [e] X.env = (false, eval e X.env) :: starEach [] X.env := by rfl) (hpl : (backTo pos (starEach [] X.env)).any (·.1) = false := by rfl) :
    DE X d (.Call (.Name "int" p) [e] [] pos) ds B (· = .int (if i then 1 else 0)) := dCT call_int1 hm boot_int (aC ha aN he) rc_intb hg (by decide) (by decide) he hpl
/-- xs[j] = e at a list of ints that is locked in the knowledge -/
theorem sPut (i : Nat) {a : Addr} {vs : List V} {j : Nat} {jj z : Int} {q} (sl : Sl X.K B σ ds) (ok : Ok none B H) (h : DE X none e ds B (· = .int z)) (hσ : σ[i]? = some (some (.ref a))) (hB : B a = some (.lst vs)) (hj : ixN vs.length jj = some j)
    (k : ∀ H1, Tr none B H B H1 → Ok none B H1 → D.nx σ (upd H1 a (.lst (vs.set j (.int z))))) (hN : X.N[i]? = some x := by rfl) (hv : Vis X.env.scope x := by first | exact Or.inl rfl | exact Or.inr (Or.inl rfl) | exact Or.inr (Or.inr rfl)) (hd : (x == ("__debug__" : Str)) = false := by decide)
    (hcd : (x == ("__classdict__" : Str)) = false := by decide) (hs : swapsWithSole [.Subscript (.Name x p) (.Constant (.int jj) q p2) p3] e pos.line X.env = pure false := by rfl) (hw : swappedStores [.Subscript (.Name x p) (.Constant (.int jj) q p2) p3] e X.env = pure none := by rfl)
    (h1 : (assignEach [.Subscript (.Name x p) (.Constant (.int jj) q p2) p3] X.env).map (·.2) = [assign (.Subscript (.Name x p) (.Constant (.int jj) q p2) p3) X.env] := by rfl)
    (ha : ∀ v, assign (.Subscript (.Name x p) (.Constant (.int jj) q p2) p3) X.env v = (do
      let ov ← holding [v] (eval (.Name x p) X.env)
      let iv ← holding [v, ov] (eval (.Constant (.int jj) q p2) X.env)
      standAt p3
      holding [v, ov, iv] (setItem ov iv v)
      release [v, ov, iv] []) := by intro _; rfl) :
    wS X (.Assign [.Subscript (.Name x p) (.Constant (.int jj) q p2) p3] e pos) D σ H := by
  refine w_s (ps_asg pe_w (pg_sub (pe_var hN hv hd hcd) pe_int set_list ha) hs hw h1) (h B σ H (Same.refl B) sl ok _ fun v t B1 H1 tr ok1 hd1 e1 => ?_)
  have e1' : t = .int z := e1
  subst e1'
  have ev := hd1.int_inv
  subst ev
  have hH : H1 a = some (.lst vs) := ok1.kh _ _ (tr.kb _ _ hB)
  exact ⟨_, hσ, a, vs, jj, j, rfl, rfl, hH, hj, k H1 tr.back (ok.back tr ok1)⟩
end
/-! ### what the top leaves -/
structure Md (K : Fg) (mg : Str → Option Value) : Prop where
  len : mg "len" = none
  isinstance : mg "isinstance" = none
  int : mg "int" = none
  bool : mg "bool" = none
  list : mg "list" = none
  tuple : mg "tuple" = none
  str : mg "str" = none
  range : mg "range" = none
  sorted : mg "sorted" = none
  enumerate : mg "enumerate" = none
  all : mg "all" = none
  any : mg "any" = none
  min : mg "min" = none
  max : mg "max" = none
  gcd : mg "gcd" = some (.builtin "math.gcd")
  cMOST_WORDS : ∃ t, mg "MOST_WORDS" = some (.int (4) t)
  cLONGEST_WORD : ∃ t, mg "LONGEST_WORD" = some (.int (12) t)
  cMOST_FIGURES : ∃ t, mg "MOST_FIGURES" = some (.int (400) t)
  cDEEPEST : ∃ t, mg "DEEPEST" = some (.int (20) t)
  cBEYOND : ∃ t, mg "BEYOND" = some (.int (10 ^ 400) t)
  cMOST_HEADS : ∃ t, mg "MOST_HEADS" = some (.int (12) t)
  cMOST_STRETCH : ∃ t, mg "MOST_STRETCH" = some (.int (12) t)
  cMOST_LEVELS : ∃ t, mg "MOST_LEVELS" = some (.int (37) t)
  cMOST_NODES : ∃ t, mg "MOST_NODES" = some (.int (12) t)
  letters : ∃ t, mg "LETTERS" = some (.str "abcdefghijklmnopqrstuvwxyz" t)
  figures : ∃ t, mg "FIGURES" = some (.str "0123456789" t)
  df : ∀ i ∈ defNos, Df K mg (nm i) (top i) []
end K20
set_option maxHeartbeats 2000000
/-! Lists of one's own, comprehensions, more built-ins. -/
namespace K20
open PySem PySem.Spec L2
open PyProof.Rows hiding St
section
variable {K : Fg} {d : Dr} {B0 H0 B B1 B2 H H1 H2 : Hp} {σ : St} {ds : List Sd} {p : Addr} {vs : List V} {ts : List PyData} {o : HO}
/-- a list of one's own, seen as data for a while -/
theorem Sy.lock (y : Sy K d B0 H0 B H σ ds) (m : Mu d H0 B H p (.lst vs)) (hv : DpAll K B vs ts) {i : Nat} (hi : ds[i]? = some (.raw (.ref p))) : Ok d (upd B p (.lst vs)) H ∧ Sl K (upd B p (.lst vs)) σ (ds.set i (.dat (.list ts))) := by
  have e := same_upd (o := .lst vs) m.hid
  refine ⟨y.ok.freeze m, ?_⟩
  have q := (y.sl.up e).put i (s := some (.ref p)) (x := .dat (.list ts)) ⟨_, rfl, .lst (SqL.of upd_same) (hv.up e)⟩
  have h := y.sl.raw hi
  have z : σ.set i (some (V.ref p)) = σ := by
    obtain ⟨hl, e⟩ := List.getElem?_eq_some_iff.mp h
    rw [← e]
    exact List.set_getElem_self hl
  rw [z] at q
  exact q
theorem Tr.unlock (m : B p = none) (t : Tr d (upd B p o) H B2 H2) : Tr d B H B H2 := ⟨Same.refl B, t.old, t.dom, fun _ _ n => n⟩
theorem Ok.unlock (m : B p = none) (ok0 : Ok d B H) (t : Tr d (upd B p o) H B2 H2) (ok : Ok d B2 H2) : Ok d B H2 := ⟨fun a u e => ok.kh _ _ (t.kb _ _ (same_upd m _ _ e)), fun a c e => ⟨(ok0.ds a c e).1, (ok.ds a c e).2⟩⟩
/-- data without objects -/
def atom : PyData → Bool
  | .list _ => false
  | .tuple _ => false
  | .dict _ => false
  | _ => true
theorem Dp_atom {t : PyData} {v : V} (h : Dp K B v t) (ha : atom t = true) : Dp K B1 v t := by
  cases h with
  | non => exact .non
  | bl b => exact .bl b
  | int i => exact .int i
  | str x => exact .str x
  | lst _ _ => cases ha
  | tup _ _ => cases ha
theorem Sy.mut (y : Sy K d B0 H0 B H σ ds) {u : HO} (m : Mu d H0 B H p u) : Sy K d B0 H0 B (upd H p o) σ ds := ⟨y.tr.mut m, y.ok.mut m, y.sl⟩
/-- a list of one's own becomes data -/
theorem Sy.data (y : Sy K d B0 H0 B H σ ds) (m : Mu d H0 B H p (.lst vs)) (hv : DpAll K B vs ts) : Tr d B0 H0 (upd B p (.lst vs)) H ∧ Ok d (upd B p (.lst vs)) H ∧ Dp K (upd B p (.lst vs)) (.ref p) (.list ts) ∧ Same B (upd B p (.lst vs)) :=
  ⟨y.tr.freeze m, y.ok.freeze m, .lst (SqL.of upd_same) (hv.up (same_upd m.hid)), same_upd m.hid⟩
end
section
variable {X : Cx} {d : Dr} {ds : List Sd} {B0 H0 B H : Hp} {σ : St} {S : PyData → Prop} {D : Ends} {st : Stmt} {rest a b body : List Stmt} {e e1 e2 c iter tg elt : Expr} {es : List Expr} {pos pa pb pc : Pos} {x x' : Str} {p : Addr} {vs : List V}
/-- x = [] -/
theorem sNew (i : Nat) (y : Sy X.K d B0 H0 B H σ ds) (ok0 : Ok d B0 H0) (nd : X.N.Nodup) (k : ∀ p σ1, H p = none → Sy X.K d B0 H0 B (upd H p (.lst [])) σ1 (ds.set i (.raw (.ref p))) → Mu d H0 B (upd H p (.lst [])) p (.lst []) → D.nx σ1 (upd H p (.lst [])))
    (hi : X.N[i]? = some x := by rfl) (hx : Loc X.env.scope x := by first | exact Or.inl rfl | exact Or.inr rfl) (hs : swapsWith (.List [] pa) (some (.Name x pb)) pos.line X.env = pure false := by rfl) (hf : X.fn x = true ∨ X.env.scope.names.lookup x = some .local := by first | exact .inl rfl | exact .inr rfl) :
    wS X (.Assign [.Name x pb] (.List [] pa) pos) D σ H :=
  w_s (ps_set nd hi hx (pe_lst pa_nil) hs hf) ⟨by show 0 ≤ sizeLine; decide, fun p hp => k p _ hp (Sy.put (x := .raw (.ref p)) ⟨y.tr.trans (.lay0 hp), y.ok.lay0 hp, y.sl⟩ i rfl) (Mu.make ok0 y.ok y.tr hp)⟩
/-- x.append(e) -/
theorem sApp (i : Nat) (y : Sy X.K d B0 H0 B H σ ds) (m : Mu d H0 B H p (.lst vs)) (h : DE X d e ds B S) (k : ∀ w t B1 H1, S t → Tr d B H B1 H1 → Dp X.K B1 w t → Sy X.K d B0 H0 B1 H1 σ ds → Mu d H0 B1 H1 p (.lst vs) → Sy X.K d B0 H0 B1 (upd H1 p (.lst (vs ++ [w]))) σ ds → Mu d H0 B1 (upd H1 p (.lst (vs ++ [w]))) p (.lst (vs ++ [w])) → D.nx σ (upd H1 p (.lst (vs ++ [w]))))
    (hl : vs.length < 100000) (hi : ds[i]? = some (.raw (.ref p)) := by rfl) (hN : X.N[i]? = some x := by rfl) (hv : Vis X.env.scope x := by first | exact Or.inl rfl | exact Or.inr (Or.inl rfl) | exact Or.inr (Or.inr rfl)) (hd : (x == ("__debug__" : Str)) = false := by decide)
    (hcd : (x == ("__classdict__" : Str)) = false := by decide) (hbase : attributeBase (.Name x pa) "append" X.env (eval (.Name x pa) X.env) = eval (.Name x pa) X.env := by rfl)
    (hfew : ((backTo pc (starEach [e] X.env)).all (fun x => !x.1) && (backToKw pc (keywordEach [] X.env)).all (fun x => x.1.isSome) && decide (([e] : List Expr).length + ([] : List Keyword).length + (if ([] : List Keyword).isEmpty then 0 else 1) < 30)) = true := by rfl)
    (hline : (pb.endLine == pc.line) = true := by rfl) (hst : starEach [e] X.env = (false, eval e X.env) :: starEach [] X.env := by rfl) (hpl : (backTo pc (starEach [] X.env)).any (·.1) = false := by rfl)
    (hs : swapsWith (.Call (.Attribute (.Name x pa) "append" pb) [e] [] pc) none pos.line X.env = pure false := by rfl) :
    wS X (.Expr (.Call (.Attribute (.Name x pa) "append" pb) [e] [] pc) pos) D σ H := by
  refine w_s (ps_expr (pe_bm PySem.F.plainAttrs_list PySem.F.slot_list_append PySem.F.type_list_append mt_append (pe_var hN hv hd hcd) (pa_cons pe_w pa_nil hst) hbase hfew hline hst hpl) hs) ?_
  refine ⟨_, y.sl.raw hi, .inl ⟨rfl, _, SqL.of m.at_⟩, h B σ H (Same.refl B) y.sl y.ok _ fun w t B1 H1 tr ok hd1 hs1 => ?_⟩
  have m1 := m.on tr
  exact ⟨p, vs, w, rfl, rfl, m1.at_, Nat.lt_of_lt_of_le hl (by decide), k w t B1 H1 hs1 tr hd1 (y.on tr ok) m1 ((y.on tr ok).mut m1) m1.set⟩
/-- list(range(n)) -/
theorem dListR {n : Nat} {pd : Pos} (hc : X.calm = true) (hl : X.mg "list" = none) (hr : X.mg "range" = none) (h : DE X d e ds B (· = .int n)) (hn : n ≤ 100000) (hg : Gl X "list" := by rfl) (hgr : Gl X "range" := by rfl)
    (na : starEach [.Call (.Name "range" pa) [e] [] pb] X.env = (false, eval (.Call (.Name "range" pa) [e] [] pb) X.env) :: starEach [] X.env := by rfl) (nb : starEach [e] X.env = (false, eval e X.env) :: starEach [] X.env := by rfl) :
    DE X d (.Call (.Name "list" pc) [.Call (.Name "range" pa) [e] [] pb] [] pd) ds B (· = .list ((List.range n).map fun i => .int (i : Nat))) :=
  de_of (pe_listRg hc hg hl (prg_1 hgr hr pe_w nb) na) fun B1 σ H e1 sl ok Q r => h B1 σ H e1 sl ok _ fun w t B2 H2 tr ok2 hd2 e2 => by
    have e' : t = .int n := e2
    subst e'
    refine ⟨n, hd2.int_inv, RgOk.of_le (by omega) (by omega) (by omega) (by omega), fun q hq => ?_⟩
    have dp : ∀ {Bz : Hp} (l : List Nat), DpAll X.K Bz (l.map fun i => V.int (0 + (i : Nat))) (l.map fun i => PyData.int (i : Nat)) := fun {Bz} l => by
      induction l with
      | nil => exact .nil
      | cons a l ih =>
        refine .cons (show Dp X.K Bz (V.int (0 + (a : Int))) (PyData.int (a : Int)) from ?_) ih
        rw [Int.zero_add]
        exact .int _
    have e3 : ((n : Int) - 0).toNat = n := by omega
    refine r _ _ _ _ (tr.trans (Tr.lay ok2 hq)) (ok2.lay hq) (.lst (SqL.of upd_same) ?_) rfl
    unfold rgV
    rw [e3]
    exact dp _
end
/-! ### expressions that give a new list, still one's own -/
def RetO (K : Fg) (d : Dr) (B H : Hp) (S : List PyData → Prop) (Q : VK) : Prop := ∀ p vs ts B' H', Tr d B H B' H' → Ok d B' H' → Mu d H B' H' p (.lst vs) → DpAll K B' vs ts → S ts → Q (.ref p) H'
def EvO (K : Fg) (d : Dr) (te : TE) (ds : List Sd) (B : Hp) (S : List PyData → Prop) : Prop := ∀ B1 σ H, Same B B1 → Sl K B1 σ ds → Ok d B1 H → ∀ Q : VK, RetO K d B1 H S Q → te σ H Q
abbrev DO (X : Cx) (d : Dr) (e : Expr) (ds : List Sd) (B : Hp) (S : List PyData → Prop) : Prop := EvO X.K d (wE X e) ds B S
theorem Mu.since {d : Dr} {B0 H0 B H B' H' : Hp} {p : Addr} {o : HO} (m : Mu d H B' H' p o) (t : Tr d B0 H0 B H) : Mu d H0 B' H' p o := ⟨t.dom p m.new, m.hid, m.at_, m.nd⟩
theorem Ret.own {K : Fg} {d : Dr} {B H : Hp} {S : PyData → Prop} {S' : List PyData → Prop} {Q : VK} (r : Ret K d B H S Q) (k : ∀ ts, S' ts → S (.list ts)) : RetO K d B H S' Q := fun p vs ts B' H' tr ok m hd hs =>
  r (.ref p) (.list ts) (upd B' p (.lst vs)) H' (tr.freeze m) (ok.freeze m) (.lst (SqL.of upd_same) (hd.up (same_upd m.hid))) (k ts hs)
theorem RetO.after {K : Fg} {d : Dr} {B B1 H H1 : Hp} {S : List PyData → Prop} {Q : VK} (r : RetO K d B H S Q) (t : Tr d B H B1 H1) : RetO K d B1 H1 S Q := fun p vs ts B' H' tr ok m hd hs => r p vs ts B' H' (t.trans tr) ok (m.since t) hd hs
theorem deO {X : Cx} {d : Dr} {e : Expr} {ds : List Sd} {B : Hp} {S : List PyData → Prop} (h : DO X d e ds B S) : DE X d e ds B (fun t => ∃ ys, t = .list ys ∧ S ys) := fun B1 σ H e sl ok Q r => h B1 σ H e sl ok Q (r.own fun ts h => ⟨ts, rfl, h⟩)
theorem do_of {X : Cx} {d : Dr} {e : Expr} {ds : List Sd} {B : Hp} {S : List PyData → Prop} {te : TE} (h : PE X e te) (q : EvO X.K d te ds B S) : DO X d e ds B S := fun B1 σ H e sl ok Q r => w_e h (q B1 σ H e sl ok Q r)
/-! ### comprehensions -/
/-- the element within the comprehension's block, whatever the block's frame -/
structure wB (X : Cx) (scope : Scope) (e : Expr) (σ : St) (H : Hp) (Q : VK) : Prop where
  at_ : ∀ (s : Shared) (H' : Hp) (C : Addr) (cl : List (Str × Addr)) (fp : List Addr), wE (X.blk s H' scope (compEnvC scope cl C X.env) fp) e σ H Q
structure wTB (X : Cx) (scope : Scope) (e : Expr) (σ : St) (H : Hp) (Q : Bool → Hp → Prop) : Prop where
  at_ : ∀ (s : Shared) (H' : Hp) (C : Addr) (cl : List (Str × Addr)) (fp : List Addr), wT (X.blk s H' scope (compEnvC scope cl C X.env) fp) e σ H Q
/-- an expression within the block -/
abbrev DB (X : Cx) (scope : Scope) (d : Dr) (e : Expr) (ds : List Sd) (B : Hp) (S : PyData → Prop) : Prop := ∀ (s : Shared) (H' : Hp) (C : Addr) (cl : List (Str × Addr)) (fp : List Addr), DE (X.blk s H' scope (compEnvC scope cl C X.env) fp) d e ds B S
abbrev DTB (X : Cx) (scope : Scope) (d : Dr) (e : Expr) (ds : List Sd) (B : Hp) (S : Bool → Prop) : Prop := ∀ (s : Shared) (H' : Hp) (C : Addr) (cl : List (Str × Addr)) (fp : List Addr), DT (X.blk s H' scope (compEnvC scope cl C X.env) fp) d e ds B S
def wipeD (ds : List Sd) : List Nat → List Sd
  | [] => ds
  | v :: vs => (wipeD ds vs).set v .any
theorem Sl.wipe {K : Fg} {B : Hp} {σ : St} {ds : List Sd} (h : Sl K B σ ds) : ∀ vs : List Nat, Sl K B (L2.wipe σ vs) (wipeD ds vs)
  | [] => h
  | v :: vs => (Sl.wipe h vs).forget v
section
variable {K : Fg} {d : Dr} {B1 H1 : Hp} {σ : St} {ds : List Sd} {tt : TT} {te : TE} {g : TG}
theorem Paired.snoc' {α β : Type} {R : α → β → Prop} : ∀ {l : List α} {m : List β} {a : α} {b : β}, Paired R l m → R a b → Paired R (l ++ [a]) (m ++ [b])
  | [], _, _, _, .nil, h => .cons h .nil
  | _ :: _, _, _, _, .cons r t, h => .cons r (Paired.snoc' t h)
theorem take_snoc {α : Type} {l : List α} {i : Nat} {x : α} (h : l[i]? = some x) : l.take (i + 1) = l.take i ++ [x] := by
  rw [List.take_add_one, h]
  rfl
/-- a comprehension: the made list of the items that are kept -/
theorem lc_data {J : It} {G : Hp → Prop} {vs : List V} {xs : List PyData} {own : List Nat} {D : Addr} {Q : VK} {R : PyData → PyData → Prop} {p : PyData → Bool} (wk : Walk J vs.length G (YAt vs)) (hv : DpAll K B1 vs xs) (hl : xs.length ≤ 100000) (hG : ∀ B' H', Same B1 B' → Same B' H' → G H') (ok : Ok d B1 H1) (hD : H1 D = none)
    (turn : ∀ (i : Nat) (x : PyData) (w : V) (B' H' : Hp), xs[i]? = some x → Same B1 B' → Ok d B' H' → Dp K B' w x → ∃ σ2 ds2, (∀ Q, Q σ2 H' → g w (L2.wipe σ own) H' Q) ∧ L2.wipe σ2 own = L2.wipe σ own ∧ Sl K B' σ2 ds2 ∧ EvT K d tt ds2 B' (· = p x) ∧ (p x = true → Ev K d te ds2 B' (R x)))
    (ret : RetO K d B1 H1 (fun ys => Paired R (xs.filter p) ys) Q) :
    ∃ W : Nat → Nat → Hp → Prop, (∃ m, W 0 m (upd H1 D (.lst []))) ∧ ∀ i m H, W i m H → (J.stop i H ∧ Q (.ref D) H) ∨ (J.go i H ∧ ∃ Nx : Hp → Prop, (∀ H', Nx H' → ∃ m', m' < m ∧ W (i + 1) m' H') ∧ ∀ x H', J.yld i H x H' → g x (L2.wipe σ own) H' fun σ2 H2 => L2.wipe σ2 own = L2.wipe σ own ∧ tt σ2 H2 fun b H3 =>
      if b = true then te σ2 H3 fun y H4 => ∃ acc, H4 D = some (.lst acc) ∧ acc.length < sizeLine ∧ Nx (upd H4 D (.lst (acc ++ [y]))) else Nx H3) := by
  have lenP : ∀ {l : List PyData} {m : List PyData}, Paired R l m → m.length = l.length := fun h => h.length.symm
  refine lc_it wk (fun i H => ∃ B' acc ys, Tr d B1 H1 B' H ∧ Ok d B' H ∧ Mu d H1 B' H D (.lst acc) ∧ DpAll K B' acc ys ∧ Paired R ((xs.take i).filter p) ys) ⟨B1, [], [], .lay0 hD, ok.lay0 hD, Mu.make ok ok .refl hD, .nil, .nil⟩ (fun i H _ ⟨B', _, _, t, o, _⟩ => hG B' H t.kb o.kh) ?_ ?_
  · rintro i w H H' hi ⟨B', acc, ys, t, o, m, ha, hp⟩ ⟨rfl, hw⟩
    obtain ⟨x, hx, hd⟩ := hv.get hw
    obtain ⟨σ2, ds2, hg, hwp, sl2, ht, he⟩ := turn i x w B' H' hx t.kb o (hd.up t.kb)
    have et := take_snoc hx
    refine hg _ ⟨hwp, ht B' σ2 H' (Same.refl _) sl2 o _ fun b H3 t3 o3 hb => ?_⟩
    have hb' : b = p x := hb
    subst hb'
    cases hpx : p x with
    | false =>
      refine iteF ⟨B', acc, ys, t.trans t3, o3, m.on t3, ha, ?_⟩
      rw [et, List.filter_append, show [x].filter p = [] by simp [hpx], List.append_nil]
      exact hp
    | true =>
      refine iteT (he hpx B' σ2 H3 (Same.refl _) sl2 o3 _ fun y u B4 H4 t4 o4 hd4 hs4 => ?_)
      have m4 := (m.on t3).on t4
      have l1 := ha.len
      have l2 := lenP hp
      have l3 := List.length_filter_le p (xs.take i)
      have l4 : (xs.take i).length ≤ xs.length := by rw [List.length_take]; omega
      refine ⟨acc, m4.at_, Nat.lt_of_le_of_lt (show acc.length ≤ 100000 by omega) (by decide), B4, acc ++ [y], ys ++ [u], ((t.trans t3).trans t4).mut m4, o4.mut m4, m4.set, (ha.up (t3.kb.trans t4.kb)).snoc hd4, ?_⟩
      rw [et, List.filter_append, show [x].filter p = [x] by simp [hpx]]
      exact Paired.snoc' hp hs4
  · rintro H ⟨B', acc, ys, t, o, m, ha, hp⟩
    rw [hv.len, List.take_length] at hp
    exact ret D acc ys B' H t o m ha hp
end
section
variable {X : Cx} {d : Dr} {ds : List Sd} {B : Hp} {S : PyData → Prop} {iter elt : Expr} {pos px : Pos} {x : Str} {scope : Scope}
theorem pe_b {e : Expr} (s : Shared) (H : Hp) (C : Addr) (cl : List (Str × Addr)) (fp : List Addr) : PE (X.blk s H scope (compEnvC scope cl C X.env) fp) e (wB X scope e) := ⟨fun pins s1 σ H1 Q I h => (h.at_ s H C cl fp).run pins s1 I⟩
theorem pt_b {e : Expr} (s : Shared) (H : Hp) (C : Addr) (cl : List (Str × Addr)) (fp : List Addr) : PT (X.blk s H scope (compEnvC scope cl C X.env) fp) e (wTB X scope e) := ⟨fun pins s1 σ H1 Q I h => (h.at_ s H C cl fp).run pins s1 I⟩
theorem ev_b {e : Expr} (h : DB X scope d e ds B S) : Ev X.K d (wB X scope e) ds B S := fun B1 σ H e sl ok Q r => ⟨fun s H' C cl fp => h s H' C cl fp B1 σ H e sl ok Q r⟩
theorem et_b {e : Expr} {S : Bool → Prop} (h : DTB X scope d e ds B S) : EvT X.K d (wTB X scope e) ds B S := fun B1 σ H e sl ok Q r => ⟨fun s H' C cl fp => h s H' C cl fp B1 σ H e sl ok Q r⟩
theorem et_yes {K : Fg} : EvT K d tYes ds B (· = true) := fun B1 σ H e sl ok Q r => r true H .refl ok rfl
theorem wipe_set {σ : St} {j : Nat} {w : Option V} : ∀ {own : List Nat}, j ∈ own → L2.wipe ((L2.wipe σ own).set j w) own = L2.wipe σ own := by
  have at_ : ∀ (own : List Nat) (τ : St) (i : Nat), (L2.wipe τ own)[i]? = if i ∈ own ∧ i < τ.length then some none else τ[i]? := by
    intro own
    induction own with
    | nil => intro τ i; simp [L2.wipe]
    | cons v vs ih =>
      intro τ i
      show ((L2.wipe τ vs).set v none)[i]? = _
      rw [List.getElem?_set]
      by_cases e : v = i
      · subst e
        have hl : (L2.wipe τ vs).length = τ.length := wipe_length τ vs
        by_cases hv : v < τ.length
        · simp [hl, hv]
        · have h2 : τ[v]? = none := List.getElem?_eq_none (by omega)
          simp [hl, hv, h2]
      · rw [if_neg e, ih τ i]
        have e' : ¬ i = v := fun z => e z.symm
        simp [e']
  intro own hj
  apply List.ext_getElem?
  intro i
  rw [at_, at_]
  have hl : ((L2.wipe σ own).set j w).length = σ.length := by rw [List.length_set, wipe_length]
  rw [hl]
  by_cases hi : i ∈ own ∧ i < σ.length
  · rw [if_pos hi, if_pos hi]
  · rw [if_neg hi, if_neg hi]
    have hij : j ≠ i ∨ σ.length ≤ i := by
      by_cases e : j = i
      · right
        subst e
        have : ¬ j < σ.length := fun z => hi ⟨hj, z⟩
        omega
      · exact .inl e
    rcases hij with hij | hij
    · rw [List.getElem?_set_ne hij, at_, if_neg hi]
    · rw [List.getElem?_eq_none (by rw [hl]; exact hij), List.getElem?_eq_none hij]
/-- a comprehension: its value, and name = it -/
structure LO (X : Cx) (d : Dr) (e : Expr) (ds : List Sd) (B : Hp) (S : List PyData → Prop) : Prop where
  ex : ∃ te : TE, EvO X.K d te ds B S ∧ PE X e te ∧ ∀ {i : Nat} {y : Str} {py spos : Pos}, X.N[i]? = some y → X.env.scope.names.lookup y = some .local → swapsWith e (some (.Name y py)) spos.line X.env = pure true → PS X (.Assign [.Name y py] e spos) (tAsg te (gName i))
theorem lo_lc {elt tg iter : Expr} {ifs : List Expr} {scope : Scope} {own : List (Str × Nat)} {pos : Pos} {wi : TI} {g : TG} {tt : TT} {te : TE} {S : List PyData → Prop} (hc : X.calm = true) (hN : X.N.Nodup) (hi : PI X tg iter wi) (ok : BlkOk X.N X.env.scope scope own)
    (hg : ∀ (s : Shared) (H : Hp) (C : Addr) (cl : List (Str × Addr)) (fp : List Addr), PG (X.blk s H scope (compEnvC scope cl C X.env) fp) tg g) (ht : ∀ (s : Shared) (H : Hp) (C : Addr) (cl : List (Str × Addr)) (fp : List Addr), PTs (X.blk s H scope (compEnvC scope cl C X.env) fp) ifs tt)
    (he : ∀ (s : Shared) (H : Hp) (C : Addr) (cl : List (Str × Addr)) (fp : List Addr), PE (X.blk s H scope (compEnvC scope cl C X.env) fp) elt te) (hs : ∀ x, foldedSetIterable iter X.env x = pure x) (q : EvO X.K d (tLc wi g tt te (own.map (·.2))) ds B S) : LO X d (.ListComp elt [⟨tg, iter, ifs, 0⟩] scope pos) ds B S :=
  ⟨_, q, pe_lc hc hN hi ok hg ht he hs, fun hy hl hsw => ps_setLc hc hN hy hl hsw hi ok hg ht he hs⟩
theorem LO.o {e : Expr} {S : List PyData → Prop} (h : LO X d e ds B S) : DO X d e ds B S := by
  obtain ⟨te, q, pe, _⟩ := h.ex
  exact do_of pe q
theorem deL {e : Expr} {S : List PyData → Prop} (h : LO X d e ds B S) : DE X d e ds B (fun t => ∃ ys, t = .list ys ∧ S ys) := deO h.o
/-- [elt for x in iter if c] over a list or a tuple, its target a name -/
theorem dLcI {t : PyData} {xs : List PyData} {own : List (Str × Nat)} {R : PyData → PyData → Prop} {c : Expr} {q : PyData → Bool} (j : Nat) (hc : X.calm = true) (nd : X.N.Nodup) (ok : BlkOk X.N X.env.scope scope own) (it : DE X d iter ds B (· = t)) (hx : seqOf t = some xs) (hl : xs.length ≤ 100000) (hj : j ∈ own.map (·.2))
    (hg : ∀ (s : Shared) (H : Hp) (C : Addr) (cl : List (Str × Addr)) (fp : List Addr), PG (X.blk s H scope (compEnvC scope cl C X.env) fp) (.Name x px) (gName j))
    (hT : ∀ (y : PyData) (B1 : Hp), y ∈ xs → Same B B1 → DTB X scope d c ((wipeD ds (own.map (·.2))).set j (.dat y)) B1 (· = q y)) (hE : ∀ (y : PyData) (B1 : Hp), y ∈ xs → q y = true → Same B B1 → DB X scope d elt ((wipeD ds (own.map (·.2))).set j (.dat y)) B1 (R y))
    (hs : ∀ x, foldedSetIterable iter X.env x = pure x := by intro _; rfl) : LO X d (.ListComp elt [⟨.Name x px, iter, [c], 0⟩] scope pos) ds B (fun ys => Paired R (xs.filter q) ys) := by
  cases t with
  | list zs =>
    cases hx
    refine lo_lc hc nd (pi_list pe_w) ok hg (fun s H C cl fp => pts_one (pt_b s H C cl fp)) pe_b hs fun B1 σ H e sl ok1 Q r => it B1 σ H e sl ok1 _ fun w t B2 H2 tr2 ok2 hd2 e2 => ?_
    cases e2
    obtain ⟨a, vs, rfl, hq, hv⟩ := hd2.lst_inv
    refine ⟨a, rfl, ⟨vs, ok2.kh.seq hq⟩, fun D hD => lc_data (R := R) (p := q) (walk_list (xs := vs)) hv hl (fun B' H' e1 e2 => (e1.trans e2).seq hq) ok2 hD (fun i y w B' H' hi e3 ok3 hd3 => ?_) (r.after tr2)⟩
    exact ⟨_, _, fun Q h => h, wipe_set hj, ((sl.up (tr2.kb.trans e3)).wipe _).put j (x := .dat y) ⟨w, rfl, hd3⟩, et_b (hT y B' (List.mem_of_getElem? hi) ((e.trans tr2.kb).trans e3)), fun hqy => ev_b (hE y B' (List.mem_of_getElem? hi) hqy ((e.trans tr2.kb).trans e3))⟩
  | tuple zs =>
    cases hx
    refine lo_lc hc nd (pi_tup pe_w) ok hg (fun s H C cl fp => pts_one (pt_b s H C cl fp)) pe_b hs fun B1 σ H e sl ok1 Q r => it B1 σ H e sl ok1 _ fun w t B2 H2 tr2 ok2 hd2 e2 => ?_
    cases e2
    obtain ⟨a, vs, rfl, hq, hv⟩ := hd2.tup_inv
    refine ⟨a, rfl, ⟨vs, sqT_mono ok2.kh hq⟩, fun D hD => lc_data (R := R) (p := q) (walk_tup (xs := vs)) hv hl (fun B' H' e1 e2 => sqT_mono (e1.trans e2) hq) ok2 hD (fun i y w B' H' hi e3 ok3 hd3 => ?_) (r.after tr2)⟩
    exact ⟨_, _, fun Q h => h, wipe_set hj, ((sl.up (tr2.kb.trans e3)).wipe _).put j (x := .dat y) ⟨w, rfl, hd3⟩, et_b (hT y B' (List.mem_of_getElem? hi) ((e.trans tr2.kb).trans e3)), fun hqy => ev_b (hE y B' (List.mem_of_getElem? hi) hqy ((e.trans tr2.kb).trans e3))⟩
  | _ => cases hx
/-- [elt for g in iter] over a list or a tuple; the target's slots by hand -/
theorem dLcG {t : PyData} {xs : List PyData} {own : List (Str × Nat)} {R : PyData → PyData → Prop} {tg : Expr} {g : TG} (hc : X.calm = true) (nd : X.N.Nodup) (ok : BlkOk X.N X.env.scope scope own) (it : DE X d iter ds B (· = t)) (hx : seqOf t = some xs) (hl : xs.length ≤ 100000)
    (hg : ∀ (s : Shared) (H : Hp) (C : Addr) (cl : List (Str × Addr)) (fp : List Addr), PG (X.blk s H scope (compEnvC scope cl C X.env) fp) tg g)
    (hE : ∀ (y : PyData) (w : V) (B1 H1 : Hp) (σ : St), y ∈ xs → Same B B1 → Same B1 H1 → Dp X.K B1 w y → Sl X.K B1 (L2.wipe σ (own.map (·.2))) (wipeD ds (own.map (·.2))) → ∃ σ2 ds2, (∀ Q, Q σ2 H1 → g w (L2.wipe σ (own.map (·.2))) H1 Q) ∧ L2.wipe σ2 (own.map (·.2)) = L2.wipe σ (own.map (·.2)) ∧ Sl X.K B1 σ2 ds2 ∧ DB X scope d elt ds2 B1 (R y))
    (hs : ∀ x, foldedSetIterable iter X.env x = pure x := by intro _; rfl) : LO X d (.ListComp elt [⟨tg, iter, [], 0⟩] scope pos) ds B (fun ys => Paired R xs ys) := by
  have fl : ∀ l : List PyData, l.filter (fun _ => true) = l := fun l => List.filter_eq_self.mpr fun _ _ => rfl
  cases t with
  | list zs =>
    cases hx
    refine lo_lc hc nd (pi_list pe_w) ok hg (fun s H C cl fp => pts_nil) pe_b hs fun B1 σ H e sl ok1 Q r => it B1 σ H e sl ok1 _ fun w t B2 H2 tr2 ok2 hd2 e2 => ?_
    cases e2
    obtain ⟨a, vs, rfl, hq, hv⟩ := hd2.lst_inv
    refine ⟨a, rfl, ⟨vs, ok2.kh.seq hq⟩, fun D hD => lc_data (R := R) (p := fun _ => true) (walk_list (xs := vs)) hv hl (fun B' H' e1 e2 => (e1.trans e2).seq hq) ok2 hD (fun i y w B' H' hi e3 ok3 hd3 => ?_) (by rw [fl]; exact r.after tr2)⟩
    obtain ⟨σ2, ds2, h1, h2, h3, h4⟩ := hE y w B' H' σ (List.mem_of_getElem? hi) ((e.trans tr2.kb).trans e3) ok3.kh hd3 ((sl.up (tr2.kb.trans e3)).wipe _)
    exact ⟨σ2, ds2, h1, h2, h3, et_yes, fun _ => ev_b h4⟩
  | tuple zs =>
    cases hx
    refine lo_lc hc nd (pi_tup pe_w) ok hg (fun s H C cl fp => pts_nil) pe_b hs fun B1 σ H e sl ok1 Q r => it B1 σ H e sl ok1 _ fun w t B2 H2 tr2 ok2 hd2 e2 => ?_
    cases e2
    obtain ⟨a, vs, rfl, hq, hv⟩ := hd2.tup_inv
    refine ⟨a, rfl, ⟨vs, sqT_mono ok2.kh hq⟩, fun D hD => lc_data (R := R) (p := fun _ => true) (walk_tup (xs := vs)) hv hl (fun B' H' e1 e2 => sqT_mono (e1.trans e2) hq) ok2 hD (fun i y w B' H' hi e3 ok3 hd3 => ?_) (by rw [fl]; exact r.after tr2)⟩
    obtain ⟨σ2, ds2, h1, h2, h3, h4⟩ := hE y w B' H' σ (List.mem_of_getElem? hi) ((e.trans tr2.kb).trans e3) ok3.kh hd3 ((sl.up (tr2.kb.trans e3)).wipe _)
    exact ⟨σ2, ds2, h1, h2, h3, et_yes, fun _ => ev_b h4⟩
  | _ => cases hx
/-- .. its target a name -/
theorem dLc {t : PyData} {xs : List PyData} {own : List (Str × Nat)} {R : PyData → PyData → Prop} (j : Nat) (hc : X.calm = true) (nd : X.N.Nodup) (ok : BlkOk X.N X.env.scope scope own) (it : DE X d iter ds B (· = t)) (hx : seqOf t = some xs) (hl : xs.length ≤ 100000) (hj : j ∈ own.map (·.2))
    (hg : ∀ (s : Shared) (H : Hp) (C : Addr) (cl : List (Str × Addr)) (fp : List Addr), PG (X.blk s H scope (compEnvC scope cl C X.env) fp) (.Name x px) (gName j))
    (hE : ∀ (y : PyData) (B1 : Hp), y ∈ xs → Same B B1 → DB X scope d elt ((wipeD ds (own.map (·.2))).set j (.dat y)) B1 (R y))
    (hs : ∀ x, foldedSetIterable iter X.env x = pure x := by intro _; rfl) : LO X d (.ListComp elt [⟨.Name x px, iter, [], 0⟩] scope pos) ds B (fun ys => Paired R xs ys) :=
  dLcG hc nd ok it hx hl hg (fun y w B1 H1 σ hy e e2 hd sl => ⟨_, _, fun Q h => h, wipe_set hj, sl.put j (x := .dat y) ⟨w, rfl, hd⟩, hE y B1 hy e⟩) hs
theorem paired_map {f : PyData → PyData} : ∀ {xs ys : List PyData}, Paired (fun x y => y = f x) xs ys → ys = xs.map f
  | [], _, .nil => rfl
  | x :: xs, _, .cons h t => by rw [h, paired_map t]; rfl
/-- the ints lo, lo + 1, .. -/
def rgD (lo : Int) (n : Nat) : List PyData := (List.range n).map fun i => .int (lo + (i : Nat))
theorem rgD_dp {K : Fg} {B : Hp} {lo : Int} {n : Nat} : DpAll K B ((List.range n).map fun i => V.int (lo + (i : Nat))) (rgD lo n) := by
  unfold rgD
  induction List.range n with
  | nil => exact .nil
  | cons a l ih => exact .cons (.int _) ih
theorem rgD_mem {lo : Int} {n : Nat} {y : PyData} (h : y ∈ rgD lo n) : ∃ i : Nat, i < n ∧ y = .int (lo + (i : Nat)) := by
  obtain ⟨i, hi, e⟩ := List.mem_map.mp h
  exact ⟨i, List.mem_range.mp hi, e.symm⟩
theorem rgD_len {lo : Int} {n : Nat} : (rgD lo n).length = n := by unfold rgD; rw [List.length_map, List.length_range]
theorem walk_rg {lo : Int} {n : Nat} : Walk (Itr lo n) ((List.range n).map fun i => V.int (lo + (i : Nat))).length (fun _ => True) (YAt ((List.range n).map fun i => V.int (lo + (i : Nat)))) := by
  have e : ((List.range n).map fun i => V.int (lo + (i : Nat))).length = n := by rw [List.length_map, List.length_range]
  rw [e]
  refine (walk_range (lo := lo) (n := n)).mono (fun _ h => h) fun i H x H' hi _ y => ⟨y.1, ?_⟩
  rw [List.getElem?_map, List.getElem?_range hi, y.2]
  rfl
/-- [elt for x in range(lo, hi)], [elt for x in range(hi)] -/
theorem dLcR2 {lo hi : Int} {own : List (Str × Nat)} {R : PyData → PyData → Prop} {e1 e2 : Expr} {pr pp : Pos} (j : Nat) (hc : X.calm = true) (nd : X.N.Nodup) (hr : X.mg "range" = none) (h1 : DE X d e1 ds B (· = .int lo)) (h2 : DE X d e2 ds B (· = .int hi)) (hb : 0 ≤ lo ∧ lo ≤ 100000 ∧ -100000 ≤ hi ∧ hi ≤ 100000) (ok : BlkOk X.N X.env.scope scope own) (hj : j ∈ own.map (·.2))
    (hg : ∀ (s : Shared) (H : Hp) (C : Addr) (cl : List (Str × Addr)) (fp : List Addr), PG (X.blk s H scope (compEnvC scope cl C X.env) fp) (.Name x px) (gName j))
    (hE : ∀ (i : Nat) (B1 : Hp), i < (hi - lo).toNat → Same B B1 → DB X scope d elt ((wipeD ds (own.map (·.2))).set j (.dat (.int (lo + (i : Nat))))) B1 (R (.int (lo + (i : Nat)))))
    (hgr : Gl X "range" := by rfl) (hst : starEach [e1, e2] X.env = (false, eval e1 X.env) :: starEach [e2] X.env := by rfl) (hst2 : starEach [e2] X.env = (false, eval e2 X.env) :: starEach [] X.env := by rfl) (hs : ∀ x, foldedSetIterable (.Call (.Name "range" pr) [e1, e2] [] pp) X.env x = pure x := by intro _; rfl) :
    LO X d (.ListComp elt [⟨.Name x px, .Call (.Name "range" pr) [e1, e2] [] pp, [], 0⟩] scope pos) ds B (fun ys => Paired R (rgD lo (hi - lo).toNat) ys) := by
  have fl : ∀ l : List PyData, l.filter (fun _ => true) = l := fun l => List.filter_eq_self.mpr fun _ _ => rfl
  refine lo_lc hc nd (pi_range2 hgr hr (pa_cons pe_w (pa_cons pe_w pa_nil hst2) hst) (by rw [hst, hst2] <;> rfl) (by rw [hst2] <;> rfl)) ok hg (fun s H C cl fp => pts_nil) pe_b hs fun B1 σ H e sl ok1 Q r => h1 B1 σ H e sl ok1 _ fun w t B2 H2 tr2 ok2 hd2 q2 => h2 B2 σ H2 (e.trans tr2.kb) (sl.up tr2.kb) ok2 _ fun w3 t3 B3 H3 tr3 ok3 hd3 q3 => ?_
  cases q2
  cases q3
  refine ⟨lo, hi, by rw [hd2.int_inv, hd3.int_inv], by omega, fun D hD => lc_data (R := R) (p := fun _ => true) walk_rg rgD_dp (by rw [rgD_len]; omega) (fun _ _ _ _ => trivial) ok3 hD (fun i y w B' H' hi e4 ok4 hd4 => ?_) (by rw [fl]; exact (r.after tr2).after tr3)⟩
  obtain ⟨i', hi', rfl⟩ := rgD_mem (List.mem_of_getElem? hi)
  exact ⟨_, _, fun Q h => h, wipe_set hj, ((sl.up ((tr2.kb.trans tr3.kb).trans e4)).wipe _).put j (x := .dat (.int (lo + (i' : Nat)))) ⟨w, rfl, hd4⟩, et_yes, fun _ => ev_b (hE i' B' hi' (((e.trans tr2.kb).trans tr3.kb).trans e4))⟩
theorem dLcR {hi : Int} {own : List (Str × Nat)} {R : PyData → PyData → Prop} {e1 : Expr} {pr pp : Pos} (j : Nat) (hc : X.calm = true) (nd : X.N.Nodup) (hr : X.mg "range" = none) (h1 : DE X d e1 ds B (· = .int hi)) (hb : -100000 ≤ hi ∧ hi ≤ 100000) (ok : BlkOk X.N X.env.scope scope own) (hj : j ∈ own.map (·.2))
    (hg : ∀ (s : Shared) (H : Hp) (C : Addr) (cl : List (Str × Addr)) (fp : List Addr), PG (X.blk s H scope (compEnvC scope cl C X.env) fp) (.Name x px) (gName j))
    (hE : ∀ (i : Nat) (B1 : Hp), i < hi.toNat → Same B B1 → DB X scope d elt ((wipeD ds (own.map (·.2))).set j (.dat (.int (i : Nat)))) B1 (R (.int (i : Nat))))
    (hgr : Gl X "range" := by rfl) (hst : starEach [e1] X.env = (false, eval e1 X.env) :: starEach [] X.env := by rfl) (hs : ∀ x, foldedSetIterable (.Call (.Name "range" pr) [e1] [] pp) X.env x = pure x := by intro _; rfl) :
    LO X d (.ListComp elt [⟨.Name x px, .Call (.Name "range" pr) [e1] [] pp, [], 0⟩] scope pos) ds B (fun ys => Paired R (rgD 0 hi.toNat) ys) := by
  have fl : ∀ l : List PyData, l.filter (fun _ => true) = l := fun l => List.filter_eq_self.mpr fun _ _ => rfl
  refine lo_lc hc nd (pi_range1 hgr hr (pa_cons pe_w pa_nil hst) hst) ok hg (fun s H C cl fp => pts_nil) pe_b hs fun B1 σ H e sl ok1 Q r => h1 B1 σ H e sl ok1 _ fun w t B2 H2 tr2 ok2 hd2 q2 => ?_
  cases q2
  refine ⟨hi, by rw [hd2.int_inv], by omega, by omega, fun D hD => lc_data (R := R) (p := fun _ => true) walk_rg rgD_dp (by rw [rgD_len]; omega) (fun _ _ _ _ => trivial) ok2 hD (fun i y w B' H' hi e4 ok4 hd4 => ?_) (by rw [fl]; exact r.after tr2)⟩
  obtain ⟨i', hi', rfl⟩ := rgD_mem (List.mem_of_getElem? hi)
  rw [Int.zero_add] at hd4 ⊢
  exact ⟨_, _, fun Q h => h, wipe_set hj, ((sl.up (tr2.kb.trans e4)).wipe _).put j (x := .dat (.int (i' : Nat))) ⟨w, rfl, hd4⟩, et_yes, fun _ => ev_b (hE i' B' hi' ((e.trans tr2.kb).trans e4))⟩
end
end K20
set_option maxHeartbeats 2000000
/-! Order: sorted, <= of nested data. -/
namespace K20
open PySem PySem.Spec L2
open PyProof.Rows hiding St
open PySem.W (EachIs dataLt dataLe alike alikeAll AllAlike Sortable)
section
variable {X : Cx} {d : Dr}
theorem zip_each {B : Hp} {s : Shared} {pins : List (Addr × Obj)} {σ : St} {H : Hp} {X : Cx} (I : Inv X pins σ H s) (hBH : Same B H) : ∀ {vs : List V} {ds : List PyData} {us : List Value}, DpAll X.K B vs ds → Vals vs us → EachIs (fun (u : Value) (b : V × PyData) => RelV b.1 u ∧ Dp X.K B b.1 b.2) us (vs.zip ds) ∧ EachIs (fun (u : Value) (b : V × PyData) => ∃ as, Reads s.heap u b.2 as) us (vs.zip ds)
  | [], ds, us, h, r => by
    cases h
    cases r
    exact ⟨.nil, .nil⟩
  | v :: vs, ds, us, h, r => by
    cases h with
    | cons h1 h2 => cases r with
      | cons r1 r2 =>
        obtain ⟨e1, e2⟩ := zip_each I hBH h2 r2
        obtain ⟨as, ra⟩ := Dp.reads I _ _ _ (h1.up hBH) r1
        exact ⟨.cons ⟨r1, h1⟩ e1, .cons ⟨as, ra⟩ e2⟩
theorem each_back {H : Hp} {K : Fg} : ∀ {us : List Value} {bs : List (V × PyData)}, EachIs (fun (u : Value) (b : V × PyData) => RelV b.1 u ∧ Dp K H b.1 b.2) us bs → Vals (bs.map (·.1)) us ∧ DpAll K H (bs.map (·.1)) (bs.map (·.2))
  | _, _, .nil => ⟨.nil, .nil⟩
  | _, _, .cons h t => ⟨.cons h.1 (each_back t).1, .cons h.2 (each_back t).2⟩
/-- sorted(xs) of a list of alike data -/
def rSortD (K : Fg) : List V → Hp → VK → Prop := fun vs H Q => ∃ a xs ds B, vs = [.ref a] ∧ Same B H ∧ SqL K B a xs ∧ DpAll K B xs ds ∧ AllAlike ds ∧ Sortable ds ∧ (∀ x ∈ ds, x.depth ≤ 50) ∧
  ∀ ys p, DpAll K B ys (ds.mergeSort (dataLe false fun x => x)) → H p = none → Q (.ref p) (upd H p (.lst ys))
theorem cr_sortD {k : Nat} (hr : Room k X.A) : CallR X (.builtin "sorted") (rSortD X.K) := by
  intro pins s σ H vs us Q I r h
  obtain ⟨a, xs, ds, B, rfl, hBH, hs, hd, hal, hso, hdp, q⟩ := h
  obtain ⟨u, rfl, ru⟩ := Vals.one r
  cases ru
  obtain ⟨its, rv, pl, hz⟩ := I.list (hBH.seq hs)
  obtain ⟨e1, e2⟩ := zip_each I hBH hd rv
  have em : (xs.zip ds).map (·.2) = ds := by
    have hl := hd.len
    exact List.map_snd_zip (by omega)
  have hal' : AllAlike ((xs.zip ds).map fun b => b.2) := by rw [em]; exact hal
  have hso' : Sortable ((xs.zip ds).map fun b => b.2) := by rw [em]; exact hso
  have hlz : (xs.zip ds).length ≤ sizeLine := by rw [List.length_zip]; omega
  have hu : ∀ b, b ∈ xs.zip ds → X.A.units + 2 + b.2.depth < cLine := fun b hb => by
    have h1 := hdp b.2 (by rw [← em]; exact List.mem_map_of_mem hb)
    have h2 := hr.units
    omega
  refine PySem.W.sorted_data pl.isList e1 e2 hal' hso' hlz hu fun out ho eo => ?_
  obtain ⟨h1, h2⟩ := each_back eo
  obtain ⟨c, hc⟩ := PyProof.Rows.sortedAll_at s.heap its out.toArray
  have e3 : ((xs.zip ds).mergeSort (dataLe false fun b => b.2)).map (·.2) = ds.mergeSort (dataLe false fun x => x) := by
    have e4 := PySem.W.sort_maps (r := dataLe false fun b : V × PyData => b.2) (s := dataLe false fun x => x) (fun b : V × PyData => b.2) (l := xs.zip ds) (fun _ _ _ _ => rfl)
    rw [em] at e4
    exact e4
  rw [e3] at h2
  have hsz : s.heap.objs.size ≤ s.heap.objs.size + 1 := Nat.le_succ _
  have hlen : (((xs.zip ds).mergeSort (dataLe false fun b => b.2)).map (·.1)).length ≤ sizeLine := by
    rw [List.length_map, List.length_mergeSort]
    exact hlz
  exact ⟨.ref (s.heap.objs.size + 1), _, I.laid (t' := s.toks) (a := s.heap.objs.size + 1) (o := .lst (((xs.zip ds).mergeSort (dataLe false fun b => b.2)).map (·.1))) (fun _ _ => PyProof.Rows.sortedAll_old) hsz ⟨hlen, out, c, h1, hc⟩, rfl, q _ _ h2 (I.hok.fresh hsz)⟩
end
end K20
set_option maxHeartbeats 2000000
/-! Dicts of one's own. -/
namespace K20
open PySem PySem.Spec L2
open PyProof.Rows hiding St
section
variable {κ : Type} [DecidableEq κ]
theorem valV_in {kvs : List (κ × V)} {k : κ} {v : V} (h : valV kvs k = some v) : (k, v) ∈ kvs := by
  unfold valV at h
  cases e : kvs.find? fun kv => decide (kv.1 = k) with
  | none => rw [e] at h; cases h
  | some q =>
    rw [e] at h
    obtain ⟨k', v'⟩ := q
    cases h
    have h2 := List.find?_some e
    have h3 : k' = k := of_decide_eq_true h2
    subst h3
    exact List.mem_of_find?_eq_some e
theorem valV_key {kvs : List (κ × V)} {k : κ} : (valV kvs k).isSome = true ↔ k ∈ kvs.map (·.1) := by
  rw [← valV_any]
  simp only [List.any_eq_true, List.mem_map]
  constructor
  · rintro ⟨q, h1, h2⟩
    exact ⟨q, h1, of_decide_eq_true h2⟩
  · rintro ⟨q, h1, h2⟩
    exact ⟨q, h1, decide_eq_true h2⟩
theorem putK_keys (kvs : List (κ × V)) (k : κ) (v : V) : (putK kvs k v).map (·.1) = if k ∈ kvs.map (·.1) then kvs.map (·.1) else kvs.map (·.1) ++ [k] := by
  have h := valV_any k kvs
  by_cases hk : k ∈ kvs.map (·.1)
  · rw [if_pos hk]
    have h1 : (kvs.any fun kv => decide (kv.1 = k)) = true := h.trans (valV_key.mpr hk)
    unfold putK
    rw [if_pos h1, List.map_map]
    apply List.map_congr_left
    intro q _
    show (if q.1 = k then (q.1, v) else q).1 = q.1
    by_cases e : q.1 = k
    · rw [if_pos e]
    · rw [if_neg e]
  · rw [if_neg hk]
    have h0 : valV kvs k = none := by
      cases e : valV kvs k with
      | none => rfl
      | some x => exact absurd (valV_key.mp (by rw [e]; rfl)) hk
    rw [putK_new v h0, List.map_append]
    rfl
theorem mem_keys_put {kvs : List (κ × V)} {k j : κ} {v : V} : j ∈ (putK kvs k v).map (·.1) ↔ j = k ∨ j ∈ kvs.map (·.1) := by
  rw [putK_keys]
  by_cases hk : k ∈ kvs.map (·.1)
  · rw [if_pos hk]
    constructor
    · exact .inr
    · rintro (rfl | h)
      · exact hk
      · exact h
  · rw [if_neg hk, List.mem_append, List.mem_singleton]
    exact Or.comm
theorem nodup_put {kvs : List (κ × V)} {k : κ} {v : V} (h : (kvs.map (·.1)).Nodup) : ((putK kvs k v).map (·.1)).Nodup := by
  rw [putK_keys]
  by_cases hk : k ∈ kvs.map (·.1)
  · rw [if_pos hk]
    exact h
  · rw [if_neg hk, List.nodup_append]
    refine ⟨h, List.nodup_cons.mpr ⟨List.not_mem_nil, List.nodup_nil⟩, fun a ha b hb e => ?_⟩
    rw [List.mem_singleton.mp hb] at e
    exact hk (e ▸ ha)
theorem mem_put {kvs : List (κ × V)} {k : κ} {v : V} {q : κ × V} (h : q ∈ putK kvs k v) : q = (k, v) ∨ q ∈ kvs := by
  unfold putK at h
  by_cases c : (kvs.any fun kv => decide (kv.1 = k)) = true
  · rw [if_pos c] at h
    obtain ⟨q', h1, h2⟩ := List.mem_map.mp h
    by_cases e : q'.1 = k
    · rw [if_pos e] at h2
      left
      rw [← h2, e]
    · rw [if_neg e] at h2
      right
      rw [← h2]
      exact h1
  · rw [if_neg c] at h
    rcases List.mem_append.mp h with h | h
    · exact .inr h
    · exact .inl (List.mem_singleton.mp h)
end
/-- the entries of a dict, as data -/
def Ents (K : Fg) (B : Hp) {κ : Type} (kvs : List (κ × V)) (P : κ → PyData → Prop) : Prop := (kvs.map (·.1)).Nodup ∧ ∀ q ∈ kvs, ∃ t, Dp K B q.2 t ∧ P q.1 t
section
variable {K : Fg} {B B1 : Hp} {κ : Type} [DecidableEq κ] {kvs : List (κ × V)} {P P' : κ → PyData → Prop} {k : κ} {v : V} {t : PyData}
theorem Ents.nil : Ents K B ([] : List (κ × V)) P := ⟨List.nodup_nil, fun q h => nomatch h⟩
theorem Ents.up (e : Same B B1) (h : Ents K B kvs P) : Ents K B1 kvs P := ⟨h.1, fun q hq => by
  obtain ⟨t, h1, h2⟩ := h.2 q hq
  exact ⟨t, h1.up e, h2⟩⟩
theorem Ents.put (h : Ents K B kvs P) (hv : Dp K B v t) (ht : P k t) : Ents K B (putK kvs k v) P := ⟨nodup_put h.1, fun q hq => by
  rcases mem_put hq with rfl | hq
  · exact ⟨t, hv, ht⟩
  · exact h.2 q hq⟩
theorem Ents.get (h : Ents K B kvs P) (e : valV kvs k = some v) : ∃ t, Dp K B v t ∧ P k t := h.2 (k, v) (valV_in e)
theorem Ents.imp (h : Ents K B kvs P) (f : ∀ k t, P k t → P' k t) : Ents K B kvs P' := ⟨h.1, fun q hq => by
  obtain ⟨t, h1, h2⟩ := h.2 q hq
  exact ⟨t, h1, f _ _ h2⟩⟩
end
theorem Sy.look {K : Fg} {d : Dr} {ds : List Sd} {B0 H0 B H : Hp} {σ : St} {p : Addr} (y : Sy K d B0 H0 B H σ ds) {o : HO} (m : Mu d H0 B H p o) : Sy K d B0 H0 (upd B p o) H σ ds := ⟨y.tr.freeze m, y.ok.freeze m, y.sl.up (same_upd m.hid)⟩
section
variable {X : Cx} {d : Dr} {ds : List Sd} {B0 H0 B H : Hp} {σ : St} {S : PyData → Prop} {D : Ends} {e e1 e2 : Expr} {es : List Expr} {pos pa pb pc pd : Pos} {x : Str} {p : Addr} {kvs : List (Key × V)} {lks : List (List Key × V)}
/-- x = {} with keys that are ints -/
theorem sNewK (i : Nat) (y : Sy X.K d B0 H0 B H σ ds) (ok0 : Ok d B0 H0) (nd : X.N.Nodup) (k : ∀ p σ1, H p = none → Sy X.K d B0 H0 B (upd H p (.dK [])) σ1 (ds.set i (.raw (.ref p))) → Mu d H0 B (upd H p (.dK [])) p (.dK []) → D.nx σ1 (upd H p (.dK [])))
    (hi : X.N[i]? = some x := by rfl) (hx : Loc X.env.scope x := by first | exact Or.inl rfl | exact Or.inr rfl) (hs : swapsWith (.Dict [] [] pa) (some (.Name x pb)) pos.line X.env = pure false := by rfl) (hf : X.fn x = true ∨ X.env.scope.names.lookup x = some .local := by first | exact .inl rfl | exact .inr rfl) :
    wS X (.Assign [.Name x pb] (.Dict [] [] pa) pos) D σ H :=
  w_s (ps_set nd hi hx pe_dnewK hs hf) fun p hp => k p _ hp (Sy.put (x := .raw (.ref p)) ⟨y.tr.trans (.lay0 hp), y.ok.lay0 hp, y.sl⟩ i rfl) (Mu.make ok0 y.ok y.tr hp)
/-- .. that are tuples -/
theorem sNewT (i : Nat) (y : Sy X.K d B0 H0 B H σ ds) (ok0 : Ok d B0 H0) (nd : X.N.Nodup) (k : ∀ p σ1, H p = none → Sy X.K d B0 H0 B (upd H p (.dT [])) σ1 (ds.set i (.raw (.ref p))) → Mu d H0 B (upd H p (.dT [])) p (.dT []) → D.nx σ1 (upd H p (.dT [])))
    (hi : X.N[i]? = some x := by rfl) (hx : Loc X.env.scope x := by first | exact Or.inl rfl | exact Or.inr rfl) (hs : swapsWith (.Dict [] [] pa) (some (.Name x pb)) pos.line X.env = pure false := by rfl) (hf : X.fn x = true ∨ X.env.scope.names.lookup x = some .local := by first | exact .inl rfl | exact .inr rfl) :
    wS X (.Assign [.Name x pb] (.Dict [] [] pa) pos) D σ H :=
  w_s (ps_set nd hi hx pe_dnewT hs hf) fun p hp => k p _ hp (Sy.put (x := .raw (.ref p)) ⟨y.tr.trans (.lay0 hp), y.ok.lay0 hp, y.sl⟩ i rfl) (Mu.make ok0 y.ok y.tr hp)
/-- a store into one's own dict, behind the value -/
theorem Mu.back {o : HO} {B1 H1 : Hp} (ok : Ok d B H) (m : Mu d H0 B H p o) (t : Tr d (upd B p o) H B1 H1) (ok1 : Ok d B1 H1) : Tr d B H B H1 ∧ Ok d B H1 ∧ Mu d H0 B H1 p o :=
  ⟨t.unlock m.hid, Ok.unlock m.hid ok t ok1, m.on (t.unlock m.hid)⟩
/-- the knowledge at hand, without the look at one's own object -/
theorem upd_none_of {o : HO} {B1 H1 : Hp} (h : Same (upd B p o) B1) (hid : B p = none) : ∀ (a : Addr) u, B a = some u → B1 a = some u := fun a u e => h a u (by rw [upd_ne (ne_of_none e hid)]; exact e)
/-- B1 without p -/
def less (B : Hp) (p : Addr) : Hp := fun a => if a = p then none else B a
theorem less_ne {a : Addr} (h : a ≠ p) : less B p a = B a := if_neg h
theorem less_same : less B p p = none := if_pos rfl
end
section
variable {K : Fg} {d : Dr} {B B1 B2 H H1 H0 : Hp} {p : Addr} {o : HO}
theorem room1 {k : Nat} {A : Around} (r : Room k A) : A.units + 1 < cLine := by have := r.units; omega
/-- what is neither a list nor a tuple -/
def notSeq : HO → Prop
  | .lst _ => False
  | .tup _ => False
  | .frz _ (.lst _) => False
  | .frz _ (.tup _) => False
  | _ => True
theorem seq_less {a : Addr} {xs : List V} (hn : notSeq o) (hp : B p = some o) : (SqL K B a xs → SqL K (less B p) a xs) ∧ (SqT K B a xs → SqT K (less B p) a xs) := by
  have ne1 : ∀ {u : HO}, B a = some u → ¬ notSeq u → a ≠ p := fun {u} e hu z => by
    rw [z, hp] at e
    cases e
    exact hu hn
  constructor
  · rintro ((h | ⟨o', h⟩) | h)
    · exact .inl (.inl (by rw [less_ne (ne1 h id)]; exact h))
    · exact .inl (.inr ⟨o', by rw [less_ne (ne1 h id)]; exact h⟩)
    · exact .inr h
  · rintro ((h | ⟨o', h⟩) | h)
    · exact .inl (.inl (by rw [less_ne (ne1 h id)]; exact h))
    · exact .inl (.inr ⟨o', by rw [less_ne (ne1 h id)]; exact h⟩)
    · exact .inr h
mutual
theorem Dp.less (hn : notSeq o) (hp : B p = some o) : ∀ {t : PyData} {v : V}, Dp K B v t → Dp K (less B p) v t
  | .none, _, h => by cases h; exact .non
  | .bool b, _, h => by cases h; exact .bl b
  | .int i, _, h => by cases h; exact .int i
  | .str x, _, h => by cases h; exact .str x
  | .list ds, _, h => by
    cases h with
    | lst hs ha => exact .lst ((seq_less hn hp).1 hs) (DpAll.less hn hp ha)
  | .tuple ds, _, h => by
    cases h with
    | tup hs ha => exact .tup ((seq_less hn hp).2 hs) (DpAll.less hn hp ha)
  | .dict _, _, h => by cases h
theorem DpAll.less (hn : notSeq o) (hp : B p = some o) : ∀ {ts : List PyData} {vs : List V}, DpAll K B vs ts → DpAll K (less B p) vs ts
  | [], _, h => by cases h; exact .nil
  | t :: ts, _, h => by
    cases h with
    | cons h1 h2 => exact .cons (Dp.less hn hp h1) (DpAll.less hn hp h2)
end
/-- behind an expression that only looked at one's own object: it may change again -/
theorem unlook (ok : Ok d B H) (m : Mu d H0 B H p o) (t : Tr d (upd B p o) H B1 H1) (ok1 : Ok d B1 H1) : Tr d B H (less B1 p) H1 ∧ Ok d (less B1 p) H1 ∧ Mu d H0 (less B1 p) H1 p o := by
  have e0 : Same B (less B1 p) := fun a u e => by
    have n := ne_of_none e m.hid
    rw [less_ne n]
    exact t.kb a u (by rw [upd_ne n]; exact e)
  have tr : Tr d B H (less B1 p) H1 := by
    refine ⟨e0, t.old, t.dom, fun a h n => ?_⟩
    by_cases z : a = p
    · rw [z]
      exact less_same
    · rw [less_ne z]
      exact t.new a h (by rw [upd_ne z]; exact n)
  refine ⟨tr, ⟨fun a u e => ?_, fun a c e => ⟨?_, (ok1.ds a c e).2⟩⟩, m.on tr⟩
  · by_cases z : a = p
    · rw [z, less_same] at e
      cases e
    · rw [less_ne z] at e
      exact ok1.kh a u e
  · by_cases z : a = p
    · rw [z]
      exact less_same
    · rw [less_ne z]
      exact (ok1.ds a c e).1
end
section
variable {X : Cx} {d : Dr} {ds : List Sd} {B0 H0 B H : Hp} {σ : St} {S : PyData → Prop} {D : Ends} {e e1 e2 : Expr} {es : List Expr} {pos pa pb pc pd : Pos} {x : Str} {p : Addr} {kvs : List (Key × V)} {lks : List (List Key × V)}
/-- x[e1] = e -/
theorem sPutK {k0 : Int} (i : Nat) {j : Nat} (hr : Room j X.A) (y : Sy X.K d B0 H0 B H σ ds) (m : Mu d H0 B H p (.dK kvs)) (hv : DE X d e ds (upd B p (.dK kvs)) S) (hk : DE X d e1 ds (upd B p (.dK kvs)) (· = .int k0)) (hl : kvs.length < 100000)
    (k : ∀ w t B1 H1, S t → Tr d B H B1 H1 → Dp X.K B1 w t → Sy X.K d B0 H0 B1 (upd H1 p (.dK (putK kvs (.inl k0) w))) σ ds → Mu d H0 B1 (upd H1 p (.dK (putK kvs (.inl k0) w))) p (.dK (putK kvs (.inl k0) w)) → D.nx σ (upd H1 p (.dK (putK kvs (.inl k0) w))))
    (hi : ds[i]? = some (.raw (.ref p)) := by rfl) (hN : X.N[i]? = some x := by rfl) (hvi : Vis X.env.scope x := by first | exact Or.inl rfl | exact Or.inr (Or.inl rfl) | exact Or.inr (Or.inr rfl)) (hd : (x == ("__debug__" : Str)) = false := by decide)
    (hcd : (x == ("__classdict__" : Str)) = false := by decide) (hs : swapsWith e (some (.Subscript (.Name x pa) e1 pb)) pos.line X.env = pure false := by rfl) : wS X (.Assign [.Subscript (.Name x pa) e1 pb] e pos) D σ H := by
  have ynew := y.look m
  refine w_s (ps_dput (room1 hr) (pe_var hN hvi hd hcd) pe_w pe_w hs) (hv (upd B p (.dK kvs)) σ H (Same.refl _) ynew.sl ynew.ok _ fun w t B1 H1 tr ok hd1 hs1 => ?_)
  refine ⟨.ref p, ynew.sl.raw hi, hk B1 σ H1 tr.kb (ynew.sl.up tr.kb) ok _ fun w2 t2 B2 H2 tr2 ok2 hd2 hs2 => ?_⟩
  have e2 : t2 = .int k0 := hs2
  subst e2
  obtain rfl := hd2.int_inv
  have tr3 := tr.trans tr2
  have hp2 : B2 p = some (.dK kvs) := tr3.kb p _ upd_same
  obtain ⟨t4, ok4, m4⟩ := unlook y.ok m tr3 ok2
  have y4 := y.on t4 ok4
  refine ⟨p, _, rfl, DPut.k (k := .inl k0) m4.at_ (Nat.lt_of_lt_of_le hl (by decide)), ?_⟩
  exact k w t _ H2 hs1 t4 (Dp.less (o := .dK kvs) trivial hp2 (hd1.up tr2.kb)) (y4.mut m4) m4.set
/-- x[e1] for a dict that is known -/
theorem dGetK {k0 : Int} {w : V} {t : PyData} (i : Nat) {j : Nat} (hr : Room j X.A) (hB : Rd B p (.dK kvs)) (hk : DE X d e1 ds B (· = .int k0)) (hw : valV kvs (.inl k0) = some w) (ht : Dp X.K B w t)
    (hi : ds[i]? = some (.raw (.ref p)) := by rfl) (hN : X.N[i]? = some x := by rfl) (hvi : Vis X.env.scope x := by first | exact Or.inl rfl | exact Or.inr (Or.inl rfl) | exact Or.inr (Or.inr rfl)) (hd : (x == ("__debug__" : Str)) = false := by decide)
    (hcd : (x == ("__classdict__" : Str)) = false := by decide) (hs : NoSl e1 := by exact fun _ _ => rfl) : DE X d (.Subscript (.Name x pa) e1 pb) ds B (· = t) :=
  de_of (pe_dget (room1 hr) (pe_var hN hvi hd hcd) pe_w hs) fun B1 σ H e sl ok Q r => ⟨.ref p, sl.raw hi, hk B1 σ H e sl ok _ fun w2 t2 B2 H2 tr2 ok2 hd2 hs2 => by
    have e2 : t2 = .int k0 := hs2
    subst e2
    obtain rfl := hd2.int_inv
    have hb : Rd H2 p (.dK kvs) := by
      rcases hB with h | ⟨o, h⟩
      · exact .inl (ok2.kh _ _ (tr2.kb _ _ (e _ _ h)))
      · exact .inr ⟨o, ok2.kh _ _ (tr2.kb _ _ (e _ _ h))⟩
    exact ⟨p, w, rfl, .inl ⟨kvs, .inl k0, hb, rfl, hw.symm⟩, r w t B2 H2 tr2 ok2 (ht.up (e.trans tr2.kb)) rfl⟩⟩
/-- e1 in x -/
theorem tInK {k0 : Int} (i : Nat) {j : Nat} (hr : Room j X.A) (hB : Rd B p (.dK kvs)) (hk : DE X d e1 ds B (· = .int k0)) (hi : ds[i]? = some (.raw (.ref p)) := by rfl) (hN : X.N[i]? = some x := by rfl) (hvi : Vis X.env.scope x := by first | exact Or.inl rfl | exact Or.inr (Or.inl rfl) | exact Or.inr (Or.inr rfl))
    (hd : (x == ("__debug__" : Str)) = false := by decide) (hcd : (x == ("__classdict__" : Str)) = false := by decide) (hm : behindInMarks .In (.Name x pa) = false := by rfl) : DT X d (.Compare e1 [.In] [.Name x pa] pb) ds B (· = (valV kvs (.inl k0)).isSome) :=
  dt_of (pt_cmp (pc_din (room1 hr) pe_w (pe_var hN hvi hd hcd)) hm) fun B1 σ H e sl ok Q r => hk B1 σ H e sl ok _ fun w2 t2 B2 H2 tr2 ok2 hd2 hs2 => by
    have e2 : t2 = .int k0 := hs2
    subst e2
    obtain rfl := hd2.int_inv
    have hb : Rd H2 p (.dK kvs) := by
      rcases hB with h | ⟨o, h⟩
      · exact .inl (ok2.kh _ _ (tr2.kb _ _ (e _ _ h)))
      · exact .inr ⟨o, ok2.kh _ _ (tr2.kb _ _ (e _ _ h))⟩
    exact ⟨.ref p, sl.raw hi, p, valV kvs (.inl k0), rfl, .inl ⟨kvs, .inl k0, hb, rfl, rfl⟩, _, rfl, r _ H2 tr2.back (ok.back tr2 ok2) rfl⟩
/-- sorted(x) of a dict whose keys are ints -/
theorem dSortDI {ks : List Int} (i : Nat) (hc : X.calm = true) (hm : X.mg "sorted" = none) (hB : Rd B p (.dK kvs)) (hks : kvs.map (·.1) = ks.map Sum.inl) (h64 : ks.length < 64) (k : ∀ ys : List Int, ys.Perm ks → ys.Pairwise (· ≤ ·) → S (.list (ys.map .int)))
    (hi : ds[i]? = some (.raw (.ref p)) := by rfl) (hN : X.N[i]? = some x := by rfl) (hvi : Vis X.env.scope x := by first | exact Or.inl rfl | exact Or.inr (Or.inl rfl) | exact Or.inr (Or.inr rfl)) (hd : (x == ("__debug__" : Str)) = false := by decide) (hcd : (x == ("__classdict__" : Str)) = false := by decide)
    (hg : Gl X "sorted" := by rfl) (he : starEach [.Name x pa] X.env = (false, eval (.Name x pa) X.env) :: starEach [] X.env := by rfl) (hpl : (backTo pos (starEach [] X.env)).any (·.1) = false := by rfl) : DE X d (.Call (.Name "sorted" pb) [.Name x pa] [] pos) ds B S :=
  de_of (pe_callB (call_sortedDI hc) hg hm (by decide +kernel) (pa_cons (pe_var hN hvi hd hcd) pa_nil he) (by decide) (by decide) he hpl) fun B1 σ H e sl ok Q r => ⟨.ref p, sl.raw hi, by
    have hb : Rd H p (.dK kvs) := by
      rcases hB with h | ⟨o, h⟩
      · exact .inl (ok.kh _ _ (e _ _ h))
      · exact .inr ⟨o, ok.kh _ _ (e _ _ h)⟩
    refine ⟨p, kvs, ks, rfl, hb, hks, h64, fun ys q h1 h2 hq => ?_⟩
    have dp : ∀ {Bz : Hp} (l : List Int), DpAll X.K Bz (l.map V.int) (l.map PyData.int) := fun {Bz} l => by
      induction l with
      | nil => exact .nil
      | cons a l ih => exact .cons (.int a) ih
    exact r _ _ _ _ (Tr.lay ok hq) (ok.lay hq) (.lst (SqL.of upd_same) (dp ys)) (k ys h1 h2)⟩
end
end K20
set_option maxHeartbeats 2000000
/-! Dicts with pairs as keys, dicts that are walked, plain comprehensions. -/
namespace K20
open PySem PySem.Spec L2
open PyProof.Rows hiding St
section
variable {K : Fg} {d : Dr} {B0 B B1 B2 H H1 H0 : Hp} {p : Addr} {o u f : HO}
/-- one's own object, held still -/
theorem Ok.hold (ok : Ok d B H) (m : Mu d H0 B H p o) : Ok d (upd B p f) (upd H p f) := by
  refine ⟨fun a v h => ?_, fun a c e => ?_⟩
  · by_cases z : a = p
    · rw [z, upd_same] at h
      rw [z, upd_same]
      exact h
    · rw [upd_ne z] at h
      rw [upd_ne z]
      exact ok.kh _ _ h
  · obtain ⟨n, xs, q, g, mm, kk, h1, h2, h3, h4⟩ := ok.ds a c e
    obtain ⟨n1, n2⟩ := m.nd a c e
    refine ⟨by rw [upd_ne (Ne.symm n1)]; exact n, xs, q, g, mm, kk, ?_, h2, ?_, h4⟩
    · rw [upd_ne (Ne.symm n1)]; exact h1
    · rw [upd_ne (Ne.symm n2)]; exact h3
/-- .. and let go -/
theorem unhold (ok : Ok d B H) (m : Mu d H0 B H p o) (t : Tr d (upd B p f) (upd H p f) B1 H1) (ok1 : Ok d B1 H1) : H1 p = some f ∧ Tr d B H (less B1 p) (upd H1 p o) ∧ Ok d (less B1 p) (upd H1 p o) := by
  have hp : H1 p = some f := t.old p f upd_same fun c e => (m.nd p c e).1 rfl
  refine ⟨hp, ⟨fun a v e => ?_, fun a v e n => ?_, fun a e => ?_, fun a h n => ?_⟩, ⟨fun a v e => ?_, fun a c e => ?_⟩⟩
  · have ne := ne_of_none e m.hid
    rw [less_ne ne]
    exact t.kb a v (by rw [upd_ne ne]; exact e)
  · by_cases z : a = p
    · rw [z] at e ⊢
      rw [upd_same, ← e, m.at_]
    · rw [upd_ne z]
      exact t.old a v (by rw [upd_ne z]; exact e) n
  · by_cases z : a = p
    · rw [z, upd_same] at e
      cases e
    · rw [upd_ne z] at e
      have q := t.dom a e
      rw [upd_ne z] at q
      exact q
  · by_cases z : a = p
    · rw [z]
      exact less_same
    · rw [less_ne z]
      exact t.new a (by rw [upd_ne z]; exact h) (by rw [upd_ne z]; exact n)
  · by_cases z : a = p
    · rw [z, less_same] at e
      cases e
    · rw [less_ne z] at e
      rw [upd_ne z]
      exact ok1.kh a v e
  · obtain ⟨n, xs, q, g, mm, kk, h1, h2, h3, h4⟩ := ok1.ds a c e
    obtain ⟨n1, n2⟩ := m.nd a c e
    refine ⟨by rw [less_ne (Ne.symm n1)]; exact n, xs, q, g, mm, kk, ?_, h2, ?_, h4⟩
    · rw [upd_ne (Ne.symm n1)]; exact h1
    · rw [upd_ne (Ne.symm n2)]; exact h3
end
section
variable {X : Cx} {d : Dr} {ds : List Sd} {B0 H0 B H : Hp} {σ : St} {S Sa : PyData → Prop} {D : Ends} {e e1 e2 : Expr} {es : List Expr} {pos pa pb pc pd pt : Pos} {x : Str} {p : Addr} {kvs : List (Key × V)} {lks : List (List Key × V)}
/-- return e, while a dict of one's own is walked -/
theorem sRetLock {u : HO} (y : Sy X.K d B0 H0 B H σ ds) (m : Mu d H0 B H p u) (mu : L2.Mut (some u)) (hn : ∀ od : Obj, notSeq (.frz od u)) (h : ∀ od : Obj, DE X d e ds (upd B p (.frz od u)) S) (k : Ret X.K d B0 H0 S D.rt) : wS X (.Return (some e) pos) D σ H := by
  refine w_s (ps_lock (ps_ret pe_w)) ⟨p, u, m.at_, mu, fun od => ?_⟩
  refine h od _ σ _ (Same.refl _) (y.sl.up (same_upd m.hid)) (y.ok.hold m) _ fun v t B' H' tr ok' hd hs => ?_
  obtain ⟨e1, t1, o1⟩ := unhold y.ok m tr ok'
  exact ⟨e1, k v t _ _ (y.tr.trans t1) o1 (Dp.less (hn od) (tr.kb p _ upd_same) hd) hs⟩
/-- x[e1, e2] = e -/
theorem sPutT {i0 j0 : Int} {kt : Nat} (i : Nat) {j : Nat} (hr : Room j X.A) (y : Sy X.K d B0 H0 B H σ ds) (m : Mu d H0 B H p (.dT lks)) (hv : DE X d e ds (upd B p (.dT lks)) S) (h1 : DE X d e1 ds (upd B p (.dT lks)) (· = .int i0)) (h2 : DE X d e2 ds (upd B p (.dT lks)) (· = .int j0)) (hl : lks.length < 100000)
    (k : ∀ w t B1 H1, S t → Tr d B H B1 H1 → Dp X.K B1 w t → Sy X.K d B0 H0 B1 (upd H1 p (.dT (putK lks [.inl i0, .inl j0] w))) σ ds → Mu d H0 B1 (upd H1 p (.dT (putK lks [.inl i0, .inl j0] w))) p (.dT (putK lks [.inl i0, .inl j0] w)) → D.nx σ (upd H1 p (.dT (putK lks [.inl i0, .inl j0] w))))
    (hi : ds[i]? = some (.raw (.ref p)) := by rfl) (hN : X.N[i]? = some x := by rfl) (hvi : Vis X.env.scope x := by first | exact Or.inl rfl | exact Or.inr (Or.inl rfl) | exact Or.inr (Or.inr rfl)) (hd : (x == ("__debug__" : Str)) = false := by decide)
    (hcd : (x == ("__classdict__" : Str)) = false := by decide) (hs : swapsWith e (some (.Subscript (.Name x pa) (.Tuple [e1, e2] kt pt) pb)) pos.line X.env = pure false := by rfl)
    (hst : starEach [e1, e2] X.env = (false, eval e1 X.env) :: starEach [e2] X.env := by rfl) (hst2 : starEach [e2] X.env = (false, eval e2 X.env) :: starEach [] X.env := by rfl) : wS X (.Assign [.Subscript (.Name x pa) (.Tuple [e1, e2] kt pt) pb] e pos) D σ H := by
  have ynew := y.look m
  refine w_s (ps_dput (room1 hr) (pe_var hN hvi hd hcd) (pe_tup (pa_cons pe_w (pa_cons pe_w pa_nil hst2) hst)) pe_w hs) (hv (upd B p (.dT lks)) σ H (Same.refl _) ynew.sl ynew.ok _ fun w t B1 H1 tr ok hd1 hs1 => ?_)
  refine ⟨.ref p, ynew.sl.raw hi, h1 B1 σ H1 tr.kb (ynew.sl.up tr.kb) ok _ fun w2 t2 B2 H2 tr2 ok2 hd2 hs2 => h2 B2 σ H2 (tr.kb.trans tr2.kb) (ynew.sl.up (tr.kb.trans tr2.kb)) ok2 _ fun w3 t3 B3 H3 tr3 ok3 hd3 hs3 => ⟨show 2 ≤ sizeLine by decide, fun q hq => ?_⟩⟩
  have ee2 : t2 = .int i0 := hs2
  have ee3 : t3 = .int j0 := hs3
  subst ee2 ee3
  obtain rfl := hd2.int_inv
  obtain rfl := hd3.int_inv
  have tr4 := (tr.trans tr2).trans tr3
  have hp3 : B3 p = some (.dT lks) := tr4.kb p _ upd_same
  have trq : Tr d B3 H3 B3 (upd H3 q (.tup [.int i0, .int j0])) := .lay0 hq
  have okq : Ok d B3 (upd H3 q (.tup [.int i0, .int j0])) := ok3.lay0 hq
  obtain ⟨t4, ok4, m4⟩ := unlook y.ok m (tr4.trans trq) okq
  have y4 := y.on t4 ok4
  have e4 : [V.int i0, V.int j0] = ([.inl i0, .inl j0] : List Key).map kV := rfl
  refine ⟨p, _, rfl, DPut.t (k := [.inl i0, .inl j0]) m4.at_ (by rw [upd_same, e4]) (Nat.lt_of_lt_of_le hl (by decide)), ?_⟩
  exact k w t _ _ hs1 t4 (Dp.less (o := .dT lks) trivial hp3 (hd1.up (tr2.kb.trans tr3.kb))) (y4.mut m4) m4.set
/-- (e1, e2) not in x -/
theorem tNotInT {i0 j0 : Int} {kt : Nat} (i : Nat) {j : Nat} (hr : Room j X.A) (hB : B p = some (.dT lks)) (h1 : DE X d e1 ds B (· = .int i0)) (h2 : DE X d e2 ds B (· = .int j0)) (hi : ds[i]? = some (.raw (.ref p)) := by rfl) (hN : X.N[i]? = some x := by rfl)
    (hvi : Vis X.env.scope x := by first | exact Or.inl rfl | exact Or.inr (Or.inl rfl) | exact Or.inr (Or.inr rfl)) (hd : (x == ("__debug__" : Str)) = false := by decide) (hcd : (x == ("__classdict__" : Str)) = false := by decide)
    (hst : starEach [e1, e2] X.env = (false, eval e1 X.env) :: starEach [e2] X.env := by rfl) (hst2 : starEach [e2] X.env = (false, eval e2 X.env) :: starEach [] X.env := by rfl) (hm : behindInMarks .NotIn (.Name x pa) = false := by rfl) :
    DT X d (.Compare (.Tuple [e1, e2] kt pt) [.NotIn] [.Name x pa] pb) ds B (fun _ => True) :=
  dt_of (pt_cmp (pc_dnotin (room1 hr) (pe_tup (pa_cons pe_w (pa_cons pe_w pa_nil hst2) hst)) (pe_var hN hvi hd hcd)) hm) fun B1 σ H e sl ok Q r => h1 B1 σ H e sl ok _ fun w2 t2 B2 H2 tr2 ok2 hd2 hs2 => h2 B2 σ H2 (e.trans tr2.kb) (sl.up tr2.kb) ok2 _ fun w3 t3 B3 H3 tr3 ok3 hd3 hs3 => ⟨show 2 ≤ sizeLine by decide, fun q hq => ⟨.ref p, sl.raw hi, by
    have ee2 : t2 = .int i0 := hs2
    have ee3 : t3 = .int j0 := hs3
    subst ee2 ee3
    obtain rfl := hd2.int_inv
    obtain rfl := hd3.int_inv
    have hp : (upd H3 q (.tup [.int i0, .int j0])) p = some (.dT lks) := (ok3.lay0 hq).kh _ _ ((tr2.trans tr3).kb _ _ (e _ _ hB))
    have tr4 : Tr d B1 H B3 (upd H3 q (.tup [.int i0, .int j0])) := (tr2.trans tr3).trans (.lay0 hq)
    exact ⟨p, _, rfl, DGet.t (k := [.inl i0, .inl j0]) hp upd_same, _, rfl, r _ _ tr4.back (ok.back tr4 (ok3.lay0 hq)) trivial⟩⟩⟩
end
section
variable {X : Cx} {d : Dr} {ds : List Sd} {B H : Hp} {σ : St} {S : PyData → Prop} {e : Expr} {Q : VK}
theorem goE (h : DE X d e ds B S) (sl : Sl X.K B σ ds) (ok : Ok d B H) (r : Ret X.K d B H S Q) : wE X e σ H Q := h B σ H (Same.refl B) sl ok Q r
theorem goA {es : List Expr} {S : List PyData → Prop} {Q : List V → Hp → Prop} (h : DA X d es ds B S) (sl : Sl X.K B σ ds) (ok : Ok d B H) (r : RetA X.K d B H S Q) : wA X es σ H Q := h B σ H (Same.refl B) sl ok Q r
theorem goT {S : Bool → Prop} {Q : Bool → Hp → Prop} (h : DT X d e ds B S) (sl : Sl X.K B σ ds) (ok : Ok d B H) (r : RetT d B H S Q) : wT X e σ H Q := h B σ H (Same.refl B) sl ok Q r
end
section
variable {K : Fg} {d : Dr} {B0 H0 B H : Hp} {σ : St} {ds : List Sd}
/-- nothing is said of the slot i -/
theorem Sl.fo (h : Sl K B σ ds) (i : Nat) : Sl K B σ (ds.set i .any) := ⟨fun j x hx => by
  by_cases e : i = j
  · subst e
    by_cases hl : i < ds.length
    · rw [List.getElem?_set_self hl] at hx
      cases hx
      obtain ⟨s, h1, _⟩ := h.at_ i _ (List.getElem?_eq_getElem hl)
      exact ⟨s, h1, trivial⟩
    · rw [List.getElem?_eq_none (by simpa using hl)] at hx
      cases hx
  · rw [List.getElem?_set_ne e] at hx
    exact h.at_ j x hx⟩
theorem Sy.fo (y : Sy K d B0 H0 B H σ ds) (i : Nat) : Sy K d B0 H0 B H σ (ds.set i .any) := ⟨y.tr, y.ok, y.sl.fo i⟩
/-- a slot that holds a known datum -/
theorem Sy.say (y : Sy K d B0 H0 B H σ ds) (i : Nat) {v : V} {t : PyData} (e : ds[i]? = some (.raw v)) (h : Dp K B v t) : Sy K d B0 H0 B H σ (ds.set i (.dat t)) := by
  have q := y.put i (s := some v) (x := .dat t) ⟨v, rfl, h⟩
  have h2 := y.sl.raw e
  have z : σ.set i (some v) = σ := by
    obtain ⟨hl, e⟩ := List.getElem?_eq_some_iff.mp h2
    rw [← e]
    exact List.set_getElem_self hl
  rw [z] at q
  exact q
/-- a list of one's own becomes data, its slot, too -/
theorem Sy.done (y : Sy K d B0 H0 B H σ ds) {p : Addr} {vs : List V} {ts : List PyData} (m : Mu d H0 B H p (.lst vs)) (hv : DpAll K B vs ts) (i : Nat) (e : ds[i]? = some (.raw (.ref p)) := by rfl) : Sy K d B0 H0 (upd B p (.lst vs)) H σ (ds.set i (.dat (.list ts))) := by
  obtain ⟨tz, oz, dz, sz⟩ := y.data m hv
  exact Sy.say ⟨tz, oz, y.sl.up sz⟩ i e dz
end
/-! ### comprehensions, whatever is walked -/
section
variable {K : Fg} {d : Dr} {B1 H1 : Hp} {σ : St} {te : TE} {g : TG}
theorem lc_gen {J : It} {G : Hp → Prop} {n : Nat} {Y : Nat → Hp → V → Hp → Prop} {own : List Nat} {D : Addr} {Qd : Hp → Prop} {R : Nat → PyData → Prop} (wk : Walk J n G Y) (hl : n ≤ 100000) (hG : ∀ B' H', Tr d B1 H1 B' H' → Ok d B' H' → G H') (ok : Ok d B1 H1) (hD : H1 D = none)
    (turn : ∀ (i : Nat) (w : V) (B' H' H'' : Hp), i < n → Tr d B1 H1 B' H' → Ok d B' H' → Y i H' w H'' → ∃ B'' σ2, Tr d B' H' B'' H'' ∧ Ok d B'' H'' ∧ (∀ Q, Q σ2 H'' → g w (L2.wipe σ own) H'' Q) ∧ L2.wipe σ2 own = L2.wipe σ own ∧ ∀ Qe, Ret K d B'' H'' (R i) Qe → te σ2 H'' Qe)
    (ret : ∀ vs ys B' H', Tr d B1 H1 B' H' → Ok d B' H' → Mu d H1 B' H' D (.lst vs) → DpAll K B' vs ys → (ys.length = n ∧ ∀ i y, ys[i]? = some y → R i y) → Qd H') :
    ∃ W : Nat → Nat → Hp → Prop, (∃ m, W 0 m (upd H1 D (.lst []))) ∧ ∀ i m H, W i m H → (J.stop i H ∧ Qd H) ∨ (J.go i H ∧ ∃ Nx : Hp → Prop, (∀ H', Nx H' → ∃ m', m' < m ∧ W (i + 1) m' H') ∧ ∀ x H', J.yld i H x H' → g x (L2.wipe σ own) H' fun σ2 H2 => L2.wipe σ2 own = L2.wipe σ own ∧ tYes σ2 H2 fun b H3 =>
      if b = true then te σ2 H3 fun y H4 => ∃ acc, H4 D = some (.lst acc) ∧ acc.length < sizeLine ∧ Nx (upd H4 D (.lst (acc ++ [y]))) else Nx H3) := by
  refine lc_it wk (fun i H => ∃ B' acc ys, Tr d B1 H1 B' H ∧ Ok d B' H ∧ Mu d H1 B' H D (.lst acc) ∧ DpAll K B' acc ys ∧ ys.length = i ∧ ∀ j y, ys[j]? = some y → R j y) ⟨B1, [], [], .lay0 hD, ok.lay0 hD, Mu.make ok ok .refl hD, .nil, rfl, fun j y h => by simp at h⟩ (fun i H _ ⟨B', _, _, t, o, _⟩ => hG B' H t o) ?_ ?_
  · rintro i w H H' hi ⟨B', acc, ys, t, o, m, ha, hp, hR⟩ hy
    obtain ⟨B'', σ2, t2, o2, hg, hwp, he⟩ := turn i w B' H H' hi t o hy
    refine hg _ ⟨hwp, ?_⟩
    simp only [tYes, if_true]
    refine he _ fun y u B4 H4 t4 o4 hd4 hs4 => ?_
    have m4 := (m.on t2).on t4
    have l1 := ha.len
    refine ⟨acc, m4.at_, Nat.lt_of_le_of_lt (show acc.length ≤ 100000 by omega) (by decide), B4, acc ++ [y], ys ++ [u], ((t.trans t2).trans t4).mut m4, o4.mut m4, m4.set, (ha.up (t2.kb.trans t4.kb)).snoc hd4, by rw [List.length_append, hp]; rfl, fun j z hz => ?_⟩
    by_cases hj : j < ys.length
    · rw [List.getElem?_append_left hj] at hz
      exact hR j z hz
    · rw [List.getElem?_append_right (by omega)] at hz
      have hj2 : j - ys.length = 0 := by
        by_cases h0 : j - ys.length = 0
        · exact h0
        · rw [List.getElem?_eq_none (by simp; omega)] at hz
          cases hz
      rw [hj2] at hz
      cases hz
      have : j = i := by omega
      rw [this]
      exact hs4
  · rintro H ⟨B', acc, ys, t, o, m, ha, hp, hR⟩
    exact ret acc ys B' H t o m ha ⟨hp, hR⟩
end
section
variable {X : Cx} {d : Dr} {ds : List Sd} {B : Hp} {S : PyData → Prop} {iter elt : Expr} {pos px pi : Pos} {x xd : Str} {scope : Scope} {p : Addr}
/-- [elt for x in d] over a dict that is held still, its keys ints -/
theorem dLcK {kvs : List (Key × V)} {ks : List Int} {od : Obj} {own : List (Str × Nat)} {R : PyData → PyData → Prop} (i j : Nat) (hc : X.calm = true) (nd : X.N.Nodup) (ok : BlkOk X.N X.env.scope scope own) (hB : B p = some (.frz od (.dK kvs))) (hks : kvs.map (·.1) = ks.map Sum.inl) (hl : ks.length ≤ 100000) (hj : j ∈ own.map (·.2))
    (hg : ∀ (s : Shared) (H : Hp) (C : Addr) (cl : List (Str × Addr)) (fp : List Addr), PG (X.blk s H scope (compEnvC scope cl C X.env) fp) (.Name x px) (gName j))
    (hE : ∀ (k : Int) (B1 : Hp), k ∈ ks → Same B B1 → DB X scope d elt ((wipeD ds (own.map (·.2))).set j (.dat (.int k))) B1 (R (.int k)))
    (hi : ds[i]? = some (.raw (.ref p)) := by rfl) (hN : X.N[i]? = some xd := by rfl) (hv : Vis X.env.scope xd := by first | exact Or.inl rfl | exact Or.inr (Or.inl rfl) | exact Or.inr (Or.inr rfl)) (hd : (xd == ("__debug__" : Str)) = false := by decide) (hcd : (xd == ("__classdict__" : Str)) = false := by decide)
    (hs : ∀ x, foldedSetIterable (.Name xd pi) X.env x = pure x := by intro _; rfl) : LO X d (.ListComp elt [⟨.Name x px, .Name xd pi, [], 0⟩] scope pos) ds B (fun ys => Paired R (ks.map .int) ys) := by
  have fl : ∀ l : List PyData, l.filter (fun _ => true) = l := fun l => List.filter_eq_self.mpr fun _ _ => rfl
  refine lo_lc hc nd (pi_keys (pe_var hN hv hd hcd)) ok hg (fun s H C cl fp => pts_nil) pe_b hs fun B1 σ H e sl ok1 Q r => ⟨.ref p, sl.raw hi, p, od, rfl, .inl ⟨kvs, ok1.kh _ _ (e _ _ hB), fun D hD => ?_⟩⟩
  have dp : ∀ {Bz : Hp} (l : List Int), DpAll X.K Bz (l.map V.int) (l.map PyData.int) := fun {Bz} l => by
    induction l with
    | nil => exact .nil
    | cons a l ih => exact .cons (.int a) ih
  have hlen : kvs.length = (ks.map V.int).length := by
    have := congrArg List.length hks
    rw [List.length_map, List.length_map] at this
    rw [List.length_map]
    exact this
  have wk : Walk (Itk p od kvs) (ks.map V.int).length (fun H => H p = some (.frz od (.dK kvs))) (YAt (ks.map V.int)) := by
    rw [← hlen]
    refine (walk_keys (d := p) (o := od) (kvs := kvs)).mono (fun _ h => h) fun i H x H' hi _ y => ?_
    obtain ⟨e1, k, v, e2, e3⟩ := y
    refine ⟨e1, ?_⟩
    have e4 : (kvs.map (·.1))[i]? = some k := by rw [List.getElem?_map, e2]; rfl
    rw [hks, List.getElem?_map] at e4
    rw [List.getElem?_map]
    cases e5 : ks[i]? with
    | none => rw [e5] at e4; cases e4
    | some z =>
      rw [e5] at e4
      cases e4
      rw [e3]
      rfl
  refine lc_data (R := R) (p := fun _ => true) wk (dp ks) (by rw [List.length_map]; exact hl) (fun B' H' e1 e2 => e2 _ _ (e1 _ _ (e _ _ hB))) ok1 hD (fun i y w B' H' hi' e3 ok3 hd3 => ?_) (by rw [fl]; exact r)
  obtain ⟨k, hk, rfl⟩ := List.mem_map.mp (List.mem_of_getElem? hi')
  exact ⟨_, _, fun Q h => h, wipe_set hj, ((sl.up e3).wipe _).put j (x := .dat (.int k)) ⟨w, rfl, hd3⟩, et_yes, fun _ => ev_b (hE k B' hk (e.trans e3))⟩
end
end K20
set_option maxHeartbeats 2000000
/-! tuple(..), sorted(..), list.index, +, slices of data. -/
namespace K20
open PySem PySem.Spec L2
open PyProof.Rows hiding St
open PySem.W (EachIs dataLt dataLe alike alikeAll AllAlike Sortable)
section
variable {X : Cx} {d : Dr} {ds : List Sd} {B : Hp} {S Sa Sb : PyData → Prop} {e a b : Expr} {pos p pa pb : Pos}
theorem rc_tuple {K : Fg} : RC K d (fun xs H Q => ∃ p ys, xs = [.ref p] ∧ ((SqL K H p ys ∧ ∀ l, H l = none → Q (.ref l) (upd H l (.tup ys))) ∨ (SqT K H p ys ∧ Q (.ref p) H))) B (fun ts => ∃ t xs, ts = [t] ∧ seqOf t = some xs ∧ S (.tuple xs)) S := fun B1 H vs ts e ok g h Q r => by
  obtain ⟨t, xs, rfl, hx, hs⟩ := h
  obtain ⟨w, rfl, g2⟩ := DpAll.one g
  obtain ⟨a, us, rfl, hq, hd⟩ := Dp.seq g2 hx
  refine ⟨a, us, rfl, ?_⟩
  rcases hq with hq | hq
  · refine .inl ⟨ok.kh.seq hq, fun l hl => ?_⟩
    have s1 : Same B1 (upd B1 l (.tup us)) := (Tr.lay (o := .tup us) ok hl).kb
    exact r _ _ _ _ (Tr.lay ok hl) (ok.lay hl) (.tup (SqT.of upd_same) (hd.up s1)) hs
  · exact .inr ⟨sqT_mono ok.kh hq, r _ _ B1 H .refl ok (.tup hq hd) hs⟩
theorem dTupleS (hm : X.mg "tuple" = none) (ha : DE X d e ds B Sa) (k : ∀ t, Sa t → ∃ xs, seqOf t = some xs ∧ S (.tuple xs)) (hg : Gl X "tuple" := by rfl) (he : starEach [e] X.env = (false, eval e X.env) :: starEach [] X.env := by rfl) (hpl : (backTo pos (starEach [] X.env)).any (·.1) = false := by rfl) :
    DE X d (.Call (.Name "tuple" p) [e] [] pos) ds B S := dCT call_tuple_of hm (by decide +kernel) (aCS ha aN (S2 := fun ts => ∃ t xs, ts = [t] ∧ seqOf t = some xs ∧ S (.tuple xs)) (by
      rintro t ts h rfl
      obtain ⟨xs, h1, h2⟩ := k t h
      exact ⟨t, xs, rfl, h1, h2⟩) he) rc_tuple hg (by decide) (by decide) he hpl
/-- what sorted(..) asks of its items -/
structure Sortd (xs : List PyData) : Prop where
  al : AllAlike xs
  so : Sortable xs
  dp : ∀ x ∈ xs, x.depth ≤ 50
def sortD (xs : List PyData) : List PyData := xs.mergeSort (dataLe false fun x => x)
theorem sortD_perm (xs : List PyData) : (sortD xs).Perm xs := List.mergeSort_perm _ _
theorem dSortS {k : Nat} (hro : Room k X.A) (hm : X.mg "sorted" = none) (ha : DE X d e ds B Sa) (k : ∀ t, Sa t → ∃ xs, t = .list xs ∧ Sortd xs ∧ S (.list (sortD xs))) (hg : Gl X "sorted" := by rfl) (he : starEach [e] X.env = (false, eval e X.env) :: starEach [] X.env := by rfl) (hpl : (backTo pos (starEach [] X.env)).any (·.1) = false := by rfl) :
    DE X d (.Call (.Name "sorted" p) [e] [] pos) ds B S := dCB (cr_sortD hro) hm (by decide +kernel) (aCS ha aN (S2 := fun ts => ∃ xs, ts = [.list xs] ∧ Sortd xs ∧ S (.list (sortD xs))) (by
      rintro t ts h rfl
      obtain ⟨xs, rfl, h1, h2⟩ := k t h
      exact ⟨xs, rfl, h1, h2⟩) he) (fun B1 H vs ts e ok g h Q r => by
      obtain ⟨xs, rfl, h1, h2⟩ := h
      obtain ⟨w, rfl, g2⟩ := DpAll.one g
      obtain ⟨a, us, rfl, hq, hd⟩ := g2.lst_inv
      exact ⟨a, us, xs, B1, rfl, ok.kh, hq, hd, h1.al, h1.so, h1.dp, fun ys p hy hp => r _ _ _ _ (Tr.lay ok hp) (ok.lay hp) (.lst (SqL.of upd_same) (hy.up (Tr.lay (o := .lst ys) ok hp).kb)) h2⟩) hg (by decide) (by decide) he hpl
/-- arguments, each in its set -/
def Args : List (PyData → Prop) → List PyData → Prop
  | [], ts => ts = []
  | S :: l, ts => ∃ t, S t ∧ ∃ us, Args l us ∧ ts = t :: us
theorem Args.len : ∀ {l : List (PyData → Prop)} {ts : List PyData}, Args l ts → ts.length = l.length
  | [], ts, h => by
    have e : ts = [] := h
    rw [e]
    rfl
  | _ :: _, _, ⟨_, _, _, h, e⟩ => by rw [e]; exact congrArg Nat.succ (Args.len h)
theorem aZ : DA X d [] ds B (Args []) := fun B1 σ H e sl ok Q r => aN B1 σ H e sl ok Q fun vs ts B' H' tr ok' hd h => r vs ts B' H' tr ok' hd h
theorem aP {es : List Expr} {l : List (PyData → Prop)} (h : DE X d e ds B Sa) (hr : DA X d es ds B (Args l)) (hs : starEach (e :: es) X.env = (false, eval e X.env) :: starEach es X.env := by rfl) : DA X d (e :: es) ds B (Args (Sa :: l)) :=
  aCS h hr (fun t ts h1 h2 => ⟨t, h1, ts, h2, rfl⟩) hs
theorem dLstP {es : List Expr} {l : List (PyData → Prop)} (h : DA X d es ds B (Args l)) (hl : l.length ≤ 100000 := by exact Nat.le_of_ble_eq_true rfl) : DE X d (.List es pos) ds B (fun t => ∃ ts, t = .list ts ∧ Args l ts) :=
  dLstS h (fun ts h => by rw [h.len]; exact hl) fun ts h => ⟨ts, rfl, h⟩
theorem dTupP {es : List Expr} {j} {l : List (PyData → Prop)} (h : DA X d es ds B (Args l)) (hl : l.length ≤ 100000 := by exact Nat.le_of_ble_eq_true rfl) : DE X d (.Tuple es j pos) ds B (fun t => ∃ ts, t = .tuple ts ∧ Args l ts) :=
  dTupS h (fun ts h => by rw [h.len]; exact hl) fun ts h => ⟨ts, rfl, h⟩
theorem tTo {S1 S2 : Bool → Prop} (h : DT X d e ds B S1) (k : ∀ b, S1 b → S2 b) : DT X d e ds B S2 := fun B1 σ H e sl ok Q r => h B1 σ H e sl ok Q fun b H' tr ok' hs => r b H' tr ok' (k b hs)
theorem DE.to {S' : PyData → Prop} (h : DE X d e ds B S) (k : ∀ t, S t → S' t) : DE X d e ds B S' := Ev.to h k
end
end K20
set_option maxHeartbeats 2000000
/-! More of lists. -/
namespace K20
open PySem PySem.Spec L2
open PyProof.Rows hiding St
section
variable {X : Cx} {d : Dr} {ds : List Sd} {B0 H0 B H : Hp} {σ : St} {S Sa Sb : PyData → Prop} {D : Ends} {st : Stmt} {rest a b body : List Stmt} {e e1 e2 c iter tg elt : Expr} {es : List Expr} {pos pa pb pc : Pos} {x x' : Str} {p : Addr} {vs : List V}
/-- list + list -/
def rCatS (K : Fg) : R2 := fun x y H Q => ∃ l b xs zs, x = .ref l ∧ y = .ref b ∧ SqL K H l xs ∧ SqL K H b zs ∧ xs.length + zs.length ≤ sizeLine ∧ ∀ p, H p = none → Q (.ref p) (upd H p (.lst (xs ++ zs)))
theorem op_catS : OpR X (binaryOp .Add) (rCatS X.K) := by
  intro pins s σ H x y v u Q I rx ry h
  obtain ⟨l, b, xs, zs, rfl, rfl, hH, hB, hz, q⟩ := h
  cases rx
  cases ry
  obtain ⟨its, r, ⟨o, n, e, h1, h2, h3⟩, hl⟩ := I.list hH
  obtain ⟨its2, r2, ⟨o2, n2, e2, g1, g2, g3⟩, hl2⟩ := I.list hB
  obtain ⟨cls, dd, data, sl⟩ := o
  obtain ⟨cls2, dd2, data2, sl2⟩ := o2
  simp only at h1 h2 h3 g1 g2 g3
  subst h1 h2 h3 g1 g2 g3
  have l1 : xs.length = its.length := r.length
  have l2 : zs.length = its2.length := r2.length
  refine concat_meets ⟨_, e, rfl⟩ ⟨_, e2, rfl⟩ noFill_list_add seq_list_add PySem.F.slot_list_add PySem.F.entry_list_add (PySem.F.args_list_add_2 _ _) (list_addW l b its.toArray its2.toArray n n2 none none sl sl2 (by simp; omega)) ⟨e, e2, ?_⟩
  have ea : its.toArray ++ its2.toArray = (its ++ its2).toArray := by simp
  rw [ea]
  exact ⟨.ref _, _, I.lnew (t' := s.toks) (r.append r2) (by rw [List.length_append]; omega), rfl, q _ I.fresh⟩
theorem dCatS (ha : DE X d e1 ds B Sa) (hb : DE X d e2 ds B Sb) (k : ∀ t u, Sa t → Sb u → ∃ xs ys, t = .list xs ∧ u = .list ys ∧ xs.length + ys.length ≤ 100000 ∧ S (.list (xs ++ ys))) : DE X d (.BinOp e1 .Add e2 pos) ds B S := dBin op_catS ha hb (by
  intro B1 H x y ta tb e ok g1 g2 h1 h2 Q r
  obtain ⟨xs, ys, rfl, rfl, hl, hs⟩ := k ta tb h1 h2
  obtain ⟨a, us, rfl, q1, d1⟩ := g1.lst_inv
  obtain ⟨b, ws, rfl, q2, d2⟩ := g2.lst_inv
  refine ⟨a, b, us, ws, rfl, rfl, ok.kh.seq q1, ok.kh.seq q2, small_line (by rw [d1.len, d2.len]; exact hl), fun p hp => ?_⟩
  exact r _ _ _ _ (Tr.lay ok hp) (ok.lay hp) (.lst (SqL.of upd_same) ((d1.app d2).up (Tr.lay (o := .lst (us ++ ws)) ok hp).kb)) hs)
/-- a test of an int's == -/
theorem tEqI {j : Int} {Sk : Bool → Prop} {n : Nat} (hr : Room n X.A) (ha : DE X d e1 ds B Sa) (hb : DE X d e2 ds B (· = .int j)) (k : ∀ t, Sa t → ∃ i : Int, t = .int i ∧ Sk (PyData.eqv (.int i) (.int j))) : DT X d (.Compare e1 [.Eq] [e2] pos) ds B Sk :=
  tCmp' (op_eqD hr.units) ha hb (by
    rintro B1 H1 x z ta tb e ok1 g1 g2 h rfl Q' r
    obtain ⟨i, rfl, hk⟩ := k ta h
    exact ⟨.int i, .int j, g1.up ok1.kh, g2.up ok1.kh, rfl, rfl, r _ _ B1 H1 .refl ok1 (.bl _) ⟨_, rfl, hk⟩⟩) (nomark _)
/-- x = a new list, one's own -/
theorem sNewO (i : Nat) {S : List PyData → Prop} (y : Sy X.K d B0 H0 B H σ ds) (nd : X.N.Nodup) (h : DO X d e ds B S)
    (k : ∀ p vs ts B1 σ1 H1, S ts → Tr d B H B1 H1 → DpAll X.K B1 vs ts → Sy X.K d B0 H0 B1 H1 σ1 (ds.set i (.raw (.ref p))) → Mu d H0 B1 H1 p (.lst vs) → D.nx σ1 H1)
    (hi : X.N[i]? = some x := by rfl) (hx : Loc X.env.scope x := by first | exact Or.inl rfl | exact Or.inr rfl) (hs : swapsWith e (some (.Name x pb)) pos.line X.env = pure false := by rfl) (hf : X.fn x = true ∨ X.env.scope.names.lookup x = some .local := by first | exact .inl rfl | exact .inr rfl) :
    wS X (.Assign [.Name x pb] e pos) D σ H :=
  w_s (ps_set nd hi hx pe_w hs hf) (h B σ H (Same.refl B) y.sl y.ok _ fun p vs ts B1 H1 tr ok m hd hs1 => k p vs ts B1 _ H1 hs1 tr hd ((y.on tr ok).put i (x := .raw (.ref p)) rfl) (m.since y.tr))
/-- x = [..] on one line -/
theorem sNewL (i : Nat) {S : List PyData → Prop} (y : Sy X.K d B0 H0 B H σ ds) (h : LO X d e ds B S)
    (k : ∀ p vs ts B1 σ1 H1, S ts → Tr d B H B1 H1 → DpAll X.K B1 vs ts → Sy X.K d B0 H0 B1 H1 σ1 (ds.set i (.raw (.ref p))) → Mu d H0 B1 H1 p (.lst vs) → D.nx σ1 H1)
    (hi : X.N[i]? = some x := by rfl) (hx : X.env.scope.names.lookup x = some .local := by rfl) (hs : swapsWith e (some (.Name x pb)) pos.line X.env = pure true := by rfl) : wS X (.Assign [.Name x pb] e pos) D σ H := by
  obtain ⟨te, q, _, ps⟩ := h.ex
  exact w_s (ps hi hx hs) (q B σ H (Same.refl B) y.sl y.ok _ fun p vs ts B1 H1 tr ok m hd hs1 => k p vs ts B1 _ H1 hs1 tr hd ((y.on tr ok).put i (x := .raw (.ref p)) rfl) (m.since y.tr))
/-- .. as data -/
theorem sSetL (i : Nat) {S : List PyData → Prop} (y : Sy X.K d B0 H0 B H σ ds) (h : LO X d e ds B S) (k : ∀ ts B1 σ1 H1, S ts → Tr d B H B1 H1 → Sy X.K d B0 H0 B1 H1 σ1 (ds.set i (.dat (.list ts))) → D.nx σ1 H1)
    (hi : X.N[i]? = some x := by rfl) (hx : X.env.scope.names.lookup x = some .local := by rfl) (hs : swapsWith e (some (.Name x pb)) pos.line X.env = pure true := by rfl) : wS X (.Assign [.Name x pb] e pos) D σ H := by
  obtain ⟨te, q, _, ps⟩ := h.ex
  refine w_s (ps hi hx hs) (q B σ H (Same.refl B) y.sl y.ok _ fun p vs ts B1 H1 tr ok m hd hs1 => ?_)
  exact k ts _ _ H1 hs1 (tr.freeze m) (Sy.put ⟨(y.tr.trans tr).freeze (m.since y.tr), ok.freeze m, (y.sl.up tr.kb).up (same_upd m.hid)⟩ i (x := .dat (.list ts)) ⟨_, rfl, .lst (SqL.of upd_same) (hd.up (same_upd m.hid))⟩)
/-- x.extend(a new list) -/
theorem sExt (i : Nat) {S : List PyData → Prop} (y : Sy X.K d B0 H0 B H σ ds) (m : Mu d H0 B H p (.lst vs)) (h : DO X d e ds B S) (k : ∀ ws ts B1 H1, S ts → Tr d B H B1 H1 → DpAll X.K B1 ws ts → Sy X.K d B0 H0 B1 (upd H1 p (.lst (vs ++ ws))) σ ds → Mu d H0 B1 (upd H1 p (.lst (vs ++ ws))) p (.lst (vs ++ ws)) → D.nx σ (upd H1 p (.lst (vs ++ ws))))
    (hl : ∀ ts, S ts → vs.length + ts.length ≤ 100000) (hi : ds[i]? = some (.raw (.ref p)) := by rfl) (hN : X.N[i]? = some x := by rfl) (hv : Vis X.env.scope x := by first | exact Or.inl rfl | exact Or.inr (Or.inl rfl) | exact Or.inr (Or.inr rfl)) (hd : (x == ("__debug__" : Str)) = false := by decide)
    (hcd : (x == ("__classdict__" : Str)) = false := by decide) (hbase : attributeBase (.Name x pa) "extend" X.env (eval (.Name x pa) X.env) = eval (.Name x pa) X.env := by rfl)
    (hfew : ((backTo pc (starEach [e] X.env)).all (fun x => !x.1) && (backToKw pc (keywordEach [] X.env)).all (fun x => x.1.isSome) && decide (([e] : List Expr).length + ([] : List Keyword).length + (if ([] : List Keyword).isEmpty then 0 else 1) < 30)) = true := by rfl)
    (hline : (pb.endLine == pc.line) = true := by rfl) (hst : starEach [e] X.env = (false, eval e X.env) :: starEach [] X.env := by rfl) (hpl : (backTo pc (starEach [] X.env)).any (·.1) = false := by rfl)
    (hs : swapsWith (.Call (.Attribute (.Name x pa) "extend" pb) [e] [] pc) none pos.line X.env = pure false := by rfl) :
    wS X (.Expr (.Call (.Attribute (.Name x pa) "extend" pb) [e] [] pc) pos) D σ H := by
  refine w_s (ps_expr (pe_bm PySem.F.plainAttrs_list PySem.F.slot_list_extend PySem.F.type_list_extend mt_extend (pe_var hN hv hd hcd) (pa_cons pe_w pa_nil hst) hbase hfew hline hst hpl) hs) ?_
  refine ⟨_, y.sl.raw hi, .inl ⟨rfl, _, SqL.of m.at_⟩, h B σ H (Same.refl B) y.sl y.ok _ fun b ws ts B1 H1 tr ok mb hd1 hs1 => ?_⟩
  have m1 := m.on tr
  exact ⟨p, b, vs, ws, rfl, rfl, m1.at_, mb.at_, small_line (by rw [hd1.len]; exact hl ts hs1), k ws ts B1 H1 hs1 tr hd1 ((y.on tr ok).mut m1) m1.set⟩
end
end K20
set_option maxHeartbeats 2000000
/-! list.index of data. -/
namespace K20
open PySem PySem.Spec L2
open PyProof.Rows hiding St
section
variable {X : Cx} {d : Dr} {ds : List Sd} {B0 H0 B H : Hp} {σ : St} {S Sa Sb : PyData → Prop} {D : Ends} {o e e1 e2 c iter tg elt : Expr} {es : List Expr} {pos ap cp : Pos} {x x' : Str} {p : Addr} {vs : List V}
theorem room65 {k : Nat} {A : Around} (r : Room k A) : A.units + 65 < cLine := by have := r.un; omega
theorem dIndex {k : Nat} {us : List PyData} {t z : PyData} {j : Nat} (hr : Room k X.A) (ho : DE X d o ds B (· = .list us)) (he : DE X d e ds B (· = t)) (h1 : SeqAt.shaped (.list us) = true) (h2 : SeqAt.shaped t = true) (hz : us[j]? = some z) (hzt : PyData.eqv z t = true) (hno : ∀ (m : Nat) (z' : PyData), m < j → us[m]? = some z' → PyData.eqv z' t = false)
    (hbase : attributeBase o "index" X.env (eval o X.env) = eval o X.env := by rfl)
    (hfew : ((backTo cp (starEach [e] X.env)).all (fun x => !x.1) && (backToKw cp (keywordEach [] X.env)).all (fun x => x.1.isSome) && decide (([e] : List Expr).length + ([] : List Keyword).length + (if ([] : List Keyword).isEmpty then 0 else 1) < 30)) = true := by rfl)
    (hline : (ap.endLine == cp.line) = true := by rfl) (hst : starEach [e] X.env = (false, eval e X.env) :: starEach [] X.env := by rfl) (hpl : (backTo cp (starEach [] X.env)).any (·.1) = false := by rfl) : DE X d (.Call (.Attribute o "index" ap) [e] [] cp) ds B (· = .int (j : Nat)) :=
  de_of (pe_bm PySem.F.plainAttrs_list PySem.F.slot_list_index PySem.F.type_list_index (mt_indexD (room65 hr)) pe_w (pa_cons pe_w pa_nil hst) hbase hfew hline hst hpl) fun B1 σ H e0 sl ok Q r => ho B1 σ H e0 sl ok _ fun w t1 B2 H2 tr2 ok2 hd2 e1 => by
    have e1' : t1 = .list us := e1
    subst e1'
    obtain ⟨a, ws, rfl, hq, hv⟩ := id hd2.lst_inv
    refine ⟨.inl ⟨rfl, _, ok2.kh.seq hq⟩, he B2 σ H2 (e0.trans tr2.kb) (sl.up tr2.kb) ok2 _ fun w3 t3 B3 H3 tr3 ok3 hd3 e3 => ?_⟩
    have e3' : t3 = t := e3
    subst e3'
    exact ⟨a, w3, t3, us, j, z, rfl, rfl, (hd2.up tr3.kb).up ok3.kh, hd3.up ok3.kh, h1, h2, hz, hzt, hno, r _ _ B3 H3 (tr2.trans tr3) ok3 (.int _) rfl⟩
end
end K20
set_option maxHeartbeats 2000000
/-! What is evaluated here: one's own lists read and written. -/
namespace K20
open PySem PySem.Spec L2
open PyProof.Rows hiding St
theorem wipe_get : ∀ (own : List Nat) (τ : St) (i : Nat), (L2.wipe τ own)[i]? = if i ∈ own ∧ i < τ.length then some none else τ[i]? := by
  intro own
  induction own with
  | nil => intro τ i; simp [L2.wipe]
  | cons v vs ih =>
    intro τ i
    show ((L2.wipe τ vs).set v none)[i]? = _
    rw [List.getElem?_set]
    by_cases e : v = i
    · subst e
      have hl : (L2.wipe τ vs).length = τ.length := wipe_length τ vs
      by_cases hv : v < τ.length
      · simp [hl, hv]
      · have h2 : τ[v]? = none := List.getElem?_eq_none (by omega)
        simp [hl, hv, h2]
    · rw [if_neg e, ih τ i]
      have e' : ¬ i = v := fun z => e z.symm
      simp [e']
theorem wipe_put {own : List Nat} {τ : St} {j : Nat} {w : Option V} (hj : j ∈ own) : L2.wipe (τ.set j w) own = L2.wipe τ own := by
  apply List.ext_getElem?
  intro i
  rw [wipe_get, wipe_get, List.length_set]
  by_cases h : i ∈ own ∧ i < τ.length
  · rw [if_pos h, if_pos h]
  · rw [if_neg h, if_neg h]
    by_cases e : j = i
    · subst e
      have hl : ¬ j < τ.length := fun z => h ⟨hj, z⟩
      rw [List.getElem?_eq_none (by rw [List.length_set]; omega), List.getElem?_eq_none (by omega)]
    · rw [List.getElem?_set_ne e]
theorem wipe_wipe {own : List Nat} {τ : St} : L2.wipe (L2.wipe τ own) own = L2.wipe τ own := by
  apply List.ext_getElem?
  intro i
  rw [wipe_get, wipe_length]
  by_cases h : i ∈ own ∧ i < τ.length
  · rw [if_pos h, wipe_get, if_pos h]
  · rw [if_neg h]
/-- the expression, evaluated now -/
def AtE (X : Cx) (d : Dr) (e : Expr) (σ : St) (B H : Hp) (S : PyData → Prop) : Prop := ∀ Q : VK, Ret X.K d B H S Q → wE X e σ H Q
section
variable {X : Cx} {d : Dr} {ds : List Sd} {B0 H0 B H : Hp} {σ : St} {S Sa Sb : PyData → Prop} {D : Ends} {st : Stmt} {rest a b body : List Stmt} {e e1 e2 c iter tg elt : Expr} {es : List Expr} {pos pa pb pc p3 : Pos} {x x' : Str} {p : Addr} {vs : List V} {ts : List PyData}
theorem atE (h : DE X d e ds B S) (sl : Sl X.K B σ ds) (ok : Ok d B H) : AtE X d e σ B H S := fun Q r => h B σ H (Same.refl B) sl ok Q r
/-- x[e1], x a list of one's own -/
theorem atIx {j : Nat} {t : PyData} (i : Nat) (y : Sy X.K d B0 H0 B H σ ds) (m : Mu d H0 B H p (.lst vs)) (hv : DpAll X.K B vs ts) (h : DE X d e1 ds B (· = .int j)) (ht : ts[j]? = some t) (hi : ds[i]? = some (.raw (.ref p)) := by rfl) (hN : X.N[i]? = some x := by rfl)
    (hvi : Vis X.env.scope x := by first | exact Or.inl rfl | exact Or.inr (Or.inl rfl) | exact Or.inr (Or.inr rfl)) (hd : (x == ("__debug__" : Str)) = false := by decide) (hcd : (x == ("__classdict__" : Str)) = false := by decide) (hs : PlainIx e1 := by exact fun _ _ => rfl) : AtE X d (.Subscript (.Name x pa) e1 pb) σ B H (· = t) := fun Q r => by
  refine w_e (pe_ix ix_seq (pe_var hN hvi hd hcd) pe_w hs) ⟨_, y.sl.raw hi, h B σ H (Same.refl B) y.sl y.ok _ fun w t1 B1 H1 tr ok hd1 e1 => ?_⟩
  have e1' : t1 = .int j := e1
  subst e1'
  obtain rfl := hd1.int_inv
  obtain ⟨w, hw, dw⟩ := hv.at ht
  exact .inl ⟨p, vs, _, w, rfl, rfl, SqL.of (m.on tr).at_, atI_nat hw, r w t B1 H1 tr ok (dw.up tr.kb) rfl⟩
theorem sSetA (i : Nat) (y : Sy X.K d B0 H0 B H σ ds) (nd : X.N.Nodup) (h : AtE X d e σ B H S) (k : ∀ t B1 σ1 H1, S t → Tr d B H B1 H1 → Sy X.K d B0 H0 B1 H1 σ1 (ds.set i (.dat t)) → D.nx σ1 H1)
    (hi : X.N[i]? = some x := by rfl) (hx : Loc X.env.scope x := by first | exact Or.inl rfl | exact Or.inr rfl) (hs : swapsWith e (some (.Name x pb)) pos.line X.env = pure false := by rfl) (hf : X.fn x = true ∨ X.env.scope.names.lookup x = some .local := by first | exact .inl rfl | exact .inr rfl) :
    wS X (.Assign [.Name x pb] e pos) D σ H :=
  w_s (ps_set nd hi hx pe_w hs hf) (h _ fun v t B1 H1 tr ok hd hs => k t B1 _ H1 hs tr ((y.on tr ok).put i ⟨v, rfl, hd⟩))
/-- for over a list or a tuple that is got now -/
theorem sForA {t : PyData} {xs : List PyData} {g : TG} (hp : PassesOwn (model X.prog X.w) X.A X.env X.xe) (hc : X.calm = true) (it : AtE X d iter σ B H (· = t)) (hx : seqOf t = some xs) (hg : PG X tg g)
    (k : ∀ w B1 H1, Tr d B H B1 H1 → Ok d B1 H1 → Dp X.K B1 w t → ∃ I : Nat → Hp → St → Hp → Prop, I 0 B1 σ H1 ∧ (∀ i B' σ' H', I i B' σ' H' → Same B' H') ∧
      (∀ i x w B' σ' H', xs[i]? = some x → Same B1 B' → I i B' σ' H' → Dp X.K B' w x → g w σ' H' fun σ2 H2 => wSs X body { D with nx := fun σ3 H3 => ∃ B3, Same B1 B3 ∧ I (i + 1) B3 σ3 H3, ct := fun σ3 H3 => ∃ B3, Same B1 B3 ∧ I (i + 1) B3 σ3 H3, bk := D.nx } σ2 H2) ∧
      (∀ B' σ' H', Same B1 B' → I xs.length B' σ' H' → D.nx σ' H'))
    (hs : ∀ x, foldedSetIterable iter X.env x = pure x := by intro _; rfl) : wS X (.For tg iter body [] pos) D σ H := by
  cases t with
  | list ys =>
    cases hx
    refine w_s (ps_for hp hc (pi_list pe_w) hg pss_w hs) (it _ fun w t B1 H1 tr ok1 hd e => ?_)
    have e' : t = .list xs := e
    subst e'
    obtain ⟨I, h0, hk, hs, hd'⟩ := k w B1 H1 tr ok1 hd
    obtain ⟨a, vs, rfl, hq, hv⟩ := hd.lst_inv
    refine ⟨a, rfl, ⟨vs, ok1.kh.seq hq⟩, for_it (walk_list (xs := vs)) (fun i σ' H' => ∃ B', Same B1 B' ∧ I i B' σ' H') ⟨B1, Same.refl _, h0⟩ (fun i σ' H' _ ⟨B', e, h⟩ => (e.trans (hk i B' σ' H' h)).seq hq) ?_ ?_⟩
    · rintro i x σ' H' H2 hi ⟨B', e, h⟩ ⟨rfl, hx⟩
      obtain ⟨u, hu, hd3⟩ := hv.get hx
      exact hs i u x B' σ' H2 hu e h (hd3.up e)
    · rintro σ' H' ⟨B', e, h⟩
      rw [hv.len] at h
      exact hd' B' σ' H' e h
  | tuple ys =>
    cases hx
    refine w_s (ps_for hp hc (pi_tup pe_w) hg pss_w hs) (it _ fun w t B1 H1 tr ok1 hd e => ?_)
    have e' : t = .tuple xs := e
    subst e'
    obtain ⟨I, h0, hk, hs, hd'⟩ := k w B1 H1 tr ok1 hd
    obtain ⟨a, vs, rfl, hq, hv⟩ := hd.tup_inv
    refine ⟨a, rfl, ⟨vs, sqT_mono ok1.kh hq⟩, for_it (walk_tup (xs := vs)) (fun i σ' H' => ∃ B', Same B1 B' ∧ I i B' σ' H') ⟨B1, Same.refl _, h0⟩ (fun i σ' H' _ ⟨B', e, h⟩ => sqT_mono (e.trans (hk i B' σ' H' h)) hq) ?_ ?_⟩
    · rintro i x σ' H' H2 hi ⟨B', e, h⟩ ⟨rfl, hx⟩
      obtain ⟨u, hu, hd3⟩ := hv.get hx
      exact hs i u x B' σ' H2 hu e h (hd3.up e)
    · rintro σ' H' ⟨B', e, h⟩
      rw [hv.len] at h
      exact hd' B' σ' H' e h
  | _ => cases hx
theorem DpAll.set {K : Fg} {B : Hp} : ∀ {ts : List PyData} {vs : List V} {v : V} {t : PyData} (j : Nat), DpAll K B vs ts → Dp K B v t → DpAll K B (vs.set j v) (ts.set j t)
  | [], _, _, _, _, h, _ => by cases h; exact .nil
  | t :: ts, _, _, _, 0, h, g => by
    cases h with
    | cons h1 h2 => exact .cons g h2
  | t :: ts, _, _, _, j + 1, h, g => by
    cases h with
    | cons h1 h2 => exact .cons h1 (DpAll.set j h2 g)
/-- x[e1] = e, x a list of one's own -/
theorem sStore {j : Nat} (i : Nat) (y : Sy X.K d B0 H0 B H σ ds) (m : Mu d H0 B H p (.lst vs)) (h : DE X d e ds B S) (h1 : DE X d e1 ds B (· = .int j)) (hj : j < vs.length)
    (k : ∀ w t B1 H1, S t → Tr d B H B1 H1 → Dp X.K B1 w t → Sy X.K d B0 H0 B1 (upd H1 p (.lst (vs.set j w))) σ ds → Mu d H0 B1 (upd H1 p (.lst (vs.set j w))) p (.lst (vs.set j w)) → D.nx σ (upd H1 p (.lst (vs.set j w)))) (hi : ds[i]? = some (.raw (.ref p)) := by rfl) (hN : X.N[i]? = some x := by rfl)
    (hvi : Vis X.env.scope x := by first | exact Or.inl rfl | exact Or.inr (Or.inl rfl) | exact Or.inr (Or.inr rfl)) (hd : (x == ("__debug__" : Str)) = false := by decide) (hcd : (x == ("__classdict__" : Str)) = false := by decide)
    (hs : swapsWithSole [.Subscript (.Name x pa) e1 p3] e pos.line X.env = pure false := by rfl) (hw : swappedStores [.Subscript (.Name x pa) e1 p3] e X.env = pure none := by rfl)
    (h1' : (assignEach [.Subscript (.Name x pa) e1 p3] X.env).map (·.2) = [assign (.Subscript (.Name x pa) e1 p3) X.env] := by rfl)
    (ha : ∀ v, assign (.Subscript (.Name x pa) e1 p3) X.env v = (do
      let ov ← holding [v] (eval (.Name x pa) X.env)
      let iv ← holding [v, ov] (eval e1 X.env)
      standAt p3
      holding [v, ov, iv] (setItem ov iv v)
      release [v, ov, iv] []) := by intro _; rfl) : wS X (.Assign [.Subscript (.Name x pa) e1 p3] e pos) D σ H := by
  refine w_s (ps_asg pe_w (pg_sub (pe_var hN hvi hd hcd) pe_w set_list ha) hs hw h1') (h B σ H (Same.refl B) y.sl y.ok _ fun v t B1 H1 tr ok1 hd1 e1 => ?_)
  have y1 := y.on tr ok1
  refine ⟨_, y1.sl.raw hi, h1 B1 σ H1 tr.kb y1.sl ok1 _ fun w2 t2 B2 H2 tr2 ok2 hd2 e2 => ?_⟩
  have e2' : t2 = .int j := e2
  subst e2'
  obtain rfl := hd2.int_inv
  have m2 := (m.on tr).on tr2
  have y2 := y1.on tr2 ok2
  exact ⟨p, vs, _, j, rfl, rfl, m2.at_, by unfold ixN; simp [hj], k v t B2 H2 e1 (tr.trans tr2) (hd1.up tr2.kb) (y2.mut m2) m2.set⟩
end
end K20
set_option maxHeartbeats 2000000
/-! Unpacking, slices, more. -/
namespace K20
open PySem PySem.Spec L2
open PyProof.Rows hiding St
section
variable {X : Cx} {d : Dr} {ds : List Sd} {B0 H0 B H : Hp} {σ : St} {S Sa Sb : PyData → Prop} {D : Ends} {st : Stmt} {rest a b body : List Stmt} {e e1 e2 c iter tg elt : Expr} {es : List Expr} {pos pa pb pc p3 p p' pt : Pos} {x x' : Str}
/-- x, x' = e, a tuple of two -/
theorem sUnp2 (i j : Nat) {kt : Nat} (y : Sy X.K d B0 H0 B H σ ds) (hc : X.calm = true) (nd : X.N.Nodup) (h : DE X d e ds B S) (hS : ∀ t, S t → ∃ a b, t = .tuple [a, b]) (k : ∀ a b B1 σ1 H1, S (.tuple [a, b]) → Tr d B H B1 H1 → Sy X.K d B0 H0 B1 H1 σ1 ((ds.set i (.dat a)).set j (.dat b)) → D.nx σ1 H1)
    (hi : X.N[i]? = some x := by rfl) (hj : X.N[j]? = some x' := by rfl) (hx : Loc X.env.scope x := by first | exact Or.inl rfl | exact Or.inr rfl) (hx' : Loc X.env.scope x' := by first | exact Or.inl rfl | exact Or.inr rfl)
    (hf : X.fn x = true ∨ X.env.scope.names.lookup x = some .local := by first | exact .inl rfl | exact .inr rfl) (hf' : X.fn x' = true ∨ X.env.scope.names.lookup x' = some .local := by first | exact .inl rfl | exact .inr rfl)
    (hs : swapsWithSole [.Tuple [.Name x p, .Name x' p'] kt pt] e pos.line X.env = pure false := by rfl) (hw : swappedStores [.Tuple [.Name x p, .Name x' p'] kt pt] e X.env = pure none := by rfl) (h1 : (assignEach [.Tuple [.Name x p, .Name x' p'] kt pt] X.env).map (·.2) = [assign (.Tuple [.Name x p, .Name x' p'] kt pt) X.env] := by rfl)
    (hn : (assignEach [.Name x p, .Name x' p'] X.env).length = 2 := by rfl) (hst : (assignEach [.Name x p, .Name x' p'] X.env).findIdx? (·.1) = none := by rfl)
    (he1 : (assignEach [.Name x p, .Name x' p'] X.env).map (·.2) = assign (.Name x p) X.env :: (assignEach [.Name x' p'] X.env).map (·.2) := by rfl) (he2 : (assignEach [.Name x' p'] X.env).map (·.2) = assign (.Name x' p') X.env :: (assignEach [] X.env).map (·.2) := by rfl) :
    wS X (.Assign [.Tuple [.Name x p, .Name x' p'] kt pt] e pos) D σ H := by
  refine w_s (ps_asg pe_w (pg_tup (n := 2) hc (pgs_cons (pg_name nd hi hx hf) (pgs_cons (pg_name nd hj hx' hf') pgs_nil he2) he1) hn hst) hs hw h1) (h B σ H (Same.refl B) y.sl y.ok _ fun v t B1 H1 tr ok1 hd hs1 => ?_)
  obtain ⟨a, b, rfl⟩ := hS t hs1
  obtain ⟨q, us, rfl, hq, hdq⟩ := hd.tup_inv
  obtain ⟨v1, v2, rfl, d1, d2⟩ := hdq.two
  exact ⟨q, _, rfl, sqT_mono ok1.kh hq, rfl, _, _, rfl, _, _, rfl, rfl, k a b B1 _ H1 hs1 tr (((y.on tr ok1).put i (x := .dat a) ⟨v1, rfl, d1⟩).put j (x := .dat b) ⟨v2, rfl, d2⟩)⟩
end
end K20
set_option maxHeartbeats 2000000
/-! Exceptions of the program's own classes. -/
namespace K20
open PySem PySem.Spec L2
open PyProof.Rows hiding St
/-- an exception: its class, what it was made of -/
abbrev Er := Str × List PyData
def atomV : PyData → V
  | .int i => .int i
  | .str x => .str x
  | .bool b => .bl b
  | _ => .non
def xdOf (er : Er) : List (Str × V) := ((fieldsOf er.1).zip (er.2.map atomV)).reverse
/-- what an exception that leaves brings -/
def RetX (xc : Str → Addr) (d : Dr) (B H : Hp) (T : Er → Prop) (E : XK) : Prop := ∀ er dd B' H', Tr d B H B' H' → Ok d B' H' → T er → H' dd = some (.xd (xdOf er)) → E (.ref (xc er.1)) (some dd) H'
theorem RetX.after {xc : Str → Addr} {d : Dr} {B B1 H H1 : Hp} {T : Er → Prop} {E : XK} (r : RetX xc d B H T E) (t : Tr d B H B1 H1) : RetX xc d B1 H1 T E := fun er dd B' H' tr ok h e => r er dd B' H' (t.trans tr) ok h e
theorem RetX.imp {xc : Str → Addr} {d : Dr} {B H : Hp} {T T' : Er → Prop} {E : XK} (r : RetX xc d B H T E) (k : ∀ er, T' er → T er) : RetX xc d B H T' E := fun er dd B' H' tr ok h e => r er dd B' H' tr ok (k er h) e
/-- a promise about data, with exceptions -/
def FnX (xc : Str → Addr) (K : Fg) (F : List PyData → (PyData → Prop) → (Er → Prop) → Prop) : Sp := fun vs H Q E => ∃ B ts S T, Ok none B H ∧ DpAll K B vs ts ∧ F ts S T ∧ Ret K none B H S Q ∧ RetX xc none B H T E
/-- a function's promise: its value or its exception -/
def FnE (xc : Str → Addr) (K : Fg) (p : List PyData → Prop) (f : List PyData → Except Er PyData) : Sp := FnX xc K fun ts S T => p ts ∧ S = (fun t => f ts = .ok t) ∧ T = fun er => f ts = .error er
/-- an own exception class of the module's -/
structure XCl (K : Fg) (mg : Str → Option Value) (C : Addr) (x q : Str) (st : Stmt) : Prop where
  gC : mg x = some (.ref C)
  ox : OexC K C
  xf : XfC K C
  init : ∃ (fI : Addr) (fd : FuncData), PySem.W.findIn K (.ref C) "__init__" = some (some (.ref fI)) ∧ PySem.W.typeIn K (.ref fI) = some (.type "function") ∧ FunD K "__init__" q (defArgs st) (defBody st) (defScope st) [] [] fI fd
  no : ∀ f ∈ fieldsOf x, PySem.W.findIn K (.ref C) f = some none
/-- __init__ stores its arguments -/
def spI (C : Addr) (ns : List Str) : Sp := fun vs H Q _ => ∃ a ws, vs = .ref a :: ws ∧ ws.length = ns.length ∧ H a = some (exo a C none) ∧ ∀ dx, H dx = none → dx ≠ a → Q .non (upd (upd H dx (exd dx (ns.zip ws).reverse)) a (exo a C (some dx)))
section
variable {P : Program} {w : World} {K : Fg} {mg : Str → Option Value} {base : Heap}
theorem upd_twice {H : Hp} {a d : Addr} {o1 o2 o3 : HO} (h : d ≠ a) : upd (upd (upd H d o1) a o2) d o3 = upd (upd H d o3) a o2 := by
  funext b
  by_cases e1 : b = d
  · rw [e1, upd_same, upd_ne h, upd_same]
  · rw [upd_ne e1]
    by_cases e2 : b = a
    · rw [e2, upd_same, upd_same]
    · rw [upd_ne e2, upd_ne e2, upd_ne e1, upd_ne e1]
/-- an __init__ that may be called -/
structure Ini (P : Program) (w : World) (K : Fg) (mg : Str → Option Value) (base : Heap) (C : Addr) (x : Str) : Prop where
  gC : mg x = some (.ref C)
  ox : OexC K C
  ex : ∃ (fI : Addr) (fd : FuncData) (ps : List Str), PySem.W.findIn K (.ref C) "__init__" = some (some (.ref fI)) ∧ PySem.W.typeIn K (.ref fI) = some (.type "function") ∧ FnOk P w K mg base (L2.CX P w) 1 fI fd ps (spI C (fieldsOf x)) ∧ Binds K fd ps []
theorem ini1 {C : Addr} {x q f : Str} {st : Stmt} (X : XCl K mg C x q st) (hf : fieldsOf x = [f]) (S : FnScope ["self", f] ["self", f] (defScope st))
    (hb : ∀ (kV doc pm : Value) (an : Option Addr) (cdv ct : Value) (us : List Value), us.length = 2 → bindArgs (PySem.W.fnOf "__init__" q (defArgs st) (defBody st) (defScope st) .none kV doc pm an cdv ct) ⟨us, []⟩ = pure ((["self", f] : List Str).zip us))
    {p1 p2 p3 p4 : Pos} (body : defBody st = [.Assign [.Attribute (.Name "self" p1) f p2] (.Name f p3) p4]) (hd : (f == ("__debug__" : Str)) = false) (hcd : (f == ("__classdict__" : Str)) = false) (hv1 : (defScope st).names.lookup ("self" : Str) = some .local) (hv2 : (defScope st).names.lookup f = some .local)
    (hs : ∀ env : Env, swapsWith (.Name f p3) (some (.Attribute (.Name "self" p1) f p2)) p4.line env = pure false) : Ini P w K mg base C x := by
  obtain ⟨fI, fd, h1, h2, F⟩ := X.init
  refine ⟨X.gC, X.ox, fI, fd, ["self", f], h1, h2, F.ok S (fun vs H Q E h => ?_) (fun cdv A outer s H vs Q E hr h => ?_), F.bindsN hb⟩
  · obtain ⟨a, ws, rfl, hl, _⟩ := h
    rw [hf] at hl
    exact congrArg Nat.succ hl
  · obtain ⟨a, ws, rfl, hl, ha, hq⟩ := h
    rw [hf] at hl hq
    match ws, hl with
    | [w1], _ =>
      rw [body]
      refine ⟨_, pss_one (ps_ost (pe_var (i := 0) rfl (Or.inl hv1) (by decide) (by decide)) (pe_var (i := 1) rfl (Or.inl hv2) hd hcd) (hs _)), ?_⟩
      refine ⟨w1, rfl, .ref a, rfl, a, C, rfl, X.ox, X.no f (by rw [hf]; exact List.mem_cons_self ..), .inl ⟨ha, fun dx hdx hne => ?_⟩⟩
      exact hq dx hdx hne
/-- the making of X(..) -/
theorem mkO_gen {K : Fg} {d : Dr} {B0 H0 B H : Hp} {σ : St} {x : Str} {ts : List PyData} {T : Er → Prop} {E : XK} {xc : Str → Addr} {ta : TA} (tr0 : Tr d B0 H0 B H)
    (ha : ∀ Q, RetA K d B H (· = ts) Q → ta σ H Q) (hat : ts.all atom = true) (hl : ts.length = (fieldsOf x).length) (hT : T (x, ts)) (r : RetX xc d B0 H0 T E) : tMkO (xc x) (spI (xc x) (fieldsOf x)) [] ta σ H (fun cls d H' => E cls d H') := by
  refine ha _ ?_
  intro vs ts' B1 H1 tr ok hd e0
  rw [show ts' = ts from e0] at hd
  have hvs : ∀ {ts : List PyData} {vs : List V}, DpAll K B1 vs ts → ts.all atom = true → vs = ts.map atomV := by
    intro ts
    induction ts with
    | nil => intro vs h _; cases h; rfl
    | cons t ts ih =>
      intro vs h g
      cases h with
      | cons h1 h2 =>
        rw [List.all_cons, Bool.and_eq_true] at g
        rw [List.map_cons, ih h2 g.2]
        cases h1 with
        | non => rfl
        | bl b => rfl
        | int i => rfl
        | str x => rfl
        | lst _ _ => cases g.1
        | tup _ _ => cases g.1
  have e1 := hvs hd hat
  subst e1
  have hlen : (ts.map atomV).length = (fieldsOf x).length := by rw [List.length_map]; exact hl
  have hf3 : (fieldsOf x).length ≤ 3 := by
    unfold fieldsOf
    by_cases e : x = "BadView"
    · rw [if_pos e]; decide
    · rw [if_neg e]
      by_cases e2 : x = "BadText"
      · rw [if_pos e2]; decide
      · rw [if_neg e2]; decide
  refine ⟨by omega, fun a hna => ?_⟩
  rw [List.append_nil]
  refine ⟨a, ts.map atomV, rfl, hlen, upd_same, fun dx hdx hne => ⟨rfl, dx, ((fieldsOf x).zip (ts.map atomV)).reverse, upd_same, by rw [upd_ne hne, upd_same], ?_, ?_⟩⟩
  · rw [upd_ne hne] at hdx
    exact hdx
  · have hdx' : H1 dx = none := by rw [upd_ne hne] at hdx; exact hdx
    have eH : upd (del (upd (upd (upd H1 a (exo a (xc x) none)) dx (exd dx ((fieldsOf x).zip (ts.map atomV)).reverse)) a (exo a (xc x) (some dx))) a) dx (.xd ((fieldsOf x).zip (ts.map atomV)).reverse) = upd H1 dx (.xd ((fieldsOf x).zip (ts.map atomV)).reverse) := by
      funext b
      by_cases e1 : b = dx
      · rw [e1, upd_same, upd_same]
      · rw [upd_ne e1, upd_ne e1]
        by_cases e2 : b = a
        · rw [e2, del_same, hna]
        · rw [del_ne e2, upd_ne e2, upd_ne e1, upd_ne e2]
    show E (.ref (xc x)) (some dx) _
    rw [eH]
    exact r (x, ts) dx B1 _ (tr0.trans (tr.trans (.lay0 hdx'))) (ok.lay0 hdx') hT upd_same
end
theorem mkO_go {X : Cx} {d : Dr} {ds : List Sd} {B0 H0 B H : Hp} {σ : St} {es : List Expr} {x : Str} {ts : List PyData} {T : Er → Prop} {E : XK} {xc : Str → Addr} (y : Sy X.K d B0 H0 B H σ ds) (ha : DA X d es ds B (· = ts)) (hat : ts.all atom = true) (hl : ts.length = (fieldsOf x).length) (hT : T (x, ts)) (r : RetX xc d B0 H0 T E) :
    tMkO (xc x) (spI (xc x) (fieldsOf x)) [] (wA X es) σ H (fun cls d H' => E cls d H') := mkO_gen (K := X.K) y.tr (fun Q q => goA ha y.sl y.ok q) hat hl hT r
/-- raise X(..) -/
theorem sRaise {X : Cx} {d : Dr} {ds : List Sd} {B0 H0 B H : Hp} {σ : St} {D : Ends} {e : Expr} {es : List Expr} {pos p cp : Pos} {x : Str} {k : Nat} {ts : List PyData} {T : Er → Prop} {E : XK} {xc : Str → Addr} (I : Ini X.prog X.w X.K X.mg X.base (xc x) x) (hr : Room (k + 2) X.A) (hc : X.calm = true) (tk : Takes X (fun cls d _ H => E cls d H)) (y : Sy X.K d B0 H0 B H σ ds)
    (ha : DA X d (e :: es) ds B (· = ts)) (hat : ts.all atom = true) (hl : ts.length = (fieldsOf x).length) (hT : T (x, ts)) (r : RetX xc d B0 H0 T E) (hg : Gl X x := by rfl) (hdb : (x == ("__debug__" : Str)) = false := by decide) (he : starEach (e :: es) X.env = (false, eval e X.env) :: starEach es X.env := by rfl)
    (hpl : (backTo cp (starEach es X.env)).any (·.1) = false := by rfl) : wS X (.Raise (some (.Call (.Name x p) (e :: es) [] cp)) none pos) D σ H := by
  obtain ⟨fI, fd, ps, h1, h2, F, hb⟩ := I.ex
  exact w_s (ps_raise hc tk (pmk_oex (ds := []) (dvs := []) I.ox h1 h2 F (Room.mono hr (by omega)) hb .nil passL hg I.gC pa_w hdb he hpl)) (mkO_go y ha hat hl hT r)
end K20
set_option maxHeartbeats 2000000
/-! From here on; isinstance; calls that may raise. -/
namespace K20
open PySem PySem.Spec L2
open PyProof.Rows hiding St
/-- the expression, evaluated from here on -/
def LtE (X : Cx) (d : Dr) (e : Expr) (σ : St) (B H : Hp) (S : PyData → Prop) : Prop := ∀ B1 H1, Tr d B H B1 H1 → Ok d B1 H1 → ∀ Q : VK, Ret X.K d B1 H1 S Q → wE X e σ H1 Q
def LtA (X : Cx) (d : Dr) (es : List Expr) (σ : St) (B H : Hp) (S : List PyData → Prop) : Prop := ∀ B1 H1, Tr d B H B1 H1 → Ok d B1 H1 → ∀ Q : List V → Hp → Prop, RetA X.K d B1 H1 S Q → wA X es σ H1 Q
section
variable {X : Cx} {d : Dr} {ds : List Sd} {B0 H0 B H : Hp} {σ : St} {S Sa Sb S' : PyData → Prop} {D : Ends} {st : Stmt} {rest a b body : List Stmt} {e e1 e2 c iter tg elt : Expr} {es : List Expr} {pos pa pb pc p3 p p' pt : Pos} {x x' : Str}
theorem ltE (h : DE X d e ds B S) (sl : Sl X.K B σ ds) : LtE X d e σ B H S := fun B1 H1 tr ok Q r => h B1 σ H1 tr.kb (sl.up tr.kb) ok Q r
theorem LtE.now (h : LtE X d e σ B H S) (ok : Ok d B H) : AtE X d e σ B H S := fun Q r => h B H .refl ok Q r
theorem LtE.to (h : LtE X d e σ B H S) (k : ∀ t, S t → S' t) : LtE X d e σ B H S' := fun B1 H1 tr ok Q r => h B1 H1 tr ok Q fun v t B' H' tr' ok' hd hs => r v t B' H' tr' ok' hd (k t hs)
theorem AtE.to (h : AtE X d e σ B H S) (k : ∀ t, S t → S' t) : AtE X d e σ B H S' := fun Q r => h Q fun v t B' H' tr' ok' hd hs => r v t B' H' tr' ok' hd (k t hs)
theorem ltN : LtA X d [] σ B H (Args []) := fun B1 H1 tr ok Q r => w_a pa_nil (r [] [] B1 H1 .refl ok .nil rfl)
theorem ltC {l : List (PyData → Prop)} (h : LtE X d e σ B H Sa) (hr : LtA X d es σ B H (Args l)) (hs : starEach (e :: es) X.env = (false, eval e X.env) :: starEach es X.env := by rfl) : LtA X d (e :: es) σ B H (Args (Sa :: l)) := fun B1 H1 tr ok Q r =>
  w_a (pa_cons pe_w pa_w hs) (h B1 H1 tr ok _ fun v t B2 H2 tr2 ok2 hd2 hs2 => hr B2 H2 (tr.trans tr2) ok2 _ fun vs ts B3 H3 tr3 ok3 hd3 hs3 => r (v :: vs) (t :: ts) B3 H3 (tr2.trans tr3) ok3 (.cons (hd2.up tr3.kb) hd3) ⟨t, hs2, ts, hs3, rfl⟩)
theorem ltTup {l : List (PyData → Prop)} {j} (h : LtA X d es σ B H (Args l)) (hl : l.length ≤ 100000 := by exact Nat.le_of_ble_eq_true rfl) : LtE X d (.Tuple es j pos) σ B H (fun t => ∃ ts, t = .tuple ts ∧ Args l ts) := fun B1 H1 tr ok Q r =>
  w_e (pe_tup pa_w) (h B1 H1 tr ok _ fun vs ts B2 H2 tr2 ok2 hd hs => ⟨small_line (by rw [hd.len, hs.len]; exact hl), fun p hp => r (.ref p) (.tuple ts) _ _ (tr2.trans (Tr.lay ok2 hp)) (ok2.lay hp) (.tup (SqT.of upd_same) (hd.up (Tr.lay (o := .tup vs) ok2 hp).kb)) ⟨ts, rfl, hs⟩⟩)
/-- a call of a def that may raise; the exception leaves this def, too -/
theorem ltCall {F : List PyData → (PyData → Prop) → (Er → Prop) → Prop} {xc : Str → Addr} {E : XK} {T : Er → Prop} {l : List (PyData → Prop)} {k j : Nat} (c : Cal X.prog X.w X.K X.mg X.base k x (FnX xc X.K F) []) (hr : Room j X.A) (tk : Takes X (fun cls d _ H => E cls d H)) (ha : LtA X none (e :: es) σ B H (Args l)) (r0 : RetX xc none B H T E)
    (hF : ∀ ts, Args l ts → ∃ S' T', F ts S' T' ∧ (∀ t, S' t → S t) ∧ ∀ er, T' er → T er) (hk : k ≤ j := by decide) (hg : Gl X x := by rfl)
    (hdb : (x == ("__debug__" : Str)) = false := by decide) (he : starEach (e :: es) X.env = (false, eval e X.env) :: starEach es X.env := by rfl) (hpl : (backTo pos (starEach es X.env)).any (·.1) = false := by rfl) : LtE X none (.Call (.Name x p) (e :: es) [] pos) σ B H S := by
  obtain ⟨f, fd, ps, ds', F', hm, kp, b, dv⟩ := c.ex
  intro B1 H1 tr ok Q r
  refine w_e (pe_call F' (hr.mono hk) hg hm kp b dv (E := E) (fun pins σ H s e s' I c => tk e s' (XE.of_call I (fun _ _ _ h => h) c)) pa_w hdb he hpl) (ha B1 H1 tr ok _ fun vs ts B2 H2 tr2 ok2 hd hs => ?_)
  obtain ⟨S', T', h1, h2, h3⟩ := hF ts hs
  refine ⟨B2, ts, S', T', ok2, by rw [List.append_nil]; exact hd, h1, fun v t B' H' tr' ok' hd' hs' => r v t B' H' (tr2.trans tr') ok' hd' (h2 t hs'), ((r0.after (tr.trans tr2)).imp h3)⟩
theorem sRetA (y : Sy X.K d B0 H0 B H σ ds) (h : AtE X d e σ B H S) (k : Ret X.K d B0 H0 S D.rt) : wS X (.Return (some e) pos) D σ H := w_s (ps_ret pe_w) (h _ (y.ret k))
/-! ### isinstance -/
def tyD : PyData → String
  | .none => "NoneType"
  | .bool _ => "bool"
  | .int _ => "int"
  | .str _ => "str"
  | .list _ => "list"
  | .tuple _ => "tuple"
  | .dict _ => "dict"
theorem Dp.ty {K : Fg} {v : V} {t : PyData} (h : Dp K B v t) (e : Same B H) : TyX K H v (.type (tyD t)) := by
  cases h with
  | non => exact .base .non
  | bl b => exact .base (.bl b)
  | int i => exact .base (.int i)
  | str x => exact .base (.str x)
  | lst hs _ =>
    rcases hs with (h | ⟨o, h⟩) | ⟨o, _, _, h, c, _⟩
    · exact .base (.lst (e _ _ h))
    · exact .base (.frz (e _ _ h))
    · exact .kList h c
  | tup hs _ =>
    rcases hs with (h | ⟨o, h⟩) | ⟨o, _, _, h, c, _⟩
    · exact .base (.tup (e _ _ h))
    · exact .fTuple (e _ _ h)
    · exact .kTuple h c
/-- isinstance(e, T), T a built-in type by its name -/
theorem dIsi {t : PyData} {T : String} {r : Bool} (hm : X.mg "isinstance" = none) (hT : X.mg x = none) (hb : bootBuiltins x = some (.type T)) (ha : DE X d e ds B (· = t)) (hk : kitB (tyD t) T = some r) (hg : Gl X "isinstance" := by rfl) (hgT : Gl X x := by rfl) (hn : x ≠ "__name__" := by decide) (hdT : (x == ("__debug__" : Str)) = false := by decide)
    (he : starEach [e, .Name x pa] X.env = (false, eval e X.env) :: starEach [.Name x pa] X.env := by rfl) (he2 : starEach [.Name x pa] X.env = (false, eval (.Name x pa) X.env) :: starEach [] X.env := by rfl) (hpl : (backTo pos (starEach [.Name x pa] X.env)).any (·.1) = false := by rfl) :
    DE X d (.Call (.Name "isinstance" p) [e, .Name x pa] [] pos) ds B (· = .bool r) :=
  de_of (pe_callB call_isi hg hm boot_isinstance (pa_cons pe_w (pa_cons (pe_bltn (v := .ty T) hgT hT hb rfl hn hdT) pa_nil he2) he) (by decide) (by decide) he hpl) fun B1 σ H e0 sl ok Q r' => ha B1 σ H e0 sl ok _ fun w t1 B2 H2 tr2 ok2 hd2 e1 => by
    have e1' : t1 = t := e1
    rw [e1'] at hd2
    exact ⟨w, .ty T, .type (tyD t), .type T, r, rfl, .ty T, Dp.ty hd2 ok2.kh, kit_ty hk, r' (.bl r) (.bool r) B2 H2 tr2 ok2 (.bl r) rfl⟩
/-- isinstance(e, (T1, T2)) -/
theorem dIsi2 {t : PyData} {T1 T2 : String} {r1 r2 : Bool} {pT : Pos} {kT : Nat} {x1 x2 : Str} {p1 p2 : Pos} (hm : X.mg "isinstance" = none) (hT1 : X.mg x1 = none) (hb1 : bootBuiltins x1 = some (.type T1)) (hT2 : X.mg x2 = none) (hb2 : bootBuiltins x2 = some (.type T2)) (ha : DE X d e ds B (· = t)) (hk1 : kitB (tyD t) T1 = some r1) (hk2 : kitB (tyD t) T2 = some r2)
    (hg : Gl X "isinstance" := by rfl) (hg1 : Gl X x1 := by rfl) (hg2 : Gl X x2 := by rfl) (hn1 : x1 ≠ "__name__" := by decide) (hn2 : x2 ≠ "__name__" := by decide) (hd1 : (x1 == ("__debug__" : Str)) = false := by decide) (hd2 : (x2 == ("__debug__" : Str)) = false := by decide)
    (he : starEach [e, .Tuple [.Name x1 p1, .Name x2 p2] kT pT] X.env = (false, eval e X.env) :: starEach [.Tuple [.Name x1 p1, .Name x2 p2] kT pT] X.env := by rfl) (he2 : starEach [.Tuple [.Name x1 p1, .Name x2 p2] kT pT] X.env = (false, eval (.Tuple [.Name x1 p1, .Name x2 p2] kT pT) X.env) :: starEach [] X.env := by rfl)
    (he3 : starEach [.Name x1 p1, .Name x2 p2] X.env = (false, eval (.Name x1 p1) X.env) :: starEach [.Name x2 p2] X.env := by rfl) (he4 : starEach [.Name x2 p2] X.env = (false, eval (.Name x2 p2) X.env) :: starEach [] X.env := by rfl) (hpl : (backTo pos (starEach [.Tuple [.Name x1 p1, .Name x2 p2] kT pT] X.env)).any (·.1) = false := by rfl) :
    DE X d (.Call (.Name "isinstance" p) [e, .Tuple [.Name x1 p1, .Name x2 p2] kT pT] [] pos) ds B (· = .bool (r1 || r2)) :=
  de_of (pe_callB call_isiT hg hm boot_isinstance (pa_cons pe_w (pa_cons (pe_tup (pa_cons (pe_bltn (v := .ty T1) hg1 hT1 hb1 rfl hn1 hd1) (pa_cons (pe_bltn (v := .ty T2) hg2 hT2 hb2 rfl hn2 hd2) pa_nil he4) he3)) pa_nil he2) he) (by decide) (by decide) he hpl) fun B1 σ H e0 sl ok Q r' => ha B1 σ H e0 sl ok _ fun w t1 B2 H2 tr2 ok2 hd2 e1 => by
    have e1' : t1 = t := e1
    rw [e1'] at hd2
    refine ⟨show 2 ≤ sizeLine by decide, fun q hq => ?_⟩
    have ok3 := ok2.lay0 (o := .tup [.ty T1, .ty T2]) hq
    refine ⟨w, q, [.ty T1, .ty T2], .type (tyD t), [.type T1, .type T2], r1 || r2, rfl, upd_same, .cons (.ty _) (.cons (.ty _) .nil), Dp.ty hd2 ok3.kh, ?_, r' (.bl _) (.bool (r1 || r2)) B2 _ (tr2.trans (.lay0 hq)) ok3 (.bl _) rfl⟩
    refine kitAny_cons (kit_ty hk1) (fun h => ?_) (fun h => by rw [h]; rfl)
    rw [h, Bool.false_or]
    exact kitAny_cons (kit_ty hk2) (fun h => by rw [h]; exact kitAny_nil) (fun h => h)
/-- is it one of two words -/
def isW (a b : Str) : PyData → Bool
  | .str x => decide (x = a) || decide (x = b)
  | _ => false
theorem dNotIn2 {t : PyData} {a b : Str} {kT : Nat} {pT p1 p2 : Pos} {k1 k2} (ha : DE X d e ds B (· = t)) (hat : atom t = true) (he3 : starEach [.Constant (.str a) k1 p1, .Constant (.str b) k2 p2] X.env = (false, eval (.Constant (.str a) k1 p1) X.env) :: starEach [.Constant (.str b) k2 p2] X.env := by rfl)
    (he4 : starEach [.Constant (.str b) k2 p2] X.env = (false, eval (.Constant (.str b) k2 p2) X.env) :: starEach [] X.env := by rfl) (hm : behindInMarks .NotIn (.Tuple [.Constant (.str a) k1 p1, .Constant (.str b) k2 p2] kT pT) = false := by rfl) :
    DT X d (.Compare e [.NotIn] [.Tuple [.Constant (.str a) k1 p1, .Constant (.str b) k2 p2] kT pT] pos) ds B (· = !isW a b t) :=
  cmpT op_notIn_seq ha (dTup (aC dS (aC dS aN he4) he3)) (fun B1 H x y ta tb e0 ok g1 g2 h1 h2 Q r => by
    subst h1 h2
    obtain ⟨q, vs, rfl, hs, hv⟩ := g2.tup_inv
    obtain ⟨v1, v2, rfl, d1, d2⟩ := hv.two
    obtain rfl := d1.str_inv
    obtain rfl := d2.str_inv
    refine ⟨q, _, rfl, .inr (sqT_mono ok.kh hs), ?_, rfl, r _ _ B1 H .refl ok ?_ rfl⟩
    · cases g1 with
      | lst _ _ => cases hat
      | tup _ _ => cases hat
      | _ => rfl
    · have e : inV x [.str a, .str b] = isW a b ta := by
        cases g1 with
        | lst _ _ => cases hat
        | tup _ _ => cases hat
        | str z =>
          simp only [inV, List.any_cons, List.any_nil, Bool.or_false, eqV, isW]
          have c1 : decide (a = z) = decide (z = a) := decide_eq_decide.mpr eq_comm
          have c2 : decide (b = z) = decide (z = b) := decide_eq_decide.mpr eq_comm
          rw [← c1, ← c2]
          by_cases ea : a = z <;> by_cases eb : b = z <;> simp [ea, eb]
        | _ => rfl
      show Dp _ _ (.bl (!inV x _)) _
      rw [e]
      exact .bl _) hm
end
end K20
set_option maxHeartbeats 2000000
/-! Defs whose exception is caught where another is raised. -/
namespace K20
open PySem PySem.Spec L2
open PyProof.Rows hiding St
/-- as Cal, the exception's context told -/
structure CalN (P : Program) (w : World) (K : Fg) (mg : Str → Option Value) (base : Heap) (k : Nat) (x : Str) (sp : Sp) : Prop where
  ex : ∃ (f : Addr) (fd : FuncData) (ps : List Str), FnOk P w K mg base (L2N.CX P w) k f fd ps sp ∧ mg x = some (.ref f) ∧ PySem.W.keepIn K (.ref f) = true ∧ Binds K fd ps []
section
variable {P : Program} {w : World} {K : Fg} {mg : Str → Option Value} {base : Heap}
theorem mkN {x : Str} {st : Stmt} {N ps : List Str} {k : Nat} {sp : Sp} (F : Df K mg x st []) (S : FnScope N ps (defScope st))
    (hb : ∀ (kV doc pm : Value) (an : Option Addr) (cdv ct : Value) (us : List Value), us.length = ps.length → bindArgs (PySem.W.fnOf x x (defArgs st) (defBody st) (defScope st) .none kV doc pm an cdv ct) ⟨us, []⟩ = pure (ps.zip us))
    (len : ∀ vs H Q E, sp vs H Q E → vs.length = ps.length)
    (hbody : ∀ (f : Addr) (cdv : Value) (A : Around) (outer : List Env) (s : Shared) (H : Hp) (vs : List V) (Q : VK) (E : XK), Room k (A.deeper (envOfC x (defScope st) s.heap.objs.size f cdv)) → sp vs H Q E → L2N.Takes (cxOf (L2N.CX P w) P w K mg base N x (defScope st) f cdv A outer s H E) (fun cls d _ H => E cls d H) →
      wSs (cxOf (L2N.CX P w) P w K mg base N x (defScope st) f cdv A outer s H E) (defBody st) { nx := fun _ H' => Q .non H', rt := Q } (L2.start N vs) H) : CalN P w K mg base (k + 1) x sp := by
  obtain ⟨f, fd, F, hm⟩ := F.ex
  exact ⟨f, fd, ps, F.ok S len fun cdv A outer s H vs Q E hr h => ⟨_, pss_w, hbody f cdv A outer s H vs Q E hr h (L2N.takes_of rfl rfl rfl rfl)⟩, hm, F.kp, F.bindsN hb⟩
end
/-- X(e, ..) of such a class, its context told -/
theorem pmkN {X : Cx} {e : Expr} {es : List Expr} {ta : TA} {p pos : Pos} {CX : CXT} {x : Str} {C fI : Addr} {k : Nat} {fd : FuncData} {ps : List Str} {sp : Sp} (T : OexC X.K C) (iC : PySem.W.findIn X.K (.ref C) "__init__" = some (some (.ref fI))) (tI : PySem.W.typeIn X.K (.ref fI) = some (.type "function"))
    (F1 : FnOk X.prog X.w X.K X.mg X.base CX k fI fd ps sp) (hr : Room (k + 1) X.A) (hb : Binds X.K fd ps []) (hx : Passes CX X (fun _ _ _ => False)) (hg : Gl X x) (hm : X.mg x = some (.ref C)) (ha : PA X (e :: es) ta)
    (hdb : (x == ("__debug__" : Str)) = false) (he : starEach (e :: es) X.env = (false, eval e X.env) :: starEach es X.env) (hpl : (backTo pos (starEach es X.env)).any (·.1) = false) : L2N.PMk X (.Call (.Name x p) (e :: es) [] pos) (tMkO C sp [] ta) := fun pins s σ H Q I h => by
  obtain ⟨nm, qn, NN, bs, bm, sn, sub, ab, col, dd, k0, k1, k2, k3, k5, hC, hbm⟩ := T.cls
  refine wpAny_Call_Name_kw (ld_glob I hg hm (PySem.W.callWith_K (h₀ := X.base) I.ok.mod.kin T.kC (thn (ha.run pos pins s σ H _ I h) fun us s1 ⟨vs, H1, I1, r1, hz, q1⟩ => ⟨I1.kIn, ?_⟩) he hpl) hdb)
  obtain ⟨hp, g, dr, tk, os⟩ := s1
  show wpAny _ _ (call (.ref C) us) _ _ _
  have up : hp.objs.size ≤ hp.objs.size + 1 := Nat.le_add_right _ 1
  have free : H1 (hp.objs.size + 1) = none := I1.hok.fresh up
  have goal1 := q1 _ free
  rw [List.append_nil] at goal1
  have keep : ∀ b o, hp.get? b = some o → ((hp.push (PySem.W.kdv_tup us)).push (PySem.HandSPX.excO C hp.objs.size)).get? b = some o := fun b o z => (Heap.get?_push_of_some _ (Heap.get?_push_of_some _ z) : _)
  have there : ((hp.push (PySem.W.kdv_tup us)).push (PySem.HandSPX.excO C hp.objs.size)).get? (hp.objs.size + 1) = some (PySem.HandSPX.excO C hp.objs.size) := (by heap_get)
  have J2 := I1.laid (t' := tk) (a := hp.objs.size + 1) (o := exo (hp.objs.size + 1) C none) (h' := (hp.push (PySem.W.kdv_tup us)).push (PySem.HandSPX.excO C hp.objs.size)) keep up (exo_ok there)
  have rel : Vals (V.ref (hp.objs.size + 1) :: vs) (Value.ref (hp.objs.size + 1) :: us) := Paired.cons rfl r1
  have hl : (Value.ref (hp.objs.size + 1) :: us).length = ps.length := (rel.length.symm).trans (F1.len _ _ _ _ goal1)
  have few : us.length ≤ sizeLine := Nat.le_trans (show us.length ≤ 1000 by rw [← Paired.length r1]; exact hz) (by decide)
  have bd := hb _ (Value.ref (hp.objs.size + 1) :: us) J2.kIn (by rw [List.append_nil]; exact hl)
  rw [List.append_nil] at bd
  refine wpAny_call (PySem.HandSPX.call_own F.excBase_ValueError (fun Y => PySem.HandSPX.refsVE_contains Y bm hbm) (I1.kIn _ _ hC) (PySem.W.looks_findIn I1.kIn iC) (fun self => PySem.W.bind_fn I1.kIn self tI) few (codeAny_mono (F1.run _ X.stack _ _ ⟨Value.ref (hp.objs.size + 1) :: us, []⟩ _ _ _ (fun _ _ _ => False) (hr.make C us []) (J2.env0.make C us []) bd rel goal1) fun r s' hq' => ?_))
  rcases r with er | fl
  · exact hx pins σ _ _ er s' J2 hq'
  · cases fl with
    | ret u =>
      obtain ⟨v, H2, os2, bare2, un2, hok2, rv, ev, d, fs, ea, ed, hd1, q2⟩ := hq'
      subst ev
      obtain ⟨h2, g2, d2, t2, os'⟩ := s'
      obtain ⟨t0, G, J, kG, ge, hoe, na⟩ := mk_end0 (d2 := d2) (t2 := t2) I1 up keep un2 hok2 os2 bare2 ea ed hd1
      exact ⟨rv, hp.objs.size + 1, _, _, ⟨G, g2, d2, t2, os'⟩, _, .ref C, some d, rfl, J, kG, ge, hoe, ⟨rfl, rfl, fun vs hv => by cases hv; rfl⟩, rfl, rfl, na, rfl, bare2, raises_own T.exC T.tyC, q2⟩
    | next => exact False.elim hq'
    | brk => exact False.elim hq'
    | cont => exact False.elim hq'
/-- raise X(..), its context told -/
theorem sRaiseN {X : Cx} {d : Dr} {ds : List Sd} {B0 H0 B H : Hp} {σ : St} {D : Ends} {e : Expr} {es : List Expr} {pos p cp : Pos} {x : Str} {k : Nat} {ts : List PyData} {T : Er → Prop} {E : XK} {xc : Str → Addr} (I : Ini X.prog X.w X.K X.mg X.base (xc x) x) (hr : Room (k + 2) X.A) (hc : X.calm = true) (tk : L2N.Takes X (fun cls d _ H => E cls d H)) (y : Sy X.K d B0 H0 B H σ ds)
    (ha : DA X d (e :: es) ds B (· = ts)) (hat : ts.all atom = true) (hl : ts.length = (fieldsOf x).length) (hT : T (x, ts)) (r : RetX xc d B0 H0 T E) (hg : Gl X x := by rfl) (hdb : (x == ("__debug__" : Str)) = false := by decide) (he : starEach (e :: es) X.env = (false, eval e X.env) :: starEach es X.env := by rfl)
    (hpl : (backTo cp (starEach es X.env)).any (·.1) = false := by rfl) : wS X (.Raise (some (.Call (.Name x p) (e :: es) [] cp)) none pos) D σ H := by
  obtain ⟨fI, fd, ps, h1, h2, F, hb⟩ := I.ex
  exact w_s (L2N.ps_raise hc tk (pmkN I.ox h1 h2 F (Room.mono hr (by omega)) hb passL hg I.gC pa_w hdb he hpl)) (mkO_go y ha hat hl hT r)
/-- a, b = a list or a tuple of that length -/
def gSeq (K : Fg) (n : Nat) (t : TGs) : TG := fun v σ H Q => gTup K n t v σ H Q ∨ gLst K n t v σ H Q
theorem pg_seq {X : Cx} {pos : Pos} {es : List Expr} {k : Nat} {t : TGs} {n : Nat} (hc : X.calm = true) (h : PGs X es t) (hn : (assignEach es X.env).length = n := by rfl) (hst : (assignEach es X.env).findIdx? (·.1) = none := by rfl) : PG X (.Tuple es k pos) (gSeq X.K n t) :=
  ⟨fun pins s σ H v u Q I r hw => hw.elim (fun q => (pg_tup hc h hn hst).run pins s σ H v u Q I r q) fun q => (pg_lst hc h hn hst).run pins s σ H v u Q I r q⟩
/-- two items of a couple -/
theorem gSeq2 {K : Fg} {B H : Hp} {σ : St} {v : V} {x a b : PyData} {i j : Nat} {Q : St → Hp → Prop} (e : Same B H) (h : Dp K B v x) (hx : seqOf x = some [a, b]) (q : ∀ v1 v2, Dp K B v1 a → Dp K B v2 b → Q ((σ.set i (some v1)).set j (some v2)) H) : gSeq K 2 (gCons (gName i) (gCons (gName j) gNil)) v σ H Q := by
  obtain ⟨ad, vs, rfl, hs, hv⟩ := Dp.seq h hx
  obtain ⟨v1, v2, rfl, d1, d2⟩ := hv.two
  rcases hs with hs | hs
  · exact .inr ⟨ad, _, rfl, e.seq hs, rfl, _, _, rfl, _, _, rfl, rfl, q v1 v2 d1 d2⟩
  · exact .inl ⟨ad, _, rfl, sqT_mono e hs, rfl, _, _, rfl, _, _, rfl, rfl, q v1 v2 d1 d2⟩
end K20
set_option maxHeartbeats 2000000
/-! An __init__ of three fields, called in an except suite, too. -/
namespace K20
open PySem PySem.Spec L2
open PyProof.Rows hiding St
abbrev nV3 : List Str := ["self", "what", "level", "node"]
/-- the same within an except suite -/
structure IniH (P : Program) (w : World) (K : Fg) (mg : Str → Option Value) (base : Heap) (C : Addr) (x : Str) : Prop where
  gC : mg x = some (.ref C)
  ox : OexC K C
  ex : ∃ (fI : Addr) (fd : FuncData) (ps : List Str), PySem.W.findIn K (.ref C) "__init__" = some (some (.ref fI)) ∧ PySem.W.typeIn K (.ref fI) = some (.type "function") ∧ L2H.FnH P w K mg base (L2.CX P w) 1 fI fd ps (spI C (fieldsOf x)) ∧ Binds K fd ps []
section
variable {P : Program} {w : World} {K : Fg} {mg : Str → Option Value} {base : Heap}
theorem body3 {X : Cx} {C : Addr} {p1 p2 p3 p4 q1 q2 q3 q4 r1 r2 r3 r4 : Pos} (hN : X.N = nV3) (hv : ∀ n ∈ nV3, X.env.scope.names.lookup n = some .local) (T : OexC X.K C) (hno : ∀ f ∈ (["what", "level", "node"] : List Str), PySem.W.findIn X.K (.ref C) f = some none)
    (s1 : swapsWith (.Name "what" p3) (some (.Attribute (.Name "self" p1) "what" p2)) p4.line X.env = pure false) (s2 : swapsWith (.Name "level" q3) (some (.Attribute (.Name "self" q1) "level" q2)) q4.line X.env = pure false) (s3 : swapsWith (.Name "node" r3) (some (.Attribute (.Name "self" r1) "node" r2)) r4.line X.env = pure false)
    {a : Addr} {v1 v2 v3 : V} {H : Hp} {D : Ends} (ha : H a = some (exo a C none)) (hD : ∀ dx, H dx = none → dx ≠ a → D.nx (L2.start nV3 [.ref a, v1, v2, v3]) (upd (upd H dx (exd dx [("node", v3), ("level", v2), ("what", v1)])) a (exo a C (some dx)))) :
    wSs X [.Assign [.Attribute (.Name "self" p1) "what" p2] (.Name "what" p3) p4, .Assign [.Attribute (.Name "self" q1) "level" q2] (.Name "level" q3) q4, .Assign [.Attribute (.Name "self" r1) "node" r2] (.Name "node" r3) r4] D (L2.start nV3 [.ref a, v1, v2, v3]) H := by
  have vs : Vis X.env.scope "self" := .inl (hv _ (by decide))
  have at_ : ∀ (i : Nat) (n : Str), nV3[i]? = some n → X.N[i]? = some n := fun i n h => by rw [hN]; exact h
  have twice : ∀ {H : Hp} {d : Addr} {o1 o2 o3 o4 : HO}, d ≠ a → upd (upd (upd (upd H d o1) a o2) d o3) d o4 = upd (upd H d o4) a o2 := fun {H d o1 o2 o3 o4} h => by
    rw [upd_twice h]
    rw [upd_twice h]
  refine ssC (w_s (ps_ost (pe_var (at_ 0 _ rfl) vs (by decide) (by decide)) (pe_var (at_ 1 _ rfl) (.inl (hv _ (by decide))) (by decide) (by decide)) s1) ?_)
  refine ⟨v1, rfl, .ref a, rfl, a, C, rfl, T, hno _ (by decide), .inl ⟨ha, fun dx hdx hne => ?_⟩⟩
  refine ssC (w_s (ps_ost (pe_var (at_ 0 _ rfl) vs (by decide) (by decide)) (pe_var (at_ 2 _ rfl) (.inl (hv _ (by decide))) (by decide) (by decide)) s2) ?_)
  refine ⟨v2, rfl, .ref a, rfl, a, C, rfl, T, hno _ (by decide), .inr ⟨dx, [("what", v1)], upd_same, by rw [upd_ne hne, upd_same], by show 1 ≤ 900; decide, ?_⟩⟩
  refine ss1 (w_s (ps_ost (pe_var (at_ 0 _ rfl) vs (by decide) (by decide)) (pe_var (at_ 3 _ rfl) (.inl (hv _ (by decide))) (by decide) (by decide)) s3) ?_)
  refine ⟨v3, rfl, .ref a, rfl, a, C, rfl, T, hno _ (by decide), .inr ⟨dx, [("level", v2), ("what", v1)], by rw [upd_ne (Ne.symm hne), upd_same], upd_same, by show 2 ≤ 900; decide, ?_⟩⟩
  rw [twice hne]
  exact hD dx hdx hne
theorem ini3 {C : Addr} {q : Str} {st : Stmt} (X : XCl K mg C "BadView" q st) (S : FnScope nV3 nV3 (defScope st)) (hv : ∀ n ∈ nV3, (defScope st).names.lookup n = some .local)
    (hb : ∀ (kV doc pm : Value) (an : Option Addr) (cdv ct : Value) (us : List Value), us.length = 4 → bindArgs (PySem.W.fnOf "__init__" q (defArgs st) (defBody st) (defScope st) .none kV doc pm an cdv ct) ⟨us, []⟩ = pure (nV3.zip us))
    {p1 p2 p3 p4 q1 q2 q3 q4 r1 r2 r3 r4 : Pos} (body : defBody st = [.Assign [.Attribute (.Name "self" p1) "what" p2] (.Name "what" p3) p4, .Assign [.Attribute (.Name "self" q1) "level" q2] (.Name "level" q3) q4, .Assign [.Attribute (.Name "self" r1) "node" r2] (.Name "node" r3) r4])
    (s1 : ∀ env : Env, swapsWith (.Name "what" p3) (some (.Attribute (.Name "self" p1) "what" p2)) p4.line env = pure false) (s2 : ∀ env : Env, swapsWith (.Name "level" q3) (some (.Attribute (.Name "self" q1) "level" q2)) q4.line env = pure false) (s3 : ∀ env : Env, swapsWith (.Name "node" r3) (some (.Attribute (.Name "self" r1) "node" r2)) r4.line env = pure false) :
    Ini P w K mg base C "BadView" ∧ IniH P w K mg base C "BadView" := by
  obtain ⟨fI, fd, h1, h2, F⟩ := X.init
  have hf : fieldsOf "BadView" = (["what", "level", "node"] : List Str) := rfl
  have len : ∀ vs H Q E, spI C (fieldsOf "BadView") vs H Q E → vs.length = nV3.length := fun vs H Q E h => by
    obtain ⟨a, ws, rfl, hl, _⟩ := h
    exact congrArg Nat.succ hl
  have go : ∀ (Y : Cx), Y.N = nV3 → Y.K = K → Y.env.scope = defScope st → ∀ vs H Q E, spI C (fieldsOf "BadView") vs H Q E → wSs Y (defBody st) { nx := fun _ H' => Q .non H', rt := Q } (L2.start nV3 vs) H := fun Y hN hK hs vs H Q E h => by
    obtain ⟨a, ws, rfl, hl, ha, hq⟩ := h
    match ws, hl with
    | [v1, v2, v3], _ =>
      rw [body]
      exact body3 hN (by rw [hs]; exact hv) (by rw [hK]; exact X.ox) (by rw [hK]; exact X.no) (s1 _) (s2 _) (s3 _) ha hq
  refine ⟨⟨X.gC, X.ox, fI, fd, nV3, h1, h2, F.ok S len (fun cdv A outer s H vs Q E hr h => ⟨_, pss_w, go _ rfl rfl rfl vs H Q E h⟩), F.bindsN hb⟩, ⟨X.gC, X.ox, fI, fd, nV3, h1, h2, ?_, F.bindsN hb⟩⟩
  obtain ⟨oc, od, dV, kV, doc, pm, an, cdv, ct, osl, rfl, lk, hcd, hD, hK⟩ := F.ex
  exact L2H.fn_ofH lk hcd S len fun A outer s H vs Q E p hot hr h => ⟨_, pss_w, go _ rfl rfl rfl vs H Q E h⟩
end
end K20
set_option maxHeartbeats 4000000
/-! enumerate over a tuple. -/
namespace PySem
open Sem (wp)
theorem k20_enum_new {v : Value} {ob : Obj} {Hs : Heap → Prop} (B : Begins v ob Hs) :
    Meets (Builtin.«enumerate.__new__» ⟨[.type "enumerate", v], []⟩) (fun _ R s => Hs s.heap ∧ R (.ok (.ret (.ref (s.heap.push ob).objs.size))) { s with heap := (s.heap.push ob).push { cls := .type "enumerate", data := .fields #[.none, .bool false, .ref s.heap.objs.size, rawInt 0, .none, .none] } }) :=
  .of_wp fun prog w A R s hh => by
    obtain ⟨hp, g, d, tk, os⟩ := s
    obtain ⟨st0, fin⟩ := hh
    have isEn := sub_enumerate
    have begin_ : ∀ {A' : Around} {E Q : Value → Shared → Prop}, Q (.ref hp.objs.size) ⟨hp.push ob, g, d, tk, os⟩ → wpAny (model prog w) A' (pyIter v) Q E ⟨hp, g, d, tk, os⟩ := fun q => B.iter prog w _ _ ⟨hp, g, d, tk, os⟩ _ st0 q
    wp_walk using begin_
    refine wpAny_stack_any fun st => wpAny_pure ?_
    split
    · rename_i c _ _ _ _ _
      cases (c == Value.type "enumerate") <;> (wp_walk using begin_; exact ⟨_, rfl, fin⟩)
    · wp_walk using begin_
      exact ⟨_, rfl, fin⟩
theorem k20_enum_call {prog : Program} {w : World} {A : Around} {E : Value → Shared → Prop} {s : Shared} {v : Value} {ob : Obj} {Hs : Heap → Prop} {Q : Value → Shared → Prop} (B : Begins v ob Hs) (h1 : Hs s.heap)
    (h : ∀ h', IsEnum h' (s.heap.objs.size + 1) s.heap.objs.size 0 .none → h'.get? s.heap.objs.size = some ob → (∀ b o, s.heap.get? b = some o → h'.get? b = some o) → Q (.ref (s.heap.objs.size + 1)) { s with heap := h' }) :
    wpAny (model prog w) A (call (.type "enumerate") [v]) Q E s := by
  refine callType_new F.called_enumerate (by decide) (F.typeCall_enumerate_1 _) (F.newCall_enumerate_1 _) (fun obj => F.args_object_init_2 obj _) F.entry_enumerate_new (k20_enum_new B) ⟨h1, ?_⟩
  have z1 : (s.heap.push ob).objs.size = s.heap.objs.size + 1 := Heap.size_push ..
  have isE : IsEnum ((s.heap.push ob).push { cls := .type "enumerate", data := .fields #[.none, .bool false, .ref s.heap.objs.size, rawInt 0, .none, .none] }) (s.heap.objs.size + 1) s.heap.objs.size 0 .none := by
    have q := Heap.get?_push_size (s.heap.push ob) (o := { cls := .type "enumerate", data := .fields #[.none, .bool false, .ref s.heap.objs.size, rawInt 0, .none, .none] }) rfl
    rw [z1] at q
    exact q
  show _ ∧ _
  rw [z1]
  exact ⟨⟨_, isE, rfl⟩, h _ isE (Heap.get?_push_of_some _ (Heap.get?_push_size _ B.free)) fun b o x => Heap.get?_push_of_some _ (Heap.get?_push_of_some _ x)⟩
end PySem
namespace K20
open PySem PySem.Spec L2
open PyProof.Rows hiding St
/-- the tuple at a, each item in a new pair -/
def Itu (K : Fg) (a : Addr) : It :=
  ⟨fun i H => ∃ (xs : List V) (x : V), SqT K H a xs ∧ xs[i]? = some x, fun i H v H' => ∃ T x, v = .ref T ∧ H T = none ∧ H' = upd H T (.tup [.int (i : Nat), x]) ∧ ∀ xs, SqT K H a xs → xs[i]? = some x, fun i H => ∃ xs : List V, SqT K H a xs ∧ xs.length ≤ i⟩
theorem turn_enumT {P : Program} {w : World} {K : Fg} {elts : List Expr} {kk : Nat} {tpos : Pos} (a e it : Addr) (ne : a ≠ it) (nae : a ≠ e) :
    Turn P w K (.Tuple elts kk tpos) (Itu K a) [e, it] e (fun i h => (∃ old, IsEnum h e it ((i : Nat) : Int) old) ∧ h.IsTupleIter it a i ∧ e ≠ it) where
  mem := List.mem_cons_self ..
  obj := fun i h st b hb => by
    obtain ⟨⟨old, he⟩, ⟨o, ho, hc, hd⟩, _⟩ := st
    rcases (show b = e ∨ b = it by simpa using hb) with rfl | rfl
    · exact ⟨_, he, fun v q => nomatch q⟩
    · exact ⟨o, ho, fun v q => by rw [hd] at q; cases q⟩
  keep := fun i h h' st k => ⟨st.1.imp fun old he => k e (List.mem_cons_self ..) _ he, st.2.1.at fun o q => k it (List.mem_cons_of_mem _ (List.mem_singleton.mpr rfl)) o q, st.2.2⟩
  item := by
    intro X hP hw hK hc i pins s σ H E I hf st hg
    subst hP hw hK
    obtain ⟨⟨old, he⟩, hit, hne⟩ := st
    obtain ⟨xs, x, hq, hx⟩ := hg
    obtain ⟨its, rv, p, hz⟩ := I.tuple hq
    obtain ⟨u, hu, ru⟩ := rv.get hx
    have hel : e < s.heap.objs.size := Heap.lt_size he
    have hil : it < s.heap.objs.size := by obtain ⟨_, q, _⟩ := hit; exact Heap.lt_size q
    have D := Draws.tuple (prog := X.prog) (w := X.w) (A := X.A.in1) (I.ok.hd hc) it a ne its.toArray
    have hi : i < its.toArray.size := by
      have := (List.getElem?_eq_some_iff.mp hu).1
      simpa using this
    have nef : e ∉ [it, a] := fun z => by
      rcases (show e = it ∨ e = a by simpa using z) with z | z
      · exact hne z
      · exact nae z.symm
    refine wpAny_pyNext_enum_itemD D he ⟨hit, p⟩ hi hne nef fun x' h' tk hx' ho hst' hT hsz hk => ?_
    have ex : x' = u := by
      have h1 : its.toArray[i]? = some u := by simpa using hu
      exact Option.some.inj (hx'.symm.trans h1)
    subst ex
    refine ⟨_, rfl, wpAny_letOwnedTupleGo_enum (s := { s with heap := h', toks := tk + 1 }) ho fun h'' he' sb => ?_⟩
    have hT2 : h''.get? s.heap.objs.size = some { cls := .type "tuple", data := .seq #[.int i tk, x'] } := (sb.2 _ (Nat.ne_of_gt hel)).trans hT
    have new : ObjOk X.prog X.w (upd H s.heap.objs.size (.tup [.int (i : Nat), x])) h'' s.heap.objs.size (.tup [.int (i : Nat), x]) := ⟨show 2 ≤ sizeLine by decide, [.int i tk, x'], .cons ⟨_, rfl⟩ (.cons ru .nil), ⟨_, hT2, rfl, _, rfl⟩⟩
    have I1 : Inv X pins σ (upd H s.heap.objs.size (.tup [.int (i : Nat), x])) { s with heap := h'', toks := tk + 1 } :=
      I.turnedNew (ch := [e, it]) (fun b ob hb q => (sb.2 b fun z => hb (by rw [z]; exact List.mem_cons_self ..)).trans (hk b ob (fun z => hb (by rw [z]; exact List.mem_cons_self ..)) (fun z => hb (by rw [z]; exact List.mem_cons_of_mem _ (List.mem_singleton.mpr rfl))) q)) hf (Nat.le_refl _) new
    refine ⟨.ref s.heap.objs.size, _, I1, rfl, ⟨_, x, rfl, I.hok.fresh (Nat.le_refl _), rfl, fun ys hy => by rw [I.tuple_inj hy hq]; exact hx⟩, ⟨⟨x', ?_⟩, hst'.1.at fun o q => (sb.2 it (Ne.symm hne)).trans q, hne⟩, fun b hb => ?_⟩
    · rw [show ((i + 1 : Nat) : Int) = (i : Int) + 1 by omega]
      exact he'
    · have hb' : b < s.heap.objs.size := by
        rcases (show b = e ∨ b = it by simpa using hb) with rfl | rfl
        · exact hel
        · exact hil
      rw [upd_ne (Nat.ne_of_lt hb')]
      exact (hf b hb).1
  done := by
    intro X hP hw hK hc i pins s σ H E I hf st hg
    subst hP hw hK
    obtain ⟨⟨old, he⟩, hit, hne⟩ := st
    obtain ⟨xs, hq, hx⟩ := hg
    obtain ⟨its, rv, p, hz⟩ := I.tuple hq
    obtain ⟨f0, f1, f2, f3, f4, f5⟩ := hf it (List.mem_cons_of_mem _ (List.mem_singleton.mpr rfl))
    have hl := rv.length
    have hh := I.ok.hd hc
    have D : Draws X.prog X.w X.A.in1 it [it, a] i (fun _ _ => True) (fun j h => j = i ∧ h.IsTupleIter it a i ∧ h.IsTuple a its.toArray) := {
      live := fun _ _ st => let ⟨o, ho, _⟩ := st.2.1; ⟨o, ho⟩
      frame := fun _ _ _ st hk => ⟨st.1, st.2.1.at fun o q => hk it (List.mem_cons_self ..) o q, st.2.2.at fun o q => hk a (List.mem_cons_of_mem _ (List.mem_singleton.mpr rfl)) o q⟩
      item := fun j s Q E hj st hQ => absurd st.1 (Nat.ne_of_lt hj)
      done := fun s Q E st hE => wpAny_nextOf_tuple_end hh st.2.1 st.2.2 (Array.getElem?_eq_none (by rw [List.size_toArray]; omega)) hE }
    exact wpAny_pyNext_enum_endD D he ⟨rfl, hit, p⟩ fun h' eb => ⟨rfl, I.turned (t' := s.toks) (fun b o hb q => eb b o hb q) f0 f1 f3 f4 f5⟩
  self := fun A i s Q E st h => let ⟨⟨_, he⟩, _⟩ := st; wpAny_pyIter_enum he h
def iEnumT (K : Fg) (ta : TA) : TI := fun σ H R => ta σ H fun vs H1 => ∃ a xs, vs = [.ref a] ∧ SqT K H1 a xs ∧ R (Itu K a) H1
theorem pi_enumT {X : Cx} {e : Expr} {ta : TA} {p pos tpos : Pos} {elts : List Expr} {kk : Nat} (hg : Gl X "enumerate") (hm : X.mg "enumerate" = none) (ha : PA X [e] ta) (hs : starEach [e] X.env = [(false, eval e X.env)]) : PI X (.Tuple elts kk tpos) (.Call (.Name "enumerate" p) [e] [] pos) (iEnumT X.K ta) := ⟨fun pins s σ H R I h => by
  refine Call_ (ld_blt I hg hm boot_enumerate (PyProof.Rows.callWith_type1 (thn (ha.run pos pins s σ H _ I h) fun us s1 ⟨vs, H1, I1, r1, q1⟩ => ?_) hs rfl))
  obtain ⟨a, xs, rfl, hq, q⟩ := q1
  obtain ⟨u, rfl, ru⟩ := Vals.one r1
  cases ru
  obtain ⟨its, rv, p', hz⟩ := I1.tuple hq
  have la : a < s1.heap.objs.size := by obtain ⟨o, ho, _⟩ := p'; exact Heap.lt_size ho
  refine k20_enum_call (begins_tuple a its.toArray) p' fun h' he hit hk => wpAny_pyIter_enum he ?_
  have I2 : Inv X pins σ H1 { s1 with heap := h' } := I1.kept (t' := s1.toks) hk
  refine ⟨s1.heap.objs.size + 1, [s1.heap.objs.size + 1, s1.heap.objs.size], _, _, H1, rfl, I2, turn_enumT a (s1.heap.objs.size + 1) s1.heap.objs.size (Nat.ne_of_lt la) (Nat.ne_of_lt (Nat.lt_succ_of_lt la)), ⟨⟨.none, he⟩, ⟨_, hit, rfl, rfl⟩, Nat.succ_ne_self _⟩, fun b hb => ?_, q⟩
  have hle : s1.heap.objs.size ≤ b := by
    rcases (show b = s1.heap.objs.size + 1 ∨ b = s1.heap.objs.size by simpa using hb) with z | z <;> rw [z]
    · exact Nat.le_add_right _ _
    · exact Nat.le_refl _
  exact I1.fpOk hle (I1.hok.fresh hle)⟩
theorem walk_enumT {K : Fg} {a : Addr} {xs : List V} : Walk (Itu K a) xs.length (fun H => SqT K H a xs) (YPair (fun i => some (.int (i : Nat))) (fun i => xs[i]?)) := ⟨fun i _ hi q => ⟨xs, xs[i], q, by simp [hi]⟩, fun _ q => ⟨xs, q, Nat.le_refl _⟩, fun i H v H' _ q y => by
  obtain ⟨T, x, h1, h2, h3, h4⟩ := y
  exact ⟨T, .int (i : Nat), x, h1, h2, h3, rfl, h4 xs q⟩⟩
/-- for i, x in enumerate(e) over a list or a tuple -/
theorem sForEn {X : Cx} {d : Dr} {ds : List Sd} {B H : Hp} {σ : St} {D : Ends} {e : Expr} {body : List Stmt} {t : PyData} {xs : List PyData} {g : TG} {elts : List Expr} {kk : Nat} {tpos p cp pos : Pos} (sl : Sl X.K B σ ds) (ok : Ok d B H) (hp : PassesOwn (model X.prog X.w) X.A X.env X.xe) (hc : X.calm = true) (hm : X.mg "enumerate" = none) (it : DE X d e ds B (· = t)) (hx : seqOf t = some xs) (hg : PG X (.Tuple elts kk tpos) g)
    (k : ∀ B1 H1, Tr d B H B1 H1 → Ok d B1 H1 → ∃ I : Nat → Hp → St → Hp → Prop, I 0 B1 σ H1 ∧ (∀ i B' σ' H', I i B' σ' H' → Ok d B' H') ∧
      (∀ (i : Nat) x w B' σ' H' q, xs[i]? = some x → Same B1 B' → I i B' σ' H' → Dp X.K B' w x → H' q = none → g (.ref q) σ' (upd H' q (.tup [.int (i : Nat), w])) fun σ2 H2 => wSs X body { D with nx := fun σ3 H3 => ∃ B3, Same B1 B3 ∧ I (i + 1) B3 σ3 H3, ct := fun σ3 H3 => ∃ B3, Same B1 B3 ∧ I (i + 1) B3 σ3 H3, bk := D.nx } σ2 H2) ∧
      (∀ B' σ' H', Same B1 B' → I xs.length B' σ' H' → D.nx σ' H'))
    (hgl : Gl X "enumerate" := by rfl) (hst : starEach [e] X.env = [(false, eval e X.env)] := by rfl) (hs : ∀ x, foldedSetIterable (.Call (.Name "enumerate" p) [e] [] cp) X.env x = pure x := by intro _; rfl) : wS X (.For (.Tuple elts kk tpos) (.Call (.Name "enumerate" p) [e] [] cp) body [] pos) D σ H := by
  cases t with
  | list ys =>
    cases hx
    refine w_s (ps_for hp hc (pi_enum hgl hm (pa_cons pe_w pa_nil hst) hst) hg pss_w hs) (it B σ H (Same.refl B) sl ok _ fun w t1 B1 H1 tr ok1 hd e1 => ?_)
    have e2 : t1 = .list xs := e1
    rw [e2] at hd
    obtain ⟨I, h0, hk, hstp, hd'⟩ := k B1 H1 tr ok1
    obtain ⟨a, vs, rfl, hq, hv⟩ := hd.lst_inv
    refine ⟨a, vs, rfl, ok1.kh.seq hq, for_it (walk_enum (xs := vs)) (fun i σ' H' => ∃ B', Same B1 B' ∧ I i B' σ' H') ⟨B1, Same.refl _, h0⟩ (fun i σ' H' _ ⟨B', e, h⟩ => (e.trans (hk i B' σ' H' h).kh).seq hq) ?_ ?_⟩
    · rintro i x σ' H' H2 hi ⟨B', e, h⟩ ⟨T, x1, y1, rfl, hT, rfl, h1, h2⟩
      cases h1
      obtain ⟨u, hu, hd3⟩ := hv.get h2
      exact hstp i u y1 B' σ' H' T hu e h (hd3.up e) hT
    · rintro σ' H' ⟨B', e, h⟩
      rw [hv.len] at h
      exact hd' B' σ' H' e h
  | tuple ys =>
    cases hx
    refine w_s (ps_for hp hc (pi_enumT hgl hm (pa_cons pe_w pa_nil hst) hst) hg pss_w hs) (it B σ H (Same.refl B) sl ok _ fun w t1 B1 H1 tr ok1 hd e1 => ?_)
    have e2 : t1 = .tuple xs := e1
    rw [e2] at hd
    obtain ⟨I, h0, hk, hstp, hd'⟩ := k B1 H1 tr ok1
    obtain ⟨a, vs, rfl, hq, hv⟩ := hd.tup_inv
    refine ⟨a, vs, rfl, sqT_mono ok1.kh hq, for_it (walk_enumT (xs := vs)) (fun i σ' H' => ∃ B', Same B1 B' ∧ I i B' σ' H') ⟨B1, Same.refl _, h0⟩ (fun i σ' H' _ ⟨B', e, h⟩ => sqT_mono (e.trans (hk i B' σ' H' h).kh) hq) ?_ ?_⟩
    · rintro i x σ' H' H2 hi ⟨B', e, h⟩ ⟨T, x1, y1, rfl, hT, rfl, h1, h2⟩
      cases h1
      obtain ⟨u, hu, hd3⟩ := hv.get h2
      exact hstp i u y1 B' σ' H' T hu e h (hd3.up e) hT
    · rintro σ' H' ⟨B', e, h⟩
      rw [hv.len] at h
      exact hd' B' σ' H' e h
  | _ => cases hx
end K20
set_option maxHeartbeats 2000000
/-! <= of data, a chain of comparisons. -/
namespace K20
open PySem PySem.Spec L2
open PyProof.Rows hiding St
open PySem.W (dataLt dataLe alike alikeAll)
theorem argsEq : ∀ {l ts : List PyData}, Args (l.map fun a => (· = a)) ts → ts = l
  | [], _, h => h
  | a :: l, _, ⟨t, e, us, h, e2⟩ => by rw [e2, argsEq h, show t = a from e]
section
variable {X : Cx} {d : Dr} {ds : List Sd} {B : Hp} {S Sa Sb Sc : PyData → Prop} {a b c e : Expr} {pos : Pos}
def rLeD (K : Fg) : R2 := fun x y H Q => ∃ t u, Dp K H x t ∧ Dp K H y u ∧ alike t u = true ∧ t ≠ .none ∧ t.depth ≤ 60 ∧ Q (.bl (!dataLt u t)) H
theorem op_leD (hu : X.A.units + 64 < cLine) : OpR X (compareOp .LtE) (rLeD X.K) := by
  intro pins s σ H x y v u Q I rx ry h
  obtain ⟨t, t2, h1, h2, hal, hn, hd, q⟩ := h
  obtain ⟨as, r1⟩ := Dp.reads I t x v h1 rx
  obtain ⟨bs, r2⟩ := Dp.reads I t2 y u h2 ry
  refine PySem.W.le_data r1 r2 hal hn ?_ ⟨.bl _, H, I, rfl, q⟩
  have : min t.depth t2.depth ≤ t.depth := Nat.min_le_left _ _
  omega
theorem tLeD {k : Nat} {t u : PyData} (hr : Room k X.A) (ha : DE X d a ds B (· = t)) (hb : DE X d b ds B (· = u)) (h1 : alike t u = true) (h2 : t ≠ .none) (h3 : t.depth ≤ 60) : DT X d (.Compare a [.LtE] [b] pos) ds B (· = !dataLt u t) :=
  cmpT (op_leD hr.units) ha hb (fun B1 H x y ta tb e ok g1 g2 e1 e2 Q r => by
    subst e1 e2
    exact ⟨_, _, g1.up ok.kh, g2.up ok.kh, h1, h2, h3, r _ _ B1 H .refl ok (.bl _) rfl⟩) (nomark _)
/-- i <= j <= k of ints -/
theorem tChainLe {i j l : Int} (ha : DE X d a ds B (· = .int i)) (hb : DE X d b ds B (· = .int j)) (hc : DE X d c ds B (· = .int l)) (hm : lastMarks [.LtE, .LtE] [b, c] = false := by with_unfolding_all rfl) : DT X d (.Compare a [.LtE, .LtE] [b, c] pos) ds B (· = (decide (i ≤ j) && decide (j ≤ l))) :=
  dt_of (pt_chain op_le op_le pe_w pe_w pe_w hm) fun B1 σ H e sl ok Q r => ha B1 σ H e sl ok _ fun v1 t1 B2 H2 tr2 ok2 hd2 e2 => hb B2 σ H2 (e.trans tr2.kb) (sl.up tr2.kb) ok2 _ fun v2 t2 B3 H3 tr3 ok3 hd3 e3 => by
    have e2' : t1 = .int i := e2
    have e3' : t2 = .int j := e3
    subst e2' e3'
    have tr := tr2.trans tr3
    refine ⟨i, j, hd2.int_inv, hd3.int_inv, decide (i ≤ j), rfl, ?_⟩
    cases hij : decide (i ≤ j) with
    | false => exact iteF ⟨false, rfl, r false H3 tr.back (ok.back tr ok3) (by show false = (decide (i ≤ j) && decide (j ≤ l)); rw [hij]; rfl)⟩
    | true =>
      refine iteT (hc B3 σ H3 (e.trans tr.kb) (sl.up tr.kb) ok3 _ fun v3 t3 B4 H4 tr4 ok4 hd4 e4 => ?_)
      have e4' : t3 = .int l := e4
      subst e4'
      have trr := tr.trans tr4
      exact ⟨j, l, hd3.int_inv, hd4.int_inv, decide (j ≤ l), rfl, r _ H4 trr.back (ok.back trr ok4) (by show decide (j ≤ l) = (decide (i ≤ j) && decide (j ≤ l)); rw [hij]; rfl)⟩
end
end K20
set_option maxHeartbeats 4000000
namespace K20
open PySem PySem.Spec L2
open PyProof.Rows hiding St
variable {P : Program} {w : World} {K : Fg} {mg : Str → Option Value} {base : Heap}
/-- top // g and bottom // g -/
def fLow : List PyData → (PyData → Prop) → Prop := fun ts S => ∃ a b : Nat, ts = [.int a, .int b] ∧ 1 ≤ a ∧ 1 ≤ b ∧ a < 2 ^ 4000 ∧ S = (· = .tuple [.int ((a / Nat.gcd a b : Nat) : Int), .int ((b / Nat.gcd a b : Nat) : Int)])
abbrev nLow : List Str := ["_law_top", "_law_bottom", "_law_a", "_law_b"]
theorem scLow : FnScope nLow ["_law_top", "_law_bottom"] (defScope (top 59)) := ⟨rfl, rfl, rfl, by decide +kernel, rfl, by decide +kernel, by decide +kernel⟩
theorem fmod_nat (a b : Nat) : ((a : Int).fmod (b : Int)) = ((a % b : Nat) : Int) := by
  rw [Int.fmod_eq_emod_of_nonneg _ (Int.natCast_nonneg b)]
  exact (Int.natCast_emod a b).symm
theorem div_nat (a b : Nat) : ((a : Int) / (b : Int)) = ((a / b : Nat) : Int) := (Int.natCast_ediv a b).symm
theorem ok_low (M : Md K mg) : Cal P w K mg base 1 "_law_low" (Fn K fLow) [] := by
  refine mkCal (M.df 59 (by decide)) scLow (fun _ _ _ _ _ _ us hl => match us, hl with | [_, _], _ => rfl) (fun vs H Q E h => ?_) fun f cdv A outer s H vs Q E hr h => ?_
  · obtain ⟨B, ts, S, ok, hv, ⟨a, b, rfl, _⟩, _⟩ := h
    exact hv.len
  obtain ⟨B, ts, S, ok, hv, ⟨a, b, rfl, ha, hb, la, rfl⟩, ret⟩ := h
  have y := Sy.ini (N := nLow) ok hv
  have nd := scLow.nd
  refine ssC (sSet1 2 y nd (v 0) fun B1 σ1 H1 t1 y1 => ?_)
  refine ssC (sSet1 3 y1 nd (v 1) fun B2 σ2 H2 t2 y2 => ?_)
  refine ssC (sWhile (α := Nat × Nat) (d := none) (B := B2) (fun p B' σ' H' => Sy K none B H B' H' σ' [.dat (.int a), .dat (.int b), .dat (.int p.1), .dat (.int p.2)] ∧ Nat.gcd p.1 p.2 = Nat.gcd a b) (fun p => p.2) (a, b) (passes_of rfl) ⟨y2, rfl⟩ ?_)
  rintro ⟨a', b'⟩ B3 σ3 H3 ⟨y3, hg⟩
  refine ⟨_, _, y3.sl, y3.ok, tGt (v 3) dI, fun hb' H4 tr ok4 => ?_, fun hb' H4 tr ok4 => ?_⟩
  · have y4 := y3.on tr ok4
    have hb1 : 0 < b' := by have := of_decide_eq_true hb'; omega
    refine ss1 (sPar 2 3 y4 rfl nd (by decide) (v 3) (dMod (dInt M.int (v 2)) (v 3) (by omega)) fun B5 σ5 H5 t5 y5 => ?_)
    refine ⟨(b', a' % b'), B5, Nat.mod_lt _ hb1, ?_, ?_⟩
    · rw [fmod_nat] at y5
      exact y5
    · show Nat.gcd b' (a' % b') = _
      rw [← hg, Nat.gcd_comm b', ← Nat.gcd_rec, Nat.gcd_comm]
  · have y4 := y3.on tr ok4
    have e : b' = 0 := by have := of_decide_eq_false hb'; omega
    subst e
    rw [Nat.gcd_zero_right] at hg
    have hg' : a' = Nat.gcd a b := hg
    have gp : 0 < a' := by rw [hg']; exact Nat.gcd_pos_of_pos_left _ (by omega)
    have gl : a' < 2 ^ 4000 := Nat.lt_of_le_of_lt (by rw [hg']; exact Nat.gcd_le_left _ (by omega)) la
    have hw : ∀ z : Int, CDivW z (a' : Int) := fun z => ⟨by omega, by
      rw [Int.natAbs_natCast]
      exact Nat.lt_of_lt_of_le ((Nat.log2_lt (by omega)).mpr gl) (by decide)⟩
    refine ss1 (sRet y4 (dTup (aC (dDiv (v 0) (v 2) (hw _)) (aC (dDiv (v 1) (v 2) (hw _)) aN))) ?_)
    rw [div_nat, div_nat, hg']
    exact ret
end K20
set_option maxHeartbeats 4000000
namespace K20
open PySem PySem.Spec L2
open PyProof.Rows hiding St
variable {P : Program} {w : World} {K : Fg} {mg : Str → Option Value} {base : Heap}
/-- an int from 0 to below k -/
def Below (k : Nat) : PyData → Prop := fun t => ∃ n : Nat, n < k ∧ t = .int n
def fDraw : List PyData → (PyData → Prop) → Prop := fun ts S => ∃ k : Nat, ts = [.int k] ∧ 1 ≤ k ∧ k < 2 ^ 80 ∧ S = Below k
abbrev nDraw : List Str := ["_law_d", "_law_many", "_law_cell", "_law_found"]
theorem scDraw : FnScope nDraw ["_law_d", "_law_many"] (defScope (top 56)) := ⟨rfl, rfl, rfl, by decide +kernel, rfl, by decide +kernel, by decide +kernel⟩
def lk (a c : Addr) (xs : List Int) (p : Nat) (g m k : Int) : Hp := fun x => if x = a then some (.lst [.ref c, .int p, .int g, .int m, .int k]) else if x = c then some (.lst (xs.map V.int)) else none
theorem set_id {α : Type} {l : List α} {i : Nat} {x : α} (h : l[i]? = some x) : l.set i x = l := by
  obtain ⟨hi, e⟩ := List.getElem?_eq_some_iff.mp h
  rw [← e]
  exact List.set_getElem_self hi
structure DI (a c : Addr) (xs : List Int) (many : Int) (B0 H0 : Hp) (p : Nat) (g m k : Int) (σ : St) (H : Hp) : Prop where
  tr : Tr (some (a, c)) B0 H0 B0 H
  ok : Same B0 H ∧ B0 a = none
  ha : H a = some (.lst [.ref c, .int p, .int g, .int m, .int k])
  hc : H c = some (.lst (xs.map V.int))
  ne : c ≠ a
  hp : p ≤ xs.length
  s0 : σ[0]? = some (some (.ref a))
  s1 : σ[1]? = some (some (.int many))
  len : σ.length = 4
section
variable {a c : Addr} {xs : List Int} {many : Int} {B0 H0 H H1 : Hp} {p : Nat} {g m k : Int} {σ : St}
theorem lk_a : lk a c xs p g m k a = some (.lst [.ref c, .int p, .int g, .int m, .int k]) := if_pos rfl
theorem ints_dp {B : Hp} : ∀ xs : List Int, DpAll K B (xs.map V.int) (xs.map PyData.int)
  | [] => .nil
  | x :: xs => .cons (.int x) (ints_dp xs)
theorem DI.lkok (h : DI a c xs many B0 H0 p g m k σ H) : Ok none (lk a c xs p g m k) H := by
  refine ⟨fun b o e => ?_, fun _ _ e => nomatch e⟩
  unfold lk at e
  by_cases h1 : b = a
  · rw [if_pos h1] at e
    rw [h1, h.ha]
    exact e
  · rw [if_neg h1] at e
    by_cases h2 : b = c
    · rw [if_pos h2] at e
      rw [h2, h.hc]
      exact e
    · rw [if_neg h2] at e
      cases e
theorem DI.dp (h : DI a c xs many B0 H0 p g m k σ H) : Dp K (lk a c xs p g m k) (.ref a) (.list [.list (xs.map .int), .int p, .int g, .int m, .int k]) := by
  have hc : lk a c xs p g m k c = some (.lst (xs.map V.int)) := by
    unfold lk
    rw [if_neg h.ne, if_pos rfl]
  exact .lst (SqL.of lk_a) (.cons (.lst (SqL.of hc) (ints_dp xs)) (.cons (.int _) (.cons (.int _) (.cons (.int _) (.cons (.int _) .nil)))))
theorem DI.sl (h : DI a c xs many B0 H0 p g m k σ H) : Sl K (lk a c xs p g m k) σ [.dat (.list [.list (xs.map .int), .int p, .int g, .int m, .int k]), .dat (.int many), .any, .any] := by
  have hl := h.len
  refine ⟨fun i x hx => ?_⟩
  match i, hx with
  | 0, hx => cases hx; exact ⟨_, h.s0, _, rfl, h.dp⟩
  | 1, hx => cases hx; exact ⟨_, h.s1, _, rfl, .int _⟩
  | 2, hx => cases hx; exact ⟨σ[2], List.getElem?_eq_getElem (by omega), trivial⟩
  | 3, hx => cases hx; exact ⟨σ[3], List.getElem?_eq_getElem (by omega), trivial⟩
  | i + 4, hx => simp at hx
theorem DI.slc {z : Int} (h : DI a c xs many B0 H0 p g m k σ H) (hz : σ[2]? = some (some (.int z))) : Sl K (lk a c xs p g m k) σ [.dat (.list [.list (xs.map .int), .int p, .int g, .int m, .int k]), .dat (.int many), .dat (.int z), .any] := by
  have y := (h.sl (K := K)).put 2 (s := some (.int z)) (x := .dat (.int z)) ⟨_, rfl, .int _⟩
  rw [set_id hz] at y
  exact y
theorem DI.slf {z : Int} (h : DI a c xs many B0 H0 p g m k σ H) (hz : σ[3]? = some (some (.int z))) : Sl K (lk a c xs p g m k) σ [.dat (.list [.list (xs.map .int), .int p, .int g, .int m, .int k]), .dat (.int many), .any, .dat (.int z)] := by
  have y := (h.sl (K := K)).put 3 (s := some (.int z)) (x := .dat (.int z)) ⟨_, rfl, .int _⟩
  rw [set_id hz] at y
  exact y
theorem DI.on (h : DI a c xs many B0 H0 p g m k σ H) {B1 : Hp} (t : Tr none (lk a c xs p g m k) H B1 H1) : DI a c xs many B0 H0 p g m k σ H1 := by
  have old : ∀ b o, H b = some o → H1 b = some o := fun b o e => t.all b o e
  refine ⟨h.tr.trans ⟨Same.refl _, fun b o e _ => old b o e, t.dom, fun _ _ n => n⟩, ⟨h.ok.1.trans old, h.ok.2⟩, old _ _ h.ha, old _ _ h.hc, h.ne, h.hp, h.s0, h.s1, h.len⟩
theorem DI.put (h : DI a c xs many B0 H0 p g m k σ H) {p' : Nat} {g' m' k' : Int} (hp : p' ≤ xs.length) : DI a c xs many B0 H0 p' g' m' k' σ (upd H a (.lst [.ref c, .int p', .int g', .int m', .int k'])) := by
  refine ⟨⟨h.tr.kb, fun b o e n => ?_, fun b e => ?_, h.tr.new⟩, ⟨fun b o e => ?_, h.ok.2⟩, upd_same, ?_, h.ne, hp, h.s0, h.s1, h.len⟩
  · rw [upd_ne (fun z => n c (by rw [z]))]
    exact h.tr.old b o e n
  · by_cases z : b = a
    · rw [z, upd_same] at e
      cases e
    · rw [upd_ne z] at e
      exact h.tr.dom b e
  · rw [upd_ne (ne_of_none e h.ok.2)]
    exact h.ok.1 b o e
  · rw [upd_ne h.ne]
    exact h.hc
theorem DI.set (h : DI a c xs many B0 H0 p g m k σ H) {i : Nat} {v : V} (hi : 2 ≤ i) : DI a c xs many B0 H0 p g m k (σ.set i (some v)) H := by
  refine ⟨h.tr, h.ok, h.ha, h.hc, h.ne, h.hp, ?_, ?_, by rw [List.length_set]; exact h.len⟩
  · rw [List.getElem?_set_ne (by omega)]; exact h.s0
  · rw [List.getElem?_set_ne (by omega)]; exact h.s1
theorem DI.ds (h : DI a c xs many B0 H0 p g m k σ H)   : DS H a c := ⟨xs, p, g, m, k, h.ha, h.ne, h.hc, h.hp⟩
theorem DI.end_ {S : PyData → Prop} {Q : VK} {n : Nat} (h : DI a c xs many B0 H0 p g m k σ H) (ret : Ret K (some (a, c)) B0 H0 S Q) (hs : S (.int n)) : Q (.int n) H :=
  ret (.int n) (.int n) B0 H h.tr ⟨h.ok.1, fun b _ e => by cases e; exact ⟨h.ok.2, h.ds⟩⟩ (.int _) hs
end
theorem fmod_below (z : Int) {k : Nat} (h : 1 ≤ k) : ∃ q : Nat, q < k ∧ z.fmod k = (q : Int) := by
  have h1 := Int.fmod_nonneg_of_pos z (show (0 : Int) < k by omega)
  have h2 := Int.fmod_lt_of_pos z (show (0 : Int) < k by omega)
  exact ⟨(z.fmod k).toNat, by omega, by rw [Int.toNat_of_nonneg h1]⟩
theorem ok_draw (M : Md K mg) : Cal P w K mg base 1 "_law_draw" (FnD K fDraw) [] := by
  refine mkCal (M.df 56 (by decide)) scDraw (fun _ _ _ _ _ _ us hl => match us, hl with | [_, _], _ => rfl) (fun vs H Q E h => ?_) fun f cdv A outer s H vs Q E hr h => ?_
  · obtain ⟨a, c, ws, B, ts, S, rfl, ok, hv, ⟨k, rfl, _⟩, _⟩ := h
    exact congrArg Nat.succ hv.len
  obtain ⟨a, c, ws, B, ts, S, rfl, ok, hv, ⟨n, rfl, hn, hn2, rfl⟩, ret⟩ := h
  obtain ⟨v0, rfl, hv0⟩ := hv.one
  obtain rfl := hv0.int_inv
  have nd := scDraw.nd
  obtain ⟨hB, xs, p, g, m, k, h1, h2, h3, h4⟩ := ok.ds a c rfl
  have D0 : DI a c xs (n : Int) B H p g m k (L2.start nDraw [.ref a, .int n]) H := ⟨.refl, ⟨ok.kh, hB⟩, h1, h3, h2, h4, rfl, rfl, rfl⟩
  -- if many < 2: return 0
  refine ssCut (fun σ' H' => DI a c xs (n : Int) B H p g m k σ' H') (sIf0 (D0.sl (K := K)) D0.lkok (tLt (v 1) dI) (fun e H1 tr ok1 => ss1 (sRet0 (D0.on tr).sl (D0.on tr).lkok dI fun v t B' H' tr' _ hd e' => ?_)) fun e H1 tr ok1 => ssN (D0.on tr)) fun σ1 H1 D1 => ?_
  · cases e'
    obtain rfl := hd.int_inv
    exact ((D0.on tr).on tr').end_ ret ⟨0, by omega, rfl⟩
  -- a cell is taken
  refine ssCut (fun σ' H' => ∃ p g m, DI a c xs (n : Int) B H p g m k σ' H') (sIf0 (St' := fun b => b = (decide (g < 2) && decide ((p : Int) < ((xs.map PyData.int).length : Nat)))) (D1.sl (K := K)) D1.lkok (tW (wAnd (tLt (dIx (v 0) dI) dI) fun _ => wAnd1 (tLt (dIx (v 0) dI) (dLen M.len (dIx (v 0) dI))))) (fun e H2 tr ok1 => ?_) fun e H2 tr ok1 => ssN ⟨p, g, m, D1.on tr⟩) fun σ2 H2 ⟨p2, g2, m2, D2⟩ => ?_
  · have e1 := (Bool.and_eq_true_iff.mp e.symm)
    have hp : p < xs.length := by
      have := of_decide_eq_true e1.2
      rw [List.length_map] at this
      omega
    have D2 := D1.on tr
    have hx : atI (xs.map PyData.int) (p : Int) = some (.int xs[p]) := atI_nat (by rw [List.getElem?_map, List.getElem?_eq_getElem hp]; rfl)
    refine ssC (sSet0 2 (D2.sl (K := K)) D2.lkok nd (dIx (dIx (v 0) dI) (dIx (v 0) dI) rfl hx) fun v t B1 H3 e tr3 ok3 hd3 => ?_)
    cases e
    obtain rfl := hd3.int_inv
    have D3 : DI a c xs (n : Int) B H p g m k (σ1.set 2 (some (.int xs[p]))) H3 := (D2.on tr3).set (by decide)
    have z3 : (σ1.set 2 (some (V.int xs[p])))[2]? = some (some (.int xs[p])) := List.getElem?_set_self (by rw [D2.len]; decide)
    generalize σ1.set 2 (some (V.int xs[p])) = σ3 at D3 z3 ⊢
    generalize xs[p] = z at z3
    refine ssC (sPut 0 (D3.slc (K := K) z3) D3.lkok (dAdd (dIx (v 0) dI) dI) D3.s0 lk_a (by rfl) fun H4 tr4 ok4 => ?_)
    have D4 : DI a c xs (n : Int) B H (p + 1) g m k σ3 (upd H4 a (.lst [.ref c, .int ((p + 1 : Nat) : Int), .int g, .int m, .int k])) := (D3.on tr4).put hp
    refine ss1 (sIf0 (D4.slc (K := K) z3) D4.lkok (tGe (v 2) (dPow dI dI ⟨by decide, by decide, by decide⟩)) (fun e5 H5 tr5 ok5 => ss1 ?_) fun e5 H5 tr5 ok5 => ss1 ?_)
    · exact sPut 0 ((D4.on tr5).slc (K := K) z3) (D4.on tr5).lkok (dSub (v 2) (dPow dI dI ⟨by decide, by decide, by decide⟩)) D4.s0 lk_a (by rfl) fun H6 tr6 ok6 => ⟨_, _, _, ((D4.on tr5).on tr6).put hp⟩
    · exact sPut 0 ((D4.on tr5).slc (K := K) z3) (D4.on tr5).lkok (dMod (dInt M.int (dAdd (dAdd (dMulS (dIx (v 0) dI) dI (.inr (by decide))) (dMod (dInt M.int (v 2)) dI (by decide))) dI)) dI (by decide)) D4.s0 lk_a (by rfl) fun H6 tr6 ok6 => ⟨_, _, _, ((D4.on tr5).on tr6).put hp⟩
  -- from a great cell
  refine ssCut (fun σ' H' => DI a c xs (n : Int) B H p2 g2 m2 k σ' H') (sIf0 (D2.sl (K := K)) D2.lkok (tGt (dIx (v 0) dI) dI) (fun e H3 tr ok1 => ?_) fun e H3 tr ok1 => ssN (D2.on tr)) fun σ3 H3 D3 => ?_
  · have D3 := D2.on tr
    refine ssC (sSet0 3 (D3.sl (K := K)) D3.lkok nd (dMod (dInt M.int (dIx (v 0) dI)) (v 1) (by omega)) fun v t B1 H4 e tr4 ok4 hd4 => ?_)
    cases e
    obtain rfl := hd4.int_inv
    have D4 : DI a c xs (n : Int) B H p2 g2 m2 k (σ2.set 3 (some (.int (g2.fmod n)))) H4 := (D3.on tr4).set (by decide)
    have z4 : (σ2.set 3 (some (V.int (g2.fmod n))))[3]? = some (some (.int (g2.fmod n))) := List.getElem?_set_self (by rw [D3.len]; decide)
    generalize σ2.set 3 (some (V.int (g2.fmod n))) = σ4 at D4 z4 ⊢
    refine ssC (sPut 0 (D4.slf (K := K) z4) D4.lkok (dDiv (dIx (v 0) dI) (v 1) (wide_div (b := 80) (by omega) (by rw [Int.natAbs_natCast]; exact hn2) (by decide) (by decide))) D4.s0 lk_a (by rfl) fun H5 tr5 ok5 => ?_)
    have D5 : DI a c xs (n : Int) B H p2 (g2 / n) m2 k σ4 (upd H5 a (.lst [.ref c, .int p2, .int (g2 / n), .int m2, .int k])) := (D4.on tr5).put D4.hp
    refine ss1 (sRet0 (D5.slf (K := K) z4) D5.lkok (v 3) fun v t B' H' tr' _ hd e' => ?_)
    cases e'
    obtain rfl := hd.int_inv
    obtain ⟨q, hq, e⟩ := fmod_below g2 hn
    rw [e]
    exact (D5.on tr').end_ ret ⟨q, hq, rfl⟩
  -- else from the mixed number
  refine ssC (sPut 0 (D3.sl (K := K)) D3.lkok (dAdd (dIx (v 0) dI) dI) D3.s0 lk_a (by rfl) fun H4 tr4 ok4 => ?_)
  have D4 : DI a c xs (n : Int) B H p2 g2 m2 (k + 1) σ3 (upd H4 a (.lst [.ref c, .int p2, .int g2, .int m2, .int (k + 1)])) := (D3.on tr4).put D3.hp
  refine ssC (sPut 0 (D4.sl (K := K)) D4.lkok (dMod (dInt M.int (dAdd (dAdd (dMulS (dIx (v 0) dI) dI (.inr (by decide))) (dMulS (dIx (v 0) dI) dI (.inr (by decide)))) dI)) dI (by decide)) D4.s0 lk_a (by rfl) fun H5 tr5 ok5 => ?_)
  have D5 := (D4.on tr5).put (p' := p2) (g' := g2) (m' := (m2 * 48271 + (k + 1) * 9973 + 11).fmod 2147483647) (k' := k + 1) D4.hp
  refine ss1 (sRet0 (D5.sl (K := K)) D5.lkok (dMod (dInt M.int (dDiv (dIx (v 0) dI) dI (wide_div (b := 80) (by decide) (by decide) (by decide) (by decide)))) (v 1) (by omega)) fun v t B' H' tr' _ hd e' => ?_)
  cases e'
  obtain rfl := hd.int_inv
  obtain ⟨q, hq, e⟩ := fmod_below (((m2 * 48271 + (k + 1) * 9973 + 11).fmod 2147483647) / 7) hn
  rw [e]
  exact (D5.on tr').end_ ret ⟨q, hq, rfl⟩
end K20
set_option maxHeartbeats 4000000
namespace K20
open PySem PySem.Spec L2
open PyProof.Rows hiding St
variable {P : Program} {w : World} {K : Fg} {mg : Str → Option Value} {base : Heap}
/-! ### strengths -/
/-- a fraction in lowest terms, of k summed links -/
structure SB (k a b : Nat) : Prop where
  a1 : 1 ≤ a
  b1 : 1 ≤ b
  co : Nat.gcd a b = 1
  la : a ≤ k * 10 ^ 20 * 6 ^ k
  lb : b ≤ 6 ^ k
def pairD (a b : Nat) : PyData := .tuple [.int a, .int b]
def Stren (k : Nat) : PyData → Prop := fun t => ∃ a b, SB k a b ∧ t = pairD a b
theorem low_gcd {a b : Nat} (h : 1 ≤ a) : Nat.gcd (a / Nat.gcd a b) (b / Nat.gcd a b) = 1 := Nat.coprime_div_gcd_div_gcd (Nat.gcd_pos_of_pos_left _ h)
theorem low_pos {a b : Nat} (h : 1 ≤ a) : 1 ≤ a / Nat.gcd a b := Nat.div_pos (Nat.gcd_le_left _ h) (Nat.gcd_pos_of_pos_left _ h)
theorem low_pos2 {a b : Nat} (h : 1 ≤ a) (g : 1 ≤ b) : 1 ≤ b / Nat.gcd a b := Nat.div_pos (Nat.gcd_le_right _ g) (Nat.gcd_pos_of_pos_left _ h)
theorem SB.sum {k a b c e : Nat} (h : SB k a b) (g : SB 1 c e) : SB (k + 1) ((a * e + c * b) / Nat.gcd (a * e + c * b) (b * e)) ((b * e) / Nat.gcd (a * e + c * b) (b * e)) := by
  have p1 : 1 ≤ a * e + c * b := Nat.le_trans (Nat.mul_pos h.a1 g.b1) (Nat.le_add_right _ _)
  have p2 : 1 ≤ b * e := Nat.mul_pos h.b1 g.b1
  have c2 : e ≤ 6 := by have := g.lb; simpa using this
  have c1 : c ≤ 10 ^ 20 * 6 := by have := g.la; simpa using this
  refine ⟨low_pos p1, low_pos2 p1 p2, low_gcd p1, Nat.le_trans (Nat.div_le_self _ _) ?_, Nat.le_trans (Nat.div_le_self _ _) ?_⟩
  · have h1 : a * e ≤ (k * 10 ^ 20 * 6 ^ k) * 6 := Nat.mul_le_mul h.la c2
    have h2 : c * b ≤ (10 ^ 20 * 6) * 6 ^ k := Nat.mul_le_mul c1 h.lb
    have e1 : (k + 1) * 10 ^ 20 * 6 ^ (k + 1) = (k * 10 ^ 20 * 6 ^ k) * 6 + (10 ^ 20 * 6) * 6 ^ k := by
      rw [show (6 : Nat) ^ (k + 1) = 6 ^ k * 6 from Nat.pow_succ _ _]
      generalize (10 : Nat) ^ 20 = T
      generalize (6 : Nat) ^ k = G
      simp only [Nat.add_mul, Nat.mul_add, Nat.one_mul, Nat.mul_one, Nat.mul_comm, Nat.mul_left_comm, Nat.mul_assoc]
    omega
  · rw [Nat.pow_succ]
    exact Nat.mul_le_mul h.lb c2
theorem SB.mono {k l a b : Nat} (h : SB k a b) (e : k ≤ l) : SB l a b := by
  have h6 : 6 ^ k ≤ 6 ^ l := Nat.pow_le_pow_right (by decide) e
  exact ⟨h.a1, h.b1, h.co, Nat.le_trans h.la (Nat.mul_le_mul (Nat.mul_le_mul e (Nat.le_refl _)) h6), Nat.le_trans h.lb h6⟩
theorem SB.small {k a b : Nat} (h : SB k a b) (hk : k ≤ 64) : a < 2 ^ 300 ∧ b < 2 ^ 300 := by
  have g := h.mono hk
  exact ⟨Nat.lt_of_le_of_lt g.la (by decide), Nat.lt_of_le_of_lt g.lb (by decide)⟩
def fPlus : List PyData → (PyData → Prop) → Prop := fun ts S => ∃ k a b c e, k ≤ 63 ∧ SB k a b ∧ SB 1 c e ∧ ts = [pairD a b, pairD c e] ∧ S = Stren (k + 1)
abbrev nPlus : List Str := ["_law_one", "_law_other"]
theorem scPlus : FnScope nPlus ["_law_one", "_law_other"] (defScope (top 60)) := ⟨rfl, rfl, rfl, by decide +kernel, rfl, by decide +kernel, by decide +kernel⟩
theorem nat_mul (a b : Nat) : (a : Int) * (b : Int) = ((a * b : Nat) : Int) := (Int.natCast_mul a b).symm
theorem nat_add (a b : Nat) : (a : Int) + (b : Int) = ((a + b : Nat) : Int) := (Int.natCast_add a b).symm
theorem ok_plus (M : Md K mg) : Cal P w K mg base 2 "_law_plus" (Fn K fPlus) [] := by
  refine mkCal (M.df 60 (by decide)) scPlus (fun _ _ _ _ _ _ us hl => match us, hl with | [_, _], _ => rfl) (fun vs H Q E h => ?_) fun f cdv A outer s H vs Q E hr h => ?_
  · obtain ⟨B, ts, S, ok, hv, ⟨k, a, b, c, e, _, _, _, rfl, _⟩, _⟩ := h
    exact hv.len
  obtain ⟨B, ts, S, ok, hv, ⟨k, a, b, c, e, hk, h1, h2, rfl, rfl⟩, ret⟩ := h
  have y := Sy.ini (N := nPlus) ok hv
  obtain ⟨la, lb⟩ := h1.small (by omega)
  obtain ⟨lc, le⟩ := h2.small (by omega)
  have wm : ∀ {x z : Nat}, x < 2 ^ 300 → z < 2 ^ 300 → CMulW (x : Int) (z : Int) := fun hx hz => wide_mul (a := 300) (b := 300) (by rw [Int.natAbs_natCast]; exact hx) (by rw [Int.natAbs_natCast]; exact hz) (by decide) (by decide) (by decide)
  refine ss1 (sRet y (dCall1 (ok_low M) hr (aC (dAdd (dMul (dIx (v 0) dI) (dIx (v 1) dI) (wm la le)) (dMul (dIx (v 1) dI) (dIx (v 0) dI) (wm lc lb))) (aC (dMul (dIx (v 0) dI) (dIx (v 1) dI) (wm lb le)) aN)) ⟨a * e + c * b, b * e, ?_, ?_, ?_, ?_, rfl⟩) ?_)
  · rw [nat_mul, nat_mul, nat_mul, nat_add]
  · exact Nat.le_trans (Nat.mul_pos h1.a1 h2.b1) (Nat.le_add_right _ _)
  · exact Nat.mul_pos h1.b1 h2.b1
  · have z1 : a * e < 2 ^ 600 := by
      have := Nat.mul_lt_mul'' la le
      rwa [← Nat.pow_add] at this
    have z2 : c * b < 2 ^ 600 := by
      have := Nat.mul_lt_mul'' lc lb
      rwa [← Nat.pow_add] at this
    exact Nat.lt_trans (Nat.add_lt_add z1 z2) (by decide)
  · exact fun v t B' H' tr ok hd hs => ret v t B' H' tr ok hd ⟨_, _, h1.sum h2, hs⟩
/-! ### a pick -/
def fPick : List PyData → (PyData → Prop) → Prop := fun ts S => ∃ xs, ts = [.list xs] ∧ 1 ≤ xs.length ∧ xs.length ≤ 1000 ∧ S = (· ∈ xs)
abbrev nPick : List Str := ["_law_d", "_law_things"]
theorem scPick : FnScope nPick ["_law_d", "_law_things"] (defScope (top 57)) := ⟨rfl, rfl, rfl, by decide +kernel, rfl, by decide +kernel, by decide +kernel⟩
theorem ok_pick (M : Md K mg) : Cal P w K mg base 2 "_law_pick" (FnD K fPick) [] := by
  refine mkCal (M.df 57 (by decide)) scPick (fun _ _ _ _ _ _ us hl => match us, hl with | [_, _], _ => rfl) (fun vs H Q E h => ?_) fun f cdv A outer s H vs Q E hr h => ?_
  · obtain ⟨a, c, ws, B, ts, S, rfl, ok, hv, ⟨xs, rfl, _⟩, _⟩ := h
    exact congrArg Nat.succ hv.len
  obtain ⟨a, c, ws, B, ts, S, rfl, ok, hv, ⟨xs, rfl, h1, h2, rfl⟩, ret⟩ := h
  have y := Sy.iniD (N := nPick) ok hv
  refine ss1 (sRet y (dIxS (v 1) (dCallD1 0 (ok_draw M) hr (aC (dLen M.len (v 1)) aN) ⟨xs.length, rfl, h1, by omega, rfl⟩) ?_) ret)
  rintro _ _ rfl ⟨n, hn, rfl⟩
  exact ⟨xs, n, xs[n], rfl, rfl, atI_nat (List.getElem?_eq_getElem hn), List.getElem_mem hn⟩
/-! ### a strength -/
def fNone (S0 : PyData → Prop) : List PyData → (PyData → Prop) → Prop := fun ts S => ts = [] ∧ S = S0
abbrev nStr : List Str := ["_law_d"]
theorem scStr : FnScope nStr ["_law_d"] (defScope (top 61)) := ⟨rfl, rfl, rfl, by decide +kernel, rfl, by decide +kernel, by decide +kernel⟩
theorem sb_one {a b : Nat} (h1 : 1 ≤ a) (h2 : a ≤ 10 ^ 20) (h3 : 1 ≤ b) (h4 : b ≤ 6) (co : Nat.gcd a b = 1) : SB 1 a b := ⟨h1, h3, co, by omega, by omega⟩
theorem ok_strength (M : Md K mg) : Cal P w K mg base 2 "_law_strength" (FnD K (fNone (Stren 1))) [] := by
  refine mkCal (M.df 61 (by decide)) scStr (fun _ _ _ _ _ _ us hl => match us, hl with | [_], _ => rfl) (fun vs H Q E h => ?_) fun f cdv A outer s H vs Q E hr h => ?_
  · obtain ⟨a, c, ws, B, ts, S, rfl, ok, hv, ⟨rfl, _⟩, _⟩ := h
    exact congrArg Nat.succ hv.len
  obtain ⟨a, c, ws, B, ts, S, rfl, ok, hv, ⟨rfl, rfl⟩, ret⟩ := h
  have y := Sy.iniD (N := nStr) ok hv
  have draw : ∀ {ds : List Sd} {B1 : Hp} {e : Expr} {k : Nat}, True := fun {_ _ _ _} => trivial
  refine cWhen (St' := fun _ => True) y (tCmp' (op_eqD hr.units) (dCallD1 0 (ok_draw M) hr (aC dI aN) ⟨6, rfl, by decide, by decide, rfl⟩) dI ?_ (nomark _)) (fun _ H1 t1 y1 => ?_) fun _ H1 t1 y1 => ?_
  · rintro B1 H1 x z ta tb e ok1 g1 g2 ⟨n, hn, rfl⟩ rfl Q' r
    exact ⟨.int n, .int 5, g1.up ok1.kh, g2.up ok1.kh, rfl, rfl, r _ _ B1 H1 .refl ok1 (.bl _) ⟨_, rfl, trivial⟩⟩
  · refine ss1 (sRet y1 (dCall (Ss := fun ts => ∃ p q : Nat, p < 10 ^ 20 ∧ q < 6 ∧ ts = [.int ((1 + p : Nat) : Int), .int ((1 + q : Nat) : Int)]) (ok_low M) hr (aCS (Sa := fun t => ∃ p : Nat, p < 10 ^ 20 ∧ t = .int ((1 + p : Nat) : Int)) (dBin op_add dI (dCallD1 0 (ok_draw M) hr (aC (dPow dI dI ⟨by decide, by decide, by decide⟩) aN) ⟨10 ^ 20, rfl, by decide, by decide, rfl⟩) (rv_i0S (g' := fun i j => .int (i + j)) (fun _ _ _ => .int _) ?_))
      (aCS (Ss := (· = [])) (Sa := fun t => ∃ p : Nat, p < 6 ∧ t = .int ((1 + p : Nat) : Int)) (S2 := fun ts => ∃ p : Nat, p < 6 ∧ ts = [.int ((1 + p : Nat) : Int)]) (dBin op_add dI (dCallD1 0 (ok_draw M) hr (aC dI aN) ⟨6, rfl, by decide, by decide, rfl⟩) (rv_i0S (g' := fun i j => .int (i + j)) (fun _ _ _ => .int _) ?_)) aN ?_) ?_) ?_) ret)
    · rintro _ _ rfl ⟨n, hn, rfl⟩
      exact ⟨1, n, rfl, rfl, n, hn, by rw [Int.natCast_add]; rfl⟩
    · rintro _ _ rfl ⟨n, hn, rfl⟩
      exact ⟨1, n, rfl, rfl, n, hn, by rw [Int.natCast_add]; rfl⟩
    · rintro _ _ ⟨p, hp, rfl⟩ rfl
      exact ⟨p, hp, rfl⟩
    · rintro _ _ ⟨p, hp, rfl⟩ ⟨q, hq, rfl⟩
      exact ⟨p, q, hp, hq, rfl⟩
    · rintro _ ⟨p, q, hp, hq, rfl⟩
      refine ⟨_, ⟨1 + p, 1 + q, rfl, by omega, by omega, Nat.lt_trans (show 1 + p < 2 ^ 80 by omega) (by decide), rfl⟩, ?_⟩
      rintro _ rfl
      have p1 : 1 ≤ 1 + p := by omega
      exact ⟨_, _, sb_one (low_pos p1) (Nat.le_trans (Nat.div_le_self _ _) (by omega)) (low_pos2 p1 (by omega)) (Nat.le_trans (Nat.div_le_self _ _) (by omega)) (low_gcd p1), rfl⟩
  · refine ss1 (sRet y1 (dIxS (dLst (aC (dTup (aC dI (aC dI aN))) (aC (dTup (aC dI (aC dI aN))) (aC (dTup (aC dI (aC dI aN))) (aC (dTup (aC dI (aC dI aN))) (aC (dTup (aC dI (aC dI aN))) aN)))))) (dCallD1 0 (ok_draw M) hr (aC dI aN) ⟨5, rfl, by decide, by decide, rfl⟩) ?_) ret)
    rintro _ _ rfl ⟨n, hn, rfl⟩
    have fin : ∀ a b : Nat, 1 ≤ a → a ≤ 3 → 1 ≤ b → b ≤ 3 → Nat.gcd a b = 1 → Stren 1 (.tuple [.int (a : Int), .int (b : Int)]) := fun a b h1 h2 h3 h4 h5 => ⟨a, b, sb_one h1 (by omega) h3 (by omega) h5, rfl⟩
    match n, hn with
    | 0, _ => exact ⟨_, _, _, rfl, rfl, rfl, fin 1 1 (by decide) (by decide) (by decide) (by decide) (by decide)⟩
    | 1, _ => exact ⟨_, _, _, rfl, rfl, rfl, fin 2 1 (by decide) (by decide) (by decide) (by decide) (by decide)⟩
    | 2, _ => exact ⟨_, _, _, rfl, rfl, rfl, fin 1 1 (by decide) (by decide) (by decide) (by decide) (by decide)⟩
    | 3, _ => exact ⟨_, _, _, rfl, rfl, rfl, fin 1 2 (by decide) (by decide) (by decide) (by decide) (by decide)⟩
    | 4, _ => exact ⟨_, _, _, rfl, rfl, rfl, fin 3 2 (by decide) (by decide) (by decide) (by decide) (by decide)⟩
    | n + 5, h => omega
end K20
set_option maxHeartbeats 4000000
namespace K20
open PySem PySem.Spec L2
open PyProof.Rows hiding St
variable {P : Program} {w : World} {K : Fg} {mg : Str → Option Value} {base : Heap}
/-! ### an order -/
def natsD (xs : List Nat) : List PyData := xs.map fun i => .int (i : Nat)
def natsV (xs : List Nat) : List V := xs.map fun i => .int (i : Nat)
theorem nats_dp {B : Hp} : ∀ xs : List Nat, DpAll K B (natsV xs) (natsD xs)
  | [] => .nil
  | x :: xs => .cons (.int _) (nats_dp xs)
theorem rgV_nats (n : Nat) : rgV 0 (n : Nat) = natsV (List.range n) := by
  unfold rgV natsV
  have e3 : ((n : Int) - 0).toNat = n := by omega
  rw [e3]
  apply List.map_congr_left
  intro i _
  rw [Int.zero_add]
def fOrder : List PyData → (PyData → Prop) → Prop := fun ts S => ∃ n : Nat, ts = [.int n] ∧ n ≤ 1000 ∧ S = fun t => ∃ xs : List Nat, t = .list (natsD xs) ∧ xs.length = n ∧ ∀ x ∈ xs, x < n
abbrev nOrder : List Str := ["_law_d", "_law_n", "_law_left", "_law_found", "_law_k"]
theorem scOrder : FnScope nOrder ["_law_d", "_law_n"] (defScope (top 58)) := ⟨rfl, rfl, rfl, by decide +kernel, rfl, by decide +kernel, by decide +kernel⟩
theorem seqIx_nat {n l : Nat} (h : n < l) : seqIndex? (n : Int) l = some n := by
  unfold seqIndex?
  have h1 : ¬ ((n : Int) < 0) := by omega
  have h2 : (n : Int) < l := by omega
  simp [h1, h2, h]
theorem natsV_len (xs : List Nat) : (natsV xs).length = xs.length := List.length_map _
theorem natsV_erase : ∀ (xs : List Nat) (k : Nat), (natsV xs).eraseIdx k = natsV (xs.eraseIdx k)
  | [], _ => rfl
  | _ :: _, 0 => rfl
  | x :: xs, k + 1 => congrArg (V.int (x : Nat) :: ·) (natsV_erase xs k)
theorem natsV_snoc (xs : List Nat) (k : Nat) : natsV xs ++ [.int (k : Nat)] = natsV (xs ++ [k]) := by unfold natsV; rw [List.map_append]; rfl
theorem ok_order (M : Md K mg) : Cal P w K mg base 2 "_law_order" (FnD K fOrder) [] := by
  refine mkCal (M.df 58 (by decide)) scOrder (fun _ _ _ _ _ _ us hl => match us, hl with | [_, _], _ => rfl) (fun vs H Q E h => ?_) fun f cdv A outer s H vs Q E hr h => ?_
  · obtain ⟨a, c, ws, B, ts, S, rfl, ok, hv, ⟨n, rfl, _⟩, _⟩ := h
    exact congrArg Nat.succ hv.len
  obtain ⟨a, c, ws, B, ts, S, rfl, ok, hv, ⟨n, rfl, hn, rfl⟩, ret⟩ := h
  have y := Sy.iniD (N := nOrder) ok hv
  have nd := scOrder.nd
  refine ssC (w_s (ps_set nd (i := 2) (by rfl) (Or.inl rfl) (pe_listRg rfl (by rfl) M.list (prg_1 (by rfl) M.range (pe_var (i := 1) (by rfl) (Or.inl rfl) (by decide) (by decide)) (by rfl)))) ?_)
  obtain ⟨v1, hv1, hd1⟩ := y.sl.dat (i := 1) rfl
  obtain rfl := hd1.int_inv
  refine ⟨_, hv1, n, rfl, RgOk.of_le (by omega) (by omega) (by omega) (by omega), fun p hp => ?_⟩
  rw [rgV_nats]
  have y1 : Sy K (some (a, c)) B H B (upd H p (.lst (natsV (List.range n)))) ((L2.start nOrder (.ref a :: ws)).set 2 (some (.ref p))) [.raw (.ref a), .dat (.int n), .raw (.ref p), .any, .any] := Sy.put (x := .raw (.ref p)) ⟨y.tr.trans (.lay0 hp), y.ok.lay0 hp, y.sl⟩ 2 rfl
  have m1 : Mu (some (a, c)) H B (upd H p (.lst (natsV (List.range n)))) p (.lst (natsV (List.range n))) := Mu.make ok y.ok y.tr hp
  refine (show wSs _ _ _ ((L2.start nOrder (.ref a :: ws)).set 2 (some (.ref p))) _ from ?_)
  generalize (L2.start nOrder (.ref a :: ws)).set 2 (some (.ref p)) = σ1 at y1 ⊢
  refine ssC (sNew 3 y1 ok nd fun q σ2 hq y2 m2 => ?_)
  have pq : p ≠ q := fun z => by rw [← z, upd_same] at hq; cases hq
  have m1' := m1.other (o := .lst []) pq
  refine ssC (sForR (g := gName 4) y2.sl y2.ok (passes_of rfl) rfl M.range (v 1) (by omega) (by omega) (pg_name nd (by rfl) (Or.inl rfl)) fun B3 H3 t3 o3 => ?_)
  refine ⟨fun i σ' H' => ∃ (B' : Hp) (ls fs : List Nat), Sy K (some (a, c)) B H B' H' σ' [.raw (.ref a), .dat (.int n), .raw (.ref p), .raw (.ref q), .any] ∧ Mu (some (a, c)) H B' H' p (.lst (natsV ls)) ∧ Mu (some (a, c)) H B' H' q (.lst (natsV fs)) ∧ ls.length + i = n ∧ fs.length = i ∧ (∀ x ∈ ls, x < n) ∧ ∀ x ∈ fs, x < n, ?_, ?_, ?_⟩
  · exact ⟨B3, List.range n, [], y2.on t3 o3, m1'.on t3, m2.on t3, by rw [List.length_range]; omega, rfl, fun x h => List.mem_range.mp h, fun x h => nomatch h⟩
  · rintro i σ' H' hi ⟨B', ls, fs, y4, mp, mq, hl, hf, hls, hfs⟩
    have y5 := y4.put 4 (s := some (V.int (i : Int))) (x := .dat (.int i)) ⟨_, rfl, .int _⟩
    show wSs _ _ _ (σ'.set 4 (some (V.int (i : Int)))) H'
    generalize σ'.set 4 (some (V.int (i : Int))) = σ5 at y5 ⊢
    refine ss1 (w_s (ps_expr (pe_bm PySem.F.plainAttrs_list PySem.F.slot_list_append PySem.F.type_list_append mt_append (pe_var (i := 3) (by rfl) (Or.inl rfl) (by decide) (by decide)) (pa_cons (pe_bm PySem.F.plainAttrs_list PySem.F.slot_list_pop PySem.F.type_list_pop mt_popAt (pe_var (i := 2) (by rfl) (Or.inl rfl) (by decide) (by decide)) (pa_cons pe_w pa_nil)) pa_nil))) ?_)
    obtain ⟨okl, sll⟩ := y5.lock mp (nats_dp ls) (i := 2) rfl
    refine ⟨_, y5.sl.raw (i := 3) rfl, .inl ⟨rfl, _, SqL.of mq.at_⟩, ⟨_, y5.sl.raw (i := 2) rfl, .inl ⟨rfl, _, SqL.of mp.at_⟩, ?_⟩⟩
    refine goE (dCallD1 0 (ok_draw M) hr (aC (dLen M.len (v 2)) aN) ⟨ls.length, by rw [← show (natsD ls).length = ls.length from List.length_map _], by omega, by omega, rfl⟩) sll okl ?_
    rintro w t B6 H6 t6 o6 hd6 ⟨k, hk, rfl⟩
    obtain rfl := hd6.int_inv
    obtain ⟨t7, o7, m7⟩ := unlook y5.ok mp t6 o6
    have mq7 := mq.on t7
    have y7 := y5.on t7 o7
    generalize less B6 p = B7 at t7 o7 m7 mq7 y7
    refine ⟨p, natsV ls, k, k, .int ((ls[k] : Nat) : Int), rfl, rfl, m7.at_, by omega, by omega, by rw [natsV_len]; exact seqIx_nat hk, by unfold natsV; rw [List.getElem?_map, List.getElem?_eq_getElem hk]; rfl, ?_⟩
    rw [natsV_erase]
    have mq8 := mq7.other (o := .lst (natsV (ls.eraseIdx k))) (Ne.symm pq)
    have y8 := y7.mut m7 (o := .lst (natsV (ls.eraseIdx k)))
    have mp8 := m7.set (u := .lst (natsV (ls.eraseIdx k)))
    refine ⟨q, natsV fs, _, rfl, rfl, mq8.at_, by rw [natsV_len]; exact Nat.lt_of_lt_of_le (show fs.length < 100000 by omega) (by decide), ?_⟩
    rw [natsV_snoc]
    refine ⟨B7, ls.eraseIdx k, fs ++ [ls[k]], ⟨(y8.mut mq8).tr, (y8.mut mq8).ok, ?_⟩, mp8.other pq, mq8.set, ?_, ?_, fun x h => hls x (List.mem_of_mem_eraseIdx h), fun x h => ?_⟩
    · exact y8.sl.fo 4
    · rw [List.length_eraseIdx, if_pos hk]; omega
    · rw [List.length_append, hf]; rfl
    · rcases List.mem_append.mp h with h | h
      · exact hfs x h
      · rw [List.mem_singleton.mp h]
        exact hls _ (List.getElem_mem hk)
  · rintro σ' H' ⟨B', ls, fs, y4, mp, mq, hl, hf, hls, hfs⟩
    have hf' : fs.length = n := by omega
    exact ss1 (sRet (y4.done mq (nats_dp fs) 3) (v 3) fun v t B' H' tr ok' hd e => ret v t B' H' tr ok' hd ⟨fs, e, hf', hfs⟩)
end K20
set_option maxHeartbeats 4000000
namespace K20
open PySem PySem.Spec L2
open PyProof.Rows hiding St
open PySem.W (EachIs dataLt dataLe alike alikeAll AllAlike Sortable)
variable {P : Program} {w : World} {K : Fg} {mg : Str → Option Value} {base : Heap}
/-! ### links -/
def LinkD (n : Nat) : PyData → Prop := fun t => ∃ i j a b : Nat, i < n ∧ j < n ∧ SB 1 a b ∧ t = .tuple [.int i, .int j, pairD a b]
def LinksD (n : Nat) : PyData → Prop := fun t => ∃ ls, t = .tuple ls ∧ ls.length ≤ 20 ∧ ∀ l ∈ ls, LinkD n l
theorem alike_link {n : Nat} {x y : PyData} (hx : LinkD n x) (hy : LinkD n y) : alike x y = true := by
  obtain ⟨i, j, a, b, _, _, _, rfl⟩ := hx
  obtain ⟨i', j', a', b', _, _, _, rfl⟩ := hy
  simp [alike, alikeAll, pairD]
theorem depth_link {n : Nat} {x : PyData} (hx : LinkD n x) : x.depth ≤ 50 := by
  obtain ⟨i, j, a, b, _, _, _, rfl⟩ := hx
  simp [PyData.depth, PyData.depthAll, pairD]
theorem sortd_links {n : Nat} {xs : List PyData} (h : ∀ x ∈ xs, LinkD n x) : Sortd xs := ⟨fun x hx y hy => alike_link (h x hx) (h y hy), .inl fun x hx => by
  obtain ⟨i, j, a, b, _, _, _, rfl⟩ := h x hx
  exact ⟨_, _, rfl⟩, fun x hx => depth_link (h x hx)⟩
theorem sortd_ints (xs : List Int) : Sortd (xs.map .int) := ⟨fun x hx y hy => by
  obtain ⟨i, _, rfl⟩ := List.mem_map.mp hx
  obtain ⟨j, _, rfl⟩ := List.mem_map.mp hy
  simp [alike], .inr fun x hx => by
  obtain ⟨i, _, rfl⟩ := List.mem_map.mp hx
  exact ⟨(fun z => nomatch z), (fun _ z => nomatch z)⟩, fun x hx => by
  obtain ⟨i, _, rfl⟩ := List.mem_map.mp hx
  simp [PyData.depth]⟩
def fLinks : List PyData → (PyData → Prop) → Prop := fun ts S => ∃ n : Nat, ts = [.int n] ∧ 1 ≤ n ∧ n ≤ 4 ∧ S = LinksD n
abbrev nJoin : List Str := ["_law_d", "_law_n", "_law_order_here", "_law_links", "_law_k", "_law_pair", "_law_i", "_law_j"]
theorem scJoin : FnScope nJoin ["_law_d", "_law_n"] (defScope (top 62)) := ⟨rfl, rfl, rfl, by decide +kernel, rfl, by decide +kernel, by decide +kernel⟩
/-- the dict of the links -/
structure LkD (K : Fg) (B : Hp) (n m : Nat) (lks : List (List Key × V)) : Prop where
  len : lks.length ≤ m
  ents : ∀ q ∈ lks, ∃ (i j : Nat) (t : PyData), q.1 = [.inl (i : Int), .inl (j : Int)] ∧ i < n ∧ j < n ∧ Dp K B q.2 t ∧ Stren 1 t
  nd : (lks.map (·.1)).Nodup
theorem LkD.up {B B1 : Hp} {n m : Nat} {lks : List (List Key × V)} (h : LkD K B n m lks) (e : Same B B1) : LkD K B1 n m lks := ⟨h.len, fun q hq => by
  obtain ⟨i, j, t, h1, h2, h3, h4, h5⟩ := h.ents q hq
  exact ⟨i, j, t, h1, h2, h3, h4.up e, h5⟩, h.nd⟩
theorem LkD.put {B : Hp} {n m i j : Nat} {lks : List (List Key × V)} {v : V} {t : PyData} (h : LkD K B n m lks) (hi : i < n) (hj : j < n) (hv : Dp K B v t) (ht : Stren 1 t) : LkD K B n (m + 1) (putK lks [.inl (i : Int), .inl (j : Int)] v) := ⟨Nat.le_trans (length_putK _ _ _) (Nat.succ_le_succ h.len), fun q hq => by
  rcases mem_put hq with rfl | hq
  · exact ⟨i, j, t, rfl, hi, hj, hv, ht⟩
  · exact h.ents q hq, nodup_put h.nd⟩
theorem LkD.more {B : Hp} {n m m' : Nat} {lks : List (List Key × V)} (h : LkD K B n m lks) (e : m ≤ m') : LkD K B n m' lks := ⟨Nat.le_trans h.len e, h.ents, h.nd⟩
theorem natsD_at {xs : List Nat} {i : Nat} (h : i < xs.length) : atI (natsD xs) (i : Int) = some (.int (xs[i] : Nat)) := atI_nat (by unfold natsD; rw [List.getElem?_map, List.getElem?_eq_getElem h]; rfl)
theorem valV_nodup {κ : Type} [DecidableEq κ] {kvs : List (κ × V)} {q : κ × V} (nd : (kvs.map (·.1)).Nodup) (h : q ∈ kvs) : valV kvs q.1 = some q.2 := val_nodup nd q h
theorem two_sorted {n a b : Nat} (ha : a < n) (hb : b < n) : ∃ i j : Nat, i < n ∧ j < n ∧ sortD [.int (a : Int), .int (b : Int)] = [.int (i : Int), .int (j : Int)] := by
  have h := sortD_perm [.int (a : Int), .int (b : Int)]
  generalize sortD [.int (a : Int), .int (b : Int)] = l at h
  have hl := h.length_eq
  have in_ : ∀ x ∈ l, ∃ i : Nat, i < n ∧ x = .int (i : Int) := fun x hx => by
    have h1 := h.mem_iff.mp hx
    simp only [List.mem_cons, List.not_mem_nil, or_false] at h1
    rcases h1 with rfl | rfl
    · exact ⟨a, ha, rfl⟩
    · exact ⟨b, hb, rfl⟩
  match l, hl with
  | [x, y], _ =>
    obtain ⟨i, hi, rfl⟩ := in_ x (by simp)
    obtain ⟨j, hj, rfl⟩ := in_ y (by simp)
    exact ⟨i, j, hi, hj, rfl⟩
theorem ok_joined (M : Md K mg) : Cal P w K mg base 4 "_law_joined" (FnD K fLinks) [] := by
  refine mkCal (M.df 62 (by decide)) scJoin (fun _ _ _ _ _ _ us hl => match us, hl with | [_, _], _ => rfl) (fun vs H Q E h => ?_) fun f cdv A outer s H vs Q E hr h => ?_
  · obtain ⟨a, c, ws, B, ts, S, rfl, ok, hv, ⟨n, rfl, _⟩, _⟩ := h
    exact congrArg Nat.succ hv.len
  obtain ⟨a, c, ws, B, ts, S, rfl, ok, hv, ⟨n, rfl, hn1, hn, rfl⟩, ret⟩ := h
  have y := Sy.iniD (N := nJoin) ok hv
  have nd := scJoin.nd
  refine ssC (sSet 2 y nd (dCallD1 0 (ok_order M) hr (aC (v 1) aN) ⟨n, rfl, by omega, rfl⟩) ?_)
  rintro _ B1 σ1 H1 ⟨xs, rfl, hx1, hx2⟩ t1 y1
  refine ssC (sNewT 3 y1 ok nd fun p σ2 hp y2 m2 => ?_)
  -- the chain
  refine ssCut (fun σ' H' => ∃ B' lks, Sy K (some (a, c)) B H B' H' σ' [.raw (.ref a), .dat (.int n), .any, .raw (.ref p), .any, .any, .any, .any] ∧ Mu (some (a, c)) H B' H' p (.dT lks) ∧ LkD K B' n 4 lks) (sForR2 (g := gName 4) y2.sl y2.ok (passes_of rfl) rfl M.range dI (v 1) (by omega) (by omega) (by omega) (pg_name nd (by rfl) (Or.inl rfl)) fun B3 H3 t3 o3 => ?_) fun σ3 H3 h3 => ?_
  · refine ⟨fun i σ' H' => ∃ B' lks, Sy K (some (a, c)) B H B' H' σ' [.raw (.ref a), .dat (.int n), .dat (.list (natsD xs)), .raw (.ref p), .any, .any, .any, .any] ∧ Mu (some (a, c)) H B' H' p (.dT lks) ∧ LkD K B' n i lks, ?_, ?_, ?_⟩
    · exact ⟨B3, [], y2.on t3 o3, m2.on t3, Nat.le_refl _, fun q hq => (nomatch hq), List.nodup_nil⟩
    · rintro i σ' H' hi ⟨B', lks, y4, mp, hl⟩
      have y5 := y4.put 4 (s := some (V.int (1 + (i : Int)))) (x := .dat (.int ((1 + i : Nat) : Int))) ⟨_, rfl, by rw [Int.natCast_add]; exact .int _⟩
      refine (show wSs _ _ _ (σ'.set 4 (some (V.int (1 + (i : Int))))) H' from ?_)
      generalize σ'.set 4 (some (V.int (1 + (i : Int)))) = σ5 at y5 ⊢
      have hk : 1 + i < xs.length := by omega
      refine ssC (sSet 5 y5 nd (dSortS (S := fun t => ∃ i j : Nat, i < n ∧ j < n ∧ t = .list [.int (i : Int), .int (j : Int)]) hr M.sorted (dLstP (aP (dIx (v 2) (v 4) rfl (natsD_at hk)) (aP (dIxS (S := fun t => ∃ j : Nat, j < n ∧ t = .int (j : Int)) (v 2) (dCallD1 0 (ok_draw M) hr (aC (v 4) aN) ⟨1 + i, rfl, by omega, by omega, rfl⟩) ?_) aZ))) ?_) ?_)
      · rintro _ _ rfl ⟨q, hq, rfl⟩
        exact ⟨_, q, _, rfl, rfl, natsD_at (show q < xs.length by omega), _, hx2 _ (List.getElem_mem _), rfl⟩
      · rintro _ ⟨_, rfl, _, rfl, _, ⟨_, ⟨j, hj, rfl⟩, _, rfl, rfl⟩, rfl⟩
        have hi2 := hx2 _ (List.getElem_mem hk)
        obtain ⟨i', j', h1, h2, e⟩ := two_sorted hi2 hj
        exact ⟨_, rfl, sortd_ints [_, _], i', j', h1, h2, by rw [e]⟩
      rintro _ B6 σ6 H6 ⟨i', j', hi', hj', rfl⟩ t6 y6
      have m6 := mp.on t6
      have hl6 := hl.up t6.kb
      have hz : lks.length < 100000 := by have := hl.len; omega
      refine ss1 (sPutT 3 hr y6 m6 (dCallD1 0 (ok_strength M) hr aN ⟨rfl, rfl⟩) (dIx (v 5) dI) (dIx (v 5) dI) hz fun w t B7 H7 hs t7 hd y7 m7 => ?_)
      exact ⟨B7, _, (y7.fo 4).fo 5, m7, (hl6.up t7.kb).put hi' hj' hd hs⟩
    · rintro σ' H' ⟨B', lks, y4, mp, hl⟩
      exact ⟨B', lks, y4.fo 2, mp, hl.more (by omega)⟩
  obtain ⟨B4, lks, y4, m4, hl4⟩ := h3
  -- more links
  refine ssCut (fun σ' H' => ∃ B' lks, Sy K (some (a, c)) B H B' H' σ' [.raw (.ref a), .dat (.int n), .any, .raw (.ref p), .any, .any, .any, .any] ∧ Mu (some (a, c)) H B' H' p (.dT lks) ∧ LkD K B' n 20 lks) (sForR (g := gName 6) y4.sl y4.ok (passes_of rfl) rfl M.range (v 1) (by omega) (by omega) (pg_name nd (by rfl) (Or.inl rfl)) fun B3 H3 t3 o3 => ?_) fun σ3 H3 h3 => ?_
  · refine ⟨fun i σ' H' => ∃ B' lks, Sy K (some (a, c)) B H B' H' σ' [.raw (.ref a), .dat (.int n), .any, .raw (.ref p), .any, .any, .any, .any] ∧ Mu (some (a, c)) H B' H' p (.dT lks) ∧ LkD K B' n (4 + 4 * i) lks, ?_, ?_, ?_⟩
    · exact ⟨B3, lks, y4.on t3 o3, m4.on t3, hl4.up t3.kb⟩
    · rintro i σ' H' hi ⟨B', lks, y4, mp, hl⟩
      have y5 := y4.put 6 (s := some (V.int (i : Int))) (x := .dat (.int (i : Int))) ⟨_, rfl, .int _⟩
      refine (show wSs _ _ _ (σ'.set 6 (some (V.int (i : Int)))) H' from ?_)
      generalize σ'.set 6 (some (V.int (i : Int))) = σ5 at y5 ⊢
      refine ss1 (sForR2 (g := gName 7) y5.sl y5.ok (passes_of rfl) rfl M.range (v 6) (v 1) (by omega) (by omega) (by omega) (pg_name nd (by rfl) (Or.inl rfl)) fun B3 H3 t3 o3 => ?_)
      refine ⟨fun j σ' H' => ∃ B' lks, Sy K (some (a, c)) B H B' H' σ' [.raw (.ref a), .dat (.int n), .any, .raw (.ref p), .any, .any, .dat (.int (i : Int)), .any] ∧ Mu (some (a, c)) H B' H' p (.dT lks) ∧ LkD K B' n (4 + 4 * i + j) lks, ?_, ?_, ?_⟩
      · exact ⟨B3, lks, y5.on t3 o3, mp.on t3, hl.up t3.kb⟩
      · rintro j σ' H' hj ⟨B', lks, y4, mp, hl⟩
        have y6 := y4.put 7 (s := some (V.int ((i : Int) + (j : Int)))) (x := .dat (.int ((i + j : Nat) : Int))) ⟨_, rfl, by rw [Int.natCast_add]; exact .int _⟩
        refine (show wSs _ _ _ (σ'.set 7 (some (V.int ((i : Int) + (j : Int))))) H' from ?_)
        generalize σ'.set 7 (some (V.int ((i : Int) + (j : Int)))) = σ6 at y6 ⊢
        have yl := y6.look mp
        have hlen := hl.len
        refine ss1 (w_s (ps_if pt_w pss_w pss_w) (goT (S := fun _ => True) (tW (wAndS (S1 := fun _ => True) (S2 := fun _ => True) (tNotInT 3 hr upd_same (v 6) (v 7)) (fun _ => wAnd1 (tCmp' (op_eqD hr.units) (dCallD1 0 (ok_draw M) hr (aC dI aN) ⟨3, rfl, by decide, by decide, rfl⟩) dI ?_ (nomark _))) (fun _ => trivial) (fun _ _ _ => trivial))) yl.sl yl.ok fun b H7 t7 o7 _ => ?_))
        · rintro B1 H1 x z ta tb e ok1 g1 g2 ⟨n, hn, rfl⟩ rfl Q' r
          exact ⟨.int n, .int 0, g1.up ok1.kh, g2.up ok1.kh, rfl, rfl, r _ _ B1 H1 .refl ok1 (.bl _) ⟨_, rfl, trivial⟩⟩
        · obtain ⟨t8, o8, m8⟩ := unlook y6.ok mp t7 o7
          have y8 := y6.on t8 o8
          have hl8 := hl.up t8.kb
          generalize less (upd B' p (.dT lks)) p = B8 at t8 o8 m8 y8 hl8
          cases b with
          | true => 
            refine iteT (ss1 (sPutT 3 hr y8 m8 (dCallD1 0 (ok_strength M) hr aN ⟨rfl, rfl⟩) (v 6) (v 7) (by omega) fun w t B9 H9 hs t9 hd y9 m9 => ?_))
            exact ⟨B9, _, y9.fo 7, m9, (hl8.up t9.kb).put (by omega) (by omega) hd hs⟩
          | false => exact iteF (ssN ⟨B8, lks, y8.fo 7, m8, hl8.more (by omega)⟩)
      · rintro σ' H' ⟨B', lks, y4, mp, hl⟩
        exact ⟨B', lks, y4.fo 6, mp, hl.more (by omega)⟩
    · rintro σ' H' ⟨B', lks, y4, mp, hl⟩
      exact ⟨B', lks, y4, mp, hl.more (by omega)⟩
  obtain ⟨B5, lks, y5, m5, hl5⟩ := h3
  refine ss1 (sRetLock y5 m5 trivial (fun _ => trivial) (fun od => dTupleS (Sa := fun t => ∃ xs, t = .list xs ∧ xs.length ≤ 20 ∧ ∀ x ∈ xs, LinkD n x) M.tuple (dSortS hr M.sorted (Sa := fun t => ∃ xs, t = .list xs ∧ xs.length ≤ 20 ∧ ∀ x ∈ xs, LinkD n x) ?_ ?_) ?_) ret)
  · refine de_of (pe_lc (te := tTup (tCons (tOp (rIx K) (tVar 5) (tC (.int 0))) (tCons (tOp (rIx K) (tVar 5) (tC (.int 1))) (tCons (tDGet (tVar 3) (tVar 5)) tNil)))) rfl nd (pi_keys (pe_var (i := 3) (by rfl) (by first | exact Or.inl rfl | exact Or.inr (Or.inl rfl) | exact Or.inr (Or.inr rfl)) (by decide) (by decide))) (blkOk_by (N := nJoin) (sc := defScope (top 62)) (own := [("_law_pair", 5)]) (by decide +kernel)) (fun s H C cl fp => pg_name nd (i := 5) (by rfl) (Or.inl rfl)) (fun s H C cl fp => pts_nil)
      (fun s H C cl fp => pe_tup (pa_cons (pe_ix ix_seq (pe_var (i := 5) (by rfl) (Or.inl rfl) (by decide) (by decide)) pe_int (fun _ _ => rfl)) (pa_cons (pe_ix ix_seq (pe_var (i := 5) (by rfl) (Or.inl rfl) (by decide) (by decide)) pe_int (fun _ _ => rfl)) (pa_cons (pe_dget (room1 hr) (pe_var (i := 3) (by rfl) (by first | exact Or.inl rfl | exact Or.inr (Or.inl rfl) | exact Or.inr (Or.inr rfl)) (by decide) (by decide)) (pe_var (i := 5) (by rfl) (Or.inl rfl) (by decide) (by decide)) (fun _ _ => rfl)) pa_nil)))) (by intro _; rfl)) ?_
    intro B1 σ H1 e sl ok1 Q1 r
    refine ⟨.ref p, sl.raw (i := 3) rfl, p, od, rfl, .inr ⟨lks, ok1.kh _ _ (e _ _ upd_same), fun D hD => ?_⟩⟩
    refine lc_gen (K := K) (R := fun _ t => LinkD n t) walk_keysT (by have := hl5.len; omega) (fun B' H' t o => o.kh _ _ (t.kb _ _ (e _ _ upd_same))) ok1 hD ?_ ?_
    · rintro i w B' H' H'' hi t o ⟨rfl, k, v0, q, hk, rfl, hq⟩
      refine ⟨B', _, .refl, o, fun Q h => h, wipe_set (by decide), fun Qe hQe => ?_⟩
      have h3 : (L2.wipe σ [5])[3]? = some (some (.ref p)) := ((sl.up t.kb).wipe [5]).raw (i := 3) rfl
      have hlen : 5 < (L2.wipe σ [5]).length := by
        obtain ⟨s5, h5, _⟩ := ((sl.up t.kb).wipe [5]).at_ 5 .any rfl
        exact (List.getElem?_eq_some_iff.mp h5).1
      have h5 : ((L2.wipe σ [5]).set 5 (some (V.ref q)))[5]? = some (some (.ref q)) := List.getElem?_set_self hlen
      have h3' : ((L2.wipe σ [5]).set 5 (some (V.ref q)))[3]? = some (some (.ref p)) := by rw [List.getElem?_set_ne (by decide)]; exact h3
      obtain ⟨i', j', t', ek, hi', hj', hd', a', b', hs', rfl⟩ := hl5.ents (k, v0) (List.mem_of_getElem? hk)
      have ek' : k = [.inl (i' : Int), .inl (j' : Int)] := ek
      subst ek'
      have hv0 : valV lks [.inl (i' : Int), .inl (j' : Int)] = some v0 := valV_nodup (q := ([.inl (i' : Int), .inl (j' : Int)], v0)) hl5.nd (List.mem_of_getElem? hk)
      have hp'' : H'' p = some (.frz od (.dT lks)) := o.kh _ _ (t.kb _ _ (e _ _ upd_same))
      have eq2 : H'' q = some (.tup [.int i', .int j']) := hq
      have kb : Same B5 B' := fun a u ea => t.kb _ _ (e _ _ (by rw [upd_ne (ne_of_none ea m5.hid)]; exact ea))
      refine ⟨_, h5, .inr (.inl ⟨q, _, 0, .int i', rfl, rfl, SqT.of eq2, rfl, ⟨_, h5, .inr (.inl ⟨q, _, 1, .int j', rfl, rfl, SqT.of eq2, rfl, ⟨_, h3', _, h5, p, v0, rfl, .inr ⟨lks, [.inl (i' : Int), .inl (j' : Int)], q, .inr ⟨od, hp''⟩, rfl, hq, hv0.symm⟩, ?_⟩⟩)⟩⟩)⟩
      refine ⟨show 3 ≤ sizeLine by decide, fun z hz => hQe _ _ _ _ (Tr.lay o hz) (o.lay hz) (.tup (SqT.of upd_same) (.cons (.int _) (.cons (.int _) (.cons ((hd'.up kb).up (Tr.lay (o := .tup [.int i', .int j', v0]) o hz).kb) .nil)))) ⟨i', j', a', b', hi', hj', hs', rfl⟩⟩
    · refine fun vs ts B' H' tr ok' m hd hh => (r.own (S' := fun ys => ys.length = lks.length ∧ ∀ (i : Nat) y, ys[i]? = some y → LinkD n y) ?_) D vs ts B' H' tr ok' m hd hh
      rintro ys ⟨hy1, hy2⟩
      refine ⟨ys, rfl, by rw [hy1]; have := hl5.len; omega, fun x hx => ?_⟩
      obtain ⟨i, hi, rfl⟩ := List.getElem_of_mem hx
      exact hy2 i _ (List.getElem?_eq_getElem hi)
  · rintro _ ⟨xs, rfl, h1, h2⟩
    exact ⟨xs, rfl, sortd_links h2, _, rfl, by rw [(sortD_perm xs).length_eq]; exact h1, fun x hx => h2 x ((sortD_perm xs).mem_iff.mp hx)⟩
  · rintro _ ⟨xs, rfl, h1, h2⟩
    exact ⟨xs, rfl, xs, rfl, h1, h2⟩
end K20
set_option maxHeartbeats 4000000
namespace K20
open PySem PySem.Spec L2
open PyProof.Rows hiding St
variable {P : Program} {w : World} {K : Fg} {mg : Str → Option Value} {base : Heap}
/-! ### loose links, shapes -/
abbrev nFree : List Str := ["_law_d", "_law_n", "_law_links", "_law_i", "_law_j"]
theorem scFree : FnScope nFree ["_law_d", "_law_n"] (defScope (top 63)) := ⟨rfl, rfl, rfl, by decide +kernel, rfl, by decide +kernel, by decide +kernel⟩
theorem ok_free (M : Md K mg) : Cal P w K mg base 3 "_law_free" (FnD K fLinks) [] := by
  refine mkCal (M.df 63 (by decide)) scFree (fun _ _ _ _ _ _ us hl => match us, hl with | [_, _], _ => rfl) (fun vs H Q E h => ?_) fun f cdv A outer s H vs Q E hr h => ?_
  · obtain ⟨a, c, ws, B, ts, S, rfl, ok, hv, ⟨n, rfl, _⟩, _⟩ := h
    exact congrArg Nat.succ hv.len
  obtain ⟨a, c, ws, B, ts, S, rfl, ok, hv, ⟨n, rfl, hn1, hn, rfl⟩, ret⟩ := h
  have y := Sy.iniD (N := nFree) ok hv
  have nd := scFree.nd
  refine ssC (sNew 2 y ok nd fun p σ2 hp y2 m2 => ?_)
  refine ssCut (fun σ' H' => ∃ (B' : Hp) (vs : List V) (ts : List PyData), Sy K (some (a, c)) B H B' H' σ' [.raw (.ref a), .dat (.int n), .raw (.ref p), .any, .any] ∧ Mu (some (a, c)) H B' H' p (.lst vs) ∧ DpAll K B' vs ts ∧ ts.length ≤ 16 ∧ ∀ t ∈ ts, LinkD n t) (sForR (g := gName 3) y2.sl y2.ok (passes_of rfl) rfl M.range (v 1) (by omega) (by omega) (pg_name nd (by rfl) (Or.inl rfl)) fun B3 H3 t3 o3 => ?_) fun σ3 H3 h3 => ?_
  · refine ⟨fun i σ' H' => ∃ (B' : Hp) (vs : List V) (ts : List PyData), Sy K (some (a, c)) B H B' H' σ' [.raw (.ref a), .dat (.int n), .raw (.ref p), .any, .any] ∧ Mu (some (a, c)) H B' H' p (.lst vs) ∧ DpAll K B' vs ts ∧ ts.length ≤ 4 * i ∧ ∀ t ∈ ts, LinkD n t, ?_, ?_, ?_⟩
    · exact ⟨B3, [], [], y2.on t3 o3, m2.on t3, .nil, Nat.le_refl _, fun q hq => (nomatch hq)⟩
    · rintro i σ' H' hi ⟨B', vs, ts, y4, mp, hd, hl, hls⟩
      have y5 := y4.put 3 (s := some (V.int (i : Int))) (x := .dat (.int (i : Int))) ⟨_, rfl, .int _⟩
      refine (show wSs _ _ _ (σ'.set 3 (some (V.int (i : Int)))) H' from ?_)
      generalize σ'.set 3 (some (V.int (i : Int))) = σ5 at y5 ⊢
      refine ss1 (sForR2 (g := gName 4) y5.sl y5.ok (passes_of rfl) rfl M.range (v 3) (v 1) (by omega) (by omega) (by omega) (pg_name nd (by rfl) (Or.inl rfl)) fun B3 H3 t3 o3 => ?_)
      refine ⟨fun j σ' H' => ∃ (B' : Hp) (vs : List V) (ts : List PyData), Sy K (some (a, c)) B H B' H' σ' [.raw (.ref a), .dat (.int n), .raw (.ref p), .dat (.int (i : Int)), .any] ∧ Mu (some (a, c)) H B' H' p (.lst vs) ∧ DpAll K B' vs ts ∧ ts.length ≤ 4 * i + j ∧ ∀ t ∈ ts, LinkD n t, ?_, ?_, ?_⟩
      · exact ⟨B3, vs, ts, y5.on t3 o3, mp.on t3, hd.up t3.kb, hl, hls⟩
      · rintro j σ' H' hj ⟨B', vs, ts, y4, mp, hd, hl, hls⟩
        have y6 := y4.put 4 (s := some (V.int ((i : Int) + (j : Int)))) (x := .dat (.int ((i + j : Nat) : Int))) ⟨_, rfl, by rw [Int.natCast_add]; exact .int _⟩
        refine (show wSs _ _ _ (σ'.set 4 (some (V.int ((i : Int) + (j : Int))))) H' from ?_)
        generalize σ'.set 4 (some (V.int ((i : Int) + (j : Int)))) = σ6 at y6 ⊢
        refine ss1 (sIf (St' := fun _ => True) y6 (tEqI hr (dCallD1 0 (ok_draw M) hr (aC dI aN) ⟨3, rfl, by decide, by decide, rfl⟩) dI (by rintro _ ⟨q, _, rfl⟩; exact ⟨_, rfl, trivial⟩)) (fun _ H7 t7 y7 => ?_) fun _ H7 t7 y7 => ?_)
        · have m7 := mp.on t7
          have l1 := hd.len
          refine ss1 (sApp 2 y7 m7 (dTupP (aP (v 3) (aP (v 4) (aP (dCallD1 0 (ok_strength M) hr aN ⟨rfl, rfl⟩) aZ)))) ?_ (by omega))
          rintro w' _ B8 H8 ⟨_, rfl, _, rfl, _, ⟨_, rfl, _, ⟨_, ⟨a', b', hs, rfl⟩, _, rfl, rfl⟩, rfl⟩, rfl⟩ t8 hd8 _ _ y8 m8
          refine ⟨B8, _, ts ++ [_], y8.fo 4, m8, (hd.up t8.kb).snoc hd8, by rw [List.length_append]; exact Nat.le_trans (Nat.add_le_add hl (Nat.le_refl 1)) (by omega), fun t ht => ?_⟩
          rcases List.mem_append.mp ht with ht | ht
          · exact hls t ht
          · rw [List.mem_singleton.mp ht]
            exact ⟨i, i + j, a', b', by omega, by omega, hs, rfl⟩
        · exact ssN ⟨B', vs, ts, y7.fo 4, mp.on t7, hd, by omega, hls⟩
      · rintro σ' H' ⟨B', vs, ts, y4, mp, hd, hl, hls⟩
        exact ⟨B', vs, ts, y4.fo 3, mp, hd, by omega, hls⟩
    · rintro σ' H' ⟨B', vs, ts, y4, mp, hd, hl, hls⟩
      exact ⟨B', vs, ts, y4, mp, hd, by omega, hls⟩
  obtain ⟨B', vs, ts, y4, mp, hd, hl, hls⟩ := h3
  refine ss1 (sRet (y4.done mp hd 2) (dTupleS M.tuple (v 2) ?_) ret)
  rintro _ rfl
  exact ⟨ts, rfl, ts, rfl, by omega, hls⟩
abbrev nShape : List Str := ["_law_d", "_law_n", "_law_strength_here", "_law_kind", "_law_pairs", "_law_k", "_law_i", "_law_j", "_law_pair"]
theorem scShape : FnScope nShape ["_law_d", "_law_n"] (defScope (top 64)) := ⟨rfl, rfl, rfl, by decide +kernel, rfl, by decide +kernel, by decide +kernel⟩
def PairN (n : Nat) : PyData → Prop := fun t => ∃ i j : Nat, i < n ∧ j < n ∧ t = .tuple [.int i, .int j]
theorem Paired.all {α β : Type} {R : α → β → Prop} {Q : β → Prop} (h : ∀ a b, R a b → Q b) : ∀ {l : List α} {m : List β}, Paired R l m → ∀ b ∈ m, Q b
  | _, _, .nil, b, hb => nomatch hb
  | _, _, .cons r t, b, hb => by
    rcases List.mem_cons.mp hb with rfl | hb
    · exact h _ _ r
    · exact Paired.all h t b hb
theorem Paired.all' {α β : Type} {R : α → β → Prop} {Q : β → Prop} {l : List α} {m : List β} (p : Paired R l m) (h : ∀ a ∈ l, ∀ b, R a b → Q b) : ∀ b ∈ m, Q b := by
  induction p with
  | nil => exact fun b hb => nomatch hb
  | cons r t ih =>
    intro b hb
    rcases List.mem_cons.mp hb with rfl | hb
    · exact h _ (List.mem_cons_self ..) _ r
    · exact ih (fun a ha => h a (List.mem_cons_of_mem _ ha)) b hb
theorem ok_shape (M : Md K mg) : Cal P w K mg base 3 "_law_shape" (FnD K fLinks) [] := by
  refine mkCal (M.df 64 (by decide)) scShape (fun _ _ _ _ _ _ us hl => match us, hl with | [_, _], _ => rfl) (fun vs H Q E h => ?_) fun f cdv A outer s H vs Q E hr h => ?_
  · obtain ⟨a, c, ws, B, ts, S, rfl, ok, hv, ⟨n, rfl, _⟩, _⟩ := h
    exact congrArg Nat.succ hv.len
  obtain ⟨a, c, ws, B, ts, S, rfl, ok, hv, ⟨n, rfl, hn1, hn, rfl⟩, ret⟩ := h
  have y := Sy.iniD (N := nShape) ok hv
  have nd := scShape.nd
  refine ssC (sSet 2 y nd (dCallD1 0 (ok_strength M) hr aN ⟨rfl, rfl⟩) ?_)
  rintro _ B1 σ1 H1 ⟨sa, sb, hsb, rfl⟩ t1 y1
  refine ssC (sSet 3 y1 nd (dCallD1 0 (ok_draw M) hr (aC dI aN) ⟨3, rfl, by decide, by decide, rfl⟩) ?_)
  rintro _ B2 σ2 H2 ⟨kd, hkd, rfl⟩ t2 y2
  refine ssCut (fun σ' H' => ∃ (B' : Hp) (ts : List PyData), Sy K (some (a, c)) B H B' H' σ' [.raw (.ref a), .dat (.int n), .dat (pairD sa sb), .any, .dat (.list ts), .any, .any, .any, .any] ∧ ts.length ≤ 20 ∧ ∀ t ∈ ts, PairN n t) (sIf1 y2 (tEq hr (v 3) dI rfl rfl) (fun _ H3 t3 y3 => ?_) fun _ H3 t3 y3 => ?_) fun σ3 H3 h3 => ?_
  · refine ss1 (sSet 4 y3 nd (S := fun t => ∃ ts, t = .list ts ∧ ts.length ≤ 20 ∧ ∀ t ∈ ts, PairN n t) (dCatS (deL (dLcR 5 rfl nd M.range (dSub (v 1) dI) (by omega) (blkOk_by (N := nShape) (sc := defScope (top 64)) (own := [("_law_k", 5)]) (by decide +kernel)) (by decide) (fun s H C cl fp => pg_name nd (i := 5) (by rfl) (Or.inl rfl)) (R := fun _ => PairN n) (fun i B4 hi e s H C cl fp => (dTup (aC (v 5) (aC (dAdd (v 5) dI) aN))).to ?_)))
      (dIf (S := fun t => ∃ ts, t = .list ts ∧ ts.length ≤ 1 ∧ ∀ t ∈ ts, PairN n t) (tGt (v 1) dI) (fun h2 => (dLst (aC (dTup (aC dI (aC (dSub (v 1) dI) aN))) aN)).to ?_) (fun _ => (dLst aN).to ?_)) ?_) ?_)
    · rintro _ rfl
      exact ⟨i, i + 1, by omega, by omega, by rw [Int.natCast_add]; rfl⟩
    · rintro _ rfl
      have h3 : 2 < n := by have := of_decide_eq_true h2; omega
      refine ⟨_, rfl, Nat.le_refl _, fun t ht => ?_⟩
      rw [List.mem_singleton.mp ht]
      exact ⟨0, n - 1, by omega, by omega, by rw [Int.natCast_sub hn1]; rfl⟩
    · rintro _ rfl
      exact ⟨[], rfl, Nat.zero_le _, fun t ht => nomatch ht⟩
    · rintro _ _ ⟨ys, rfl, hy⟩ ⟨zs, rfl, h1, h2⟩
      have l1 := Paired.length hy
      rw [rgD_len] at l1
      refine ⟨ys, zs, rfl, rfl, by omega, _, rfl, by rw [List.length_append]; omega, fun t ht => ?_⟩
      rcases List.mem_append.mp ht with ht | ht
      · exact Paired.all (Q := PairN n) (fun _ _ h => h) hy t ht
      · exact h2 t ht
    · rintro _ B4 σ4 H4 ⟨ts, rfl, h1, h2⟩ t4 y4
      exact ⟨B4, ts, (y4.fo 3), h1, h2⟩
  · refine ss1 (sIf1 y3 (tEq hr (v 3) dI rfl rfl) (fun _ H4 t4 y4 => ?_) fun _ H4 t4 y4 => ?_)
    · refine ss1 (sSetL 4 y4 (dLcR2 5 rfl nd M.range dI (v 1) (by omega) (blkOk_by (N := nShape) (sc := defScope (top 64)) (own := [("_law_k", 5)]) (by decide +kernel)) (by decide) (fun s H C cl fp => pg_name nd (i := 5) (by rfl) (Or.inl rfl)) (R := fun _ => PairN n) (fun i B4 hi e s H C cl fp => (dTup (aC dI (aC (v 5) aN))).to ?_)) ?_)
      · rintro _ rfl
        exact ⟨0, 1 + i, by omega, by omega, by rw [Int.natCast_add]; rfl⟩
      · intro ys B5 σ5 H5 hy t5 y5
        have l1 := Paired.length hy
        rw [rgD_len] at l1
        exact ⟨B5, ys, y5.fo 3, by omega, Paired.all (Q := PairN n) (fun _ _ h => h) hy⟩
    · refine ssC (sNew 4 y4 ok nd fun p σ5 hp y5 m5 => ?_)
      refine ss1 (sForR (g := gName 6) y5.sl y5.ok (passes_of rfl) rfl M.range (v 1) (by omega) (by omega) (pg_name nd (by rfl) (by first | exact Or.inl rfl | exact Or.inr rfl)) fun B6 H6 t6 o6 => ?_)
      refine ⟨fun i σ' H' => ∃ (B' : Hp) (vs : List V) (ts : List PyData), Sy K (some (a, c)) B H B' H' σ' [.raw (.ref a), .dat (.int n), .dat (pairD sa sb), .any, .raw (.ref p), .any, .any, .any, .any] ∧ Mu (some (a, c)) H B' H' p (.lst vs) ∧ DpAll K B' vs ts ∧ ts.length ≤ 4 * i ∧ ∀ t ∈ ts, PairN n t, ?_, ?_, ?_⟩
      · exact ⟨B6, [], [], (y5.on t6 o6).fo 3, m5.on t6, .nil, Nat.le_refl _, fun q hq => (nomatch hq)⟩
      · rintro i σ' H' hi ⟨B', vs, ts, y6, mp, hd, hl, hls⟩
        have y7 := y6.put 6 (s := some (V.int (i : Int))) (x := .dat (.int (i : Int))) ⟨_, rfl, .int _⟩
        refine (show wSs _ _ _ (σ'.set 6 (some (V.int (i : Int)))) H' from ?_)
        generalize σ'.set 6 (some (V.int (i : Int))) = σ7 at y7 ⊢
        have l1 := hd.len
        refine ss1 (sExt 4 y7 mp (LO.o <| dLcR2 7 rfl nd M.range (dAdd (v 6) dI) (v 1) (by omega) (blkOk_by (N := nShape) (sc := defScope (top 64)) (own := [("_law_j", 7)]) (by decide +kernel)) (by decide) (fun s H C cl fp => pg_name nd (i := 7) (by rfl) (Or.inl rfl)) (R := fun _ => PairN n) (fun j B4 hj e s H C cl fp => (dTup (aC (v 6) (aC (v 7) aN))).to ?_)) ?_ ?_)
        · rintro _ rfl
          exact ⟨i, i + 1 + j, by omega, by omega, by rw [Int.natCast_add, Int.natCast_add]; rfl⟩
        · intro ws us B8 H8 hy t8 hd8 y8 m8
          have l2 := Paired.length hy
          rw [rgD_len] at l2
          refine ⟨B8, _, ts ++ us, y8.fo 6, m8, (hd.up t8.kb).app hd8, by rw [List.length_append]; omega, fun t ht => ?_⟩
          rcases List.mem_append.mp ht with ht | ht
          · exact hls t ht
          · exact Paired.all (Q := PairN n) (fun _ _ h => h) hy t ht
        · intro us hy
          have l2 := Paired.length hy
          rw [rgD_len] at l2
          omega
      · rintro σ' H' ⟨B', vs, ts, y6, mp, hd, hl, hls⟩
        exact ⟨_, ts, y6.done mp hd 4, by omega, hls⟩
  obtain ⟨B4, ts, y4, h1, h2⟩ := h3
  refine ss1 (sRet y4 (dTupleS (Sa := fun t => ∃ xs, t = .list xs ∧ xs.length ≤ 20 ∧ ∀ x ∈ xs, LinkD n x) M.tuple (dSortS hr M.sorted (deL (dLc 8 rfl nd (blkOk_by (N := nShape) (sc := defScope (top 64)) (own := [("_law_pair", 8)]) (by decide +kernel)) (v 4) rfl (by omega) (by decide) (fun s H C cl fp => pg_name nd (i := 8) (by rfl) (Or.inl rfl)) (R := fun _ => LinkD n) (fun z B5 hz e s H C cl fp => ?_))) ?_) ?_) ret)
  · obtain ⟨i, j, hi, hj, rfl⟩ := h2 z hz
    refine (dTup (aC (dIx (v 8) dI) (aC (dIx (v 8) dI) (aC (v 2) aN)))).to ?_
    rintro _ rfl
    exact ⟨i, j, sa, sb, hi, hj, hsb, rfl⟩
  · rintro _ ⟨ys, rfl, hy⟩
    have l2 := Paired.length hy
    have h4 := Paired.all (Q := LinkD n) (fun _ _ h => h) hy
    exact ⟨ys, rfl, sortd_links h4, _, rfl, by rw [(sortD_perm ys).length_eq]; omega, fun x hx => h4 x ((sortD_perm ys).mem_iff.mp hx)⟩
  · rintro _ ⟨xs, rfl, h1, h2⟩
    exact ⟨xs, rfl, xs, rfl, h1, h2⟩
end K20
set_option maxHeartbeats 4000000
namespace K20
open PySem PySem.Spec L2
open PyProof.Rows hiding St
variable {P : Program} {w : World} {K : Fg} {mg : Str → Option Value} {base : Heap}
/-! ### courses, starts -/
def CourseD (n r : Nat) : PyData → Prop := fun t => ∃ ls, t = .list ls ∧ ls.length = r ∧ ∀ l ∈ ls, LinksD n l
def fCourse : List PyData → (PyData → Prop) → Prop := fun ts S => ∃ n r : Nat, ts = [.int n, .int r, .bool true] ∧ 1 ≤ n ∧ n ≤ 4 ∧ r ≤ 4 ∧ S = CourseD n r
abbrev nCourse : List Str := ["_law_d", "_law_n", "_law_rounds", "_law_loose", "_law_links", "_law_k", "_law_found"]
theorem scCourse : FnScope nCourse ["_law_d", "_law_n", "_law_rounds", "_law_loose"] (defScope (top 65)) := ⟨rfl, rfl, rfl, by decide +kernel, rfl, by decide +kernel, by decide +kernel⟩
theorem eqv_int (i j : Int) : PyData.eqv (.int i) (.int j) = decide (i = j) := by simp [PyData.eqv, Bool.beq_eq_decide_eq]
theorem ok_course (M : Md K mg) : Cal P w K mg base 5 "_law_course" (FnD K fCourse) [] := by
  refine mkCal (M.df 65 (by decide)) scCourse (fun _ _ _ _ _ _ us hl => match us, hl with | [_, _, _, _], _ => rfl) (fun vs H Q E h => ?_) fun f cdv A outer s H vs Q E hr h => ?_
  · obtain ⟨a, c, ws, B, ts, S, rfl, ok, hv, ⟨n, r, rfl, _⟩, _⟩ := h
    exact congrArg Nat.succ hv.len
  obtain ⟨a, c, ws, B, ts, S, rfl, ok, hv, ⟨n, r, rfl, hn1, hn, hr4, rfl⟩, ret⟩ := h
  have y := Sy.iniD (N := nCourse) ok hv
  have nd := scCourse.nd
  have draw0 : ∀ {k : Nat} {i : Int} {q : Nat}, True := fun {_ _ _} => trivial
  refine cWhen (St' := fun _ => True) y (tEqI hr (dCallD1 0 (ok_draw M) hr (aC dI aN) ⟨3, rfl, by decide, by decide, rfl⟩) dI (by rintro _ ⟨q, _, rfl⟩; exact ⟨_, rfl, trivial⟩)) (fun _ H1 t1 y1 => ?_) fun _ H1 t1 y1 => ?_
  · refine ssC (sSet 4 y1 nd (dCallD1 0 (ok_shape M) hr (aC (v 1) aN) ⟨n, rfl, hn1, hn, rfl⟩) fun tl B2 σ2 H2 hl t2 y2 => ?_)
    refine ss1 (sRet y2 (deL (dLcR 5 rfl nd M.range (v 2) (by omega) (blkOk_by (N := nCourse) (sc := defScope (top 65)) (own := [("_law_k", 5)]) (by decide +kernel)) (by decide) (fun s H C cl fp => pg_name nd (i := 5) (by rfl) (Or.inl rfl)) (R := fun _ => LinksD n) (fun i B4 hi e s H C cl fp => (v 4).to ?_))) ?_)
    · rintro _ rfl
      exact hl
    · rintro v t B' H' tr ok' hd ⟨ys, rfl, hy⟩
      have l1 := Paired.length hy
      rw [rgD_len] at l1
      exact ret v _ B' H' tr ok' hd ⟨ys, rfl, by omega, Paired.all (Q := LinksD n) (fun _ _ h => h) hy⟩
  · refine ssC (sNew 6 y1 ok nd fun p σ2 hp y2 m2 => ?_)
    refine ssC (sForR (g := gName 5) y2.sl y2.ok (passes_of rfl) rfl M.range (v 2) (by omega) (by omega) (pg_name nd (by rfl) (by first | exact Or.inl rfl | exact Or.inr rfl)) fun B3 H3 t3 o3 => ?_)
    refine ⟨fun i σ' H' => ∃ (B' : Hp) (vs : List V) (ts : List PyData), Sy K (some (a, c)) B H B' H' σ' [.raw (.ref a), .dat (.int n), .dat (.int r), .dat (.bool true), .any, .any, .raw (.ref p)] ∧ Mu (some (a, c)) H B' H' p (.lst vs) ∧ DpAll K B' vs ts ∧ ts.length = i ∧ ∀ t ∈ ts, LinksD n t, ?_, ?_, ?_⟩
    · exact ⟨B3, [], [], y2.on t3 o3, m2.on t3, .nil, rfl, fun q hq => (nomatch hq)⟩
    · rintro i σ' H' hi ⟨B', vs, ts, y4, mp, hd, hl, hls⟩
      have y5 := y4.put 5 (s := some (V.int (i : Int))) (x := .dat (.int (i : Int))) ⟨_, rfl, .int _⟩
      refine (show wSs _ _ _ (σ'.set 5 (some (V.int (i : Int)))) H' from ?_)
      generalize σ'.set 5 (some (V.int (i : Int))) = σ5 at y5 ⊢
      have l1 := hd.len
      refine ss1 (sIf (St' := fun b => b = true → 0 < i) y5 (tW (wAndS (S1 := fun b => b = true → 0 < i) (S2 := fun _ => True) (tTo (tGt (v 5) dI) ?_) (fun _ => wAnd1 (tEqI hr (dCallD1 0 (ok_draw M) hr (aC dI aN) ⟨3, rfl, by decide, by decide, rfl⟩) dI (by rintro _ ⟨q, _, rfl⟩; exact ⟨_, rfl, trivial⟩))) (fun h e => by cases e) (fun b h _ e => h rfl))) (fun h0 H6 t6 y6 => ?_) fun _ H6 t6 y6 => ?_)
      · rintro _ rfl h
        have := of_decide_eq_true h
        omega
      · have m6 := mp.on t6
        have h0' := h0 rfl
        have hk : i - 1 < ts.length := by omega
        obtain ⟨w0, hw0, hd0⟩ := hd.at (List.getElem?_eq_getElem hk)
        refine ss1 (w_s (ps_expr (pe_bm PySem.F.plainAttrs_list PySem.F.slot_list_append PySem.F.type_list_append mt_append (pe_var (i := 6) (by rfl) (Or.inl rfl) (by decide) (by decide)) (pa_cons (pe_ix ix_seq (pe_var (i := 6) (by rfl) (Or.inl rfl) (by decide) (by decide)) pe_w (fun _ _ => rfl)) pa_nil))) ?_)
        refine ⟨_, y6.sl.raw (i := 6) rfl, .inl ⟨rfl, _, SqL.of m6.at_⟩, _, y6.sl.raw (i := 6) rfl, goE (dSub (v 5) dI) y6.sl y6.ok ?_⟩
        rintro w1 _ B7 H7 t7 o7 hd7 rfl
        obtain rfl := hd7.int_inv
        have m7 := m6.on t7
        have y7 := y6.on t7 o7
        have ei : ((i : Int) - 1) = ((i - 1 : Nat) : Int) := by omega
        rw [ei]
        refine .inl ⟨p, vs, _, w0, rfl, rfl, SqL.of m7.at_, atI_nat hw0, p, vs, w0, rfl, rfl, m7.at_, by exact Nat.lt_of_lt_of_le (show vs.length < 100000 by omega) (by decide), ?_⟩
        refine ⟨B7, _, ts ++ [ts[i - 1]], (y7.mut m7).fo 5, m7.set, (hd.up t7.kb).snoc (hd0.up t7.kb), by rw [List.length_append, hl]; rfl, fun t ht => ?_⟩
        rcases List.mem_append.mp ht with ht | ht
        · exact hls t ht
        · rw [List.mem_singleton.mp ht]
          exact hls _ (List.getElem_mem hk)
      · have fin : ∀ (w' : V) (t : PyData) (B8 H8 : Hp), LinksD n t → Tr (some (a, c)) B' H6 B8 H8 → Dp K B8 w' t → Sy K (some (a, c)) B H B8 H8 σ5 [.raw (.ref a), .dat (.int n), .dat (.int r), .dat (.bool true), .any, .dat (.int (i : Int)), .raw (.ref p)] → Mu (some (a, c)) H B8 H8 p (.lst vs) → Sy K (some (a, c)) B H B8 (upd H8 p (.lst (vs ++ [w']))) σ5 [.raw (.ref a), .dat (.int n), .dat (.int r), .dat (.bool true), .any, .dat (.int (i : Int)), .raw (.ref p)] → Mu (some (a, c)) H B8 (upd H8 p (.lst (vs ++ [w']))) p (.lst (vs ++ [w'])) →
            ∃ (B' : Hp) (vs' : List V) (ts : List PyData), Sy K (some (a, c)) B H B' (upd H8 p (.lst (vs ++ [w']))) σ5 [.raw (.ref a), .dat (.int n), .dat (.int r), .dat (.bool true), .any, .any, .raw (.ref p)] ∧ Mu (some (a, c)) H B' (upd H8 p (.lst (vs ++ [w']))) p (.lst vs') ∧ DpAll K B' vs' ts ∧ ts.length = i + 1 ∧ ∀ t ∈ ts, LinksD n t := by
          intro w' t B8 H8 hs t8 hd8 _ _ y8 m8
          refine ⟨B8, _, ts ++ [t], y8.fo 5, m8, (hd.up t8.kb).snoc hd8, by rw [List.length_append, hl]; rfl, fun t' ht => ?_⟩
          rcases List.mem_append.mp ht with ht | ht
          · exact hls t' ht
          · rw [List.mem_singleton.mp ht]
            exact hs
        have m6 := mp.on t6
        refine ss1 (sIf (St' := fun _ => True) y6 (tW (wAndS (S1 := fun _ => True) (S2 := fun _ => True) (tTo (dVal (v 3)) fun _ _ => trivial) (fun _ => wAnd1 (tEqI hr (dCallD1 0 (ok_draw M) hr (aC dI aN) ⟨2, rfl, by decide, by decide, rfl⟩) dI (by rintro _ ⟨q, _, rfl⟩; exact ⟨_, rfl, trivial⟩))) (fun _ => trivial) (fun _ _ _ => trivial))) (fun _ H7 t7 y7 => ?_) fun _ H7 t7 y7 => ?_)
        · exact ss1 (sApp 6 y7 (m6.on t7) (dCallD1 0 (ok_free M) hr (aC (v 1) aN) ⟨n, rfl, hn1, hn, rfl⟩) (fun w' t B8 H8 hs t8 => fin w' t B8 H8 hs (t7.trans t8)) (by omega))
        · exact ss1 (sApp 6 y7 (m6.on t7) (dCallD1 0 (ok_joined M) hr (aC (v 1) aN) ⟨n, rfl, hn1, hn, rfl⟩) (fun w' t B8 H8 hs t8 => fin w' t B8 H8 hs (t7.trans t8)) (by omega))
    · rintro σ' H' ⟨B', vs, ts, y4, mp, hd, hl, hls⟩
      refine ss1 (sRet (y4.done mp hd 6) (v 6) fun v t B' H' tr ok' hd e => ret v t B' H' tr ok' hd ⟨ts, e, by omega, hls⟩)
/-! ### starts -/
def startD (p : Nat × Nat) : PyData := .tuple [.int p.1, .int p.2]
/-- the houses' starts: one is lit -/
structure StartsOk (n words : Nat) (ss : List (Nat × Nat)) : Prop where
  len : ss.length = n
  wd : ∀ s ∈ ss, s.2 < words
  lamp : ∃ l < n, ∀ i s, ss[i]? = some s → s.1 = if i = l then 1 else 0
def fStarts : List PyData → (PyData → Prop) → Prop := fun ts S => ∃ n k : Nat, ts = [.int n, .int k] ∧ 1 ≤ n ∧ n ≤ 4 ∧ 1 ≤ k ∧ k ≤ 4 ∧ S = fun t => ∃ ss, t = .list (ss.map startD) ∧ StartsOk n k ss
abbrev nStarts : List Str := ["_law_d", "_law_n", "_law_words", "_law_lamp", "_law_alike", "_law_word", "_law_found", "_law_k", "_law_own"]
theorem scStarts : FnScope nStarts ["_law_d", "_law_n", "_law_words"] (defScope (top 66)) := ⟨rfl, rfl, rfl, by decide +kernel, rfl, by decide +kernel, by decide +kernel⟩
theorem ok_starts (M : Md K mg) : Cal P w K mg base 2 "_law_starts" (FnD K fStarts) [] := by
  refine mkCal (M.df 66 (by decide)) scStarts (fun _ _ _ _ _ _ us hl => match us, hl with | [_, _, _], _ => rfl) (fun vs H Q E h => ?_) fun f cdv A outer s H vs Q E hr h => ?_
  · obtain ⟨a, c, ws, B, ts, S, rfl, ok, hv, ⟨n, r, rfl, _⟩, _⟩ := h
    exact congrArg Nat.succ hv.len
  obtain ⟨a, c, ws, B, ts, S, rfl, ok, hv, ⟨n, wd, rfl, hn1, hn, hw1, hw, rfl⟩, ret⟩ := h
  have y := Sy.iniD (N := nStarts) ok hv
  have nd := scStarts.nd
  refine ssC (sSet 3 y nd (dCallD1 0 (ok_draw M) hr (aC (v 1) aN) ⟨n, rfl, by omega, by omega, rfl⟩) ?_)
  rintro _ B1 σ1 H1 ⟨lamp, hlamp, rfl⟩ t1 y1
  refine ssC (sSet 4 y1 nd (dCallD1 0 (ok_draw M) hr (aC dI aN) ⟨2, rfl, by omega, by omega, rfl⟩) ?_)
  rintro _ B2 σ2 H2 ⟨alike, _, rfl⟩ t2 y2
  refine ssC (sSet 5 y2 nd (dCallD1 0 (ok_draw M) hr (aC (v 2) aN) ⟨wd, rfl, by omega, by omega, rfl⟩) ?_)
  rintro _ B3 σ3 H3 ⟨word, hword, rfl⟩ t3 y3
  refine ssC (sNew 6 y3 ok nd fun p σ4 hp y4 m4 => ?_)
  refine ssC (sForR (g := gName 7) y4.sl y4.ok (passes_of rfl) rfl M.range (v 1) (by omega) (by omega) (pg_name nd (by rfl) (by first | exact Or.inl rfl | exact Or.inr rfl)) fun B5 H5 t5 o5 => ?_)
  refine ⟨fun i σ' H' => ∃ (B' : Hp) (vs : List V) (ss : List (Nat × Nat)), Sy K (some (a, c)) B H B' H' σ' [.raw (.ref a), .dat (.int n), .dat (.int wd), .dat (.int lamp), .dat (.int alike), .dat (.int word), .raw (.ref p), .any, .any] ∧ Mu (some (a, c)) H B' H' p (.lst vs) ∧ DpAll K B' vs (ss.map startD) ∧ ss.length = i ∧ (∀ s ∈ ss, s.2 < wd) ∧ ∀ j s, ss[j]? = some s → s.1 = if j = lamp then 1 else 0, ?_, ?_, ?_⟩
  · exact ⟨B5, [], [], y4.on t5 o5, m4.on t5, .nil, rfl, fun q hq => (nomatch hq), fun j s h => by simp at h⟩
  · rintro i σ' H' hi ⟨B', vs, ss, y6, mp, hd, hl, hwd, hla⟩
    have y7 := y6.put 7 (s := some (V.int (i : Int))) (x := .dat (.int (i : Int))) ⟨_, rfl, .int _⟩
    refine (show wSs _ _ _ (σ'.set 7 (some (V.int (i : Int)))) H' from ?_)
    generalize σ'.set 7 (some (V.int (i : Int))) = σ7 at y7 ⊢
    refine ssC (sSet 8 y7 nd (S := Below wd) (dIf (tEq hr (v 4) dI rfl rfl) (fun _ => dCallD1 0 (ok_draw M) hr (aC (v 2) aN) ⟨wd, rfl, by omega, by omega, rfl⟩) (fun _ => (v 5).to (by rintro _ rfl; exact ⟨word, hword, rfl⟩))) ?_)
    rintro _ B8 σ8 H8 ⟨own, hown, rfl⟩ t8 y8
    have m8 := mp.on t8
    have l1 := hd.len
    rw [List.length_map] at l1
    refine ss1 (sApp 6 y8 m8 (dTup (aC (dIntB M.int (dEq hr (v 7) (v 3) rfl rfl)) (aC (v 8) aN))) ?_ (by omega))
    rintro w' _ B9 H9 rfl t9 hd9 _ _ y9 m9
    rw [eqv_int] at hd9
    refine ⟨B9, _, ss ++ [(if i = lamp then 1 else 0, own)], (y9.fo 7).fo 8, m9, ?_, by rw [List.length_append, hl]; rfl, fun s hs => ?_, fun j s hj => ?_⟩
    · rw [List.map_append]
      refine (hd.up (t8.kb.trans t9.kb)).snoc ?_
      have e : startD (if i = lamp then 1 else 0, own) = .tuple [.int (if decide ((i : Int) = (lamp : Int)) = true then 1 else 0), .int own] := by
        unfold startD
        by_cases h : i = lamp
        · simp [h]
        · have h' : ¬ ((i : Int) = (lamp : Int)) := by omega
          simp [h, h']
      rw [e]
      exact hd9
    · rcases List.mem_append.mp hs with hs | hs
      · exact hwd s hs
      · rw [List.mem_singleton.mp hs]
        exact hown
    · by_cases h : j < ss.length
      · rw [List.getElem?_append_left h] at hj
        exact hla j s hj
      · rw [List.getElem?_append_right (by omega)] at hj
        have e : j - ss.length = 0 := by
          by_cases h0 : j - ss.length = 0
          · exact h0
          · rw [List.getElem?_eq_none (by simp; omega)] at hj
            cases hj
        rw [e] at hj
        cases hj
        have : j = i := by omega
        rw [this]
  · rintro σ' H' ⟨B', vs, ss, y6, mp, hd, hl, hwd, hla⟩
    refine ss1 (sRet (y6.done mp hd 6) (v 6) fun v t B' H' tr ok' hd e => ret v t B' H' tr ok' hd ⟨ss, e, by omega, hwd, lamp, hlamp, hla⟩)
end K20
set_option maxHeartbeats 4000000
namespace K20
open PySem PySem.Spec L2
open PyProof.Rows hiding St
variable {P : Program} {w : World} {K : Fg} {mg : Str → Option Value} {base : Heap}
/-! ### what each house hears -/
def EntD (n : Nat) : PyData → Prop := fun t => ∃ j a b : Nat, j < n ∧ SB 1 a b ∧ t = .tuple [.int j, pairD a b]
def RowD (n : Nat) : PyData → Prop := fun t => ∃ es, t = .list es ∧ es.length ≤ 40 ∧ ∀ e ∈ es, EntD n e
def fHeard : List PyData → (PyData → Prop) → Prop := fun ts S => ∃ (n : Nat) (t : PyData), ts = [t, .int n] ∧ LinksD n t ∧ n ≤ 4 ∧ S = fun t => ∃ rs, t = .list rs ∧ rs.length = n ∧ ∀ r ∈ rs, RowD n r
abbrev nHeard : List Str := ["_law_links", "_law_n", "_law_found", "_law_k", "_law_i", "_law_j", "_law_strength_here", "_law_row"]
theorem scHeard : FnScope nHeard ["_law_links", "_law_n"] (defScope (top 67)) := ⟨rfl, rfl, rfl, by decide +kernel, rfl, by decide +kernel, by decide +kernel⟩
/-- rows of one's own -/
abbrev Rw := Addr × List V × List PyData
structure Rws (K : Fg) (H0 B H : Hp) (n m : Nat) (rs : List Rw) : Prop where
  mu : ∀ r ∈ rs, Mu none H0 B H r.1 (.lst r.2.1)
  dp : ∀ r ∈ rs, DpAll K B r.2.1 r.2.2
  nd : (rs.map (·.1)).Nodup
  le : ∀ r ∈ rs, r.2.2.length ≤ m
  en : ∀ r ∈ rs, ∀ e ∈ r.2.2, EntD n e
section
variable {H0 B H B1 H1 : Hp} {n m : Nat} {rs : List Rw}
theorem Rws.on (h : Rws K H0 B H n m rs) (t : Tr none B H B1 H1) : Rws K H0 B1 H1 n m rs := ⟨fun r hr => (h.mu r hr).on t, fun r hr => (h.dp r hr).up t.kb, h.nd, h.le, h.en⟩
theorem Rws.more {m' : Nat} (h : Rws K H0 B H n m rs) (e : m ≤ m') : Rws K H0 B H n m' rs := ⟨h.mu, h.dp, h.nd, fun r hr => Nat.le_trans (h.le r hr) e, h.en⟩
/-- another entry for a row -/
theorem Rws.app {i : Nat} {a : Addr} {vs : List V} {ds : List PyData} {v : V} {t : PyData} (h : Rws K H0 B H n m rs) (hi : rs[i]? = some (a, vs, ds)) (hv : Dp K B v t) (ht : EntD n t) : Rws K H0 B (upd H a (.lst (vs ++ [v]))) n (m + 1) (rs.set i (a, vs ++ [v], ds ++ [t])) := by
  have hil : i < rs.length := (List.getElem?_eq_some_iff.mp hi).1
  have hm : (a, vs, ds) ∈ rs := List.mem_of_getElem? hi
  have mem : ∀ r ∈ rs.set i (a, vs ++ [v], ds ++ [t]), r = (a, vs ++ [v], ds ++ [t]) ∨ (r ∈ rs ∧ r.1 ≠ a) := by
    intro r hr
    obtain ⟨j, hj, e⟩ := List.getElem_of_mem hr
    rw [List.length_set] at hj
    by_cases z : i = j
    · left
      subst z
      rw [List.getElem_set_self] at e
      exact e.symm
    · right
      rw [List.getElem_set_ne z] at e
      refine ⟨by rw [← e]; exact List.getElem_mem hj, fun za => z ?_⟩
      have e1 : (rs.map (·.1))[i]? = some a := by rw [List.getElem?_map, hi]; rfl
      have e2 : (rs.map (·.1))[j]? = some a := by rw [List.getElem?_map, List.getElem?_eq_getElem hj, e, ← za]; rfl
      exact (List.getElem?_inj (by rw [List.length_map]; exact hil) h.nd).mp (e1.trans e2.symm)
  refine ⟨fun r hr => ?_, fun r hr => ?_, ?_, fun r hr => ?_, fun r hr => ?_⟩
  · rcases mem r hr with rfl | ⟨hr, ne⟩
    · exact (h.mu _ hm).set
    · exact (h.mu r hr).other ne
  · rcases mem r hr with rfl | ⟨hr, ne⟩
    · exact (h.dp _ hm).snoc hv
    · exact h.dp r hr
  · rw [List.map_set]
    have e1 : (rs.map (·.1))[i]? = some a := by rw [List.getElem?_map, hi]; rfl
    show ((rs.map (·.1)).set i a).Nodup
    rw [set_id e1]
    exact h.nd
  · rcases mem r hr with rfl | ⟨hr, ne⟩
    · have := h.le _ hm
      show (ds ++ [t]).length ≤ m + 1
      rw [List.length_append]
      exact Nat.add_le_add this (Nat.le_refl 1)
    · exact Nat.le_succ_of_le (h.le r hr)
  · rcases mem r hr with rfl | ⟨hr, ne⟩
    · intro e he
      rcases List.mem_append.mp he with he | he
      · exact h.en _ hm e he
      · rw [List.mem_singleton.mp he]
        exact ht
    · exact h.en r hr
/-- all become data -/
theorem Rws.freeze {B0 : Hp} {σ : St} {ds : List Sd} : ∀ {rs : List Rw} {B : Hp}, Rws K H0 B H n m rs → Sy K none B0 H0 B H σ ds → ∃ B1, Same B B1 ∧ Sy K none B0 H0 B1 H σ ds ∧ DpAll K B1 (rs.map fun r => V.ref r.1) (rs.map fun r => .list r.2.2)
  | [], B, h, y => ⟨B, Same.refl _, y, .nil⟩
  | (a, vs, ts) :: rs, B, h, y => by
    have m0 := h.mu _ (List.mem_cons_self ..)
    have nd := List.nodup_cons.mp h.nd
    have e0 : Same B (upd B a (.lst vs)) := same_upd m0.hid
    have h' : Rws K H0 (upd B a (.lst vs)) H n m rs := by
      refine ⟨fun r hr => ?_, fun r hr => (h.dp r (List.mem_cons_of_mem _ hr)).up e0, nd.2, fun r hr => h.le r (List.mem_cons_of_mem _ hr), fun r hr => h.en r (List.mem_cons_of_mem _ hr)⟩
      have mr := h.mu r (List.mem_cons_of_mem _ hr)
      refine ⟨mr.new, ?_, mr.at_, mr.nd⟩
      rw [upd_ne]
      · exact mr.hid
      · intro z
        exact nd.1 (List.mem_map.mpr ⟨r, hr, z⟩)
    obtain ⟨B1, e1, y1, d1⟩ := Rws.freeze h' (y.look m0)
    refine ⟨B1, e0.trans e1, y1, .cons (.lst (SqL.of (e1 _ _ upd_same)) (((h.dp _ (List.mem_cons_self ..)).up e0).up e1)) d1⟩
end
theorem ok_heard (M : Md K mg) : Cal P w K mg base 1 "_law_heard" (Fn K fHeard) [] := by
  refine mkCal (M.df 67 (by decide)) scHeard (fun _ _ _ _ _ _ us hl => match us, hl with | [_, _], _ => rfl) (fun vs H Q E h => ?_) fun f cdv A outer s H vs Q E hr h => ?_
  · obtain ⟨B, ts, S, ok, hv, ⟨n, t, rfl, _⟩, _⟩ := h
    exact hv.len
  obtain ⟨B, ts, S, ok, hv, ⟨n, t, rfl, ⟨ls, rfl, hl, hls⟩, hn, rfl⟩, ret⟩ := h
  have y := Sy.ini (N := nHeard) ok hv
  have nd := scHeard.nd
  refine ssCut (fun σ' H' => ∃ (B' : Hp) (D : Addr) (rs : List Rw), Sy K none B H B' H' σ' [.dat (.tuple ls), .dat (.int n), .raw (.ref D), .any, .any, .any, .any, .any] ∧ B' D = some (.lst (rs.map fun r => V.ref r.1)) ∧ rs.length = n ∧ Rws K H B' H' n 0 rs) (w_s (ps_setLc (te := tLst tNil) (i := 2) rfl nd (by rfl) (by rfl) (by rfl) (pi_range1 (by rfl) M.range (pa_cons (pe_var (i := 1) (by rfl) (by first | exact Or.inl rfl | exact Or.inr (Or.inl rfl) | exact Or.inr (Or.inr rfl)) (by decide) (by decide)) pa_nil (by rfl)) (by rfl)) (blkOk_by (N := nHeard) (sc := defScope (top 67)) (own := [("_law_k", 3)]) (by decide +kernel)) (fun s H C cl fp => pg_name nd (i := 3) (by rfl) (Or.inl rfl)) (fun s H C cl fp => pts_nil) (fun s H C cl fp => pe_lst pa_nil)) ?_) fun σ1 H1 h1 => ?_
  · obtain ⟨v1, hv1, hd1⟩ := y.sl.dat (i := 1) rfl
    obtain rfl := hd1.int_inv
    refine ⟨_, hv1, n, rfl, by omega, by omega, fun D hD => ?_⟩
    refine lc_it walk_range (fun i H2 => ∃ rs : List Rw, Tr none B H B H2 ∧ Ok none B H2 ∧ Mu none H B H2 D (.lst (rs.map fun r => V.ref r.1)) ∧ rs.length = i ∧ Rws K H B H2 n 0 rs ∧ ∀ r ∈ rs, r.1 ≠ D) ⟨[], .lay0 hD, ok.lay0 hD, Mu.make ok ok .refl hD, rfl, ⟨(fun r h => nomatch h), (fun r h => nomatch h), List.nodup_nil, (fun r h => nomatch h), (fun r h => nomatch h)⟩, (fun r h => nomatch h)⟩ (fun _ _ _ _ => trivial) ?_ ?_
    · rintro i x H2 H2' hi ⟨rs, t2, o2, m2, hl2, hr2, hne⟩ ⟨rfl, rfl⟩
      refine ⟨wipe_set (by decide), ?_⟩
      simp only [tYes, if_true]
      refine ⟨by show 0 ≤ sizeLine; decide, fun q hq => ?_⟩
      have hqD : q ≠ D := fun z => by rw [z, m2.at_] at hq; cases hq
      have t3 : Tr none B H2' B (upd H2' q (.lst [])) := .lay0 hq
      have mq : Mu none H B (upd H2' q (.lst [])) q (.lst []) := Mu.make ok o2 t2 hq
      have m3 := m2.on t3
      refine ⟨_, m3.at_, Nat.lt_of_lt_of_le (show (rs.map fun r => V.ref r.1).length < 100 by rw [List.length_map]; omega) (by decide), rs ++ [(q, [], [])], ?_, ?_, ?_, by rw [List.length_append, hl2]; rfl, ?_, ?_⟩
      · rw [show (rs.map fun r : Rw => V.ref r.1) ++ [V.ref q] = (rs ++ [(q, [], [])]).map fun r : Rw => V.ref r.1 by rw [List.map_append]; rfl]
        exact (t2.trans t3).mut m3
      · exact (o2.lay0 hq).mut m3
      · rw [show (rs.map fun r : Rw => V.ref r.1) ++ [V.ref q] = (rs ++ [(q, [], [])]).map fun r : Rw => V.ref r.1 by rw [List.map_append]; rfl]
        exact m3.set
      · have h3 := hr2.on t3
        refine ⟨fun r hr => ?_, fun r hr => ?_, ?_, fun r hr => ?_, fun r hr => ?_⟩
        · rcases List.mem_append.mp hr with hr | hr
          · exact (h3.mu r hr).other (hne r hr)
          · rw [List.mem_singleton.mp hr]
            exact mq.other hqD
        · rcases List.mem_append.mp hr with hr | hr
          · exact h3.dp r hr
          · rw [List.mem_singleton.mp hr]
            exact .nil
        · rw [List.map_append, List.nodup_append]
          refine ⟨h3.nd, List.nodup_cons.mpr ⟨List.not_mem_nil, List.nodup_nil⟩, fun a ha b hb e => ?_⟩
          obtain ⟨r, hr, rfl⟩ := List.mem_map.mp ha
          have hb' : b = q := List.mem_singleton.mp hb
          have e1 := (hr2.mu r hr).at_
          rw [e, hb', hq] at e1
          cases e1
        · rcases List.mem_append.mp hr with hr | hr
          · exact h3.le r hr
          · rw [List.mem_singleton.mp hr]
            exact Nat.le_refl _
        · rcases List.mem_append.mp hr with hr | hr
          · exact h3.en r hr
          · rw [List.mem_singleton.mp hr]
            exact fun e he => nomatch he
      · intro r hr
        rcases List.mem_append.mp hr with hr | hr
        · exact hne r hr
        · rw [List.mem_singleton.mp hr]
          exact hqD
    · rintro H2 ⟨rs, t2, o2, m2, hl2, hr2, hne⟩
      refine ⟨upd B D (.lst (rs.map fun r => V.ref r.1)), D, rs, ⟨t2.freeze m2, o2.freeze m2, ?_⟩, upd_same, hl2, ?_⟩
      · exact (y.sl.up (same_upd m2.hid)).put 2 (x := .raw (.ref D)) rfl
      · refine ⟨fun r hr => ?_, fun r hr => (hr2.dp r hr).up (same_upd m2.hid), hr2.nd, hr2.le, hr2.en⟩
        have mr := hr2.mu r hr
        exact ⟨mr.new, by rw [upd_ne (hne r hr)]; exact mr.hid, mr.at_, mr.nd⟩
  obtain ⟨B1, D, rs, y1, hD, hn1, hrs⟩ := h1
  refine ssC (sFor (g := gTup K 3 (gCons (gName 4) (gCons (gName 5) (gCons (gName 6) gNil)))) y1.sl y1.ok (passes_of rfl) rfl (v 0) rfl (pg_tup rfl (pgs_cons (pg_name nd (by rfl) (Or.inl rfl)) (pgs_cons (pg_name nd (by rfl) (Or.inl rfl)) (pgs_cons (pg_name nd (by rfl) (Or.inl rfl)) pgs_nil)))) fun w0 B2 H2 t2 o2 hd2 => ?_)
  refine ⟨fun i B' σ' H' => ∃ rs : List Rw, Sy K none B H B' H' σ' [.dat (.tuple ls), .dat (.int n), .raw (.ref D), .any, .any, .any, .any, .any] ∧ B' D = some (.lst (rs.map fun r => V.ref r.1)) ∧ rs.length = n ∧ Rws K H B' H' n (2 * i) rs, ?_, ?_, ?_, ?_⟩
  · exact ⟨rs, y1.on t2 o2, t2.kb _ _ hD, hn1, hrs.on t2⟩
  · rintro i B' σ' H' ⟨rs, y3, _⟩
    exact y3.same
  · rintro i x wx B' σ' H' hx eB ⟨rs, y3, hD3, hn3, hr3⟩ hdx
    obtain ⟨p, q, sa, sb, hp, hq, hs, rfl⟩ := hls x (List.mem_of_getElem? hx)
    obtain ⟨ax, vx, rfl, hsx, hdvx⟩ := hdx.tup_inv
    obtain ⟨v1, v2, v3, rfl, d1, d2, d3⟩ := hdvx.three
    obtain rfl := d1.int_inv
    obtain rfl := d2.int_inv
    refine ⟨ax, _, rfl, sqT_mono y3.same hsx, rfl, _, _, rfl, _, _, rfl, _, _, rfl, rfl, ?_⟩
    have y4 : Sy K none B H B' H' (((σ'.set 4 (some (.int (p : Int)))).set 5 (some (.int (q : Int)))).set 6 (some v3)) [.dat (.tuple ls), .dat (.int n), .raw (.ref D), .any, .dat (.int (p : Int)), .dat (.int (q : Int)), .dat (pairD sa sb), .any] :=
      ((y3.put 4 (x := .dat (.int (p : Int))) ⟨_, rfl, .int _⟩).put 5 (x := .dat (.int (q : Int))) ⟨_, rfl, .int _⟩).put 6 (x := .dat (pairD sa sb)) ⟨_, rfl, d3⟩
    refine (show wSs _ _ _ (((σ'.set 4 (some (.int (p : Int)))).set 5 (some (.int (q : Int)))).set 6 (some v3)) H' from ?_)
    generalize ((σ'.set 4 (some (V.int (p : Int)))).set 5 (some (V.int (q : Int)))).set 6 (some v3) = σ4 at y4 ⊢
    have hi6 : i < ls.length := (List.getElem?_eq_some_iff.mp hx).1
    refine ssC (w_s (ps_set nd (i := 7) (by rfl) (Or.inl rfl) (pe_ix ix_seq (pe_var (i := 2) (by rfl) (Or.inl rfl) (by decide) (by decide)) pe_w (fun _ _ => rfl))) ?_)
    refine ⟨_, y4.sl.raw (i := 2) rfl, goE (v 4) y4.sl y4.ok ?_⟩
    rintro w5 _ B5 H5 t5 o5 hd5 rfl
    obtain rfl := hd5.int_inv
    have y5 := y4.on t5 o5
    have hr5 := hr3.on t5
    have hD5 := t5.kb _ _ hD3
    have hi5 : p < rs.length := by omega
    obtain ⟨a5, vs5, ts5, er5⟩ : ∃ a vs ts, rs[p]? = some (a, vs, ts) := ⟨_, _, _, List.getElem?_eq_getElem hi5⟩
    have eq5 : (rs.map fun r => V.ref r.1)[p]? = some (.ref a5) := by rw [List.getElem?_map, er5]; rfl
    refine .inl ⟨D, _, (p : Nat), .ref a5, rfl, rfl, SqL.of (y5.same _ _ hD5), atI_nat eq5, ?_⟩
    have z5 := y5.put 7 (s := some (V.ref a5)) (x := .raw (.ref a5)) rfl
    refine (show wSs _ _ _ (List.set _ 7 (some (V.ref a5))) H5 from ?_)
    generalize List.set _ 7 (some (V.ref a5)) = σ5 at z5 ⊢
    have mem5 : (a5, vs5, ts5) ∈ rs := List.mem_of_getElem? er5
    have hl5 : vs5.length < 100000 := by
      have h1 := (hr5.dp _ mem5).len
      have h2 := hr5.le _ mem5
      dsimp only at h1 h2
      omega
    refine ssC (sApp 7 z5 (hr5.mu _ mem5) (dTup (aC (v 5) (aC (v 6) aN))) ?_ hl5)
    rintro w6 _ B6 H6 rfl t6 hd6 _ _ y6 _
    have hr6 := (hr5.on t6).app er5 hd6 (t := .tuple [.int q, pairD sa sb]) ⟨q, sa, sb, hq, hs, rfl⟩
    have hD6 := t6.kb _ _ hD5
    have ern : ((rs.set p (a5, vs5 ++ [w6], ts5 ++ [.tuple [.int q, pairD sa sb]])).map fun r => V.ref r.1) = rs.map fun r => V.ref r.1 := by
      rw [List.map_set]
      exact set_id eq5
    generalize hrs' : rs.set p (a5, vs5 ++ [w6], ts5 ++ [.tuple [.int q, pairD sa sb]]) = rs6 at hr6 ern
    have hn6 : rs6.length = n := by rw [← hrs', List.length_set]; exact hn3
    rw [← ern] at hD6
    have y6 := (y6.fo 7)
    refine ss1 (sIf1 y6 (tNe hr (v 4) (v 5) rfl rfl) (fun _ H7 t7 y7 => ?_) fun _ H7 t7 y7 => ssN ?_)
    rotate_left
    · exact ⟨_, eB.trans ((t5.kb.trans t6.kb)), rs6, ((y7.fo 4).fo 5).fo 6, hD6, hn6, (hr6.on t7).more (by omega)⟩
    have hr7 := hr6.on t7
    refine ssC (w_s (ps_set nd (i := 7) (by rfl) (Or.inl rfl) (pe_ix ix_seq (pe_var (i := 2) (by rfl) (Or.inl rfl) (by decide) (by decide)) pe_w (fun _ _ => rfl))) ?_)
    refine ⟨_, y7.sl.raw (i := 2) rfl, goE (v 5) y7.sl y7.ok ?_⟩
    rintro w8 _ B8 H8 t8 o8 hd8 rfl
    obtain rfl := hd8.int_inv
    have y8 := y7.on t8 o8
    have hr8 := hr7.on t8
    have hD8 := t8.kb _ _ hD6
    have hi8 : q < rs6.length := by omega
    obtain ⟨a8, vs8, ts8, er8⟩ : ∃ a vs ts, rs6[q]? = some (a, vs, ts) := ⟨_, _, _, List.getElem?_eq_getElem hi8⟩
    have eq8 : (rs6.map fun r => V.ref r.1)[q]? = some (.ref a8) := by rw [List.getElem?_map, er8]; rfl
    refine .inl ⟨D, _, (q : Nat), .ref a8, rfl, rfl, SqL.of (y8.same _ _ hD8), atI_nat eq8, ?_⟩
    have z8 := y8.put 7 (s := some (V.ref a8)) (x := .raw (.ref a8)) rfl
    refine (show wSs _ _ _ (List.set _ 7 (some (V.ref a8))) H8 from ?_)
    generalize List.set _ 7 (some (V.ref a8)) = σ8 at z8 ⊢
    have mem8 : (a8, vs8, ts8) ∈ rs6 := List.mem_of_getElem? er8
    have hl8 : vs8.length < 100000 := by
      have h1 := (hr8.dp _ mem8).len
      have h2 := hr8.le _ mem8
      dsimp only at h1 h2
      omega
    refine ss1 (sApp 7 z8 (hr8.mu _ mem8) (dTup (aC (v 4) (aC (v 6) aN))) ?_ hl8)
    rintro w9 _ B9 H9 rfl t9 hd9 _ _ y9 _
    have hr9 := (hr8.on t9).app er8 hd9 (t := .tuple [.int p, pairD sa sb]) ⟨p, sa, sb, hp, hs, rfl⟩
    have hD9 := t9.kb _ _ hD8
    have ern2 : ((rs6.set q (a8, vs8 ++ [w9], ts8 ++ [.tuple [.int p, pairD sa sb]])).map fun r => V.ref r.1) = rs6.map fun r => V.ref r.1 := by
      rw [List.map_set]
      exact set_id eq8
    rw [← ern2] at hD9
    exact ⟨_, eB.trans (((t5.kb.trans t6.kb).trans t8.kb).trans t9.kb), _, (((y9.fo 7).fo 4).fo 5).fo 6, hD9, by rw [List.length_set]; exact hn6, hr9.more (by omega)⟩

  · rintro B' σ' H' eB ⟨rs, y3, hD3, hn3, hr3⟩
    obtain ⟨B4, e4, y4, d4⟩ := Rws.freeze hr3 y3
    refine ss1 (sRet (y4.say 2 rfl (t := .list (rs.map fun r => .list r.2.2)) (.lst (SqL.of (e4 _ _ hD3)) d4)) (v 2) fun v t B5 H5 tr ok' hd e => ret v t B5 H5 tr ok' hd ⟨_, e, by rw [List.length_map]; exact hn3, fun r hr => ?_⟩)
    obtain ⟨r', hr', rfl⟩ := List.mem_map.mp hr
    exact ⟨_, rfl, Nat.le_trans (hr3.le r' hr') (by omega), hr3.en r' hr'⟩
end K20
set_option maxHeartbeats 4000000
/-! Plain: the order of data, entries and nodes. -/
namespace K20
open PySem PySem.Spec L2
open PyProof.Rows hiding St
open PySem.W (EachIs dataLt dataLe alike alikeAll AllAlike Sortable rowLt dataLt_pair dataLt_cons dataLt_tuple dataLt_int)
theorem dlt_irrefl (x : PyData) : dataLt x x = false := PyProof.Rows.lex_irrefl _
theorem dlt_trans {x y z : PyData} (h : dataLt x y = true) (g : dataLt y z = true) : dataLt x z = true := PyProof.Rows.lex_trans _ _ _ h g
theorem dlt_neg {x z : PyData} (y : PyData) (h : dataLt x z = true) : dataLt x y = true ∨ dataLt y z = true := PyProof.Rows.lex_negTrans _ _ _ h
theorem sortD_ord (xs : List PyData) : (sortD xs).Pairwise (fun a b => dataLt b a = false) := by
  have h := List.pairwise_mergeSort (le := dataLe false fun x : PyData => x) (fun a b c h1 h2 => by
    have h1' : (!dataLt b a) = true := h1
    have h2' : (!dataLt c b) = true := h2
    show (!dataLt c a) = true
    cases e : dataLt c a with
    | false => rfl
    | true =>
      rcases dlt_neg b e with q | q
      · rw [q] at h2'; exact absurd h2' (by decide)
      · rw [q] at h1'; exact absurd h1' (by decide)) (fun a b => by
    show ((!dataLt b a) || (!dataLt a b)) = true
    cases e : dataLt b a with
    | false => rfl
    | true =>
      cases e2 : dataLt a b with
      | false => rfl
      | true => exact absurd (dlt_trans e e2) (by rw [dlt_irrefl]; decide)) xs
  refine List.Pairwise.imp ?_ h
  intro a b hab
  have h1 : (!dataLt b a) = true := hab
  cases e : dataLt b a with
  | false => rfl
  | true => rw [e] at h1; exact absurd h1 (by decide)
/-! entries -/
abbrev Ent := Nat × Nat × Nat
def entD (e : Ent) : PyData := .tuple [.int e.1, pairD e.2.1 e.2.2]
abbrev Nd := Nat × List Ent
def nodeD (x : Nd) : PyData := .tuple [.int x.1, .tuple (x.2.map entD)]
theorem alike_ent (x y : Ent) : alike (entD x) (entD y) = true := by simp [alike, alikeAll, entD, pairD]
theorem alike_ents : ∀ xs ys : List Ent, alikeAll (xs.map entD) (ys.map entD) = true
  | [], _ => by simp [alikeAll]
  | _ :: _, [] => by simp [alikeAll]
  | x :: xs, y :: ys => by simp only [List.map_cons, alikeAll]; rw [alike_ent, alike_ents]; rfl
theorem alike_node (x y : Nd) : alike (nodeD x) (nodeD y) = true := by simp [alike, alikeAll, nodeD, alike_ents]
theorem depth_ents : ∀ xs : List Ent, PyData.depthAll (xs.map entD) ≤ 3
  | [] => by simp [PyData.depthAll]
  | x :: xs => by
    have h := depth_ents xs
    simp [PyData.depthAll, PyData.depth, entD, pairD]
    omega
theorem depth_node (x : Nd) : (nodeD x).depth ≤ 50 := by
  have h := depth_ents x.2
  simp [PyData.depth, PyData.depthAll, nodeD]
  omega
theorem nat_eqI (a b : Nat) : decide ((a : Int) = (b : Int)) = decide (a = b) := decide_eq_decide.mpr (by omega)
theorem eqv_pair (a b c d : Nat) : PyData.eqv (pairD a b) (pairD c d) = decide (a = c ∧ b = d) := by
  simp only [pairD, PyData.eqv, PyData.eqvAll, Bool.beq_eq_decide_eq, nat_eqI, Bool.and_true, Bool.decide_and]
theorem eqv_ent (x y : Ent) : PyData.eqv (entD x) (entD y) = decide (x = y) := by
  obtain ⟨a, b, c⟩ := x
  obtain ⟨a', b', c'⟩ := y
  simp only [entD, pairD, PyData.eqv, PyData.eqvAll, Bool.beq_eq_decide_eq, nat_eqI, Bool.and_true, Prod.mk.injEq, Bool.decide_and]
theorem eqv_ents : ∀ xs ys : List Ent, PyData.eqvAll (xs.map entD) (ys.map entD) = decide (xs = ys)
  | [], [] => by simp [PyData.eqvAll]
  | [], _ :: _ => by simp [PyData.eqvAll]
  | _ :: _, [] => by simp [PyData.eqvAll]
  | x :: xs, y :: ys => by simp only [List.map_cons, PyData.eqvAll]; rw [eqv_ent, eqv_ents]; simp
theorem eqv_node (x y : Nd) : PyData.eqv (nodeD x) (nodeD y) = decide (x = y) := by
  obtain ⟨a, b⟩ := x
  obtain ⟨a', b'⟩ := y
  simp only [nodeD, PyData.eqv, PyData.eqvAll, eqv_ents, Bool.beq_eq_decide_eq, nat_eqI, Bool.and_true, Prod.mk.injEq, Bool.decide_and]
theorem lt_ent {x y : Ent} (h : x.1 ≠ y.1) : dataLt (entD x) (entD y) = decide (x.1 < y.1) := by
  unfold entD
  rw [dataLt_pair (by simp [alike]) (by simp [alike, alikeAll, pairD]), eqv_int, dataLt_int]
  have h' : ¬ ((x.1 : Int) = (y.1 : Int)) := by omega
  simp [h', Int.ofNat_lt]
/-- entries whose numbers differ, sorted -/
theorem sort_ents {l : List Ent} (nd : (l.map (·.1)).Nodup) : ∃ l' : List Ent, l'.Perm l ∧ l'.Pairwise (fun a b => a.1 < b.1) ∧ sortD (l.map entD) = l'.map entD := by
  have e : (l.mergeSort (dataLe false entD)).map entD = sortD (l.map entD) := PySem.W.sort_maps (r := dataLe false entD) (s := dataLe false fun x => x) entD (fun _ _ _ _ => rfl)
  refine ⟨_, List.mergeSort_perm _ _, ?_, e.symm⟩
  have ho := sortD_ord (l.map entD)
  rw [← e, List.pairwise_map] at ho
  have hp := (List.mergeSort_perm l (dataLe false entD)).map (·.1)
  have nd2 := hp.nodup_iff.mpr nd
  have nd3 : (l.mergeSort (dataLe false entD)).Pairwise (fun a b => a.1 ≠ b.1) := by
    have := List.nodup_iff_pairwise_ne.mp nd2
    rwa [List.pairwise_map] at this
  refine List.Pairwise.imp ?_ (ho.and nd3)
  rintro a b ⟨h1, h2⟩
  rw [lt_ent (Ne.symm h2)] at h1
  have := of_decide_eq_false h1
  omega
end K20
set_option maxHeartbeats 4000000
namespace K20
open PySem PySem.Spec L2
open PyProof.Rows hiding St
open PySem.W (EachIs dataLt dataLe alike alikeAll AllAlike Sortable)
variable {P : Program} {w : World} {K : Fg} {mg : Str → Option Value} {base : Heap}
/-! ### a standing -/
structure NodeOk (m : Nat) (wh : Bool) (x : Nd) : Prop where
  lt : x.1 < m
  asc : x.2.Pairwise (fun a b => a.1 < b.1)
  en : ∀ e ∈ x.2, e.1 < m ∧ SB 60 e.2.1 e.2.2 ∧ (wh = true → e.2 = (1, 1))
def whS (wh : Bool) : Str := if wh then "which" else "sums"
def NodeP (m : Nat) (wh : Bool) : PyData → Prop := fun t => ∃ x : Nd, NodeOk m wh x ∧ t = nodeD x
def fStand : List PyData → (PyData → Prop) → Prop := fun ts S => ∃ (n m : Nat) (nums : List Nat) (h : Nat) (t : PyData) (wh : Bool), ts = [.list (natsD nums), .int h, t, .str (whS wh)] ∧ nums.length = n ∧ (∀ x ∈ nums, x < m) ∧ h < n ∧ n ≤ 4 ∧ RowD n t ∧ S = NodeP m wh
abbrev nStand : List Str := ["_law_numbers", "_law_house", "_law_heard_here", "_law_hearing", "_law_sums", "_law_other", "_law_strength_here", "_law_number"]
theorem scStand : FnScope nStand ["_law_numbers", "_law_house", "_law_heard_here", "_law_hearing"] (defScope (top 68)) := ⟨rfl, rfl, rfl, by decide +kernel, rfl, by decide +kernel, by decide +kernel⟩
/-- an entry of the sums -/
def SumP (m : Nat) (wh : Bool) (c : Nat) : Key → PyData → Prop := fun k t => ∃ q a b : Nat, k = .inl (q : Int) ∧ q < m ∧ SB c a b ∧ t = pairD a b ∧ (wh = true → a = 1 ∧ b = 1)
theorem sb11 : SB 1 1 1 := ⟨by decide, by decide, by decide, by decide, by decide⟩
theorem keys_nat {B : Hp} {kvs : List (Key × V)} {Q : Key → PyData → Prop} {m : Nat} (h : Ents K B kvs Q) (hq : ∀ k t, Q k t → ∃ q : Nat, k = .inl (q : Int) ∧ q < m) : ∃ ks : List Nat, kvs.map (·.1) = (ks.map fun k : Nat => (k : Int)).map Sum.inl ∧ ks.Nodup ∧ ∀ k ∈ ks, k < m := by
  have key : ∀ l : List Key, (∀ k ∈ l, ∃ q : Nat, k = .inl (q : Int) ∧ q < m) → ∃ ks : List Nat, l = (ks.map fun k : Nat => (k : Int)).map Sum.inl ∧ ∀ k ∈ ks, k < m := by
    intro l
    induction l with
    | nil => exact fun _ => ⟨[], rfl, fun k hk => nomatch hk⟩
    | cons a l ih =>
      intro h
      obtain ⟨q, rfl, hqm⟩ := h a (List.mem_cons_self ..)
      obtain ⟨ks, h1, h2⟩ := ih fun k hk => h k (List.mem_cons_of_mem _ hk)
      refine ⟨q :: ks, by rw [h1]; rfl, fun k hk => ?_⟩
      rcases List.mem_cons.mp hk with rfl | hk
      · exact hqm
      · exact h2 k hk
  obtain ⟨ks, h1, h2⟩ := key (kvs.map (·.1)) (fun k hk => by
    obtain ⟨e, he, rfl⟩ := List.mem_map.mp hk
    obtain ⟨t, _, ht⟩ := h.2 e he
    exact hq _ _ ht)
  refine ⟨ks, h1, ?_, h2⟩
  have nd := h.1
  rw [h1] at nd
  have n1 : (ks.map fun k : Nat => (k : Int)).Nodup := List.Pairwise.of_map (S := (· ≠ ·)) Sum.inl (fun a b h e => h (by rw [e])) nd
  exact List.Pairwise.of_map (S := (· ≠ ·)) (fun k : Nat => (k : Int)) (fun a b h e => h (by rw [e])) n1
theorem ok_stand (M : Md K mg) : Cal P w K mg base 3 "_law_standing" (Fn K fStand) [] := by
  refine mkCal (M.df 68 (by decide)) scStand (fun _ _ _ _ _ _ us hl => match us, hl with | [_, _, _, _], _ => rfl) (fun vs H Q E h => ?_) fun f cdv A outer s H vs Q E hr h => ?_
  · obtain ⟨B, ts, S, ok, hv, ⟨n, m, nums, h, t, wh, rfl, _⟩, _⟩ := h
    exact hv.len
  obtain ⟨B, ts, S, ok, hv, ⟨n, m, nums, h, t, wh, rfl, hn, hnums, hh, hn4, ⟨es, rfl, hes, hes2⟩, rfl⟩, ret⟩ := h
  have y := Sy.ini (N := nStand) ok hv
  have nd := scStand.nd
  refine ssC (sNewK 4 y ok nd fun p σ1 hp y1 m1 => ?_)
  refine ssCut (fun σ' H' => ∃ (B' : Hp) (kvs : List (Key × V)), Sy K none B H B' H' σ' [.dat (.list (natsD nums)), .dat (.int h), .dat (.list es), .dat (.str (whS wh)), .raw (.ref p), .any, .any, .any] ∧ Mu none H B' H' p (.dK kvs) ∧ Ents K B' kvs (SumP m wh 60) ∧ kvs.length ≤ 40) (sFor (g := gTup K 2 (gCons (gName 5) (gCons (gName 6) gNil))) y1.sl y1.ok (passes_of rfl) rfl (v 2) rfl (pg_tup rfl (pgs_cons (pg_name nd (by rfl) (Or.inl rfl)) (pgs_cons (pg_name nd (by rfl) (Or.inl rfl)) pgs_nil))) fun w0 B2 H2 t2 o2 hd2 => ?_) fun σ3 H3 h3 => ?_
  · refine ⟨fun i B' σ' H' => ∃ kvs : List (Key × V), Sy K none B H B' H' σ' [.dat (.list (natsD nums)), .dat (.int h), .dat (.list es), .dat (.str (whS wh)), .raw (.ref p), .any, .any, .any] ∧ Mu none H B' H' p (.dK kvs) ∧ Ents K B' kvs (SumP m wh i) ∧ kvs.length ≤ i, ?_, ?_, ?_, ?_⟩
    · exact ⟨[], y1.on t2 o2, m1.on t2, .nil, Nat.le_refl _⟩
    · rintro i B' σ' H' ⟨kvs, y3, _⟩
      exact y3.same
    · rintro i x wx B' σ' H' hx eB ⟨kvs, y3, m3, e3, l3⟩ hdx
      have hi : i < es.length := (List.getElem?_eq_some_iff.mp hx).1
      obtain ⟨j, sa, sb, hj, hs, rfl⟩ := hes2 x (List.mem_of_getElem? hx)
      obtain ⟨ax, vx, rfl, hsx, hdvx⟩ := hdx.tup_inv
      obtain ⟨v1, v2, rfl, d1, d2⟩ := hdvx.two
      obtain rfl := d1.int_inv
      refine ⟨ax, _, rfl, sqT_mono y3.same hsx, rfl, _, _, rfl, _, _, rfl, rfl, ?_⟩
      have y4 : Sy K none B H B' H' ((σ'.set 5 (some (.int (j : Int)))).set 6 (some v2)) [.dat (.list (natsD nums)), .dat (.int h), .dat (.list es), .dat (.str (whS wh)), .raw (.ref p), .dat (.int (j : Int)), .dat (pairD sa sb), .any] :=
        (y3.put 5 (x := .dat (.int (j : Int))) ⟨_, rfl, .int _⟩).put 6 (x := .dat (pairD sa sb)) ⟨_, rfl, d2⟩
      refine (show wSs _ _ _ ((σ'.set 5 (some (.int (j : Int)))).set 6 (some v2)) H' from ?_)
      generalize (σ'.set 5 (some (V.int (j : Int)))).set 6 (some v2) = σ4 at y4 ⊢
      have hjn : j < nums.length := by omega
      have hjm := hnums _ (List.getElem_mem hjn)
      refine ssC (sSet1 7 y4 nd (dIx (v 0) (v 5) rfl (natsD_at hjn)) fun B5 σ5 H5 t5 y5 => ?_)
      have m5 := m3.on t5
      have e5 := e3.up t5.kb
      generalize nums[j] = q at y5 hjm
      cases wh with
      | true =>
        refine ss1 (sIf1 y5 (tEq hr (v 3) dS (by decide +kernel) (by decide +kernel)) (fun _ H6 t6 y6 => ?_) (fun hf => absurd hf (by decide +kernel)))
        refine ss1 (sPutK 4 hr y6 (m5.on t6) (dTup (aC dI (aC dI aN))) (v 7) (by omega) ?_)
        rintro w7 _ B7 H7 rfl t7 hd7 y7 m7
        exact ⟨B7, eB.trans (t5.kb.trans t7.kb), _, ((y7.fo 5).fo 6).fo 7, m7, (((e5.up t7.kb).imp (fun k t ⟨q, a, b, h1, h2, h3, h4, h5⟩ => ⟨q, a, b, h1, h2, h3.mono (Nat.le_succ i), h4, h5⟩)).put hd7 ⟨q, 1, 1, rfl, hjm, sb11.mono (by omega), rfl, fun _ => ⟨rfl, rfl⟩⟩), Nat.le_trans (length_putK _ _ _) (by omega)⟩
      | false =>
        refine ss1 (sIf1 y5 (tEq hr (v 3) dS (by decide +kernel) (by decide +kernel)) (fun hf => absurd hf (by decide +kernel)) (fun _ H6 t6 y6 => ?_))
        have m6 := m5.on t6
        have yl := y6.look m6
        refine ss1 (sPutK (S := fun t => ∃ a b, SB (i + 1) a b ∧ t = pairD a b) 4 hr y6 m6 (dIf (tInK 4 hr (.inl upd_same) (v 7)) (fun hin => ?_) (fun _ => (v 6).to ?_)) (v 7) (by omega) ?_)
        · obtain ⟨w', hw'⟩ := Option.isSome_iff_exists.mp hin
          obtain ⟨t', ht', q', a', b', _, _, hs', rfl, _⟩ := e5.get hw'
          exact dCall1 (ok_plus M) hr (aC (dGetK 4 hr (.inl upd_same) (v 7) hw' (ht'.up (same_upd m6.hid))) (aC (v 6) aN)) ⟨i, a', b', sa, sb, by omega, hs', hs, rfl, rfl⟩
        · rintro _ rfl
          exact ⟨sa, sb, hs.mono (by omega), rfl⟩
        · rintro w7 _ B7 H7 ⟨a, b, hs7, rfl⟩ t7 hd7 y7 m7
          exact ⟨B7, eB.trans (t5.kb.trans t7.kb), _, ((y7.fo 5).fo 6).fo 7, m7, (((e5.up t7.kb).imp (fun k t ⟨q, a, b, h1, h2, h3, h4, h5⟩ => ⟨q, a, b, h1, h2, h3.mono (Nat.le_succ i), h4, h5⟩)).put hd7 ⟨q, a, b, rfl, hjm, hs7, rfl, fun h => by cases h⟩), Nat.le_trans (length_putK _ _ _) (by omega)⟩
    · rintro B' σ' H' eB ⟨kvs, y3, m3, e3, l3⟩
      exact ⟨B', kvs, y3, m3, e3.imp (fun k t ⟨q, a, b, h1, h2, h3, h4, h5⟩ => ⟨q, a, b, h1, h2, h3.mono (by omega), h4, h5⟩), by omega⟩
  obtain ⟨B4, kvs, y4, m4, e4, l4⟩ := h3
  -- the entries
  have hkeys : ∃ ks : List Nat, kvs.map (·.1) = (ks.map fun k : Nat => (k : Int)).map Sum.inl ∧ ks.Nodup ∧ ∀ k ∈ ks, k < m := by
    exact keys_nat e4 fun k t ⟨q, a, b, h1, h2, _⟩ => ⟨q, h1, h2⟩
  obtain ⟨ks, hks, hksn, hksm⟩ := hkeys
  have hkl : ks.length ≤ 40 := by
    have := congrArg List.length hks
    rw [List.length_map, List.length_map, List.length_map] at this
    omega
  have hhn : h < nums.length := by omega
  refine ss1 (sRetLock y4 m4 trivial (fun _ => trivial) (fun od => (dTupP (aP (dIx (v 0) (v 1) rfl (natsD_at hhn)) (aP (dTupleS (S := fun t => ∃ l : List Ent, t = .tuple (l.map entD) ∧ l.Pairwise (fun a b => a.1 < b.1) ∧ ∀ e ∈ l, e.1 < m ∧ SB 60 e.2.1 e.2.2 ∧ (wh = true → e.2 = (1, 1))) M.tuple (dSortS (S := fun t => ∃ l : List Ent, t = .list (l.map entD) ∧ l.Pairwise (fun a b => a.1 < b.1) ∧ ∀ e ∈ l, e.1 < m ∧ SB 60 e.2.1 e.2.2 ∧ (wh = true → e.2 = (1, 1))) hr M.sorted (deL (dLcK 4 7 rfl nd (blkOk_by (N := nStand) (sc := defScope (top 68)) (own := [("_law_number", 7)]) (by decide +kernel)) upd_same hks (by rw [List.length_map]; omega) (by decide) (fun s H C cl fp => pg_name nd (i := 7) (by rfl) (Or.inl rfl)) (R := fun k t => ∃ q a b : Nat, q < m ∧ k = .int q ∧ SB 60 a b ∧ (wh = true → (a, b) = (1, 1)) ∧ t = entD (q, a, b)) ?_)) ?_) ?_) aZ))).to ?_) ret)
  · intro k B5 hk eB s5 H5 C cl fp
    obtain ⟨k', hk', rfl⟩ := List.mem_map.mp hk
    have hin : (.inl ((k' : Nat) : Int) : Key) ∈ kvs.map (·.1) := by rw [hks]; exact List.mem_map_of_mem (List.mem_map_of_mem hk')
    obtain ⟨w', hw'⟩ := Option.isSome_iff_exists.mp (valV_key.mpr hin)
    obtain ⟨t', ht', q', a', b', hq1, hq2, hs', rfl, hwh⟩ := e4.get hw'
    have hq3 : k' = q' := by
      have e9 : (k' : Int) = (q' : Int) := Sum.inl.inj hq1
      omega
    subst hq3
    refine (dTup (aC (v 7) (aC (dGetK 4 hr (.inr ⟨od, eB _ _ upd_same⟩) (v 7) hw' ((ht'.up (same_upd m4.hid)).up eB)) aN))).to ?_
    rintro _ rfl
    exact ⟨k', a', b', hq2, rfl, hs', fun h => by obtain ⟨rfl, rfl⟩ := hwh h; rfl, rfl⟩
  · rintro _ ⟨ys, rfl, hy⟩
    have hl : ∃ l : List Ent, ys = l.map entD ∧ l.map (·.1) = ks ∧ ∀ e ∈ l, e.1 < m ∧ SB 60 e.2.1 e.2.2 ∧ (wh = true → e.2 = (1, 1)) := by
      clear hkl hks hksn hksm
      generalize hz : ((ks.map fun k : Nat => (k : Int)).map PyData.int) = zs at hy
      induction hy generalizing ks with
      | nil =>
        have : ks = [] := by simpa using hz
        exact ⟨[], rfl, this.symm, fun e he => nomatch he⟩
      | cons r t ih =>
        cases ks with
        | nil => cases hz
        | cons k ks =>
          obtain ⟨h1, h2⟩ := List.cons.inj hz
          obtain ⟨q, a, b, hqm, hq, hs, hw, rfl⟩ := r
          obtain ⟨l, e1, e2, e3⟩ := ih ks h2
          rw [← h1] at hq
          have hkq : k = q := by
            have e9 : (k : Int) = (q : Int) := PyData.int.inj hq
            omega
          subst hkq
          refine ⟨(k, a, b) :: l, by rw [e1]; rfl, by rw [← e2]; rfl, fun e he => ?_⟩
          rcases List.mem_cons.mp he with rfl | he
          · exact ⟨hqm, hs, hw⟩
          · exact e3 e he
    obtain ⟨l, rfl, hl2, hl3⟩ := hl
    obtain ⟨l', hp', ha', e'⟩ := sort_ents (l := l) (by rw [hl2]; exact hksn)
    refine ⟨_, rfl, ⟨fun x hx y hy => ?_, .inl fun x hx => ?_, fun x hx => ?_⟩, l', by rw [e'], ha', fun e he => hl3 e (hp'.mem_iff.mp he)⟩
    · obtain ⟨a, _, rfl⟩ := List.mem_map.mp hx
      obtain ⟨b, _, rfl⟩ := List.mem_map.mp hy
      exact alike_ent a b
    · obtain ⟨a, _, rfl⟩ := List.mem_map.mp hx
      exact ⟨_, _, rfl⟩
    · obtain ⟨a, _, rfl⟩ := List.mem_map.mp hx
      simp [PyData.depth, PyData.depthAll, entD, pairD]
  · rintro _ ⟨l, rfl, h1, h2⟩
    exact ⟨_, rfl, l, rfl, h1, h2⟩
  · rintro _ ⟨_, rfl, _, rfl, _, ⟨_, ⟨l, rfl, h1, h2⟩, _, rfl, rfl⟩, rfl⟩
    exact ⟨(nums[h], l), ⟨hnums _ (List.getElem_mem hhn), h1, h2⟩, rfl⟩
end K20
set_option maxHeartbeats 4000000
/-! Plain: families of rows, the list without repeats. -/
namespace K20
open PySem PySem.Spec L2
open PyProof.Rows hiding St
open PySem.W (EachIs dataLt dataLe alike alikeAll AllAlike Sortable rowLt dataLt_pair dataLt_cons dataLt_tuple dataLt_int)
/-- rows that can be sorted and told apart -/
structure Fam (R : PyData → Prop) : Prop where
  al : ∀ x y, R x → R y → alike x y = true
  tu : ∀ x, R x → ∃ a r, x = .tuple (a :: r)
  dp : ∀ x, R x → x.depth ≤ 50
  sh : ∀ x, R x → SeqAt.shaped x = true
  eq : ∀ x y, R x → R y → PyData.eqv x y = true → x = y
theorem Fam.sortd {R : PyData → Prop} (F : Fam R) {xs : List PyData} (h : ∀ x ∈ xs, R x) : Sortd xs := ⟨fun x hx y hy => F.al x y (h x hx) (h y hy), .inl fun x hx => F.tu x (h x hx), fun x hx => F.dp x (h x hx)⟩
theorem eqv_of_tot {x y : PyData} (al : alike x y = true) (h1 : dataLt x y = false) (h2 : dataLt y x = false) : PyData.eqv x y = true := by
  have e : PySem.W.keyToks x = PySem.W.keyToks y := PyProof.Rows.lex_total _ _ h1 h2
  cases q : PyData.eqv x y with
  | true => rfl
  | false =>
    have z := (PySem.W.toks_eqv x y al).2 q [] [.inl 0]
    rw [← e, PySem.W.lex_pre, PyProof.Rows.lex_irrefl] at z
    exact absurd z (by decide)
theorem shaped_of {d : PyData} (h1 : d.canLay0 = true) (h2 : d.depth ≤ 64) : SeqAt.shaped d = true := by
  unfold SeqAt.shaped
  rw [h1, decide_eq_true h2]
  rfl
theorem lay_ents : ∀ xs : List Ent, PyData.canLayAll0 (xs.map entD) = true
  | [] => by simp [PyData.canLayAll0]
  | x :: xs => by simp [PyData.canLayAll0, PyData.canLay0, entD, pairD, lay_ents xs]
theorem eqv_start (x y : Nat × Nat) : PyData.eqv (startD x) (startD y) = decide (x = y) := by
  obtain ⟨a, b⟩ := x
  obtain ⟨a', b'⟩ := y
  simp only [startD, PyData.eqv, PyData.eqvAll, Bool.beq_eq_decide_eq, nat_eqI, Bool.and_true, Prod.mk.injEq, Bool.decide_and]
theorem Fam.tot {R : PyData → Prop} (F : Fam R) {x y : PyData} (hx : R x) (hy : R y) (h1 : dataLt x y = false) (h2 : dataLt y x = false) : x = y := F.eq x y hx hy (eqv_of_tot (F.al x y hx hy) h1 h2)
theorem Fam.refl {R : PyData → Prop} (F : Fam R) {x : PyData} (hx : R x) : PyData.eqv x x = true := eqv_of_tot (F.al x x hx hx) (dlt_irrefl x) (dlt_irrefl x)
theorem Fam.ne {R : PyData → Prop} (F : Fam R) {x y : PyData} (hx : R x) (hy : R y) : PyData.eqv x y = true ↔ x = y := ⟨F.eq x y hx hy, fun e => by rw [e]; exact F.refl hy⟩
def StartP : PyData → Prop := fun t => ∃ s : Nat × Nat, t = startD s
theorem fam_start : Fam StartP := by
  refine ⟨?_, ?_, ?_, ?_, ?_⟩
  · rintro _ _ ⟨s, rfl⟩ ⟨t, rfl⟩
    simp [alike, alikeAll, startD]
  · rintro _ ⟨s, rfl⟩
    exact ⟨_, _, rfl⟩
  · rintro _ ⟨s, rfl⟩
    simp [PyData.depth, PyData.depthAll, startD]
  · rintro _ ⟨s, rfl⟩
    exact shaped_of (by simp [PyData.canLay0, PyData.canLayAll0, startD]) (by simp [PyData.depth, PyData.depthAll, startD])
  · rintro _ _ ⟨s, rfl⟩ ⟨t, rfl⟩ h
    rw [eqv_start] at h
    rw [of_decide_eq_true h]
def NodeAny : PyData → Prop := fun t => ∃ x : Nd, t = nodeD x
theorem fam_node : Fam NodeAny := by
  refine ⟨?_, ?_, ?_, ?_, ?_⟩
  · rintro _ _ ⟨s, rfl⟩ ⟨t, rfl⟩
    exact alike_node s t
  · rintro _ ⟨s, rfl⟩
    exact ⟨_, _, rfl⟩
  · rintro _ ⟨s, rfl⟩
    exact depth_node s
  · rintro _ ⟨s, rfl⟩
    exact shaped_of (by simp [PyData.canLay0, PyData.canLayAll0, nodeD, lay_ents]) (Nat.le_trans (depth_node s) (by decide))
  · rintro _ _ ⟨s, rfl⟩ ⟨t, rfl⟩ h
    rw [eqv_node] at h
    rw [of_decide_eq_true h]
theorem Fam.sub {R R' : PyData → Prop} (F : Fam R) (h : ∀ x, R' x → R x) : Fam R' := ⟨fun x y a b => F.al x y (h x a) (h y b), fun x a => F.tu x (h x a), fun x a => F.dp x (h x a), fun x a => F.sh x (h x a), fun x y a b => F.eq x y (h x a) (h y b)⟩
/-! ### without repeats -/
/-- what the loop over the sorted rows has -/
structure Dd (L : List PyData) (i : Nat) (us : List PyData) : Prop where
  asc : us.Pairwise (fun a b => dataLt a b = true)
  mem : ∀ x, x ∈ us ↔ x ∈ L.take i
  le : us.length ≤ i
theorem Dd.nil {L : List PyData} : Dd L 0 [] := ⟨.nil, fun x => by simp, Nat.le_refl _⟩
theorem mem_take_succ {L : List PyData} {i : Nat} {x y : PyData} (h : L[i]? = some x) : y ∈ L.take (i + 1) ↔ y ∈ L.take i ∨ y = x := by
  rw [take_snoc h, List.mem_append, List.mem_singleton]
/-- the row repeats the last -/
theorem Dd.skip {L us : List PyData} {i : Nat} {x : PyData} (h : Dd L i us) (hx : L[i]? = some x) (hm : x ∈ us) : Dd L (i + 1) us := ⟨h.asc, fun y => by
  rw [mem_take_succ hx, ← h.mem]
  constructor
  · exact .inl
  · rintro (z | rfl)
    · exact z
    · exact hm, Nat.le_succ_of_le h.le⟩
theorem ord_take {L : List PyData} (ho : L.Pairwise (fun a b => dataLt b a = false)) {i : Nat} {x y : PyData} (hx : L[i]? = some x) (hy : y ∈ L.take i) : dataLt x y = false := by
  obtain ⟨j, hj, e⟩ := List.getElem_of_mem hy
  have hi := (List.getElem?_eq_some_iff.mp hx)
  rw [List.length_take] at hj
  rw [List.getElem_take] at e
  have := List.pairwise_iff_getElem.mp ho j i (by omega) hi.1 (by omega)
  rw [hi.2, e] at this
  exact this
theorem Dd.add {R : PyData → Prop} (F : Fam R) {L us : List PyData} {i : Nat} {x : PyData} (hL : ∀ x ∈ L, R x) (ho : L.Pairwise (fun a b => dataLt b a = false)) (h : Dd L i us) (hx : L[i]? = some x) (hl : ∀ l, us.getLast? = some l → PyData.eqv l x = false) : Dd L (i + 1) (us ++ [x]) := by
  have hR : ∀ y ∈ us, R y := fun y hy => hL y (List.mem_of_mem_take ((h.mem y).mp hy))
  have hRx : R x := hL x (List.mem_of_getElem? hx)
  have hlt : ∀ y ∈ us, dataLt y x = true := by
    have hle : ∀ y ∈ us, dataLt x y = false := fun y hy => ord_take ho hx ((h.mem y).mp hy)
    intro y hy
    cases q : dataLt y x with
    | true => rfl
    | false =>
      exfalso
      have e := F.tot (hR y hy) hRx q (hle y hy)
      subst e
      -- y is in us, so it is the last
      have hne : us ≠ [] := fun z => by rw [z] at hy; cases hy
      have hg := List.getLast?_eq_some_getLast hne
      have h2 := hl _ hg
      obtain ⟨j, hj, ej⟩ := List.getElem_of_mem hy
      by_cases hlast : j = us.length - 1
      · have e2 : us.getLast hne = y := by
          rw [List.getLast_eq_getElem]
          subst hlast
          exact ej
        rw [e2, F.refl hRx] at h2
        cases h2
      · have h3 := List.pairwise_iff_getElem.mp h.asc j (us.length - 1) hj (by omega) (by omega)
        rw [ej] at h3
        have h4 := hle (us[us.length - 1]'(by omega)) (List.getElem_mem _)
        rw [h3] at h4
        cases h4
  refine ⟨?_, fun y => ?_, ?_⟩
  · rw [List.pairwise_append]
    refine ⟨h.asc, List.pairwise_singleton _ _, fun a ha b hb => ?_⟩
    rw [List.mem_singleton.mp hb]
    exact hlt a ha
  · rw [mem_take_succ hx, ← h.mem, List.mem_append, List.mem_singleton]
  · rw [List.length_append]
    exact Nat.succ_le_succ h.le
theorem asc_inj {us : List PyData} (h : us.Pairwise (fun a b => dataLt a b = true)) {i j : Nat} {x : PyData} (hi : us[i]? = some x) (hj : us[j]? = some x) : i = j := by
  obtain ⟨a1, a2⟩ := List.getElem?_eq_some_iff.mp hi
  obtain ⟨b1, b2⟩ := List.getElem?_eq_some_iff.mp hj
  rcases Nat.lt_trichotomy i j with z | z | z
  · have := List.pairwise_iff_getElem.mp h i j a1 b1 z
    rw [a2, b2, dlt_irrefl] at this
    cases this
  · exact z
  · have := List.pairwise_iff_getElem.mp h j i b1 a1 z
    rw [a2, b2, dlt_irrefl] at this
    cases this
end K20
set_option maxHeartbeats 4000000
namespace K20
open PySem PySem.Spec L2
open PyProof.Rows hiding St
open PySem.W (EachIs dataLt dataLe alike alikeAll AllAlike Sortable)
variable {P : Program} {w : World} {K : Fg} {mg : Str → Option Value} {base : Heap}
/-! ### levels -/
theorem lay_all {R : PyData → Prop} (F : Fam R) : ∀ {us : List PyData}, (∀ x ∈ us, R x) → PyData.canLayAll0 us = true ∧ PyData.depthAll us ≤ 50
  | [], _ => ⟨by simp [PyData.canLayAll0], by simp [PyData.depthAll]⟩
  | x :: xs, h => by
    obtain ⟨h1, h2⟩ := lay_all F (us := xs) fun y hy => h y (List.mem_cons_of_mem _ hy)
    have hx := h x (List.mem_cons_self ..)
    have h3 := SeqAt.canLay_of_shaped (F.sh x hx)
    have h4 := F.dp x hx
    refine ⟨by simp [PyData.canLayAll0, h1, h3], ?_⟩
    simp only [PyData.depthAll]
    omega
theorem Fam.shl {R : PyData → Prop} (F : Fam R) {us : List PyData} (h : ∀ x ∈ us, R x) : SeqAt.shaped (.list us) = true := by
  obtain ⟨h1, h2⟩ := lay_all F h
  exact shaped_of (by simp only [PyData.canLay0]; exact h1) (by simp only [PyData.depth]; omega)
structure Lev (n : Nat) (wh : Bool) (ss : List (Nat × Nat)) (ks : List (List PyData)) (seats : List (List Nat)) : Prop where
  asc : ∀ us ∈ ks, us.Pairwise (fun a b => dataLt a b = true) ∧ us.length ≤ n
  st : ∀ us, ks[0]? = some us → ∀ x ∈ us, x ∈ ss.map startD
  nd : ∀ (k : Nat) us vs, ks[k]? = some us → ks[k + 1]? = some vs → ∀ x ∈ vs, NodeP us.length wh x
  seat : ∀ (k : Nat) us s, ks[k]? = some us → seats[k]? = some s → s.length = n ∧ ∀ x ∈ s, x < us.length
  eq : ks.length = seats.length
/-- the rows of the next level -/
def RowsAt (wh : Bool) (ss : List (Nat × Nat)) (ks : List (List PyData)) (rows : List PyData) : Prop := (ks = [] → rows = ss.map startD) ∧ ∀ us, ks.getLast? = some us → ∀ x ∈ rows, NodeP us.length wh x
theorem Lev.snoc {n : Nat} {wh : Bool} {ss : List (Nat × Nat)} {ks : List (List PyData)} {seats : List (List Nat)} {rows us : List PyData} {s : List Nat} (h : Lev n wh ss ks seats) (hr : RowsAt wh ss ks rows) (h1 : us.Pairwise (fun a b => dataLt a b = true)) (h2 : us.length ≤ n) (h3 : ∀ x ∈ us, x ∈ rows) (h4 : s.length = n) (h5 : ∀ x ∈ s, x < us.length) : Lev n wh ss (ks ++ [us]) (seats ++ [s]) := by
  have at_ : ∀ {α : Type} {l : List α} {a b : α} {k : Nat}, (l ++ [a])[k]? = some b → (k < l.length ∧ l[k]? = some b) ∨ (k = l.length ∧ b = a) := by
    intro α l a b k e
    by_cases hk : k < l.length
    · rw [List.getElem?_append_left hk] at e
      exact .inl ⟨hk, e⟩
    · rw [List.getElem?_append_right (by omega)] at e
      by_cases h0 : k - l.length = 0
      · rw [h0] at e
        cases e
        exact .inr ⟨by omega, rfl⟩
      · rw [List.getElem?_eq_none (by simp; omega)] at e
        cases e
  refine ⟨fun vs hv => ?_, fun vs hv x hx => ?_, fun k vs ws hv hw x hx => ?_, fun k vs t hv ht => ?_, ?_⟩
  · rcases List.mem_append.mp hv with hv | hv
    · exact h.asc vs hv
    · rw [List.mem_singleton.mp hv]
      exact ⟨h1, h2⟩
  · rcases at_ hv with ⟨_, hv⟩ | ⟨hk, rfl⟩
    · exact h.st vs hv x hx
    · have e : ks = [] := List.eq_nil_of_length_eq_zero hk.symm
      rw [← hr.1 e]
      exact h3 x hx
  · rcases at_ hw with ⟨hk, hw⟩ | ⟨hk, rfl⟩
    · rcases at_ hv with ⟨_, hv⟩ | ⟨hk', _⟩
      · exact h.nd k vs ws hv hw x hx
      · omega
    · rcases at_ hv with ⟨hk', hv⟩ | ⟨hk', _⟩
      · refine hr.2 vs ?_ x (h3 x hx)
        rw [List.getLast?_eq_getElem?, ← hk]
        exact hv
      · omega
  · have he := h.eq
    rcases at_ hv with ⟨hk, hv⟩ | ⟨hk, rfl⟩
    · rcases at_ ht with ⟨_, ht⟩ | ⟨hk', _⟩
      · exact h.seat k vs t hv ht
      · omega
    · rcases at_ ht with ⟨hk', ht⟩ | ⟨_, rfl⟩
      · omega
      · exact ⟨h4, h5⟩
  · rw [List.length_append, List.length_append, h.eq]
    rfl
def keysD (ks : List (List PyData)) : List PyData := ks.map .list
def seatsD (ss : List (List Nat)) : List PyData := ss.map fun s => .list (natsD s)
def LevelsD (n r : Nat) (wh : Bool) (ss : List (Nat × Nat)) : PyData → Prop := fun t => ∃ ks seats, t = .tuple [.list (keysD ks), .list (seatsD seats)] ∧ ks.length = r + 1 ∧ Lev n wh ss ks seats
def fLevels : List PyData → (PyData → Prop) → Prop := fun ts S => ∃ (n r : Nat) (wh : Bool) (ss : List (Nat × Nat)) (t : PyData), ts = [.list (ss.map startD), t, .str (whS wh)] ∧ ss.length = n ∧ CourseD n r t ∧ 1 ≤ n ∧ n ≤ 4 ∧ r ≤ 4 ∧ S = LevelsD n r wh ss
abbrev nLev : List Str := ["_law_starts_here", "_law_course_here", "_law_hearing", "_law_rows", "_law_start", "_law_keys", "_law_seat", "_law_k", "_law_unlike", "_law_row", "_law_heard_here", "_law_house"]
theorem scLev : FnScope nLev ["_law_starts_here", "_law_course_here", "_law_hearing"] (defScope (top 69)) := ⟨rfl, rfl, rfl, by decide +kernel, rfl, by decide +kernel, by decide +kernel⟩
theorem rows_fam {wh : Bool} {ss : List (Nat × Nat)} {ks : List (List PyData)} {rows : List PyData} (h : RowsAt wh ss ks rows) : ∃ R, Fam R ∧ ∀ x ∈ rows, R x := by
  cases e : ks.getLast? with
  | none =>
    have e2 : ks = [] := List.getLast?_eq_none_iff.mp e
    refine ⟨StartP, fam_start, fun x hx => ?_⟩
    rw [h.1 e2] at hx
    obtain ⟨s, _, rfl⟩ := List.mem_map.mp hx
    exact ⟨s, rfl⟩
  | some us =>
    refine ⟨NodeAny, fam_node, fun x hx => ?_⟩
    obtain ⟨y, _, rfl⟩ := h.2 us e x hx
    exact ⟨y, rfl⟩
abbrev lvD (ss : List (Nat × Nat)) (t : PyData) (wh : Bool) (rows : List PyData) (p q : Addr) : List Sd := [.dat (.list (ss.map startD)), .dat t, .dat (.str (whS wh)), .dat (.list rows), .any, .raw (.ref p), .raw (.ref q), .any, .any, .any, .any, .any]
theorem ok_levels (M : Md K mg) : Cal P w K mg base 4 "_law_levels" (Fn K fLevels) [] := by
  refine mkCal (M.df 69 (by decide)) scLev (fun _ _ _ _ _ _ us hl => match us, hl with | [_, _, _], _ => rfl) (fun vs H Q E h => ?_) fun f cdv A outer s H vs Q E hr h => ?_
  · obtain ⟨B, ts, S, ok, hv, ⟨n, r, wh, ss, t, rfl, _⟩, _⟩ := h
    exact hv.len
  obtain ⟨B, ts, S, ok, hv, ⟨n, r, wh, ss, t, rfl, hsl, ⟨cs, rfl, hcl, hcs⟩, hn1, hn, hr4, rfl⟩, ret⟩ := h
  have y := Sy.ini (N := nLev) ok hv
  have nd := scLev.nd
  refine ssC (sSetL 3 y (dLc 4 rfl nd (blkOk_by (N := nLev) (sc := defScope (top 69)) (own := [("_law_start", 4)]) (by decide +kernel)) (v 0) rfl (by rw [List.length_map]; omega) (by decide) (fun s H C cl fp => pg_name nd (i := 4) (by rfl) (Or.inl rfl)) (R := fun x y => y = x) (fun z B5 hz e s H C cl fp => ?_)) ?_)
  · obtain ⟨s0, _, rfl⟩ := List.mem_map.mp hz
    refine (dTup (aC (dIx (v 4) dI) (aC (dIx (v 4) dI) aN))).to ?_
    rintro _ rfl
    rfl
  intro rows0 B1 σ1 H1 hrows t1 y1
  have hrows := paired_map (f := fun x => x) hrows
  rw [List.map_id'] at hrows
  subst hrows
  refine ssC (sNew 5 y1 ok nd fun p σ2 hp y2 m2 => ?_)
  refine ssC (sNew 6 y2 ok nd fun q σ3 hq y3 m3 => ?_)
  have pq : p ≠ q := fun z => by rw [← z, upd_same] at hq; cases hq
  have m2' := m2.other (o := .lst []) pq
  refine ssC (sForR (g := gName 7) y3.sl y3.ok (passes_of rfl) rfl M.range (dAdd (dLen M.len (v 1)) dI) (by omega) (by omega) (pg_name nd (by rfl) (by first | exact Or.inl rfl | exact Or.inr rfl)) fun B4 H4 t4 o4 => ?_)
  refine ⟨fun i σ' H' => ∃ (B' : Hp) (vk vs : List V) (ks : List (List PyData)) (seats : List (List Nat)) (rows : List PyData), Sy K none B H B' H' σ' (lvD ss (.list cs) wh rows p q) ∧ Mu none H B' H' p (.lst vk) ∧ Mu none H B' H' q (.lst vs) ∧ DpAll K B' vk (keysD ks) ∧ DpAll K B' vs (seatsD seats) ∧ Lev n wh ss ks seats ∧ ks.length = i ∧ rows.length = n ∧ (i ≤ r → RowsAt wh ss ks rows), ?_, ?_, ?_⟩
  · refine ⟨B4, [], [], [], [], ss.map startD, y3.on t4 o4, m2'.on t4, m3.on t4, .nil, .nil, ⟨(fun us h => nomatch h), (fun us h => nomatch h), (fun k us vs h => nomatch h), (fun k us s h => nomatch h), rfl⟩, rfl, by rw [List.length_map]; exact hsl, fun _ => ⟨fun _ => rfl, fun us h => nomatch h⟩⟩
  · rintro i σ' H' hi ⟨B', vk, vs, ks, seats, rows, y5, mp, mq, dk, dsx, hlev, hki, hrl, hrw⟩
    have hir : i ≤ r := by omega
    have hrw := hrw hir
    obtain ⟨R, F, hR⟩ := rows_fam hrw
    have y6 := y5.put 7 (s := some (V.int (i : Int))) (x := .dat (.int (i : Int))) ⟨_, rfl, .int _⟩
    refine (show wSs _ _ _ (σ'.set 7 (some (V.int (i : Int)))) H' from ?_)
    generalize σ'.set 7 (some (V.int (i : Int))) = σ6 at y6 ⊢
    refine ssC (sNew 8 y6 ok nd fun u σ7 hu y7 m7 => ?_)
    have up : p ≠ u := fun z => by rw [← z, mp.at_] at hu; cases hu
    have uq : q ≠ u := fun z => by rw [← z, mq.at_] at hu; cases hu
    have mp7 := mp.other (o := .lst []) up
    have mq7 := mq.other (o := .lst []) uq
    -- the rows without repeats
    have hLR : ∀ x ∈ sortD rows, R x := fun x hx => hR x ((sortD_perm rows).mem_iff.mp hx)
    have hLl : (sortD rows).length = n := by rw [(sortD_perm rows).length_eq]; exact hrl
    refine ssCut (fun σ' H' => ∃ (B' : Hp) (vu : List V) (us : List PyData), Sy K none B H B' H' σ' [.dat (.list (ss.map startD)), .dat (.list cs), .dat (.str (whS wh)), .dat (.list rows), .any, .raw (.ref p), .raw (.ref q), .dat (.int (i : Int)), .raw (.ref u), .any, .any, .any] ∧ Mu none H B' H' p (.lst vk) ∧ Mu none H B' H' q (.lst vs) ∧ Mu none H B' H' u (.lst vu) ∧ DpAll K B' vk (keysD ks) ∧ DpAll K B' vs (seatsD seats) ∧ DpAll K B' vu us ∧ Dd (sortD rows) n us)
      (sFor (t := .list (sortD rows)) (xs := sortD rows) (g := gName 9) y7.sl y7.ok (passes_of rfl) rfl (dSortS (S := (· = .list (sortD rows))) hr M.sorted (v 3) (by rintro _ rfl; exact ⟨rows, rfl, F.sortd hR, rfl⟩)) rfl (pg_name nd (by rfl) (by first | exact Or.inl rfl | exact Or.inr rfl)) fun w8 B8 H8 t8 o8 hd8 => ?_) fun σ9 H9 h9 => ?_
    · refine ⟨fun j B' σ' H' => ∃ (vu : List V) (us : List PyData), Sy K none B H B' H' σ' [.dat (.list (ss.map startD)), .dat (.list cs), .dat (.str (whS wh)), .dat (.list rows), .any, .raw (.ref p), .raw (.ref q), .dat (.int (i : Int)), .raw (.ref u), .any, .any, .any] ∧ Mu none H B' H' p (.lst vk) ∧ Mu none H B' H' q (.lst vs) ∧ Mu none H B' H' u (.lst vu) ∧ DpAll K B' vk (keysD ks) ∧ DpAll K B' vs (seatsD seats) ∧ DpAll K B' vu us ∧ Dd (sortD rows) j us, ?_, ?_, ?_, ?_⟩
      · exact ⟨[], [], y7.on t8 o8, mp7.on t8, mq7.on t8, m7.on t8, dk.up t8.kb, dsx.up t8.kb, .nil, Dd.nil⟩
      · rintro j B' σ' H' ⟨vu, us, y9, _⟩
        exact y9.same
      · rintro j x wx B' σ' H' hx eB ⟨vu, us, y9, mp9, mq9, mu9, dk9, ds9, du9, hdd⟩ hdx
        have hxR := hLR x (List.mem_of_getElem? hx)
        have huR : ∀ z ∈ us, R z := fun z hz => hLR z (List.mem_of_mem_take ((hdd.mem z).mp hz))
        have y10 := y9.put 9 (s := some wx) (x := .dat x) ⟨_, rfl, hdx⟩
        refine (show wSs _ _ _ (σ'.set 9 (some wx)) H' from ?_)
        generalize σ'.set 9 (some wx) = σ10 at y10 ⊢
        have hjl : us.length ≤ n := by
          have h1 := hdd.le
          have h2 := (List.getElem?_eq_some_iff.mp hx).1
          omega
        obtain ⟨okl, sll⟩ := y10.lock mu9 du9 (i := 8) rfl
        refine ss1 (w_s (ps_if pt_w pss_w pss_w) (goT (S := (· = (PyData.eqv (.list us) (.list []) || !PyData.eqv (us.getLast?.getD .none) x))) (tW (wOr (tEq hr (v 8) (dLst aN) (F.shl huR) (by decide +kernel)) (fun hne => wOr1 ?_))) sll okl ?_))
        · have hus : us ≠ [] := fun z => by rw [z] at hne; exact absurd hne (by decide +kernel)
          have hl1 : 1 ≤ us.length := List.length_pos_iff.mpr hus
          have hlast : us[us.length - 1]? = some (us.getLast?.getD .none) := by
            rw [← List.getLast?_eq_getElem?]
            cases e : us.getLast? with
            | none => exact absurd (List.getLast?_eq_none_iff.mp e) hus
            | some z => rfl
          refine tNe hr (dIx (v 8) (dSub (dLen M.len (v 8)) dI) rfl (by
            have e1 : ((us.length : Nat) : Int) - 1 = ((us.length - 1 : Nat) : Int) := by omega
            show atI us (((us.length : Nat) : Int) - 1) = _
            rw [e1]
            exact atI_nat hlast)) (v 9) (F.sh _ (huR _ (List.mem_of_getElem? hlast))) (F.sh x hxR)
        · rintro b H11 t11 o11 rfl
          have hx' := y10.look mu9
          obtain ⟨t12, o12, m12⟩ := unlook y10.ok mu9 t11 o11
          have y12 := y10.on t12 o12
          have mp12 := mp9.on t12
          have mq12 := mq9.on t12
          have dk12 := dk9.up t12.kb
          have ds12 := ds9.up t12.kb
          have du12 := du9.up t12.kb
          have kb12 := t12.kb
          generalize less (upd B' u (.lst vu)) u = B12 at t12 o12 m12 y12 mp12 mq12 dk12 ds12 du12 kb12
          cases hb : (PyData.eqv (.list us) (.list []) || !PyData.eqv (us.getLast?.getD .none) x) with
          | true =>
            refine iteT (ss1 (sApp 8 y12 m12 (v 9) ?_ (by rw [du9.len]; omega)))
            intro w13 t13' B13 H13 ex t13 hd13 y13 m13 y14 m14
            rw [show t13' = x from ex] at hd13
            refine ⟨B13, (eB.trans kb12).trans t13.kb, _, us ++ [x], y14.fo 9, ?_, ?_, m14, dk12.up t13.kb, ds12.up t13.kb, (du12.up t13.kb).snoc hd13, hdd.add F hLR (sortD_ord rows) hx ?_⟩
            · exact (mp12.on t13).other up
            · exact (mq12.on t13).other uq
            · intro l hl
              rw [hl] at hb
              have h1 : PyData.eqv (.list us) (.list []) = false := by
                cases us with
                | nil => cases hl
                | cons a us => simp [PyData.eqv, PyData.eqvAll]
              rw [h1] at hb
              simpa using hb
          | false =>
            obtain ⟨h1, h2⟩ := Bool.or_eq_false_iff.mp hb
            have hus : us ≠ [] := fun z => by rw [z] at h1; exact absurd h1 (by decide +kernel)
            cases e : us.getLast? with
            | none => exact absurd (List.getLast?_eq_none_iff.mp e) hus
            | some z =>
              rw [e] at h2
              have hz : z ∈ us := List.mem_of_getLast? e
              have h3 : PyData.eqv z x = true := by simpa using h2
              have h4 := F.eq z x (huR z hz) hxR h3
              exact iteF (ssN ⟨B12, eB.trans kb12, vu, us, y12.fo 9, mp12, mq12, m12, dk12, ds12, du12, hdd.skip hx (h4 ▸ hz)⟩)
      · rintro B' σ' H' eB ⟨vu, us, y9, mp9, mq9, mu9, dk9, ds9, du9, hdd⟩
        rw [hLl] at hdd
        exact ⟨B', vu, us, y9, mp9, mq9, mu9, dk9, ds9, du9, hdd⟩
    obtain ⟨B9, vu, us, y9, mp9, mq9, mu9, dk9, ds9, du9, hdd⟩ := h9
    have husR : ∀ z ∈ us, z ∈ rows := fun z hz => (sortD_perm rows).mem_iff.mp (List.mem_of_mem_take ((hdd.mem z).mp hz))
    have huR : ∀ z ∈ us, R z := fun z hz => hR z (husR z hz)
    have hall : ∀ z ∈ rows, z ∈ us := fun z hz => by
      rw [hdd.mem, ← hLl, List.take_length]
      exact (sortD_perm rows).mem_iff.mpr hz
    -- the rows' list is known from now on
    have y10 := y9.done mu9 du9 8
    have mu9' : Same B9 (upd B9 u (.lst vu)) := same_upd mu9.hid
    have mp10 : Mu none H (upd B9 u (.lst vu)) H9 p (.lst vk) := ⟨mp9.new, by rw [upd_ne up]; exact mp9.hid, mp9.at_, mp9.nd⟩
    have mq10 : Mu none H (upd B9 u (.lst vu)) H9 q (.lst vs) := ⟨mq9.new, by rw [upd_ne uq]; exact mq9.hid, mq9.at_, mq9.nd⟩
    have dk10 := dk9.up mu9'
    have ds10 := ds9.up mu9'
    generalize upd B9 u (.lst vu) = B10 at y10 mp10 mq10 dk10 ds10
    have lk := dk10.len
    have ls := ds10.len
    have lk2 : (keysD ks).length = ks.length := List.length_map _
    have ls2 : (seatsD seats).length = seats.length := List.length_map _
    have hleq := hlev.eq
    refine ssC (sApp 5 y10 mp10 (v 8) ?_ (by omega))
    intro w11 t11' B11 H11 ex t11 hd11 y11 m11 y12 mp12
    rw [show t11' = .list us from ex] at hd11
    have mq12 := (mq10.on t11).other (o := .lst (vk ++ [w11])) (Ne.symm pq)
    have dk12 : DpAll K B11 (vk ++ [w11]) (keysD (ks ++ [us])) := by
      have q := (dk10.up t11.kb).snoc hd11
      unfold keysD at q ⊢
      rw [List.map_append]
      exact q
    have ds12 := ds10.up t11.kb
    refine ssC (sApp (S := fun t => ∃ s : List Nat, t = .list (natsD s) ∧ s.length = n ∧ ∀ x ∈ s, x < us.length) 6 y12 mq12 ((deL (dLc 9 rfl nd (blkOk_by (N := nLev) (sc := defScope (top 69)) (own := [("_law_row", 9)]) (by decide +kernel)) (v 3) rfl (by omega) (by decide) (fun s H C cl fp => pg_name nd (i := 9) (by rfl) (Or.inl rfl)) (R := fun _ t => ∃ j : Nat, j < us.length ∧ t = .int j) (fun z B5 hz e s H C cl fp => ?_))).to ?_) ?_ (by omega))
    · obtain ⟨j, hj, ej⟩ := List.getElem_of_mem (hall z hz)
      have hj' : us[j]? = some z := by rw [List.getElem?_eq_getElem hj, ej]
      have hzR := hR z hz
      refine (dIndex hr (v 8) (v 9) (F.shl huR) (F.sh z hzR) hj' (F.refl hzR) (fun m z' hm hz' => ?_)).to ?_
      · cases q : PyData.eqv z' z with
        | false => rfl
        | true =>
          have e2 := F.eq z' z (huR z' (List.mem_of_getElem? hz')) hzR q
          subst e2
          have := asc_inj hdd.asc hz' hj'
          omega
      · rintro _ rfl
        exact ⟨j, hj, rfl⟩
    · rintro _ ⟨ys, rfl, hy⟩
      have key : ∀ {xs ys : List PyData}, Paired (fun _ t => ∃ j : Nat, j < us.length ∧ t = .int j) xs ys → ∃ s : List Nat, ys = natsD s ∧ s.length = xs.length ∧ ∀ x ∈ s, x < us.length := by
        intro xs ys h
        induction h with
        | nil => exact ⟨[], rfl, rfl, fun x hx => nomatch hx⟩
        | cons r t ih =>
          obtain ⟨j, hj, rfl⟩ := r
          obtain ⟨s, rfl, h1, h2⟩ := ih
          refine ⟨j :: s, rfl, by rw [List.length_cons, List.length_cons, h1], fun x hx => ?_⟩
          rcases List.mem_cons.mp hx with rfl | hx
          · exact hj
          · exact h2 x hx
      obtain ⟨s, rfl, h1, h2⟩ := key hy
      exact ⟨s, rfl, by omega, h2⟩
    · rintro w13 _ B13 H13 ⟨s13, rfl, hs1, hs2⟩ t13 hd13 y13 m13 y14 mq14
      have mp14 := (mp12.on t13).other (o := .lst (vs ++ [w13])) pq
      have dk14 := dk12.up t13.kb
      have ds14 : DpAll K B13 (vs ++ [w13]) (seatsD (seats ++ [s13])) := by
        have q := (ds12.up t13.kb).snoc hd13
        unfold seatsD at q ⊢
        rw [List.map_append]
        exact q
      have hlev' : Lev n wh ss (ks ++ [us]) (seats ++ [s13]) := hlev.snoc hrw hdd.asc hdd.le husR hs1 hs2
      refine ss1 (sIf1 y14 (tLt (v 7) (dLen M.len (v 1))) (fun hlt H15 t15 y15 => ?_) fun hlt H15 t15 y15 => ssN ?_)
      · have hic : i < cs.length := by have := of_decide_eq_true hlt; omega
        have mp15 := mp14.on t15
        have mq15 := mq14.on t15
        refine ssC (sSet 10 y15 nd (dCall1 (ok_heard M) hr (aC (dIx (v 1) (v 7) rfl (atI_nat (List.getElem?_eq_getElem hic))) (aC (dLen M.len (v 0) (by show some _ = some _; rw [List.length_map])) aN)) ⟨n, _, by rw [hsl], hcs _ (List.getElem_mem hic), hn, rfl⟩) ?_)
        rintro _ B16 σ16 H16 ⟨rs, rfl, hrs1, hrs2⟩ t16 y16
        have mp16 := mp15.on t16
        have mq16 := mq15.on t16
        have dk16 := dk14.up t16.kb
        have ds16 := ds14.up t16.kb
        have hnd := hlev.eq
        have vl : vs.length = i := by omega
        obtain ⟨f', fd', ps', ds', F', hm', kp', b', dv'⟩ := (ok_stand (P := P) (w := w) (base := base) M).ex
        have VV : ∀ {sc : Scope} {x : Str}, sc.names.lookup x = some .local ∨ sc.names.lookup x = some .cell ∨ sc.names.lookup x = some .free → True := fun _ => trivial
        refine ss1 (w_s (ps_setLc (te := tCall (Fn K fStand) [] (fun _ _ _ => False) (tCons (tOp (rIx K) (tVar 6) (tVar 7)) (tCons (tVar 11) (tCons (tOp (rIx K) (tVar 10) (tVar 11)) (tCons (tVar 2) tNil))))) (i := 3) rfl nd (by rfl) (by rfl) (by rfl) (pi_range1 (by rfl) M.range (pa_cons pe_w pa_nil (by rfl)) (by rfl)) (blkOk_by (N := nLev) (sc := defScope (top 69)) (own := [("_law_house", 11)]) (by decide +kernel)) (fun s H C cl fp => pg_name nd (i := 11) (by rfl) (Or.inl rfl)) (fun s H C cl fp => pts_nil)
          (fun s H C cl fp => pe_call F' (Room.mono hr (by decide)) (by rfl) hm' kp' b' dv' passL (pa_cons (pe_ix ix_seq (pe_var (i := 6) (by rfl) (by first | exact Or.inl rfl | exact Or.inr (Or.inl rfl) | exact Or.inr (Or.inr rfl)) (by decide) (by decide)) (pe_var (i := 7) (by rfl) (by first | exact Or.inl rfl | exact Or.inr (Or.inl rfl) | exact Or.inr (Or.inr rfl)) (by decide) (by decide)) (fun _ _ => rfl)) (pa_cons (pe_var (i := 11) (by rfl) (by first | exact Or.inl rfl | exact Or.inr (Or.inl rfl) | exact Or.inr (Or.inr rfl)) (by decide) (by decide)) (pa_cons (pe_ix ix_seq (pe_var (i := 10) (by rfl) (by first | exact Or.inl rfl | exact Or.inr (Or.inl rfl) | exact Or.inr (Or.inr rfl)) (by decide) (by decide)) (pe_var (i := 11) (by rfl) (by first | exact Or.inl rfl | exact Or.inr (Or.inl rfl) | exact Or.inr (Or.inr rfl)) (by decide) (by decide)) (fun _ _ => rfl)) (pa_cons (pe_var (i := 2) (by rfl) (by first | exact Or.inl rfl | exact Or.inr (Or.inl rfl) | exact Or.inr (Or.inr rfl)) (by decide) (by decide)) pa_nil))))) (by intro _; rfl)) ?_)
        refine goE (dLen M.len (v 0)) y16.sl y16.ok ?_
        rintro w17 _ B17 H17 t17 o17 hd17 rfl
        obtain rfl := hd17.int_inv
        have y17 := y16.on t17 o17
        have mp17 := mp16.on t17
        have mq17 := mq16.on t17
        have hss : (ss.map startD).length = n := by rw [List.length_map]; exact hsl
        refine ⟨_, rfl, by omega, by omega, fun D hD => ?_⟩
        rw [hss]
        refine lc_gen (K := K) (d := none) (B1 := B17) (n := n) (R := fun _ => NodeP us.length wh) walk_range (by omega) (fun _ _ _ _ => trivial) y17.ok hD ?_ ?_
        · rintro h0 w18 B18 H18 H18' hh t18 o18 ⟨rfl, rfl⟩
          have ez : (fun i : Nat => V.int (0 + (i : Int))) h0 = V.int (h0 : Int) := by show V.int (0 + (h0 : Int)) = _; rw [Int.zero_add]
          rw [ez]
          refine ⟨B18, _, .refl, o18, fun Q h => h, wipe_set (by decide), fun Qe hQe => ?_⟩
          have hh' : h0 < n := by omega
          have sl18 := ((y17.sl.up t18.kb).wipe [11]).put 11 (s := some (V.int (h0 : Int))) (x := .dat (.int (h0 : Int))) ⟨_, rfl, .int _⟩
          have mq18 := mq17.on t18
          have hv6 := sl18.raw (i := 6) rfl
          obtain ⟨v7, hv7, d7⟩ := sl18.dat (i := 7) rfl
          obtain ⟨v11, hv11, d11⟩ := sl18.dat (i := 11) rfl
          obtain ⟨v10, hv10, d10⟩ := sl18.dat (i := 10) rfl
          obtain ⟨v2, hv2, d2⟩ := sl18.dat (i := 2) rfl
          obtain rfl := d7.int_inv
          obtain rfl := d11.int_inv
          obtain ⟨a10, rv, rfl, hq10, hd10⟩ := d10.lst_inv
          have hrl' : h0 < rs.length := by omega
          obtain ⟨wr, hwr, dwr⟩ := hd10.at (List.getElem?_eq_getElem hrl')
          have hws : (vs ++ [w13])[i]? = some w13 := by rw [List.getElem?_append_right (by omega), vl, Nat.sub_self]; rfl
          have dw13 : Dp K B18 w13 (.list (natsD s13)) := ((hd13.up (t15.kb.trans t16.kb)).up t17.kb).up t18.kb
          refine ⟨_, hv6, _, hv7, .inl ⟨q, _, (i : Int), w13, rfl, rfl, SqL.of mq18.at_, atI_nat hws, _, hv11, _, hv10, _, hv11, .inl ⟨a10, rv, (h0 : Int), wr, rfl, rfl, o18.kh.seq hq10, atI_nat hwr, _, hv2, ?_⟩⟩⟩
          exact ⟨B18, [.list (natsD s13), .int h0, rs[h0], .str (whS wh)], _, o18, .cons dw13 (.cons (.int _) (.cons dwr (.cons d2 .nil))), ⟨n, us.length, s13, h0, rs[h0], wh, rfl, hs1, hs2, hh', hn, hrs2 _ (List.getElem_mem hrl'), rfl⟩, hQe⟩
        · rintro vD ts B19 H19 t19 o19 mD dD ⟨hl19, hR19⟩
          have y19 := y17.on t19 o19
          have mDs := mD.since y17.tr
          have eD := same_upd (o := HO.lst vD) mD.hid
          have hpD : p ≠ D := fun z => by
            have h1 := (mp17.on t19).at_
            have h2 := mD.new
            rw [← z, mp17.at_] at h2
            cases h2
          have hqD : q ≠ D := fun z => by
            have h2 := mD.new
            rw [← z, mq17.at_] at h2
            cases h2
          have y20 := (y19.look mDs).put 3 (s := some (V.ref D)) (x := .dat (.list ts)) ⟨_, rfl, .lst (SqL.of upd_same) (dD.up eD)⟩
          have mp19 := mp17.on t19
          have mq19 := mq17.on t19
          have kb := (((t15.kb.trans t16.kb).trans t17.kb).trans t19.kb).trans eD
          refine ⟨_, _, _, ks ++ [us], seats ++ [s13], ts, (((y20.fo 7).fo 8).fo 9).fo 10, ⟨mp19.new, by rw [upd_ne hpD]; exact mp19.hid, mp19.at_, mp19.nd⟩, ⟨mq19.new, by rw [upd_ne hqD]; exact mq19.hid, mq19.at_, mq19.nd⟩, dk14.up kb, ds14.up kb, hlev', by rw [List.length_append, hki]; rfl, by omega, fun _ => ⟨fun z => absurd z (by simp), fun us' hus' x hx => ?_⟩⟩
          rw [List.getLast?_concat] at hus'
          cases hus'
          obtain ⟨j, hj, rfl⟩ := List.getElem_of_mem hx
          exact hR19 j _ (List.getElem?_eq_getElem hj)
      · have hic : ¬ i < cs.length := by have := of_decide_eq_false hlt; omega
        refine ⟨B13, _, _, ks ++ [us], seats ++ [s13], rows, ((y15.fo 7).fo 8), mp14.on t15, mq14.on t15, dk14, ds14, hlev', by rw [List.length_append, hki]; rfl, hrl, fun h => by omega⟩
  · rintro σ' H' ⟨B', vk, vs, ks, seats, rows, y5, mp, mq, dk, dsx, hlev, hki, hrl, _⟩
    have y6 := y5.done mp dk 5
    have mq6 : Mu none H (upd B' p (.lst vk)) H' q (.lst vs) := ⟨mq.new, by rw [upd_ne (Ne.symm pq)]; exact mq.hid, mq.at_, mq.nd⟩
    have y7 := y6.done mq6 (dsx.up (same_upd mp.hid)) 6
    refine ss1 (sRet y7 (dTup (aC (v 5) (aC (v 6) aN))) fun v t B'' H'' tr ok' hd e => ret v t B'' H'' tr ok' hd ⟨ks, seats, e, by omega, hlev⟩)
end K20
set_option maxHeartbeats 4000000
/-! Plain: numbering anew. -/
namespace K20
open PySem PySem.Spec L2
open PyProof.Rows hiding St
open PySem.W (EachIs dataLt dataLe alike alikeAll AllAlike Sortable rowLt dataLt_pair dataLt_cons dataLt_tuple dataLt_int)
abbrev Asc (bl : List Nat) : Prop := bl.Pairwise (· < ·)
theorem asc_at {bl : List Nat} (h : Asc bl) {i j : Nat} (hi : i < bl.length) (hj : j < bl.length) : bl[i] < bl[j] ↔ i < j := by
  constructor
  · intro hlt
    rcases Nat.lt_trichotomy i j with z | z | z
    · exact z
    · subst z; omega
    · have := List.pairwise_iff_getElem.mp h j i hj hi z; omega
  · intro z
    exact List.pairwise_iff_getElem.mp h i j hi hj z
theorem ix_lt {bl : List Nat} {n : Nat} (h : n ∈ bl) : bl.idxOf n < bl.length := List.idxOf_lt_length_of_mem h
theorem ix_at {bl : List Nat} {n : Nat} (h : n ∈ bl) : bl[bl.idxOf n]'(ix_lt h) = n := List.getElem_idxOf (ix_lt h)
theorem ix_mono {bl : List Nat} (hb : Asc bl) {n m : Nat} (hn : n ∈ bl) (hm : m ∈ bl) : bl.idxOf n < bl.idxOf m ↔ n < m := by
  have := asc_at hb (ix_lt hn) (ix_lt hm)
  rw [ix_at hn, ix_at hm] at this
  exact this.symm
theorem ix_inj {bl : List Nat} {n m : Nat} (hn : n ∈ bl) (hm : m ∈ bl) (h : bl.idxOf n = bl.idxOf m) : n = m := by
  rw [← ix_at hn, ← ix_at hm]
  simp only [h]
theorem asc_ix {bl : List Nat} (h : Asc bl) {j : Nat} (hj : j < bl.length) : bl.idxOf bl[j] = j := by
  have hm := List.getElem_mem hj
  have e := ix_at hm
  have l := ix_lt hm
  rcases Nat.lt_trichotomy (bl.idxOf bl[j]) j with z | z | z
  · have := List.pairwise_iff_getElem.mp h _ _ l hj z
    rw [e] at this
    omega
  · exact z
  · have := List.pairwise_iff_getElem.mp h _ _ hj l z
    rw [e] at this
    omega
def renE (bl : List Nat) (e : Ent) : Ent := (bl.idxOf e.1, e.2)
def renN (bl : List Nat) (x : Nd) : Nd := (bl.idxOf x.1, x.2.map (renE bl))
/-- its numbers are in bl -/
def InB (bl : List Nat) (x : Nd) : Prop := x.1 ∈ bl ∧ ∀ e ∈ x.2, e.1 ∈ bl
theorem lt_ent_any (x y : Ent) : dataLt (entD x) (entD y) = if x.1 = y.1 then (if x.2 = y.2 then false else dataLt (pairD x.2.1 x.2.2) (pairD y.2.1 y.2.2)) else decide (x.1 < y.1) := by
  unfold entD
  rw [dataLt_pair (by simp [alike]) (by simp [alike, alikeAll, pairD]), eqv_int, dataLt_int, eqv_pair]
  by_cases h : x.1 = y.1
  · have h' : (x.1 : Int) = (y.1 : Int) := by omega
    by_cases g : x.2 = y.2
    · have g1 : x.2.1 = y.2.1 ∧ x.2.2 = y.2.2 := by rw [g]; exact ⟨rfl, rfl⟩
      simp [h, g, g1]
    · have g1 : ¬ (x.2.1 = y.2.1 ∧ x.2.2 = y.2.2) := fun z => g (Prod.ext z.1 z.2)
      rw [if_pos (decide_eq_true h'), if_pos h, if_neg (by rw [decide_eq_false g1]; exact Bool.false_ne_true), if_neg g]
  · have h' : ¬ ((x.1 : Int) = (y.1 : Int)) := by omega
    rw [if_neg (by rw [decide_eq_false h']; exact Bool.false_ne_true), if_neg h]
    exact decide_eq_decide.mpr (by omega)
theorem lt_ent_ren {bl : List Nat} (hb : Asc bl) {x y : Ent} (hx : x.1 ∈ bl) (hy : y.1 ∈ bl) : dataLt (entD (renE bl x)) (entD (renE bl y)) = dataLt (entD x) (entD y) := by
  rw [lt_ent_any, lt_ent_any]
  by_cases h : x.1 = y.1
  · have h2 : (renE bl x).1 = (renE bl y).1 := by show bl.idxOf x.1 = bl.idxOf y.1; rw [h]
    rw [if_pos h, if_pos h2]
    rfl
  · have h2 : ¬ (renE bl x).1 = (renE bl y).1 := fun z => h (ix_inj hx hy z)
    rw [if_neg h, if_neg h2]
    exact decide_eq_decide.mpr (ix_mono hb hx hy)
theorem ren_inj {bl : List Nat} {x y : Ent} (hx : x.1 ∈ bl) (hy : y.1 ∈ bl) : renE bl x = renE bl y ↔ x = y := by
  constructor
  · intro h
    have h1 := congrArg Prod.fst h
    have h2 := congrArg Prod.snd h
    exact Prod.ext (ix_inj hx hy h1) h2
  · intro h; rw [h]
theorem lt_ents_ren {bl : List Nat} (hb : Asc bl) : ∀ {xs ys : List Ent}, (∀ e ∈ xs, e.1 ∈ bl) → (∀ e ∈ ys, e.1 ∈ bl) → rowLt ((xs.map (renE bl)).map entD) ((ys.map (renE bl)).map entD) = rowLt (xs.map entD) (ys.map entD)
  | [], [], _, _ => rfl
  | [], _ :: _, _, _ => by
    simp only [List.map_nil, List.map_cons, rowLt, PySem.W.keyToksAll]
    exact (PySem.W.lex_atom (by simp) _ _).trans (PySem.W.lex_atom (by simp) _ _).symm
  | _ :: _, [], _, _ => by
    simp only [List.map_nil, List.map_cons, rowLt, PySem.W.keyToksAll]
    exact (PySem.W.lex_atom (by simp) _ _).trans (PySem.W.lex_atom (by simp) _ _).symm
  | x :: xs, y :: ys, hx, hy => by
    have hx1 := hx x (List.mem_cons_self ..)
    have hy1 := hy y (List.mem_cons_self ..)
    have ih := lt_ents_ren hb (xs := xs) (ys := ys) (fun e he => hx e (List.mem_cons_of_mem _ he)) (fun e he => hy e (List.mem_cons_of_mem _ he))
    simp only [List.map_cons, rowLt]
    rw [dataLt_cons (alike_ent _ _), dataLt_cons (alike_ent _ _), eqv_ent, eqv_ent, lt_ent_ren hb hx1 hy1]
    have e : decide (renE bl x = renE bl y) = decide (x = y) := decide_eq_decide.mpr (ren_inj hx1 hy1)
    rw [e]
    have ih' := ih
    simp only [rowLt] at ih'
    rw [ih']
theorem lt_node_any (x y : Nd) : dataLt (nodeD x) (nodeD y) = if x.1 = y.1 then rowLt (x.2.map entD) (y.2.map entD) else decide (x.1 < y.1) := by
  unfold nodeD
  have al : alike (.tuple (x.2.map entD)) (.tuple (y.2.map entD)) = true := by simp only [alike]; exact alike_ents _ _
  rw [dataLt_pair (by simp [alike]) al, eqv_int, dataLt_int]
  by_cases h : x.1 = y.1
  · have h' : (x.1 : Int) = (y.1 : Int) := by omega
    rw [if_pos (decide_eq_true h'), if_pos h]
    have ee : PyData.eqv (.tuple (x.2.map entD)) (.tuple (y.2.map entD)) = decide (x.2 = y.2) := by simp only [PyData.eqv]; exact eqv_ents _ _
    rw [ee]
    by_cases g : x.2 = y.2
    · rw [if_pos (decide_eq_true g), g]
      exact (PyProof.Rows.lex_irrefl _).symm
    · rw [if_neg (by rw [decide_eq_false g]; exact Bool.false_ne_true), dataLt_tuple]
      rfl
  · have h' : ¬ ((x.1 : Int) = (y.1 : Int)) := by omega
    rw [if_neg (by rw [decide_eq_false h']; exact Bool.false_ne_true), if_neg h]
    exact decide_eq_decide.mpr (by omega)
theorem lt_node_ren {bl : List Nat} (hb : Asc bl) {x y : Nd} (hx : InB bl x) (hy : InB bl y) : dataLt (nodeD (renN bl x)) (nodeD (renN bl y)) = dataLt (nodeD x) (nodeD y) := by
  rw [lt_node_any, lt_node_any]
  by_cases h : x.1 = y.1
  · have h2 : (renN bl x).1 = (renN bl y).1 := by show bl.idxOf x.1 = bl.idxOf y.1; rw [h]
    rw [if_pos h, if_pos h2]
    exact lt_ents_ren hb hx.2 hy.2
  · have h2 : ¬ (renN bl x).1 = (renN bl y).1 := fun z => h (ix_inj hx.1 hy.1 z)
    rw [if_neg h, if_neg h2]
    exact decide_eq_decide.mpr (ix_mono hb hx.1 hy.1)
end K20
set_option maxHeartbeats 4000000
namespace K20
open PySem PySem.Spec L2
open PyProof.Rows hiding St
open PySem.W (EachIs dataLt dataLe alike alikeAll AllAlike Sortable)
variable {P : Program} {w : World} {K : Fg} {mg : Str → Option Value} {base : Heap}
/-! ### a node -/
def fNode : List PyData → (PyData → Prop) → Prop := fun ts S => ∃ (x : Nd) (bl : List Nat), ts = [nodeD x, .list (natsD bl)] ∧ InB bl x ∧ x.2.length ≤ 1000 ∧ S = (· = nodeD (renN bl x))
abbrev nNode : List Str := ["_law_key", "_law_below", "_law_number", "_law_strength_here"]
theorem scNode : FnScope nNode ["_law_key", "_law_below"] (defScope (top 70)) := ⟨rfl, rfl, rfl, by decide +kernel, rfl, by decide +kernel, by decide +kernel⟩
theorem shaped_nats (bl : List Nat) : SeqAt.shaped (.list (natsD bl)) = true := by
  have h : ∀ l : List Nat, PyData.canLayAll0 (natsD l) = true ∧ PyData.depthAll (natsD l) = 0 := by
    intro l
    induction l with
    | nil => exact ⟨by simp [natsD, PyData.canLayAll0], by simp [natsD, PyData.depthAll]⟩
    | cons a l ih =>
      unfold natsD at ih ⊢
      exact ⟨by simp [PyData.canLayAll0, PyData.canLay0, ih.1], by simp [PyData.depthAll, PyData.depth, ih.2]⟩
  exact shaped_of (by simp only [PyData.canLay0]; exact (h bl).1) (by simp only [PyData.depth]; rw [(h bl).2]; decide)
theorem idx_le : ∀ {bl : List Nat} {m n : Nat}, bl[m]? = some n → bl.idxOf n ≤ m
  | [], _, _, h => by simp at h
  | b :: bl, 0, n, h => by
    cases h
    rw [List.idxOf_cons_self]
    exact Nat.zero_le _
  | b :: bl, m + 1, n, h => by
    have h' : bl[m]? = some n := by simpa using h
    rw [List.idxOf_cons]
    cases (b == n) with
    | true => exact Nat.zero_le _
    | false => exact Nat.succ_le_succ (idx_le h')
theorem dIx_nat {X : Cx} {d : Dr} {ds : List Sd} {B : Hp} {o e : Expr} {ap cp : Pos} {k n : Nat} {bl : List Nat} (hr : Room k X.A) (ho : DE X d o ds B (· = .list (natsD bl))) (he : DE X d e ds B (· = .int n)) (hn : n ∈ bl) (hbase : attributeBase o "index" X.env (eval o X.env) = eval o X.env := by rfl)
    (hfew : ((backTo cp (starEach [e] X.env)).all (fun x => !x.1) && (backToKw cp (keywordEach [] X.env)).all (fun x => x.1.isSome) && decide (([e] : List Expr).length + ([] : List Keyword).length + (if ([] : List Keyword).isEmpty then 0 else 1) < 30)) = true := by rfl)
    (hline : (ap.endLine == cp.line) = true := by rfl) (hst : starEach [e] X.env = (false, eval e X.env) :: starEach [] X.env := by rfl) (hpl : (backTo cp (starEach [] X.env)).any (·.1) = false := by rfl) : DE X d (.Call (.Attribute o "index" ap) [e] [] cp) ds B (· = .int (bl.idxOf n : Nat)) := by
  refine dIndex hr ho he (shaped_nats bl) rfl (z := .int (n : Nat)) ?_ ?_ ?_ hbase hfew hline hst hpl
  · unfold natsD
    rw [List.getElem?_map, List.getElem?_eq_getElem (ix_lt hn), ix_at hn]
    rfl
  · rw [eqv_int]; exact decide_eq_true rfl
  · intro m z' hm hz
    unfold natsD at hz
    rw [List.getElem?_map] at hz
    cases e : bl[m]? with
    | none => rw [e] at hz; cases hz
    | some q =>
      rw [e] at hz
      cases hz
      rw [eqv_int]
      refine decide_eq_false fun z => ?_
      have z' : q = n := by omega
      subst z'
      have h1 := List.getElem?_eq_some_iff.mp e
      have := idx_le e
      omega
theorem ok_node (M : Md K mg) : Cal P w K mg base 1 "_law_node" (Fn K fNode) [] := by
  refine mkCal (M.df 70 (by decide)) scNode (fun _ _ _ _ _ _ us hl => match us, hl with | [_, _], _ => rfl) (fun vs H Q E h => ?_) fun f cdv A outer s H vs Q E hr h => ?_
  · obtain ⟨B, ts, S, ok, hv, ⟨x, bl, rfl, _⟩, _⟩ := h
    exact hv.len
  obtain ⟨B, ts, S, ok, hv, ⟨x, bl, rfl, hx, hxl, rfl⟩, ret⟩ := h
  have y := Sy.ini (N := nNode) ok hv
  have nd := scNode.nd
  refine ss1 (sRet y (DE.to (dTupP (aP (dIx_nat hr (v 1) (dIx (v 0) dI) hx.1) (aP (dTupleS (S := (· = .tuple ((x.2.map (renE bl)).map entD))) M.tuple (deL (dLcG (t := .tuple (x.2.map entD)) (g := gTup K 2 (gCons (gName 2) (gCons (gName 3) gNil))) rfl nd (blkOk_by (N := nNode) (sc := defScope (top 70)) (own := [("_law_number", 2), ("_law_strength_here", 3)]) (by decide +kernel)) (dIx (v 0) dI) rfl (by rw [List.length_map]; omega)
    (fun s H C cl fp => pg_tup rfl (pgs_cons (pg_name nd (i := 2) (by rfl) (Or.inl rfl)) (pgs_cons (pg_name nd (i := 3) (by rfl) (Or.inl rfl)) pgs_nil))) (R := fun a b => ∃ e : Ent, a = entD e ∧ b = entD (renE bl e)) (fun z wz B5 H5 σ5 hz e hk hd sl5 => ?_))) ?_) aZ))) ?_) ret)
  · obtain ⟨e0, he0, rfl⟩ := List.mem_map.mp hz
    obtain ⟨az, vz, rfl, hsz, hdz⟩ := hd.tup_inv
    obtain ⟨v1, v2, rfl, d1, d2⟩ := hdz.two
    obtain rfl := d1.int_inv
    refine ⟨_, _, fun Q h => ⟨az, _, rfl, sqT_mono hk hsz, rfl, _, _, rfl, _, _, rfl, rfl, h⟩, ?_, (sl5.put 2 (s := some (V.int (e0.1 : Int))) (x := .dat (.int (e0.1 : Nat))) ⟨_, rfl, .int _⟩).put 3 (s := some v2) (x := .dat (pairD e0.2.1 e0.2.2)) ⟨_, rfl, d2⟩, fun s H C cl fp => DE.to (dTup (aC (dIx_nat hr (v 1) (v 2) (hx.2 e0 he0)) (aC (v 3) aN))) ?_⟩
    · rw [wipe_put (by decide), wipe_put (by decide), wipe_wipe]
    · rintro _ rfl
      exact ⟨e0, rfl, rfl⟩
  · rintro _ ⟨ys, rfl, hy⟩
    refine ⟨ys, rfl, ?_⟩
    have key : ∀ {xs : List Ent} {ys : List PyData}, Paired (fun a b => ∃ e : Ent, a = entD e ∧ b = entD (renE bl e)) (xs.map entD) ys → ys = (xs.map (renE bl)).map entD := by
      intro xs
      induction xs with
      | nil => intro ys h; cases h; rfl
      | cons a xs ih =>
        intro ys h
        cases h with
        | cons r t =>
          obtain ⟨e, h1, rfl⟩ := r
          have e2 : a = e := by
            have := eqv_ent a e
            rw [← h1] at this
            have h3 : PyData.eqv (entD a) (entD a) = true := by rw [eqv_ent]; exact decide_eq_true rfl
            rw [h3] at this
            exact of_decide_eq_true this.symm
          rw [ih t, e2]
          rfl
    rw [key hy]
  · rintro _ ⟨_, rfl, _, rfl, _, ⟨_, rfl, _, rfl, rfl⟩, rfl⟩
    rfl
end K20
set_option maxHeartbeats 4000000
/-! Plain: views. -/
namespace K20
open PySem PySem.Spec L2
open PyProof.Rows hiding St
open PySem.W (EachIs dataLt dataLe alike alikeAll AllAlike Sortable rowLt dataLt_pair dataLt_cons dataLt_tuple dataLt_int)
/-- the keys of all levels -/
structure Keys where
  st : List (Nat × Nat)
  nds : List (List Nd)
def Keys.at (k : Keys) : Nat → List PyData
  | 0 => k.st.map startD
  | s + 1 => (k.nds.getD s []).map nodeD
def Keys.len (k : Keys) : Nat → Nat
  | 0 => k.st.length
  | s + 1 => (k.nds.getD s []).length
def Keys.node (k : Keys) (s n : Nat) : Nd := (k.nds.getD s []).getD n (0, [])
abbrev Ltd (us : List PyData) : Prop := us.Pairwise (fun a b => dataLt a b = true)
structure KeysOk (n : Nat) (wh : Bool) (ss : List (Nat × Nat)) (k : Keys) : Prop where
  st : ∀ s ∈ k.st, s ∈ ss
  as : Ltd (k.st.map startD)
  ls : k.st.length ≤ n
  an : ∀ s < k.nds.length, Ltd (k.at (s + 1)) ∧ k.len (s + 1) ≤ n
  nd : ∀ s < k.nds.length, ∀ x ∈ k.nds.getD s [], NodeOk (k.len s) wh x
/-- level s + 1's numbers go down to bl -/
def Down (k : Keys) (s : Nat) (a bl : List Nat) : Prop := Asc bl ∧ ∀ q, q ∈ bl ↔ ∃ n ∈ a, (k.node s n).1 = q ∨ ∃ e ∈ (k.node s n).2, e.1 = q
inductive Pth (k : Keys) (l : Nat) : Nat → List (List Nat) → Prop
  | top (n : Nat) (h : n < k.len l) : Pth k l l [[n]]
  | down {s : Nat} {a bl : List Nat} {sn : List (List Nat)} (h : Pth k l (s + 1) (a :: sn)) (g : Down k s a bl) : Pth k l s (bl :: a :: sn)
theorem asc_len : ∀ {bl : List Nat} {m : Nat}, Asc bl → (∀ x ∈ bl, x < m) → bl.length ≤ m
  | [], _, _, _ => Nat.zero_le _
  | b :: bl, m, h, g => by
    obtain ⟨h1, h2⟩ := List.pairwise_cons.mp h
    cases m with
    | zero => exact absurd (g b (List.mem_cons_self ..)) (Nat.not_lt_zero _)
    | succ m =>
      have ih := asc_len (bl := bl.map (· - 1)) (m := m) (by
        refine List.pairwise_map.mpr (List.Pairwise.imp_of_mem ?_ h2)
        intro x y hx hy hxy
        have := h1 x hx
        omega) (fun x hx => by
        obtain ⟨y, hy, rfl⟩ := List.mem_map.mp hx
        have h3 := h1 y hy
        have h4 := g y (List.mem_cons_of_mem _ hy)
        omega)
      rw [List.length_map] at ih
      exact Nat.succ_le_succ ih
theorem getD_at {α : Type} {l : List α} {d : α} {n : Nat} (h : n < l.length) : l[n]? = some (l.getD n d) := by
  rw [List.getD_eq_getElem?_getD, List.getElem?_eq_getElem h]
  rfl
theorem node_at {k : Keys} {s n : Nat} (h : n < k.len (s + 1)) : k.node s n ∈ k.nds.getD s [] ∧ (k.nds.getD s [])[n]? = some (k.node s n) := by
  have h' : n < (k.nds.getD s []).length := h
  have e : (k.nds.getD s [])[n]? = some (k.node s n) := getD_at h'
  exact ⟨List.mem_of_getElem? e, e⟩
/-- what is known of a path's head -/
structure Hd (k : Keys) (n : Nat) (s : Nat) (a : List Nat) : Prop where
  asc : Asc a
  lt : ∀ x ∈ a, x < k.len s
  ne : a ≠ []
  le : a.length ≤ n
theorem len_le {n : Nat} {wh : Bool} {ss : List (Nat × Nat)} {k : Keys} (h : KeysOk n wh ss k) {s : Nat} (hs : s ≤ k.nds.length) : k.len s ≤ n := by
  cases s with
  | zero => exact h.ls
  | succ s => exact (h.an s hs).2
theorem Pth.le {k : Keys} {l s : Nat} {sn : List (List Nat)} (p : Pth k l s sn) : s ≤ l := by
  induction p with
  | top n h => exact Nat.le_refl _
  | down h g ih => omega
theorem Pth.len {k : Keys} {l s : Nat} {sn : List (List Nat)} (p : Pth k l s sn) : sn.length + s = l + 1 := by
  induction p with
  | top n h => rw [List.length_singleton]; omega
  | down h g ih => rw [List.length_cons] at ih; rw [List.length_cons, List.length_cons]; omega
theorem Pth.hd {n : Nat} {wh : Bool} {ss : List (Nat × Nat)} {k : Keys} (hk : KeysOk n wh ss k) {l s : Nat} (hl : l ≤ k.nds.length) {a : List Nat} {sn : List (List Nat)} (p : Pth k l s (a :: sn)) : Hd k n s a := by
  generalize hq : a :: sn = q at p
  induction p generalizing a sn with
  | top m h =>
    cases hq
    exact ⟨List.pairwise_singleton _ _, fun x hx => by rw [List.mem_singleton.mp hx]; exact h, by simp, by have := len_le hk hl; rw [List.length_singleton]; omega⟩
  | @down s a' bl sn' p g ih =>
    cases hq
    have ih := ih rfl
    have hs := p.le
    have hlt : ∀ x ∈ bl, x < k.len s := by
      intro x hx
      obtain ⟨m, hm, h⟩ := (g.2 x).mp hx
      have hN := hk.nd s (by omega) _ (node_at (ih.lt m hm)).1
      rcases h with rfl | ⟨e, he, rfl⟩
      · exact hN.lt
      · exact (hN.en e he).1
    refine ⟨g.1, hlt, ?_, Nat.le_trans (asc_len g.1 hlt) (len_le hk (by omega))⟩
    obtain ⟨m, hm⟩ := List.exists_mem_of_ne_nil _ ih.ne
    exact List.ne_nil_of_mem ((g.2 _).mpr ⟨m, hm, .inl rfl⟩)
/-! ### a view -/
structure Vw where
  st : List (Nat × Nat)
  nds : List (List Nd)
def nodesD (ns : List Nd) : PyData := .tuple (ns.map nodeD)
def levelsD (v : Vw) : PyData := .tuple (.tuple (v.st.map startD) :: v.nds.map nodesD)
/-- the levels above one of so many nodes -/
def WfN (n : Nat) (wh : Bool) : Nat → List (List Nd) → Prop
  | b, [] => b = 1
  | b, ns :: r => ns ≠ [] ∧ ns.length ≤ n ∧ Ltd (ns.map nodeD) ∧ (∀ x ∈ ns, NodeOk b wh x) ∧ (∀ j < b, ∃ x ∈ ns, x.1 = j ∨ ∃ e ∈ x.2, e.1 = j) ∧ WfN n wh ns.length r
structure WfV (n : Nat) (wh : Bool) (ss : List (Nat × Nat)) (v : Vw) : Prop where
  ne : v.st ≠ []
  le : v.st.length ≤ n
  mem : ∀ s ∈ v.st, s ∈ ss
  asc : Ltd (v.st.map startD)
  nds : WfN n wh v.st.length v.nds
/-- the view along a path, above its head -/
def above (k : Keys) : Nat → List (List Nat) → List (List Nd)
  | s, bl :: a :: sn => a.map (fun n => renN bl (k.node s n)) :: above k (s + 1) (a :: sn)
  | _, _ => []
theorem ltd_map {f : Nat → PyData} {a : List Nat} (h : Asc a) (g : ∀ x ∈ a, ∀ y ∈ a, x < y → dataLt (f x) (f y) = true) : Ltd (a.map f) := by
  exact List.pairwise_map.mpr (List.Pairwise.imp_of_mem (fun {x y} hx hy hxy => g x hx y hy hxy) h)
theorem ltd_at {us : List PyData} (h : Ltd us) {i j : Nat} {x y : PyData} (hi : us[i]? = some x) (hj : us[j]? = some y) (hij : i < j) : dataLt x y = true := by
  obtain ⟨a1, rfl⟩ := List.getElem?_eq_some_iff.mp hi
  obtain ⟨b1, rfl⟩ := List.getElem?_eq_some_iff.mp hj
  exact List.pairwise_iff_getElem.mp h i j a1 b1 hij
theorem wf_above {n : Nat} {wh : Bool} {ss : List (Nat × Nat)} {k : Keys} (hk : KeysOk n wh ss k) {l s : Nat} (hl : l ≤ k.nds.length) {a : List Nat} {sn : List (List Nat)} (p : Pth k l s (a :: sn)) : WfN n wh a.length (above k s (a :: sn)) := by
  generalize hq : a :: sn = q at p
  induction p generalizing a sn with
  | top m h =>
    cases hq
    exact List.length_singleton
  | @down s a' bl sn' p g ih =>
    cases hq
    have ih := ih rfl
    have hh := p.hd hk hl
    have hb := (Pth.down p g).hd hk hl
    have hs := p.le
    have hin : ∀ m ∈ a', InB bl (k.node s m) := fun m hm => ⟨(g.2 _).mpr ⟨m, hm, .inl rfl⟩, fun e he => (g.2 _).mpr ⟨m, hm, .inr ⟨e, he, rfl⟩⟩⟩
    refine ⟨fun z => hh.ne (List.map_eq_nil_iff.mp z), by rw [List.length_map]; exact hh.le, ?_, fun x hx => ?_, fun j hj => ?_, ?_⟩
    · rw [List.map_map]
      refine ltd_map hh.asc fun x hx y hy hxy => ?_
      show dataLt (nodeD (renN bl (k.node s x))) (nodeD (renN bl (k.node s y))) = true
      rw [lt_node_ren hb.asc (hin x hx) (hin y hy)]
      have hL := (hk.an s (by omega)).1
      have e : ∀ m ∈ a', (k.at (s + 1))[m]? = some (nodeD (k.node s m)) := fun m hm => by
        show ((k.nds.getD s []).map nodeD)[m]? = _
        rw [List.getElem?_map, (node_at (hh.lt m hm)).2]
        rfl
      exact ltd_at hL (e x hx) (e y hy) hxy
    · obtain ⟨m, hm, rfl⟩ := List.mem_map.mp hx
      have hN := hk.nd s (by omega) _ (node_at (hh.lt m hm)).1
      have hI := hin m hm
      refine ⟨ix_lt hI.1, ?_, fun e he => ?_⟩
      · show ((k.node s m).2.map (renE bl)).Pairwise _
        rw [List.pairwise_map]
        refine List.Pairwise.imp_of_mem ?_ hN.asc
        intro x y hx hy hxy
        exact (ix_mono hb.asc (hI.2 x hx) (hI.2 y hy)).mpr hxy
      · obtain ⟨e0, he0, rfl⟩ := List.mem_map.mp he
        have h3 := hN.en e0 he0
        exact ⟨ix_lt (hI.2 e0 he0), h3.2.1, h3.2.2⟩
    · obtain ⟨m, hm, h⟩ := (g.2 _).mp (List.getElem_mem hj)
      refine ⟨_, List.mem_map_of_mem hm, ?_⟩
      rcases h with h | ⟨e, he, h⟩
      · left
        show bl.idxOf (k.node s m).1 = j
        rw [h, asc_ix hb.asc hj]
      · right
        refine ⟨_, List.mem_map_of_mem he, ?_⟩
        show bl.idxOf e.1 = j
        rw [h, asc_ix hb.asc hj]
    · rw [List.length_map]
      exact ih
def viewOf (k : Keys) : List (List Nat) → Vw
  | a :: sn => ⟨a.map fun n => k.st.getD n (0, 0), above k 0 (a :: sn)⟩
  | [] => ⟨[], []⟩
theorem wf_view {n : Nat} {wh : Bool} {ss : List (Nat × Nat)} {k : Keys} (hk : KeysOk n wh ss k) {l : Nat} (hl : l ≤ k.nds.length) {sn : List (List Nat)} (p : Pth k l 0 sn) : WfV n wh ss (viewOf k sn) := by
  cases sn with
  | nil => cases p
  | cons a sn =>
    have hh := p.hd hk hl
    have e : ∀ m ∈ a, k.st[m]? = some (k.st.getD m (0, 0)) := fun m hm => by
      have h' : m < k.st.length := hh.lt m hm
      exact getD_at h'
    refine ⟨fun z => hh.ne (List.map_eq_nil_iff.mp z), by show (a.map _).length ≤ n; rw [List.length_map]; exact hh.le, fun s hs => ?_, ?_, ?_⟩
    · obtain ⟨m, hm, rfl⟩ := List.mem_map.mp hs
      exact hk.st _ (List.mem_of_getElem? (e m hm))
    · show Ltd ((a.map _).map startD)
      rw [List.map_map]
      refine ltd_map hh.asc fun x hx y hy hxy => ?_
      have e2 : ∀ m ∈ a, (k.st.map startD)[m]? = some (startD (k.st.getD m (0, 0))) := fun m hm => by rw [List.getElem?_map, e m hm]; rfl
      exact ltd_at hk.as (e2 x hx) (e2 y hy) hxy
    · show WfN n wh (a.map _).length _
      rw [List.length_map]
      exact wf_above hk hl p
end K20
set_option maxHeartbeats 4000000
namespace K20
open PySem PySem.Spec L2
open PyProof.Rows hiding St
open PySem.W (EachIs dataLt dataLe alike alikeAll AllAlike Sortable)
variable {P : Program} {w : World} {K : Fg} {mg : Str → Option Value} {base : Heap}
/-! ### a view -/
def keysOf (k : Keys) : List PyData := .list (k.st.map startD) :: k.nds.map fun ns => .list (ns.map nodeD)
theorem keysOf_at {k : Keys} {s : Nat} (h : s ≤ k.nds.length) : (keysOf k)[s]? = some (.list (k.at s)) := by
  cases s with
  | zero => rfl
  | succ s =>
    show (k.nds.map _)[s]? = _
    rw [List.getElem?_map, getD_at (d := []) h]
    rfl
theorem node_atI {k : Keys} {s n : Nat} (h : n < k.len (s + 1)) : (k.at (s + 1))[n]? = some (nodeD (k.node s n)) := by
  show ((k.nds.getD s []).map nodeD)[n]? = _
  rw [List.getElem?_map, (node_at h).2]
  rfl
theorem above_len (k : Keys) : ∀ (sn : List (List Nat)) (s : Nat) (a : List Nat), (above k s (a :: sn)).length = sn.length
  | [], _, _ => rfl
  | b :: sn, s, a => congrArg Nat.succ (above_len k sn (s + 1) b)
theorem above_at (k : Keys) : ∀ (sn : List (List Nat)) (s i : Nat) (bl a : List Nat), sn[i]? = some bl → sn[i + 1]? = some a → (above k s sn)[i]? = some (a.map fun n => renN bl (k.node (s + i) n))
  | [], _, _, _, _, h, _ => by simp at h
  | [_], _, 0, _, _, _, h => by simp at h
  | [_], _, i + 1, _, _, h, _ => by simp at h
  | b :: c :: sn, s, 0, bl, a, h, g => by
    cases h
    have g' : c = a := by simpa using g
    subst g'
    rfl
  | b :: c :: sn, s, i + 1, bl, a, h, g => by
    have := above_at k (c :: sn) (s + 1) i bl a (by simpa using h) (by simpa using g)
    show (above k (s + 1) (c :: sn))[i]? = _
    rw [this]
    have e : s + 1 + i = s + (i + 1) := by omega
    rw [e]
theorem pth_at {k : Keys} {l : Nat} : ∀ {s : Nat} {sn : List (List Nat)} {i : Nat} {bl a : List Nat}, Pth k l s sn → sn[i]? = some bl → sn[i + 1]? = some a → Down k (s + i) a bl ∧ ∃ r, Pth k l (s + i + 1) (a :: r)
  | s, sn, 0, bl, a, p, h, g => by
    cases p with
    | top n h' => simp at g
    | down p' g' =>
      cases h
      rename_i a' sn'
      have e : a' = a := by simpa using g
      subst e
      exact ⟨g', _, p'⟩
  | s, sn, i + 1, bl, a, p, h, g => by
    cases p with
    | top n h' => simp at g
    | down p' g' =>
      have := pth_at p' (i := i) (bl := bl) (a := a) (by simpa using h) (by simpa using g)
      have e : s + 1 + i = s + (i + 1) := by omega
      rw [e] at this
      exact this
def fView : List PyData → (PyData → Prop) → Prop := fun ts S => ∃ (k : Keys) (seats : List (List Nat)) (h l n : Nat) (wh : Bool) (ss : List (Nat × Nat)) (sl : List Nat), ts = [.list (keysOf k), .list (seatsD seats), .int h, .int l] ∧ KeysOk n wh ss k ∧ n ≤ 4 ∧ h < n ∧ l ≤ k.nds.length ∧ l ≤ 4 ∧ seats[l]? = some sl ∧ sl.length = n ∧ (∀ x ∈ sl, x < k.len l) ∧
  S = fun t => ∃ v, t = levelsD v ∧ WfV n wh ss v ∧ v.nds.length = l
abbrev nView : List Str := ["_law_keys", "_law_seat", "_law_house", "_law_level", "_law_seen", "_law_k", "_law_s", "_law_known", "_law_number", "_law_near", "_law_strength_here", "_law_found", "_law_below"]
theorem scView : FnScope nView ["_law_keys", "_law_seat", "_law_house", "_law_level"] (defScope (top 71)) := ⟨rfl, rfl, rfl, by decide +kernel, rfl, by decide +kernel, by decide +kernel⟩
def seenD (sn : List (List Nat)) : List PyData := sn.map fun a => .list (natsD a)
/-- what number m of level s + 1 knows -/
def Ref (k : Keys) (s m q : Nat) : Prop := (k.node s m).1 = q ∨ ∃ e ∈ (k.node s m).2, e.1 = q
/-- the dict of what is known -/
structure Kn (K : Fg) (B : Hp) (kvs : List (Key × V)) (R : Nat → Prop) (c : Nat) : Prop where
  en : Ents K B kvs (fun k t => ∃ q : Nat, k = .inl (q : Int) ∧ q < 100)
  ks : ∀ q : Nat, (.inl (q : Int) : Key) ∈ kvs.map (·.1) ↔ R q
  le : kvs.length ≤ c
theorem Kn.up {B B1 : Hp} {kvs : List (Key × V)} {R : Nat → Prop} {c : Nat} (h : Kn K B kvs R c) (e : Same B B1) : Kn K B1 kvs R c := ⟨h.en.up e, h.ks, h.le⟩
theorem Kn.put {B : Hp} {kvs : List (Key × V)} {R R' : Nat → Prop} {c q : Nat} {v : V} {t : PyData} (h : Kn K B kvs R c) (hv : Dp K B v t) (hq : q < 100) (hR : ∀ x, R' x ↔ R x ∨ x = q) : Kn K B (putK kvs (.inl (q : Int)) v) R' (c + 1) := by
  refine ⟨h.en.put hv ⟨q, rfl, hq⟩, fun x => ?_, Nat.le_trans (length_putK _ _ _) (Nat.succ_le_succ h.le)⟩
  rw [mem_keys_put, hR, h.ks]
  constructor
  · rintro (e | e)
    · right
      have e9 : (x : Int) = (q : Int) := Sum.inl.inj e
      omega
    · exact .inl e
  · rintro (e | rfl)
    · exact .inr e
    · exact .inl rfl
theorem Kn.imp {B : Hp} {kvs : List (Key × V)} {R R' : Nat → Prop} {c c' : Nat} (h : Kn K B kvs R c) (hR : ∀ x, R' x ↔ R x) (hc : c ≤ c') : Kn K B kvs R' c' := ⟨h.en, fun q => (h.ks q).trans (hR q).symm, Nat.le_trans h.le hc⟩
theorem Kn.sorted {B : Hp} {kvs : List (Key × V)} {R : Nat → Prop} {c : Nat} (h : Kn K B kvs R c) : ∃ ks : List Int, kvs.map (·.1) = ks.map Sum.inl ∧ ks.length ≤ c ∧ ∀ ys : List Int, ys.Perm ks → ys.Pairwise (· ≤ ·) → ∃ bl : List Nat, ys.map PyData.int = natsD bl ∧ Asc bl ∧ ∀ q, q ∈ bl ↔ R q := by
  obtain ⟨ks, h1, h2, h3⟩ := keys_nat h.en (m := 100) fun k t h => h
  refine ⟨ks.map fun k : Nat => (k : Int), h1, ?_, fun ys hp hs => ?_⟩
  · have := congrArg List.length h1
    rw [List.length_map, List.length_map] at this
    have := h.le
    omega
  · have e0 : ys = (ys.map Int.toNat).map fun k : Nat => (k : Int) := by
      rw [List.map_map]
      conv => lhs; rw [← List.map_id ys]
      refine List.map_congr_left fun y hy => ?_
      obtain ⟨q, _, rfl⟩ := List.mem_map.mp (hp.mem_iff.mp hy)
      rfl
    refine ⟨ys.map Int.toNat, ?_, ?_, fun q => ?_⟩
    · conv => lhs; rw [e0]
      unfold natsD
      rw [List.map_map]
      rfl
    · have nd : ys.Nodup := hp.nodup_iff.mpr (by
        refine List.nodup_iff_pairwise_ne.mpr (List.pairwise_map.mpr ?_)
        refine List.Pairwise.imp ?_ (List.nodup_iff_pairwise_ne.mp h2)
        intro a b hab e
        omega)
      rw [e0, List.map_map] at hs nd
      refine List.pairwise_map.mpr ?_
      rw [List.pairwise_map] at hs
      have nd' := List.nodup_iff_pairwise_ne.mp nd
      rw [List.pairwise_map] at nd'
      refine List.Pairwise.imp ?_ (hs.and nd')
      rintro a b ⟨h4, h5⟩
      have h4' : ((Int.toNat a : Nat) : Int) ≤ (Int.toNat b : Nat) := h4
      have h5' : ((Int.toNat a : Nat) : Int) ≠ (Int.toNat b : Nat) := h5
      omega
    · rw [← h.ks, h1]
      have m1 : (.inl (q : Int) : Key) ∈ (ks.map fun k : Nat => (k : Int)).map Sum.inl ↔ (q : Int) ∈ ks.map fun k : Nat => (k : Int) := by
        constructor
        · intro hm
          obtain ⟨z, hz, e⟩ := List.mem_map.mp hm
          rw [← Sum.inl.inj e]
          exact hz
        · exact fun hm => List.mem_map_of_mem hm
      rw [m1, ← hp.mem_iff]
      constructor
      · intro hm
        obtain ⟨z, hz, rfl⟩ := List.mem_map.mp hm
        obtain ⟨q', _, rfl⟩ := List.mem_map.mp (hp.mem_iff.mp hz)
        exact hz
      · intro hm
        exact List.mem_map.mpr ⟨(q : Int), hm, rfl⟩
theorem seenD_len (sn : List (List Nat)) : (seenD sn).length = sn.length := List.length_map _
/-- the view's state in the loops -/
abbrev vwD (k : Keys) (seats : List (List Nat)) (h l : Nat) (p : Addr) (s kn nu : Sd) : List Sd := [.dat (.list (keysOf k)), .dat (.list (seatsD seats)), .dat (.int h), .dat (.int l), .raw (.ref p), .any, s, kn, nu, .any, .any, .any, .any]
theorem ok_view (M : Md K mg) : Cal P w K mg base 2 "_law_view" (Fn K fView) [] := by
  refine mkCal (M.df 71 (by decide)) scView (fun _ _ _ _ _ _ us hl => match us, hl with | [_, _, _, _], _ => rfl) (fun vs H Q E h => ?_) fun f cdv A outer s H vs Q E hr h => ?_
  · obtain ⟨B, ts, S, ok, hv, ⟨k, seats, h, l, n, wh, ss, sl, rfl, _⟩, _⟩ := h
    exact hv.len
  obtain ⟨B, ts, S, ok, hv, ⟨k, seats, h, l, n, wh, ss, sl, rfl, hk, hn4, hh, hl, hl4, hsl, hsn, hslt, rfl⟩, ret⟩ := h
  have y := Sy.ini (N := nView) ok hv
  have nd := scView.nd
  refine ssC (sNewL 4 y (dLcR 5 rfl nd M.range (dAdd (v 3) dI) (by omega) (blkOk_by (N := nView) (sc := defScope (top 71)) (own := [("_law_k", 5)]) (by decide +kernel)) (by decide) (fun s H C cl fp => pg_name nd (i := 5) (by rfl) (Or.inl rfl)) (R := fun _ t => t = .list []) (fun i B4 hi e s H C cl fp => dLst aN)) ?_)
  rintro p vs0 ts0 B1 σ1 H1 hp0 t1 hd1 y1 m1
  have hl0 : ts0.length = l + 1 := by
    have := Paired.length hp0
    rw [rgD_len] at this
    omega
  have hsl' : h < sl.length := by omega
  have hseat : (seatsD seats)[l]? = some (.list (natsD sl)) := by unfold seatsD; rw [List.getElem?_map, hsl]; rfl
  refine ssC (sStore 4 y1 m1 (dLst (aC (dIx (dIx (v 1) (v 3) rfl (atI_nat hseat)) (v 2) rfl (natsD_at hsl')) aN)) (v 3) (by rw [hd1.len]; omega) ?_)
  rintro w2 _ B2 H2 rfl t2 hd2 y2 m2
  have hd2' : DpAll K B2 (vs0.set l w2) (ts0.set l (.list (natsD [sl[h]])))   := DpAll.set l (hd1.up t2.kb) hd2
  -- downwards
  refine ssCut (fun σ' H' => ∃ (B' : Hp) (vs : List V) (ts : List PyData) (sn : List (List Nat)), Sy K none B H B' H' σ' (vwD k seats h l p .any .any .any) ∧ Mu none H B' H' p (.lst vs) ∧ DpAll K B' vs ts ∧ ts = seenD sn ∧ Pth k l 0 sn) (w_s (ps_for (g := gName 6) (passes_of rfl) rfl (pi_range3 (by rfl) M.range (pa_cons pe_w (pa_cons pe_int (pa_cons (pe_un un_neg pe_int) pa_nil)))) (pg_name nd (by rfl) (by first | exact Or.inl rfl | exact Or.inr rfl)) pss_w) ?_) fun σ3 H3 h3 => ?_
  · refine goE (v 3) y2.sl y2.ok ?_
    rintro w3 _ B3 H3 t3 o3 hd3 rfl
    obtain rfl := hd3.int_inv
    refine ⟨1, rfl, (l : Int), 0, -1, l, rfl, RgC.neg (by omega) (by omega) (by omega) (by omega), ?_⟩
    refine for_it walk_rangeC (fun i σ' H' => ∃ (B' : Hp) (vs : List V) (ts : List PyData) (sn : List (List Nat)), Sy K none B H B' H' σ' (vwD k seats h l p .any .any .any) ∧ Mu none H B' H' p (.lst vs) ∧ DpAll K B' vs ts ∧ ts.length = l + 1 ∧ ts.drop (l - i) = seenD sn ∧ Pth k l (l - i) sn ∧ i ≤ l) ?_ (fun _ _ _ _ _ => trivial) ?_ ?_
    · refine ⟨B3, _, _, [[sl[h]]], (y2.on t3 o3), m2.on t3, hd2'.up t3.kb, by rw [List.length_set]; exact hl0, ?_, .top _ (hslt _ (List.getElem_mem hsl')), Nat.zero_le _⟩
      rw [Nat.sub_zero, List.drop_eq_getElem_cons (by rw [List.length_set]; omega), List.drop_of_length_le (by rw [List.length_set]; omega), List.getElem_set_self]
      rfl
    · rintro i x σ' H' H'' hi ⟨B', vs, ts, sn, y4, mp, hd, hlen, hdr, hP, hil⟩ ⟨rfl, rfl⟩
      have e6 : (fun i : Nat => V.int ((l : Int) + (i : Int) * (-1))) i = V.int ((l - i : Nat) : Int) := by
        show V.int ((l : Int) + (i : Int) * (-1)) = _
        rw [show (l : Int) + (i : Int) * (-1) = ((l - i : Nat) : Int) by omega]
      rw [e6]
      obtain ⟨s1, hs1⟩ : ∃ s1, l - i = s1 + 1 := ⟨l - i - 1, by omega⟩
      rw [hs1] at hdr hP ⊢
      obtain ⟨a, sn', rfl⟩ : ∃ a sn', sn = a :: sn' := by
        cases sn with
        | nil => cases hP
        | cons a sn' => exact ⟨a, sn', rfl⟩
      have hH := hP.hd hk hl
      have hts : ts[s1 + 1]? = some (.list (natsD a)) := by
        have e := congrArg (·[0]?) hdr
        simp only [List.getElem?_drop] at e
        rw [Nat.add_zero] at e
        rw [e]
        rfl
      have y5 := y4.put 6 (s := some (V.int ((s1 + 1 : Nat) : Int))) (x := .dat (.int ((s1 + 1 : Nat) : Int))) ⟨_, rfl, .int _⟩
      refine (show wSs _ _ _ (σ'.set 6 (some (V.int ((s1 + 1 : Nat) : Int)))) H'' from ?_)
      generalize σ'.set 6 (some (V.int ((s1 + 1 : Nat) : Int))) = σ5 at y5 ⊢
      refine ssC (sNewK 7 y5 ok nd fun u σ6 hu y6 m6 => ?_)
      have pu : p ≠ u := fun z => by rw [← z, mp.at_] at hu; cases hu
      have mp6 := mp.other (o := .dK []) pu
      refine ssCut (fun σ' H' => ∃ (B' : Hp) (kvs : List (Key × V)), Sy K none B H B' H' σ' (vwD k seats h l p (.dat (.int ((s1 + 1 : Nat) : Int))) (.raw (.ref u)) .any) ∧ Mu none H B' H' p (.lst vs) ∧ DpAll K B' vs ts ∧ Mu none H B' H' u (.dK kvs) ∧ Kn K B' kvs (fun q => ∃ m ∈ a, Ref k s1 m q) 50)
        (sForA (t := .list (natsD a)) (xs := natsD a) (g := gName 8) (passes_of rfl) rfl (atIx 4 y6 mp6 hd (v 6) hts) rfl (pg_name nd (by rfl) (by first | exact Or.inl rfl | exact Or.inr rfl)) fun w7 B7 H7 t7 o7 hd7 => ?_) fun σ8 H8 h8 => ?_
      · refine ⟨fun j B' σ' H' => ∃ kvs : List (Key × V), Sy K none B H B' H' σ' (vwD k seats h l p (.dat (.int ((s1 + 1 : Nat) : Int))) (.raw (.ref u)) .any) ∧ Mu none H B' H' p (.lst vs) ∧ DpAll K B' vs ts ∧ Mu none H B' H' u (.dK kvs) ∧ Kn K B' kvs (fun q => ∃ m ∈ a.take j, Ref k s1 m q) (5 * j), ?_, ?_, ?_, ?_⟩
        · exact ⟨[], y6.on t7 o7, mp6.on t7, hd.up t7.kb, m6.on t7, ⟨.nil, fun q => ⟨(fun h => nomatch h), (fun ⟨m, hm, _⟩ => by simp at hm)⟩, Nat.le_refl _⟩⟩
        · rintro j B' σ' H' ⟨kvs, y9, _⟩
          exact y9.same
        · rintro j x wx B' σ' H' hx eB ⟨kvs, y9, mp9, hd9, mu9, kn9⟩ hdx
          obtain ⟨m, hm, rfl⟩ : ∃ m, a[j]? = some m ∧ x = .int (m : Nat) := by
            unfold natsD at hx
            rw [List.getElem?_map] at hx
            cases e : a[j]? with
            | none => rw [e] at hx; cases hx
            | some m => rw [e] at hx; cases hx; exact ⟨m, rfl, rfl⟩
          have hma := List.mem_of_getElem? hm
          have hja : j < a.length := (List.getElem?_eq_some_iff.mp hm).1
          have hal := hH.le
          have hmlt := hH.lt m hma
          have hN := hk.nd s1 (by omega) _ (node_at hmlt).1
          have hlen4 : k.len s1 ≤ 4 := Nat.le_trans (len_le hk (by omega)) hn4
          have hx2l : (k.node s1 m).2.length ≤ 4 := by
            have := asc_len (bl := (k.node s1 m).2.map (·.1)) (m := k.len s1) (List.pairwise_map.mpr hN.asc) (fun q hq => by
              obtain ⟨e, he, rfl⟩ := List.mem_map.mp hq
              exact (hN.en e he).1)
            rw [List.length_map] at this
            omega
          obtain rfl := hdx.int_inv
          have y10 := y9.put 8 (s := some (V.int (m : Int))) (x := .dat (.int (m : Int))) ⟨_, rfl, .int _⟩
          refine (show wSs _ _ _ (σ'.set 8 (some (V.int (m : Int)))) H' from ?_)
          generalize σ'.set 8 (some (V.int (m : Int))) = σ10 at y10 ⊢
          have n1 : k.len s1 ≤ 100 := by omega
          refine ssC (sPutK (k0 := ((k.node s1 m).1 : Nat)) 7 hr y10 mu9 dB (dIx (dIx (dIx (v 0) (v 6) rfl (atI_nat (keysOf_at (by omega)))) (v 8) rfl (atI_nat (node_atI hmlt))) dI) (by have := kn9.le; omega) ?_)
          rintro w11 _ B11 H11 rfl t11 hd11 y11 mu11
          have mp11 := (mp9.on t11).other (o := .dK (putK kvs (.inl ((k.node s1 m).1 : Nat)) w11)) pu
          have kn11 : Kn K B11 (putK kvs (.inl (((k.node s1 m).1 : Nat) : Int)) w11) (fun q => (∃ m' ∈ a.take j, Ref k s1 m' q) ∨ q = (k.node s1 m).1) (5 * j + 1) := (kn9.up t11.kb).put hd11 (by have := hN.lt; omega) (fun x => Iff.rfl)
          refine ss1 (sFor (t := .tuple ((k.node s1 m).2.map entD)) (xs := (k.node s1 m).2.map entD) (g := gTup K 2 (gCons (gName 9) (gCons (gName 10) gNil))) y11.sl y11.ok (passes_of rfl) rfl (dIx (dIx (dIx (v 0) (v 6) rfl (atI_nat (keysOf_at (by omega)))) (v 8) rfl (atI_nat (node_atI hmlt))) dI) rfl (pg_tup rfl (pgs_cons (pg_name nd (by rfl) (by first | exact Or.inl rfl | exact Or.inr rfl)) (pgs_cons (pg_name nd (by rfl) (by first | exact Or.inl rfl | exact Or.inr rfl)) pgs_nil))) fun w12 B12 H12 t12 o12 hd12 => ?_)
          refine ⟨fun jj B' σ' H' => ∃ kvs : List (Key × V), Sy K none B H B' H' σ' (vwD k seats h l p (.dat (.int ((s1 + 1 : Nat) : Int))) (.raw (.ref u)) (.dat (.int (m : Int)))) ∧ Mu none H B' H' p (.lst vs) ∧ DpAll K B' vs ts ∧ Mu none H B' H' u (.dK kvs) ∧ Kn K B' kvs (fun q => ((∃ m' ∈ a.take j, Ref k s1 m' q) ∨ q = (k.node s1 m).1) ∨ ∃ e ∈ (k.node s1 m).2.take jj, e.1 = q) (5 * j + 1 + jj), ?_, ?_, ?_, ?_⟩
          · exact ⟨_, y11.on t12 o12, mp11.on t12, (hd9.up t11.kb).up t12.kb, mu11.on t12, (kn11.up t12.kb).imp (fun q => ⟨fun h => h.elim id (fun ⟨e, he, _⟩ => by simp at he), .inl⟩) (Nat.le_refl _)⟩
          · rintro jj B' σ' H' ⟨kvs, y9, _⟩
            exact y9.same
          · rintro jj x wx B' σ' H' hx eB' ⟨kvs', y13, mp13, hd13, mu13, kn13⟩ hdx'
            obtain ⟨e0, he0, rfl⟩ : ∃ e0, (k.node s1 m).2[jj]? = some e0 ∧ x = entD e0 := by
              rw [List.getElem?_map] at hx
              cases e : (k.node s1 m).2[jj]? with
              | none => rw [e] at hx; cases hx
              | some m => rw [e] at hx; cases hx; exact ⟨m, rfl, rfl⟩
            have hjj : jj < (k.node s1 m).2.length := (List.getElem?_eq_some_iff.mp he0).1
            obtain ⟨ax, vx, rfl, hsx, hdvx⟩ := hdx'.tup_inv
            obtain ⟨v1, v2, rfl, d1, d2⟩ := hdvx.two
            obtain rfl := d1.int_inv
            refine ⟨ax, _, rfl, sqT_mono y13.same hsx, rfl, _, _, rfl, _, _, rfl, rfl, ?_⟩
            have y14 : Sy K none B H B' H' ((σ'.set 9 (some (.int (e0.1 : Int)))).set 10 (some v2)) ((vwD k seats h l p (.dat (.int ((s1 + 1 : Nat) : Int))) (.raw (.ref u)) (.dat (.int (m : Int)))).set 9 (.dat (.int (e0.1 : Int)))) :=
              (((y13.put 9 (x := .dat (.int (e0.1 : Int))) ⟨_, rfl, .int _⟩).put 10 (x := .dat (pairD e0.2.1 e0.2.2)) ⟨_, rfl, d2⟩).fo 10)
            refine (show wSs _ _ _ ((σ'.set 9 (some (.int (e0.1 : Int)))).set 10 (some v2)) H' from ?_)
            generalize (σ'.set 9 (some (V.int (e0.1 : Int)))).set 10 (some v2) = σ14 at y14 ⊢
            have he1 := (hN.en e0 (List.mem_of_getElem? he0)).1
            refine ss1 (sPutK (k0 := (e0.1 : Nat)) 7 hr y14 mu13 dB (v 9) (by have := kn13.le; omega) ?_)
            rintro w15 _ B15 H15 rfl t15 hd15 y15 mu15
            have mp15 := (mp13.on t15).other (o := .dK (putK kvs' (.inl (e0.1 : Nat)) w15)) pu
            refine ⟨B15, eB'.trans t15.kb, _, y15.fo 9, mp15, hd13.up t15.kb, mu15, (kn13.up t15.kb).put hd15 (by omega) (fun q => ?_)⟩
            rw [take_snoc he0]
            constructor
            · rintro (h | ⟨e, he, rfl⟩)
              · exact .inl (.inl h)
              · rcases List.mem_append.mp he with he | he
                · exact .inl (.inr ⟨e, he, rfl⟩)
                · rw [List.mem_singleton.mp he]; exact .inr rfl
            · rintro ((h | ⟨e, he, rfl⟩) | rfl)
              · exact .inl h
              · exact .inr ⟨e, List.mem_append_left _ he, rfl⟩
              · exact .inr ⟨e0, List.mem_append_right _ (List.mem_singleton.mpr rfl), rfl⟩
          · rintro B' σ' H' eB' ⟨kvs', y13, mp13, hd13, mu13, kn13⟩
            rw [List.length_map] at kn13
            refine ⟨B', (eB.trans (t11.kb.trans t12.kb)).trans eB', kvs', y13.fo 8, mp13, hd13, mu13, kn13.imp (fun q => ?_) (by omega)⟩
            rw [List.take_length, take_snoc hm]
            constructor
            · rintro ⟨m', hm', h⟩
              rcases List.mem_append.mp hm' with hm' | hm'
              · exact .inl (.inl ⟨m', hm', h⟩)
              · rw [List.mem_singleton.mp hm'] at h
                rcases h with h | h
                · exact .inl (.inr h.symm)
                · exact .inr h
            · rintro ((⟨m', hm', h⟩ | h) | h)
              · exact ⟨m', List.mem_append_left _ hm', h⟩
              · exact ⟨m, List.mem_append_right _ (List.mem_singleton.mpr rfl), .inl h.symm⟩
              · exact ⟨m, List.mem_append_right _ (List.mem_singleton.mpr rfl), .inr h⟩
        · rintro B' σ' H' eB ⟨kvs, y9, mp9, hd9, mu9, kn9⟩
          have e1 : (natsD a).length = a.length := List.length_map _
          rw [e1, List.take_length] at kn9
          have := hH.le
          exact ⟨B', kvs, y9, mp9, hd9, mu9, kn9.imp (fun q => Iff.rfl) (by omega)⟩
      · obtain ⟨B8, kvs, y8, mp8, hd8, mu8, kn8⟩ := h8
        obtain ⟨ks, hks, hkl, hys⟩ := kn8.sorted
        have y9 := y8.look mu8
        have mp9 : Mu none H (upd B8 u (.dK kvs)) H8 p (.lst vs) := ⟨mp8.new, by rw [upd_ne pu]; exact mp8.hid, mp8.at_, mp8.nd⟩
        refine ss1 (sStore (j := s1) 4 y9 mp9 (dSortDI (S := fun t => ∃ bl : List Nat, t = .list (natsD bl) ∧ Down k s1 a bl) 7 rfl M.sorted (.inl upd_same) hks (by omega) (fun ys h1 h2 => ?_)) (DE.to (dSub (v 6) dI) ?_) (by rw [hd8.len]; omega) ?_)
        · obtain ⟨bl, e1, e2, e3⟩ := hys ys h1 h2
          exact ⟨bl, by rw [e1], e2, e3⟩
        · rintro _ rfl
          rw [show ((s1 + 1 : Nat) : Int) - 1 = (s1 : Int) by omega]
        · rintro w10 _ B10 H10 ⟨bl, rfl, hdn⟩ t10 hd10 y10 m10
          have hli : l - (i + 1) = s1 := by omega
          refine ⟨B10, _, ts.set s1 (.list (natsD bl)), bl :: a :: sn', (y10.fo 6).fo 7, m10, DpAll.set s1 ((hd8.up (same_upd mu8.hid)).up t10.kb) hd10, by rw [List.length_set]; exact hlen, ?_, by rw [hli]; exact .down hP hdn, hi⟩
          rw [hli, List.drop_eq_getElem_cons (by rw [List.length_set]; omega), List.getElem_set_self, List.drop_set_of_lt (by omega), hdr]
          rfl
    · rintro σ' H' ⟨B', vs, ts, sn, y4, mp, hd, hlen, hdr, hP, _⟩
      rw [Nat.sub_self] at hdr hP
      exact ⟨B', vs, ts, sn, y4, mp, hd, hdr, hP⟩
  obtain ⟨B4, vs4, ts4, sn, y4, m4, hd4, rfl, hP⟩ := h3
  have y5 := y4.done m4 hd4 4
  have hPl := hP.len
  rw [Nat.add_zero] at hPl
  obtain ⟨a0, sn', rfl⟩ : ∃ a sn', sn = a :: sn' := by
    cases sn with
    | nil => cases hP
    | cons a sn' => exact ⟨a, sn', rfl⟩
  have hH0 := hP.hd hk hl
  have hwf := wf_view hk hl hP
  have hseen : ∀ i (b : List Nat), (a0 :: sn')[i]? = some b → (seenD (a0 :: sn'))[i]? = some (PyData.list (natsD b)) := fun i b e => by
    unfold seenD
    rw [List.getElem?_map, e]
    rfl
  have sn4 : (a0 :: sn').length ≤ 5 := by omega
  -- the first level
  refine ssC (w_s (ps_set (i := 11) nd (by rfl) (Or.inl rfl) (pe_lst (pa_cons pe_w pa_nil))) (goE (S := (· = .tuple ((viewOf k (a0 :: sn')).st.map startD))) (dTupleS (S := (· = .tuple ((viewOf k (a0 :: sn')).st.map startD))) M.tuple (deL (dLc (t := .list (natsD a0)) (xs := natsD a0) 8 rfl nd (blkOk_by (N := nView) (sc := defScope (top 71)) (own := [("_law_number", 8)]) (by decide +kernel)) (dIx (v 4) dI rfl (atI_nat (j := 0) (hseen 0 a0 rfl))) rfl (by have := hH0.le; have e : (natsD a0).length = a0.length := List.length_map _; omega) (by decide) (fun s H C cl fp => pg_name nd (i := 8) (by rfl) (Or.inl rfl)) (R := fun x t => ∃ m : Nat, x = .int m ∧ t = startD (k.st.getD m (0, 0))) (fun z B5 hz e s H C cl fp => ?_))) ?_) y5.sl y5.ok ?_))
  · obtain ⟨m, hm, rfl⟩ := List.mem_map.mp hz
    have hml : m < k.st.length := hH0.lt m hm
    have e0 : (k.at 0)[m]? = some (startD (k.st.getD m (0, 0))) := by
      show (k.st.map startD)[m]? = _
      rw [List.getElem?_map, getD_at (d := (0, 0)) hml]
      rfl
    refine DE.to (dIx (dIx (v 0) dI rfl (atI_nat (j := 0) (keysOf_at (Nat.zero_le _)))) (v 8) rfl (atI_nat e0)) ?_
    rintro _ rfl
    exact ⟨m, rfl, rfl⟩
  · rintro _ ⟨ys, rfl, hy⟩
    refine ⟨ys, rfl, ?_⟩
    have key : ∀ {xs : List Nat} {ys : List PyData}, Paired (fun x t => ∃ m : Nat, x = .int m ∧ t = startD (k.st.getD m (0, 0))) (natsD xs) ys → ys = (xs.map fun n => k.st.getD n (0, 0)).map startD := by
      intro xs
      induction xs with
      | nil => intro ys h; cases h; rfl
      | cons a xs ih =>
        intro ys h
        cases h with
        | cons r t =>
          obtain ⟨m, e1, rfl⟩ := r
          have e2 : a = m := by
            have e9 : (a : Int) = (m : Int) := PyData.int.inj e1
            omega
          rw [ih t, e2]
          rfl
    rw [key hy]
    rfl
  · rintro w6 t6' B6 H6 t6 o6 hd6 ex
    rw [show t6' = _ from ex] at hd6
    refine ⟨show 1 ≤ sizeLine by decide, fun q hq => ?_⟩
    have y6 := y5.on t6 o6
    have y7 : Sy K none B H B6 (upd H6 q (.lst [w6])) (List.set σ3 11 (some (.ref q))) _ := Sy.put (x := .raw (.ref q)) ⟨y6.tr.trans (.lay0 hq), y6.ok.lay0 hq, y6.sl⟩ 11 rfl
    have m7 : Mu none H B6 (upd H6 q (.lst [w6])) q (.lst [w6]) := Mu.make ok y6.ok y6.tr hq
    refine (show wSs _ _ _ (List.set σ3 11 (some (.ref q))) _ from ?_)
    generalize List.set σ3 11 (some (V.ref q)) = σ7 at y7 ⊢
    refine ssC (sForR2 (g := gName 6) y7.sl y7.ok (passes_of rfl) rfl M.range dI (dAdd (v 3) dI) (by omega) (by omega) (by omega) (pg_name nd (by rfl) (by first | exact Or.inl rfl | exact Or.inr rfl)) fun B8 H8 t8 o8 => ?_)
    let full : List PyData := .tuple ((viewOf k (a0 :: sn')).st.map startD) :: (viewOf k (a0 :: sn')).nds.map nodesD
    have hnl : (viewOf k (a0 :: sn')).nds.length = l := by
      show (above k 0 (a0 :: sn')).length = l
      rw [above_len]
      rw [List.length_cons] at hPl
      omega
    refine ⟨fun i σ' H' => ∃ (B' : Hp) (vs : List V), Sy K none B H B' H' σ' [.dat (.list (keysOf k)), .dat (.list (seatsD seats)), .dat (.int h), .dat (.int l), .dat (.list (seenD (a0 :: sn'))), .any, .any, .any, .any, .any, .any, .raw (.ref q), .any] ∧ Mu none H B' H' q (.lst vs) ∧ DpAll K B' vs (full.take (i + 1)) ∧ i ≤ l, ?_, ?_, ?_⟩
    · exact ⟨B8, [w6], y7.on t8 o8, m7.on t8, .cons (hd6.up t8.kb) .nil, Nat.zero_le _⟩
    · rintro i σ' H' hi ⟨B', vs, y9, mq, hd, _⟩
      have hil : i < l := by omega
      have y10 := y9.put 6 (s := some (V.int (1 + (i : Int)))) (x := .dat (.int ((i + 1 : Nat) : Int))) ⟨_, rfl, by rw [show (1 : Int) + (i : Int) = ((i + 1 : Nat) : Int) by omega]; exact .int _⟩
      refine (show wSs _ _ _ (σ'.set 6 (some (V.int (1 + (i : Int))))) H' from ?_)
      generalize σ'.set 6 (some (V.int (1 + (i : Int)))) = σ10 at y10 ⊢
      have hi1 : i < (a0 :: sn').length := by omega
      have hi2 : i + 1 < (a0 :: sn').length := by omega
      have hbl : (a0 :: sn')[i]? = some (a0 :: sn')[i] := List.getElem?_eq_getElem hi1
      have ha : (a0 :: sn')[i + 1]? = some (a0 :: sn')[i + 1] := List.getElem?_eq_getElem hi2
      generalize (a0 :: sn')[i] = bl at hbl
      generalize (a0 :: sn')[i + 1] = a at ha
      obtain ⟨hdn, r, hPa⟩ := pth_at hP hbl ha
      rw [Nat.zero_add] at hdn hPa
      have hHa := hPa.hd hk hl
      have hnd := above_at k (a0 :: sn') 0 i bl a hbl ha
      rw [Nat.zero_add] at hnd
      refine ssC (sSet1 12 y10 nd (dIx (v 4) (dSub (v 6) dI) rfl (by
        show atI (seenD (a0 :: sn')) (((i + 1 : Nat) : Int) - 1) = _
        rw [show ((i + 1 : Nat) : Int) - 1 = (i : Int) by omega]
        exact atI_nat (hseen i bl hbl))) fun B11 σ11 H11 t11 y11 => ?_)
      have mq11 := mq.on t11
      have lfull : full.length = l + 1 := by show (_ :: List.map _ _).length = _; rw [List.length_cons, List.length_map, hnl]
      refine ss1 (sApp (S := (· = nodesD (a.map fun n => renN bl (k.node i n)))) 11 y11 mq11 (dTupleS (S := (· = nodesD (a.map fun n => renN bl (k.node i n)))) M.tuple (deL (dLc (t := .list (natsD a)) (xs := natsD a) 8 rfl nd (blkOk_by (N := nView) (sc := defScope (top 71)) (own := [("_law_number", 8)]) (by decide +kernel)) (dIx (v 4) (v 6) rfl (atI_nat (hseen (i + 1) a ha))) rfl (by have := hHa.le; have e : (natsD a).length = a.length := List.length_map _; omega) (by decide) (fun s H C cl fp => pg_name nd (i := 8) (by rfl) (Or.inl rfl)) (R := fun x t => ∃ m : Nat, x = .int m ∧ t = nodeD (renN bl (k.node i m))) (fun z B5 hz e s H C cl fp => ?_))) ?_) ?_ (by rw [hd.len, List.length_take]; omega))
      · obtain ⟨m, hm, rfl⟩ := List.mem_map.mp hz
        have hml := hHa.lt m hm
        have hN := hk.nd i (by omega) _ (node_at hml).1
        have hx2l : (k.node i m).2.length ≤ 1000 := by
          have := asc_len (bl := (k.node i m).2.map (·.1)) (m := k.len i) (List.pairwise_map.mpr hN.asc) (fun q hq => by
            obtain ⟨e, he, rfl⟩ := List.mem_map.mp hq
            exact (hN.en e he).1)
          rw [List.length_map] at this
          have := len_le hk (s := i) (by omega)
          omega
        refine DE.to (dCall1 (ok_node M) hr (aC (dIx (dIx (v 0) (v 6) rfl (atI_nat (keysOf_at (by omega)))) (v 8) rfl (atI_nat (node_atI hml))) (aC (v 12) aN)) ⟨k.node i m, bl, rfl, ⟨(hdn.2 _).mpr ⟨m, hm, .inl rfl⟩, fun e he => (hdn.2 _).mpr ⟨m, hm, .inr ⟨e, he, rfl⟩⟩⟩, hx2l, rfl⟩) ?_
        rintro _ rfl
        exact ⟨m, rfl, rfl⟩
      · rintro _ ⟨ys, rfl, hy⟩
        refine ⟨ys, rfl, ?_⟩
        have key : ∀ {xs : List Nat} {ys : List PyData}, Paired (fun x t => ∃ m : Nat, x = .int m ∧ t = nodeD (renN bl (k.node i m))) (natsD xs) ys → ys = (xs.map fun n => renN bl (k.node i n)).map nodeD := by
          intro xs
          induction xs with
          | nil => intro ys h; cases h; rfl
          | cons a xs ih =>
            intro ys h
            cases h with
            | cons r t =>
              obtain ⟨m, e1, rfl⟩ := r
              have e2 : a = m := by
                have e9 : (a : Int) = (m : Int) := PyData.int.inj e1
                omega
              rw [ih t, e2]
              rfl
        rw [key hy]
        rfl
      · rintro w12 t12' B12 H12 ex t12 hd12 _ _ y12 m12
        rw [show t12' = _ from ex] at hd12
        refine ⟨B12, _, (y12.fo 6).fo 12, m12, ?_, hil⟩
        have e : full[i + 1]? = some (nodesD (a.map fun n => renN bl (k.node i n))) := by
          show ((viewOf k (a0 :: sn')).nds.map nodesD)[i]? = _
          rw [List.getElem?_map]
          show Option.map nodesD (above k 0 (a0 :: sn'))[i]? = _
          rw [hnd]
          rfl
        rw [take_snoc e]
        exact ((hd.up t11.kb).up t12.kb).snoc hd12
    · rintro σ' H' ⟨B', vs, y9, mq, hd, _⟩
      have lfull : full.length = l + 1 := by show (_ :: List.map _ _).length = _; rw [List.length_cons, List.length_map, hnl]
      have e0 : ((l : Int) + 1 - 1).toNat = l := by omega
      rw [e0, List.take_of_length_le (by omega)] at hd
      refine ss1 (sRet (y9.done mq hd 11) (dTupleS (S := (· = .tuple full)) M.tuple (v 11) (by rintro _ rfl; exact ⟨_, rfl, rfl⟩)) fun v t B' H' tr ok' hd e => ret v t B' H' tr ok' hd ⟨viewOf k (a0 :: sn'), e, hwf, hnl⟩)
end K20
set_option maxHeartbeats 4000000
/-! Plain: the levels' keys, told apart. -/
namespace K20
open PySem PySem.Spec L2
open PyProof.Rows hiding St
open PySem.W (EachIs dataLt dataLe alike alikeAll AllAlike Sortable rowLt dataLt_pair dataLt_cons dataLt_tuple dataLt_int)
theorem unmap {α β : Type} {f : α → β} {Q : α → Prop} : ∀ {us : List β}, (∀ x ∈ us, ∃ y, Q y ∧ x = f y) → ∃ ys : List α, us = ys.map f ∧ ∀ y ∈ ys, Q y
  | [], _ => ⟨[], rfl, fun y h => nomatch h⟩
  | x :: us, h => by
    obtain ⟨y, hy, rfl⟩ := h x (List.mem_cons_self ..)
    obtain ⟨ys, rfl, hq⟩ := unmap (us := us) fun z hz => h z (List.mem_cons_of_mem _ hz)
    refine ⟨y :: ys, rfl, fun z hz => ?_⟩
    rcases List.mem_cons.mp hz with rfl | hz
    · exact hy
    · exact hq z hz
theorem nodeD_inj {x y : Nd} (h : nodeD x = nodeD y) : x = y := by
  have := eqv_node x y
  rw [h] at this
  have h3 : PyData.eqv (nodeD y) (nodeD y) = true := by rw [eqv_node]; exact decide_eq_true rfl
  rw [h3] at this
  exact of_decide_eq_true this.symm
theorem Lev.keys {n r : Nat} {wh : Bool} {ss : List (Nat × Nat)} {ks : List (List PyData)} {seats : List (List Nat)} (h : Lev n wh ss ks seats) (hl : ks.length = r + 1) : ∃ k : Keys, keysD ks = keysOf k ∧ KeysOk n wh ss k ∧ k.nds.length = r ∧ ∀ l ≤ r, ∃ sl, seats[l]? = some sl ∧ sl.length = n ∧ ∀ x ∈ sl, x < k.len l := by
  cases ks with
  | nil => cases hl
  | cons us rest =>
    have hrl : rest.length = r := by simpa using hl
    obtain ⟨kst, rfl, hkst⟩ := unmap (f := startD) (Q := fun s => s ∈ ss) (us := us) fun x hx => by
      obtain ⟨s, hs, rfl⟩ := List.mem_map.mp (h.st us rfl x hx)
      exact ⟨s, hs, rfl⟩
    obtain ⟨nds, rfl, _⟩ := unmap (f := fun ns : List Nd => ns.map nodeD) (Q := fun _ => True) (us := rest) fun vs hvs => by
      obtain ⟨i, hi, e⟩ := List.getElem_of_mem hvs
      obtain ⟨ns, e2, _⟩ := unmap (f := nodeD) (Q := fun _ => True) (us := vs) fun x hx => by
        have hlen : i < (kst.map startD :: rest).length := by rw [List.length_cons]; omega
        obtain ⟨y, _, e3⟩ := h.nd i _ vs (List.getElem?_eq_getElem hlen) (by show rest[i]? = _; rw [List.getElem?_eq_getElem hi, e]) x hx
        exact ⟨y, trivial, e3⟩
      exact ⟨ns, trivial, e2⟩
    rw [List.length_map] at hrl
    have hat : ∀ s ≤ r, (kst.map startD :: nds.map (fun ns : List Nd => ns.map nodeD))[s]? = some ((⟨kst, nds⟩ : Keys).at s) := fun s hs => by
      cases s with
      | zero => rfl
      | succ s =>
        show (nds.map _)[s]? = _
        rw [List.getElem?_map, getD_at (d := []) (by omega)]
        rfl
    have hlen : ∀ s, ((⟨kst, nds⟩ : Keys).at s).length = (⟨kst, nds⟩ : Keys).len s := fun s => by
      cases s with
      | zero => exact List.length_map _
      | succ s => exact List.length_map _
    refine ⟨⟨kst, nds⟩, ?_, ⟨hkst, ?_, ?_, fun s hs => ?_, fun s hs x hx => ?_⟩, hrl, fun l hl' => ?_⟩
    · show PyData.list _ :: List.map _ (List.map _ _) = PyData.list _ :: List.map _ _
      rw [List.map_map]
      rfl
    · exact (h.asc _ (List.mem_cons_self ..)).1
    · have := (h.asc _ (List.mem_cons_self ..)).2
      rw [List.length_map] at this
      exact this
    · have hs' : s + 1 ≤ r := by rw [← hrl]; exact hs
      have := h.asc _ (List.mem_of_getElem? (hat (s + 1) hs'))
      rw [hlen] at this
      exact this
    · have hs' : s + 1 ≤ r := by rw [← hrl]; exact hs
      have hx' : nodeD x ∈ (⟨kst, nds⟩ : Keys).at (s + 1) := List.mem_map_of_mem hx
      obtain ⟨y, hy, e⟩ := h.nd s _ _ (hat s (by omega)) (hat (s + 1) hs') _ hx'
      rw [hlen] at hy
      rw [nodeD_inj e]
      exact hy
    · have hsl : l < seats.length := by
        have := h.eq
        rw [List.length_cons, List.length_map] at this
        omega
      have := h.seat l _ _ (hat l hl') (List.getElem?_eq_getElem hsl)
      rw [hlen] at this
      exact ⟨_, List.getElem?_eq_getElem hsl, this.1, this.2⟩
end K20
set_option maxHeartbeats 4000000
namespace K20
open PySem PySem.Spec L2
open PyProof.Rows hiding St
variable {P : Program} {w : World} {K : Fg} {mg : Str → Option Value} {base : Heap}
/-! ### all views -/
def ViewP (n r : Nat) (wh : Bool) (ss : List (Nat × Nat)) : PyData → Prop := fun x => ∃ v, x = levelsD v ∧ WfV n wh ss v ∧ v.nds.length ≤ r
def ViewsD (n r : Nat) (wh : Bool) (ss : List (Nat × Nat)) : PyData → Prop := fun t => ∃ rows, t = .list rows ∧ rows.length = r + 1 ∧ ∀ row ∈ rows, ∃ vs, row = .list vs ∧ vs.length = n ∧ ∀ x ∈ vs, ViewP n r wh ss x
def fViews : List PyData → (PyData → Prop) → Prop := fun ts S => ∃ (n r : Nat) (wh : Bool) (ss : List (Nat × Nat)) (t : PyData), ts = [.list (ss.map startD), t, .str (whS wh)] ∧ ss.length = n ∧ CourseD n r t ∧ 1 ≤ n ∧ n ≤ 4 ∧ r ≤ 4 ∧ S = ViewsD n r wh ss
abbrev nViews : List Str := ["_law_starts_here", "_law_course_here", "_law_hearing", "_law_keys", "_law_seat", "_law_found", "_law_level", "_law_house"]
theorem scViews : FnScope nViews ["_law_starts_here", "_law_course_here", "_law_hearing"] (defScope (top 72)) := ⟨rfl, rfl, rfl, by decide +kernel, rfl, by decide +kernel, by decide +kernel⟩
theorem ok_views (M : Md K mg) : Cal P w K mg base 5 "_law_views" (Fn K fViews) [] := by
  refine mkCal (M.df 72 (by decide)) scViews (fun _ _ _ _ _ _ us hl => match us, hl with | [_, _, _], _ => rfl) (fun vs H Q E h => ?_) fun f cdv A outer s H vs Q E hr h => ?_
  · obtain ⟨B, ts, S, ok, hv, ⟨n, r, wh, ss, t, rfl, _⟩, _⟩ := h
    exact hv.len
  obtain ⟨B, ts, S, ok, hv, ⟨n, r, wh, ss, t, rfl, hsl, hct, hn1, hn, hr4, rfl⟩, ret⟩ := h
  have y := Sy.ini (N := nViews) ok hv
  have nd := scViews.nd
  refine ssC (sUnp2 3 4 y rfl nd (dCall1 (ok_levels M) hr (aC (v 0) (aC (v 1) (aC (v 2) aN))) ⟨n, r, wh, ss, t, rfl, hsl, hct, hn1, hn, hr4, rfl⟩) (by rintro _ ⟨ks, seats, rfl, _⟩; exact ⟨_, _, rfl⟩) ?_)
  rintro a b B1 σ1 H1 ⟨ks, seats, e, hkl, hlev⟩ t1 y1
  cases e
  obtain ⟨k, hke, hk, hkr, hseat⟩ := hlev.keys hkl
  rw [hke] at y1
  obtain ⟨cs, rfl, hcl, _⟩ := hct
  refine ssC (sNew 5 y1 ok nd fun p σ2 hp y2 m2 => ?_)
  refine ssC (sForR (g := gName 6) y2.sl y2.ok (passes_of rfl) rfl M.range (dAdd (dLen M.len (v 1)) dI) (by omega) (by omega) (pg_name nd (by rfl) (by first | exact Or.inl rfl | exact Or.inr rfl)) fun B3 H3 t3 o3 => ?_)
  refine ⟨fun i σ' H' => ∃ (B' : Hp) (vs : List V) (ts : List PyData), Sy K none B H B' H' σ' [.dat (.list (ss.map startD)), .dat (.list cs), .dat (.str (whS wh)), .dat (.list (keysOf k)), .dat (.list (seatsD seats)), .raw (.ref p), .any, .any] ∧ Mu none H B' H' p (.lst vs) ∧ DpAll K B' vs ts ∧ ts.length = i ∧ ∀ row ∈ ts, ∃ vs, row = .list vs ∧ vs.length = n ∧ ∀ x ∈ vs, ViewP n r wh ss x, ?_, ?_, ?_⟩
  · exact ⟨B3, [], [], y2.on t3 o3, m2.on t3, .nil, rfl, fun q hq => (nomatch hq)⟩
  · rintro i σ' H' hi ⟨B', vs, ts, y4, mp, hd, hl, hls⟩
    have hir : i ≤ r := by omega
    have y5 := y4.put 6 (s := some (V.int (i : Int))) (x := .dat (.int (i : Int))) ⟨_, rfl, .int _⟩
    refine (show wSs _ _ _ (σ'.set 6 (some (V.int (i : Int)))) H' from ?_)
    generalize σ'.set 6 (some (V.int (i : Int))) = σ5 at y5 ⊢
    obtain ⟨sl, hs1, hs2, hs3⟩ := hseat i hir
    refine ss1 (sApp 5 y5 mp (deL (dLcR 7 rfl nd M.range (dLen (n := (ss.map startD).length) M.len (v 0)) (by rw [List.length_map]; omega) (blkOk_by (N := nViews) (sc := defScope (top 72)) (own := [("_law_house", 7)]) (by decide +kernel)) (by decide) (fun s H C cl fp => pg_name nd (i := 7) (by rfl) (Or.inl rfl)) (R := fun _ => ViewP n r wh ss) (fun j B4 hj e s H C cl fp => ?_))) ?_ (by rw [hd.len]; omega))
    · have hjn : j < n := by
        have e : (((ss.map startD).length : Nat) : Int).toNat = ss.length := by rw [List.length_map]; rfl
        rw [e] at hj
        omega
      refine DE.to (dCall1 (ok_view M) hr (aC (v 3) (aC (v 4) (aC (v 7) (aC (v 6) aN)))) ⟨k, seats, j, i, n, wh, ss, sl, rfl, hk, hn, hjn, by omega, by omega, hs1, hs2, hs3, rfl⟩) ?_
      rintro _ ⟨v, rfl, h1, h2⟩
      exact ⟨v, rfl, h1, by omega⟩
    · rintro w6 _ B6 H6 ⟨ys, rfl, hy⟩ t6 hd6 _ _ y6 m6
      have l1 := Paired.length hy
      rw [rgD_len] at l1
      refine ⟨B6, _, ts ++ [.list ys], y6.fo 6, m6, (hd.up t6.kb).snoc (show Dp K B6 w6 (.list ys) from hd6), by rw [List.length_append, hl]; rfl, fun row hrow => ?_⟩
      rcases List.mem_append.mp hrow with hrow | hrow
      · exact hls row hrow
      · rw [List.mem_singleton.mp hrow]
        refine ⟨ys, rfl, ?_, Paired.all (Q := ViewP n r wh ss) (fun _ _ h => h) hy⟩
        have e : (((ss.map startD).length : Nat) : Int).toNat = ss.length := by rw [List.length_map]; rfl
        rw [e] at l1
        omega
  · rintro σ' H' ⟨B', vs, ts, y4, mp, hd, hl, hls⟩
    exact ss1 (sRet (y4.done mp hd 5) (v 5) fun v t B' H' tr ok' hd e => ret v t B' H' tr ok' hd ⟨ts, e, by omega, hls⟩)
end K20
set_option maxHeartbeats 4000000
namespace K20
open PySem PySem.Spec L2
open PyProof.Rows hiding St
variable {P : Program} {w : World} {K : Fg} {mg : Str → Option Value} {base : Heap}
/-! ### is_whole and its like -/
/-- more of what the top leaves -/
structure Me (K : Fg) (mg : Str → Option Value) : Prop extends Md K mg where
  whole : Df K mg "is_whole" (top 12) [.non, .non]
  text : Df K mg "data_text" (top 22) [.int 0]
theorem mkCalD {x : Str} {st : Stmt} {N ps : List Str} {k : Nat} {sp : Sp} {dvs : List V} (F : Df K mg x st dvs) (S : FnScope N ps (defScope st)) (n j : Nat) (hd : dvs ≠ []) (hn : n + (dvs.length - j) = ps.length)
    (hb : ∀ (T : Addr) (kV doc pm : Value) (an : Option Addr) (cdv ct : Value) (us its : List Value), us.length = n → its.length = dvs.length →
      ∃ k, bindArgs (PySem.W.fnOf x x (defArgs st) (defBody st) (defScope st) (.ref T) kV doc pm an cdv ct) ⟨us, []⟩ = seqItems? (.ref T) >>= k ∧ k (some its.toArray) = pure (ps.zip (us ++ its.drop j)))
    (len : ∀ vs H Q E, sp vs H Q E → vs.length = ps.length)
    (hbody : ∀ (f : Addr) (cdv : Value) (A : Around) (outer : List Env) (s : Shared) (H : Hp) (vs : List V) (Q : VK) (E : XK), Room k (A.deeper (envOfC x (defScope st) s.heap.objs.size f cdv)) → sp vs H Q E →
      wSs (cxOf (L2.CX P w) P w K mg base N x (defScope st) f cdv A outer s H E) (defBody st) { nx := fun _ H' => Q .non H', rt := Q } (L2.start N vs) H) : Cal P w K mg base (k + 1) x sp (dvs.drop j) := by
  obtain ⟨f, fd, F, hm⟩ := F.ex
  obtain ⟨ds, hv, b⟩ := F.binds1 n j hd hn hb
  exact ⟨f, fd, ps, ds, F.ok S len fun cdv A outer s H vs Q E hr h => ⟨_, pss_w, hbody f cdv A outer s H vs Q E hr h⟩, hm, F.kp, b, hv⟩
def isIntD : PyData → Bool
  | .none => false
  | .bool _ => true
  | .int _ => true
  | .str _ => false
  | .list _ => false
  | .tuple _ => false
  | .dict _ => false
theorem isIntD_kit : ∀ t : PyData, kitB (tyD t) "int" = some (isIntD t)
  | .none => (by decide +kernel : kitB "NoneType" "int" = some false)
  | .bool _ => (by decide +kernel : kitB "bool" "int" = some true)
  | .int _ => (by decide +kernel : kitB "int" "int" = some true)
  | .str _ => (by decide +kernel : kitB "str" "int" = some false)
  | .list _ => (by decide +kernel : kitB "list" "int" = some false)
  | .tuple _ => (by decide +kernel : kitB "tuple" "int" = some false)
  | .dict _ => (by decide +kernel : kitB "dict" "int" = some false)
def isBoolD : PyData → Bool
  | .none => false
  | .bool _ => true
  | .int _ => false
  | .str _ => false
  | .list _ => false
  | .tuple _ => false
  | .dict _ => false
theorem isBoolD_kit : ∀ t : PyData, kitB (tyD t) "bool" = some (isBoolD t)
  | .none => (by decide +kernel : kitB "NoneType" "bool" = some false)
  | .bool _ => (by decide +kernel : kitB "bool" "bool" = some true)
  | .int _ => (by decide +kernel : kitB "int" "bool" = some false)
  | .str _ => (by decide +kernel : kitB "str" "bool" = some false)
  | .list _ => (by decide +kernel : kitB "list" "bool" = some false)
  | .tuple _ => (by decide +kernel : kitB "tuple" "bool" = some false)
  | .dict _ => (by decide +kernel : kitB "dict" "bool" = some false)
def isStrD : PyData → Bool
  | .none => false
  | .bool _ => false
  | .int _ => false
  | .str _ => true
  | .list _ => false
  | .tuple _ => false
  | .dict _ => false
theorem isStrD_kit : ∀ t : PyData, kitB (tyD t) "str" = some (isStrD t)
  | .none => (by decide +kernel : kitB "NoneType" "str" = some false)
  | .bool _ => (by decide +kernel : kitB "bool" "str" = some false)
  | .int _ => (by decide +kernel : kitB "int" "str" = some false)
  | .str _ => (by decide +kernel : kitB "str" "str" = some true)
  | .list _ => (by decide +kernel : kitB "list" "str" = some false)
  | .tuple _ => (by decide +kernel : kitB "tuple" "str" = some false)
  | .dict _ => (by decide +kernel : kitB "dict" "str" = some false)
def isListD : PyData → Bool
  | .none => false
  | .bool _ => false
  | .int _ => false
  | .str _ => false
  | .list _ => true
  | .tuple _ => false
  | .dict _ => false
theorem isListD_kit : ∀ t : PyData, kitB (tyD t) "list" = some (isListD t)
  | .none => (by decide +kernel : kitB "NoneType" "list" = some false)
  | .bool _ => (by decide +kernel : kitB "bool" "list" = some false)
  | .int _ => (by decide +kernel : kitB "int" "list" = some false)
  | .str _ => (by decide +kernel : kitB "str" "list" = some false)
  | .list _ => (by decide +kernel : kitB "list" "list" = some true)
  | .tuple _ => (by decide +kernel : kitB "tuple" "list" = some false)
  | .dict _ => (by decide +kernel : kitB "dict" "list" = some false)
def isTupD : PyData → Bool
  | .none => false
  | .bool _ => false
  | .int _ => false
  | .str _ => false
  | .list _ => false
  | .tuple _ => true
  | .dict _ => false
theorem isTupD_kit : ∀ t : PyData, kitB (tyD t) "tuple" = some (isTupD t)
  | .none => (by decide +kernel : kitB "NoneType" "tuple" = some false)
  | .bool _ => (by decide +kernel : kitB "bool" "tuple" = some false)
  | .int _ => (by decide +kernel : kitB "int" "tuple" = some false)
  | .str _ => (by decide +kernel : kitB "str" "tuple" = some false)
  | .list _ => (by decide +kernel : kitB "list" "tuple" = some false)
  | .tuple _ => (by decide +kernel : kitB "tuple" "tuple" = some true)
  | .dict _ => (by decide +kernel : kitB "dict" "tuple" = some false)
def isWhole (t : PyData) (lo hi : Int) : Bool := match t with
  | .int i => decide (lo ≤ i) && decide (i ≤ hi)
  | _ => false
def fWhole : List PyData → (PyData → Prop) → Prop := fun ts S => ∃ t lo hi, ts = [t, .int lo, .int hi] ∧ S = (· = .bool (isWhole t lo hi))
abbrev nWhole : List Str := ["thing", "low", "high"]
theorem scWhole : FnScope nWhole ["thing", "low", "high"] (defScope (top 12)) := ⟨rfl, rfl, rfl, by decide +kernel, rfl, by decide +kernel, by decide +kernel⟩
theorem ok_whole (M : Me K mg) : Cal P w K mg base 1 "is_whole" (Fn K fWhole) [] := by
  refine mkCalD (dvs := [.non, .non]) M.whole scWhole 3 2 (by decide) rfl (fun T kV doc pm an cdv ct us its hl h2 => match us, hl, its, h2 with | [_, _, _], _, [_, _], _ => ⟨_, rfl, rfl⟩) (fun vs H Q E h => ?_) fun f cdv A outer s H vs Q E hr h => ?_
  · obtain ⟨B, ts, S, ok, hv, ⟨t, lo, hi, rfl, _⟩, _⟩ := h
    exact hv.len
  obtain ⟨B, ts, S, ok, hv, ⟨t, lo, hi, rfl, rfl⟩, ret⟩ := h
  have y := Sy.ini (N := nWhole) ok hv
  have h3 : (!isIntD t || isBoolD t) = match t with | .int _ => false | _ => true := by cases t <;> rfl
  refine cWhen1 y (tW (wOr (tNot' (dVal (dIsi (T := "int") M.isinstance M.int boot_int (v 0) (isIntD_kit t)))) (fun _ => wOr1 (dVal (dIsi (T := "bool") M.isinstance M.bool boot_bool (v 0) (isBoolD_kit t)))))) (fun hb H1 t1 y1 => ?_) fun hb H1 t1 y1 => ?_
  · refine ss1 (sRet y1 dB ?_)
    rw [h3] at hb
    have e : isWhole t lo hi = false := by cases t <;> first | rfl | cases hb
    rw [e] at ret
    exact ret
  · rw [h3] at hb
    obtain ⟨i, rfl⟩ : ∃ i, t = .int i := by cases t <;> first | exact ⟨_, rfl⟩ | cases hb
    refine ss1 (sRet y1 (dAnd (dOr (dIs (v 1) dN) (fun _ => dOne (dGe (v 0) (v 1)))) (fun _ => dOne (dOr (dIs (v 2) dN) (fun _ => dOne (dLe (v 0) (v 2)))))) ?_)
    have e : isWhole (.int i) lo hi = ((isNon (.int lo) || decide (lo ≤ i)) && (isNon (.int hi) || decide (i ≤ hi))) := rfl
    rw [e] at ret
    exact ret
end K20
set_option maxHeartbeats 4000000
namespace K20
open PySem PySem.Spec L2
open PyProof.Rows hiding St
variable {P : Program} {w : World} {K : Fg} {mg : Str → Option Value} {base : Heap}
/-! ### couples, starts, numbers -/
theorem seq_kinds (t : PyData) : (isListD t || isTupD t) = (seqOf t).isSome := by cases t <;> rfl
/-- isinstance(e, (list, tuple)) -/
theorem dSeq {X : Cx} {d : Dr} {ds : List Sd} {B : Hp} {e : Expr} {t : PyData} {pos p pT p1 p2 : Pos} {kT : Nat} (hm : X.mg "isinstance" = none) (h1 : X.mg "list" = none) (h2 : X.mg "tuple" = none) (ha : DE X d e ds B (· = t))
    (hg : Gl X "isinstance" := by rfl) (hg1 : Gl X "list" := by rfl) (hg2 : Gl X "tuple" := by rfl)
    (he : starEach [e, .Tuple [.Name "list" p1, .Name "tuple" p2] kT pT] X.env = (false, eval e X.env) :: starEach [.Tuple [.Name "list" p1, .Name "tuple" p2] kT pT] X.env := by rfl) (he2 : starEach [.Tuple [.Name "list" p1, .Name "tuple" p2] kT pT] X.env = (false, eval (.Tuple [.Name "list" p1, .Name "tuple" p2] kT pT) X.env) :: starEach [] X.env := by rfl)
    (he3 : starEach [.Name "list" p1, .Name "tuple" p2] X.env = (false, eval (.Name "list" p1) X.env) :: starEach [.Name "tuple" p2] X.env := by rfl) (he4 : starEach [.Name "tuple" p2] X.env = (false, eval (.Name "tuple" p2) X.env) :: starEach [] X.env := by rfl) (hpl : (backTo pos (starEach [.Tuple [.Name "list" p1, .Name "tuple" p2] kT pT] X.env)).any (·.1) = false := by rfl) :
    DE X d (.Call (.Name "isinstance" p) [e, .Tuple [.Name "list" p1, .Name "tuple" p2] kT pT] [] pos) ds B (· = .bool (seqOf t).isSome) := by
  rw [← seq_kinds]
  exact dIsi2 (x1 := "list") (x2 := "tuple") hm h1 boot_list h2 boot_tuple ha (isListD_kit t) (isTupD_kit t) hg hg1 hg2 (by decide) (by decide) (by decide) (by decide) he he2 he3 he4 hpl
theorem lenD_seq {t : PyData} {xs : List PyData} (h : seqOf t = some xs) : lenD t = some xs.length := by
  cases t <;> cases h <;> rfl
def isLen (k : Nat) (t : PyData) : Bool := match seqOf t with
  | some xs => decide (xs.length = k)
  | none => false
def isCouple (t : PyData) : Bool := isLen 2 t
def isStart (t : PyData) : Bool := match seqOf t with
  | some [a, b] => isWhole a 0 1 && isWhole b 0 3
  | _ => false
def isNum : PyData → Bool
  | .int _ => true
  | _ => false
theorem len_two {t : PyData} (h : isLen 2 t = true) : ∃ a b, seqOf t = some [a, b] := by
  unfold isLen at h
  cases e : seqOf t with
  | none => rw [e] at h; cases h
  | some xs =>
    rw [e] at h
    have hl : xs.length = 2 := of_decide_eq_true h
    match xs, hl with
    | [a, b], _ => exact ⟨a, b, rfl⟩
def f1 (g : PyData → PyData) : List PyData → (PyData → Prop) → Prop := fun ts S => ∃ t, ts = [t] ∧ S = (· = g t)
/-- not isinstance(x, (list, tuple)) or len(x) != k -/
theorem tNotLen {X : Cx} {d : Dr} {ds : List Sd} {B : Hp} {a b : Expr} {t : PyData} {pos pos' : Pos} {k : Nat} (h1 : DE X d a ds B (· = .bool (seqOf t).isSome)) (h2 : ∀ xs, seqOf t = some xs → DT X d b ds B (· = !decide (xs.length = k)))
    (he : ∀ whole, isTrue a X.env whole = (do let v ← whole; standAt a.pos; PySem.holding [v] (truthy v)) := by intro _; rfl) : DT X d (.BoolOp .Or [.UnaryOp .Not a pos, b] pos') ds B (· = !isLen k t) := by
  refine tW (wOrS (S1 := (· = !(seqOf t).isSome)) (S2 := (· = !isLen k t)) (tNot' (dVal h1 he)) (fun hb => ?_) (fun hb => ?_) (fun b _ h => h))
  · cases e : seqOf t with
    | none => rw [e] at hb; cases hb
    | some xs =>
      refine wOr1 (tTo (h2 xs e) ?_)
      rintro _ rfl
      unfold isLen
      rw [e]
  · cases e : seqOf t with
    | none => unfold isLen; rw [e]; rfl
    | some xs => rw [e] at hb; cases hb
theorem ne_len (n k : Nat) : (!PyData.eqv (.int (n : Int)) (.int (k : Int))) = !decide (n = k) := by rw [eqv_int, nat_eqI]
abbrev n1 (x : Str) : List Str := [x]
theorem scStart : FnScope ["thing"] ["thing"] (defScope (top 13)) := ⟨rfl, rfl, rfl, by decide +kernel, rfl, by decide +kernel, by decide +kernel⟩
theorem ok_start (M : Me K mg) : Cal P w K mg base 2 "is_start" (Fn K (f1 fun t => .bool (isStart t))) [] := by
  refine mkCal (M.df 13 (by decide)) scStart (fun _ _ _ _ _ _ us hl => match us, hl with | [_], _ => rfl) (fun vs H Q E h => ?_) fun f cdv A outer s H vs Q E hr h => ?_
  · obtain ⟨B, ts, S, ok, hv, ⟨t, rfl, _⟩, _⟩ := h
    exact hv.len
  obtain ⟨B, ts, S, ok, hv, ⟨t, rfl, rfl⟩, ret⟩ := h
  have y := Sy.ini (N := ["thing"]) ok hv
  refine cWhen1 y (tNotLen (k := 2) (dSeq M.isinstance M.list M.tuple (v 0)) (fun xs hx => tTo (tNe hr (dLen (n := xs.length) M.len (v 0) (lenD_seq hx)) dI rfl rfl) (by rintro _ rfl; exact ne_len xs.length 2))) (fun hb H1 t1 y1 => ?_) fun hb H1 t1 y1 => ?_
  · refine ss1 (sRet y1 dB ?_)
    have e : isStart t = false := by
      unfold isStart
      unfold isLen at hb
      split
      · rename_i a b e
        rw [e] at hb
        cases hb
      · rfl
    have ret' : Ret K none B H (· = .bool (isStart t)) Q := ret
    rw [e] at ret'
    exact ret'
  · have hb' : isLen 2 t = true := by simpa using hb
    obtain ⟨a, b, e⟩ := len_two hb'
    refine ss1 (sRet y1 (dAnd (dCall1 (ok_whole M) hr (aC (dIx (v 0) dI e rfl) (aC dI (aC dI aN))) ⟨a, 0, 1, rfl, rfl⟩) (fun _ => dOne (dCall1 (ok_whole M) hr (aC (dIx (v 0) dI e rfl) (aC dI (aC (dSub (dGI M.cMOST_WORDS) dI) aN))) ⟨b, 0, 3, rfl, rfl⟩))) ?_)
    have e2 : isStart t = (isWhole a 0 1 && isWhole b 0 3) := by unfold isStart; rw [e]
    have ret' : Ret K none B H (· = .bool (isStart t)) Q := ret
    rw [e2] at ret'
    exact ret'
theorem scNum : FnScope ["thing"] ["thing"] (defScope (top 34)) := ⟨rfl, rfl, rfl, by decide +kernel, rfl, by decide +kernel, by decide +kernel⟩
theorem ok_num (M : Me K mg) : Cal P w K mg base 1 "is_number" (Fn K (f1 fun t => .bool (isNum t))) [] := by
  refine mkCal (M.df 34 (by decide)) scNum (fun _ _ _ _ _ _ us hl => match us, hl with | [_], _ => rfl) (fun vs H Q E h => ?_) fun f cdv A outer s H vs Q E hr h => ?_
  · obtain ⟨B, ts, S, ok, hv, ⟨t, rfl, _⟩, _⟩ := h
    exact hv.len
  obtain ⟨B, ts, S, ok, hv, ⟨t, rfl, rfl⟩, ret⟩ := h
  have y := Sy.ini (N := ["thing"]) ok hv
  refine ss1 (sRet y (dAnd (dIsi (T := "int") M.isinstance M.int boot_int (v 0) (isIntD_kit t)) (fun _ => dOne (dNot (dIsi (T := "bool") M.isinstance M.bool boot_bool (v 0) (isBoolD_kit t))))) ?_)
  have e : isNum t = (isIntD t && !isBoolD t) := by cases t <;> rfl
  have ret' : Ret K none B H (· = .bool (isNum t)) Q := ret
  rw [e] at ret'
  exact ret'
theorem scCouple : FnScope ["thing"] ["thing"] (defScope (top 39)) := ⟨rfl, rfl, rfl, by decide +kernel, rfl, by decide +kernel, by decide +kernel⟩
theorem ok_couple (M : Me K mg) : Cal P w K mg base 1 "is_couple" (Fn K (f1 fun t => .bool (isCouple t))) [] := by
  refine mkCal (M.df 39 (by decide)) scCouple (fun _ _ _ _ _ _ us hl => match us, hl with | [_], _ => rfl) (fun vs H Q E h => ?_) fun f cdv A outer s H vs Q E hr h => ?_
  · obtain ⟨B, ts, S, ok, hv, ⟨t, rfl, _⟩, _⟩ := h
    exact hv.len
  obtain ⟨B, ts, S, ok, hv, ⟨t, rfl, rfl⟩, ret⟩ := h
  have y := Sy.ini (N := ["thing"]) ok hv
  cases e : seqOf t with
  | none =>
    refine ss1 (sRet y (dAnd (l := false) (dSeq M.isinstance M.list M.tuple (v 0)) (fun h => by rw [e] at h; cases h)) ?_)
    have e2 : isCouple t = ((seqOf t).isSome && false) := by unfold isCouple isLen; rw [e]; rfl
    have ret' : Ret K none B H (· = .bool (isCouple t)) Q := ret
    rw [e2] at ret'
    exact ret'
  | some xs =>
    refine ss1 (sRet y (dAnd (dSeq M.isinstance M.list M.tuple (v 0)) (fun h => dOne (dEq hr (dLen (n := xs.length) M.len (v 0) (lenD_seq e)) dI rfl rfl))) ?_)
    have e2 : isCouple t = ((seqOf t).isSome && PyData.eqv (.int (xs.length : Int)) (.int 2)) := by
      unfold isCouple isLen
      rw [e, eqv_int]
      have := nat_eqI xs.length 2
      rw [show ((2 : Nat) : Int) = 2 from rfl] at this
      rw [this]
      rfl
    have ret' : Ret K none B H (· = .bool (isCouple t)) Q := ret
    rw [e2] at ret'
    exact ret'
/-! ### a strength -/
def er1 (x : Str) (s : Str) : Er := (x, [.str s])
def chkStr (t : PyData) : Except Er PyData := match seqOf t with
  | some [.int i, .int j] => if i < 1 ∨ j < 1 then .error (er1 "BadStrength" "sign") else if Nat.gcd i.natAbs j.natAbs ≠ 1 then .error (er1 "BadStrength" "lowest") else .ok (.tuple [.int i, .int j])
  | some [_, _] => .error (er1 "BadStrength" "whole")
  | _ => .error (er1 "BadStrength" "shape")
/-- the exception classes behind the top -/
structure Xs (P : Program) (w : World) (K : Fg) (mg : Str → Option Value) (base : Heap) (xc : Str → Addr) : Prop where
  str : Ini P w K mg base (xc "BadStrength") "BadStrength"
  fac : Ini P w K mg base (xc "BadFacts") "BadFacts"
  txt : Ini P w K mg base (xc "BadText") "BadText"
  vw : Ini P w K mg base (xc "BadView") "BadView"
  let_ : Ini P w K mg base (xc "WrongLetter") "WrongLetter"
  vwH : IniH P w K mg base (xc "BadView") "BadView"
  exStr : PySem.W.exmOne K (.ref (xc "BadStrength")) (.ref (xc "BadStrength")) = some true
theorem scChk : FnScope ["thing"] ["thing"] (defScope (top 35)) := ⟨rfl, rfl, rfl, by decide +kernel, rfl, by decide +kernel, by decide +kernel⟩
def e1 (f : PyData → Except Er PyData) : List PyData → Except Er PyData
  | [t] => f t
  | _ => .error ("", [])
theorem mkX {x : Str} {st : Stmt} {N ps : List Str} {k : Nat} {sp : Sp} (F : Df K mg x st []) (S : FnScope N ps (defScope st))
    (hb : ∀ (kV doc pm : Value) (an : Option Addr) (cdv ct : Value) (us : List Value), us.length = ps.length → bindArgs (PySem.W.fnOf x x (defArgs st) (defBody st) (defScope st) .none kV doc pm an cdv ct) ⟨us, []⟩ = pure (ps.zip us))
    (len : ∀ vs H Q E, sp vs H Q E → vs.length = ps.length)
    (hbody : ∀ (f : Addr) (cdv : Value) (A : Around) (outer : List Env) (s : Shared) (H : Hp) (vs : List V) (Q : VK) (E : XK), Room k (A.deeper (envOfC x (defScope st) s.heap.objs.size f cdv)) → sp vs H Q E → Takes (cxOf (L2.CX P w) P w K mg base N x (defScope st) f cdv A outer s H E) (fun cls d _ H => E cls d H) →
      wSs (cxOf (L2.CX P w) P w K mg base N x (defScope st) f cdv A outer s H E) (defBody st) { nx := fun _ H' => Q .non H', rt := Q } (L2.start N vs) H) : Cal P w K mg base (k + 1) x sp [] :=
  mkCal F S hb len fun f cdv A outer s H vs Q E hr h => hbody f cdv A outer s H vs Q E hr h (takes_of rfl rfl rfl rfl)
theorem ok_chkStr {xc : Str → Addr} (M : Me K mg) (Z : Xs P w K mg base xc) : CalN P w K mg base 3 "check_strength" (FnE xc K (fun ts => ts.length = 1) (e1 chkStr)) := by
  refine mkN (M.df 35 (by decide)) scChk (fun _ _ _ _ _ _ us hl => match us, hl with | [_], _ => rfl) (fun vs H Q E h => ?_) fun f cdv A outer s H vs Q E hr h tk => ?_
  · obtain ⟨B, ts, S, T, ok, hv, ⟨hp, _⟩, _⟩ := h
    rw [hv.len]
    exact hp
  obtain ⟨B, ts, S, T, ok, hv, ⟨hp, rfl, rfl⟩, ret, retX⟩ := h
  obtain ⟨t, rfl⟩ : ∃ t, ts = [t] := match ts, hp with | [t], _ => ⟨t, rfl⟩
  have y := Sy.ini (N := ["thing"]) ok hv
  refine cWhen1 y (tNotLen (k := 2) (dSeq M.isinstance M.list M.tuple (v 0)) (fun xs hx => tTo (tNe hr (dLen (n := xs.length) M.len (v 0) (lenD_seq hx)) dI rfl rfl) (by rintro _ rfl; exact ne_len xs.length 2))) (fun hb H1 t1 y1 => ?_) fun hb H1 t1 y1 => ?_
  · refine ss1 (sRaiseN Z.str hr rfl tk y1 (aC dS aN) rfl rfl ?_ retX)
    show chkStr t = .error ("BadStrength", [.str "shape"])
    unfold chkStr
    unfold isLen at hb
    split
    · rename_i e; rw [e] at hb; cases hb
    · rename_i e; rw [e] at hb; cases hb
    · rfl
  have hb' : isLen 2 t = true := by simpa using hb
  obtain ⟨a, b, e⟩ := len_two hb'
  refine cWhen1 y1 (tW (wOr (tNot' (dVal (dCall1 (ok_num M) hr (aC (dIx (v 0) dI e rfl) aN) ⟨a, rfl, rfl⟩))) (fun _ => wOr1 (tNot' (dVal (dCall1 (ok_num M) hr (aC (dIx (v 0) dI e rfl) aN) ⟨b, rfl, rfl⟩)))))) (fun hb2 H2 t2 y2 => ?_) fun hb2 H2 t2 y2 => ?_
  · refine ss1 (sRaiseN Z.str hr rfl tk y2 (aC dS aN) rfl rfl ?_ retX)
    show chkStr t = .error ("BadStrength", [.str "whole"])
    unfold chkStr
    rw [e]
    split
    · rename_i i j e3; cases e3; cases hb2
    · rfl
    · rename_i h1 h2; exact absurd rfl (h2 a b)
  obtain ⟨i, rfl⟩ : ∃ i, a = .int i := by cases a <;> first | exact ⟨_, rfl⟩ | cases hb2
  obtain ⟨j, rfl⟩ : ∃ j, b = .int j := by cases b <;> first | exact ⟨_, rfl⟩ | cases hb2
  have ec : chkStr t = if i < 1 ∨ j < 1 then .error (er1 "BadStrength" "sign") else if Nat.gcd i.natAbs j.natAbs ≠ 1 then .error (er1 "BadStrength" "lowest") else .ok (.tuple [.int i, .int j]) := by unfold chkStr; rw [e]
  refine cWhen1 y2 (tW (wOr (tLt (dIx (v 0) dI e rfl) dI) (fun _ => wOr1 (tLt (dIx (v 0) dI e rfl) dI)))) (fun hb3 H3 t3 y3 => ?_) fun hb3 H3 t3 y3 => ?_
  · refine ss1 (sRaiseN Z.str hr rfl tk y3 (aC dS aN) rfl rfl ?_ retX)
    show chkStr t = .error ("BadStrength", [.str "sign"])
    have h : i < 1 ∨ j < 1 := by
      rcases Bool.or_eq_true_iff.mp hb3 with h | h
      · exact .inl (of_decide_eq_true h)
      · exact .inr (of_decide_eq_true h)
    rw [ec, if_pos h]
    rfl
  have h3 : ¬ (i < 1 ∨ j < 1) := by
    obtain ⟨h4, h5⟩ := Bool.or_eq_false_iff.mp hb3
    have := of_decide_eq_false h4
    have := of_decide_eq_false h5
    omega
  refine cWhen1 y3 (tNe (t := .int ((Nat.gcd i.natAbs j.natAbs : Nat) : Int)) hr (de_of (pe_callBfun cr_gcd (by rfl) M.gcd pa_w) (ev_cb (Ss := (· = [.int i, .int j])) (aC (dIx (v 0) dI e rfl) (aC (dIx (v 0) dI e rfl) aN)) ?_)) dI rfl rfl) (fun hb4 H4 t4 y4 => ?_) fun hb4 H4 t4 y4 => ?_
  · rintro B1 H1 vs ts e0 ok1 g rfl Q r
    obtain ⟨v1, v2, rfl, d1, d2⟩ := g.two
    exact ⟨i, j, by rw [d1.int_inv, d2.int_inv], r _ _ B1 H1 .refl ok1 (.int _) rfl⟩
  · refine ss1 (sRaiseN Z.str hr rfl tk y4 (aC dS aN) rfl rfl ?_ retX)
    show chkStr t = .error ("BadStrength", [.str "lowest"])
    have h : Nat.gcd i.natAbs j.natAbs ≠ 1 := by
      intro z
      rw [z] at hb4
      exact absurd hb4 (by decide +kernel)
    rw [ec, if_neg h3, if_pos h]
    rfl
  · have h : Nat.gcd i.natAbs j.natAbs = 1 := by
      rw [eqv_int] at hb4
      have := of_decide_eq_true (by simpa using hb4 : decide (((Nat.gcd i.natAbs j.natAbs : Nat) : Int) = 1) = true)
      omega
    refine ss1 (sRet y4 (dTup (aC (dIx (v 0) dI e rfl) (aC (dIx (v 0) dI e rfl) aN))) fun v t' B' H' tr ok' hd e' => ret v t' B' H' tr ok' hd ?_)
    show chkStr t = .ok t'
    rw [ec, if_neg h3, if_neg (by rw [h]; exact fun z => z rfl), e']
end K20
set_option maxHeartbeats 4000000
namespace K20
open PySem PySem.Spec L2
open PyProof.Rows hiding St
variable {P : Program} {w : World} {K : Fg} {mg : Str → Option Value} {base : Heap}
/-! ### heard entries -/
def vwE (s : Str) (lv nd : Int) : Er := ("BadView", [.str s, .int lv, .int nd])
def scanH (below : Int) : Int → List PyData → Bool
  | _, [] => true
  | least, x :: xs => match seqOf x with
    | some [.int i, _] => if least ≤ i ∧ i ≤ below - 1 then scanH below (i + 1) xs else false
    | _ => false
def strsH (lv nd : Int) : List PyData → Except Er (List PyData)
  | [] => .ok []
  | x :: xs => match seqOf x with
    | some [a, s] => match chkStr s with
      | .error _ => .error (vwE "strength" lv nd)
      | .ok s' => match strsH lv nd xs with
        | .error e => .error e
        | .ok r => .ok (.tuple [a, s'] :: r)
    | _ => .ok []
def chkHeard (h : PyData) (below lv nd : Int) : Except Er PyData := match seqOf h with
  | none => .error (vwE "heard" lv nd)
  | some xs => if scanH below 0 xs then (match strsH lv nd xs with
      | .error e => .error e
      | .ok r => .ok (.tuple r)) else .error (vwE "heard" lv nd)
def eHeard : List PyData → Except Er PyData
  | [h, .int b, .int lv, .int nd] => chkHeard h b lv nd
  | _ => .error ("", [])
def pHeard : List PyData → Prop := fun ts => ∃ h b lv nd, ts = [h, .int b, .int lv, .int nd] ∧ ∀ xs, seqOf h = some xs → xs.length ≤ 1000
abbrev nHd : List Str := ["heard", "below", "level", "node", "least", "entry", "found", "number", "strength"]
theorem scHd : FnScope nHd ["heard", "below", "level", "node"] (defScope (top 40)) := ⟨rfl, rfl, rfl, by decide +kernel, rfl, by decide +kernel, by decide +kernel⟩
theorem scan_couple {below : Int} : ∀ {xs : List PyData} {least : Int}, scanH below least xs = true → ∀ x ∈ xs, ∃ a b, seqOf x = some [a, b]
  | [], _, _, x, hx => nomatch hx
  | y :: xs, least, h, x, hx => by
    unfold scanH at h
    split at h
    · rename_i i s e
      by_cases c : least ≤ i ∧ i ≤ below - 1
      · rw [if_pos c] at h
        rcases List.mem_cons.mp hx with rfl | hx
        · exact ⟨_, _, e⟩
        · exact scan_couple h x hx
      · rw [if_neg c] at h
        cases h
    · cases h
theorem chkStr_err {t : PyData} {e : Er} (h : chkStr t = .error e) : e.1 = "BadStrength" := by
  unfold chkStr at h
  split at h
  · split at h
    · cases h; rfl
    · split at h
      · cases h; rfl
      · cases h
  · cases h; rfl
  · cases h; rfl
theorem strs_snoc {lv nd : Int} : ∀ {xs : List PyData} {x a s s' : PyData} {r : List PyData}, (∀ y ∈ xs, ∃ a b, seqOf y = some [a, b]) → strsH lv nd xs = .ok r → seqOf x = some [a, s] → chkStr s = .ok s' → strsH lv nd (xs ++ [x]) = .ok (r ++ [.tuple [a, s']])
  | [], x, a, s, s', r, _, h, hx, hs => by
    cases h
    show strsH lv nd [x] = _
    unfold strsH
    rw [hx]
    simp only [hs]
    rfl
  | y :: ys, x, a, s, s', r, hc, h, hx, hs => by
    obtain ⟨b, t, e⟩ := hc y (List.mem_cons_self ..)
    rw [List.cons_append]
    unfold strsH at h ⊢
    rw [e] at h ⊢
    simp only at h ⊢
    cases ht : chkStr t with
    | error e => rw [ht] at h; cases h
    | ok t' =>
      rw [ht] at h
      simp only at h ⊢
      cases hr : strsH lv nd ys with
      | error e => rw [hr] at h; cases h
      | ok r' =>
        rw [hr] at h
        cases h
        rw [strs_snoc (fun y hy => hc y (List.mem_cons_of_mem _ hy)) hr hx hs]
        rfl
theorem strs_stop {lv nd : Int} : ∀ {xs ys : List PyData} {x a s : PyData} {r : List PyData} {e : Er}, (∀ y ∈ xs, ∃ a b, seqOf y = some [a, b]) → strsH lv nd xs = .ok r → seqOf x = some [a, s] → chkStr s = .error e → strsH lv nd (xs ++ x :: ys) = .error (vwE "strength" lv nd)
  | [], ys, x, a, s, r, e0, _, h, hx, hs => by
    show strsH lv nd (x :: ys) = _
    unfold strsH
    rw [hx]
    simp only [hs]
  | y :: xs, ys, x, a, s, r, e0, hc, h, hx, hs => by
    obtain ⟨b, t, e⟩ := hc y (List.mem_cons_self ..)
    rw [List.cons_append]
    unfold strsH at h ⊢
    rw [e] at h ⊢
    simp only at h ⊢
    cases ht : chkStr t with
    | error e => rfl
    | ok t' =>
      rw [ht] at h
      simp only at h ⊢
      cases hr : strsH lv nd xs with
      | error e => rw [hr] at h; cases h
      | ok r' =>
        rw [strs_stop (fun y hy => hc y (List.mem_cons_of_mem _ hy)) hr hx hs]
theorem ok_heardC {xc : Str → Addr} (M : Me K mg) (Z : Xs P w K mg base xc) : Cal P w K mg base 6 "check_heard" (FnE xc K pHeard eHeard) [] := by
  refine mkX (M.df 40 (by decide)) scHd (fun _ _ _ _ _ _ us hl => match us, hl with | [_, _, _, _], _ => rfl) (fun vs H Q E h => ?_) fun f cdv A outer s H vs Q E hr h tk => ?_
  · obtain ⟨B, ts, S, T, ok, hv, ⟨⟨h, b, lv, nd, rfl, _⟩, _⟩, _⟩ := h
    exact hv.len
  obtain ⟨B, ts, S, T, ok, hv, ⟨⟨h, b, lv, nd, rfl, hlen⟩, rfl, rfl⟩, ret, retX⟩ := h
  have y := Sy.ini (N := nHd) ok hv
  have nd' := scHd.nd
  refine cWhen1 y (tNot' (dVal (dSeq M.isinstance M.list M.tuple (v 0)))) (fun hb H1 t1 y1 => ?_) fun hb H1 t1 y1 => ?_
  · refine ss1 (sRaise Z.vw hr rfl tk y1 (aC dS (aC (v 2) (aC (v 3) aN))) rfl rfl ?_ retX)
    show chkHeard h b lv nd = .error (vwE "heard" lv nd)
    unfold chkHeard
    cases e : seqOf h with
    | none => rfl
    | some xs => rw [e] at hb; cases hb
  obtain ⟨xs, hx⟩ : ∃ xs, seqOf h = some xs := by
    cases e : seqOf h with
    | none => rw [e] at hb; cases hb
    | some xs => exact ⟨xs, rfl⟩
  have hxl := hlen xs hx
  have ec : chkHeard h b lv nd = if scanH b 0 xs then (match strsH lv nd xs with
      | .error e => .error e
      | .ok r => .ok (.tuple r)) else .error (vwE "heard" lv nd) := by unfold chkHeard; rw [hx]
  refine ssC (sSet1 4 y1 nd' dI fun B2 σ2 H2 t2 y2 => ?_)
  -- the numbers
  refine ssCut (fun σ' H' => ∃ B', Sy K none B H B' H' σ' [.dat h, .dat (.int b), .dat (.int lv), .dat (.int nd), .any, .any, .any, .any, .any] ∧ scanH b 0 xs = true) (sFor (g := gName 5) y2.sl y2.ok (passes_of rfl) rfl (v 0) hx (pg_name nd' (by rfl) (by first | exact Or.inl rfl | exact Or.inr rfl)) fun w3 B3 H3 t3 o3 hd3 => ?_) fun σ4 H4 h4 => ?_
  · refine ⟨fun i B' σ' H' => ∃ least : Int, Sy K none B H B' H' σ' [.dat h, .dat (.int b), .dat (.int lv), .dat (.int nd), .dat (.int least), .any, .any, .any, .any] ∧ scanH b 0 xs = scanH b least (xs.drop i), ?_, ?_, ?_, ?_⟩
    · exact ⟨0, y2.on t3 o3, rfl⟩
    · rintro i B' σ' H' ⟨least, y4, _⟩
      exact y4.same
    · rintro i x wx B' σ' H' hxi eB ⟨least, y4, hsc⟩ hdx
      have hi := (List.getElem?_eq_some_iff.mp hxi)
      rw [List.drop_eq_getElem_cons hi.1, hi.2] at hsc
      have y5 := y4.put 5 (s := some wx) (x := .dat x) ⟨_, rfl, hdx⟩
      refine (show wSs _ _ _ (σ'.set 5 (some wx)) H' from ?_)
      generalize σ'.set 5 (some wx) = σ5 at y5 ⊢
      have bad : (∀ a s, seqOf x = some [a, s] → isWhole a least (b - 1) = false) → scanH b least (x :: xs.drop (i + 1)) = false := fun hbad => by
        unfold scanH
        split
        · rename_i j s e
          have := hbad _ _ e
          have h2 : ¬ (least ≤ j ∧ j ≤ b - 1) := fun z => by
            have : isWhole (.int j) least (b - 1) = true := by
              show (decide (least ≤ j) && decide (j ≤ b - 1)) = true
              rw [decide_eq_true z.1, decide_eq_true z.2]
              rfl
            rw [hbad _ _ e] at this
            cases this
          rw [if_neg h2]
        · rfl
      have fail : scanH b 0 xs = false → eHeard [h, .int b, .int lv, .int nd] = .error ("BadView", [.str "heard", .int lv, .int nd]) := fun z => by
        show chkHeard h b lv nd = _
        rw [ec, z]
        rfl
      refine cWhen y5 (St' := fun c => (c = true → scanH b 0 xs = false) ∧ (c = false → ∃ j s, seqOf x = some [.int j, s] ∧ least ≤ j ∧ j ≤ b - 1)) (tW (wOrS (S1 := fun c => c = !isCouple x) (S2 := fun c => ∀ a s, seqOf x = some [a, s] → c = !isWhole a least (b - 1)) (tNot' (dVal (dCall1 (ok_couple M) hr (aC (v 5) aN) ⟨x, rfl, rfl⟩))) (fun hc => ?_) (fun hc => ?_) (fun c hc hs => ?_))) (fun hc H6 t6 y6 => ?_) fun hc H6 t6 y6 => ?_
      · have hc' : isLen 2 x = true := by
          have : isCouple x = true := by simpa using hc.symm
          exact this
        obtain ⟨a, s, e⟩ := len_two hc'
        refine wOr1 (tTo (tNot' (dVal (dCall1 (ok_whole M) hr (aC (dIx (v 5) dI e rfl) (aC (v 4) (aC (dSub (v 1) dI) aN))) ⟨a, least, b - 1, rfl, rfl⟩))) ?_)
        rintro _ rfl a' s' e'
        rw [e] at e'
        cases e'
        rfl
      · refine ⟨fun _ => ?_, fun z => by cases z⟩
        rw [hsc]
        refine bad fun a s e => ?_
        have : isCouple x = true := by unfold isCouple isLen; rw [e]; rfl
        rw [this] at hc
        cases hc
      · have hc' : isLen 2 x = true := by
          have : isCouple x = true := by simpa using hc.symm
          exact this
        obtain ⟨a, s, e⟩ := len_two hc'
        have h2 := hs a s e
        refine ⟨fun z => ?_, fun z => ?_⟩
        · rw [hsc]
          refine bad fun a' s' e' => ?_
          rw [e] at e'
          cases e'
          rw [z] at h2
          simpa using h2.symm
        · rw [z] at h2
          have h3 : isWhole a least (b - 1) = true := by simpa using h2.symm
          cases a with
          | int j =>
            obtain ⟨h4, h5⟩ := Bool.and_eq_true_iff.mp (show (decide (least ≤ j) && decide (j ≤ b - 1)) = true from h3)
            exact ⟨j, s, e, of_decide_eq_true h4, of_decide_eq_true h5⟩
          | _ => cases h3
      · exact ss1 (sRaise Z.vw hr rfl tk y6 (aC dS (aC (v 2) (aC (v 3) aN))) rfl rfl (fail (hc.1 rfl)) retX)
      · obtain ⟨j, s, e, h1, h2⟩ := hc.2 rfl
        refine ss1 (sSet1 4 y6 nd' (dAdd (dIx (v 5) dI e rfl) dI) fun B7 σ7 H7 t7 y7 => ?_)
        refine ⟨B7, eB.trans t7.kb, j + 1, y7.fo 5, ?_⟩
        rw [hsc]
        unfold scanH
        rw [e]
        simp only
        rw [if_pos ⟨h1, h2⟩]
        cases xs.drop (i + 1) <;> rfl
    · rintro B' σ' H' eB ⟨least, y4, hsc⟩
      rw [List.drop_length] at hsc
      exact ⟨B', y4.fo 4, hsc⟩
  obtain ⟨B4, y4, hscan⟩ := h4
  have hcp := scan_couple hscan
  rw [hscan, if_pos rfl] at ec
  refine ssC (sNew 6 y4 ok nd' fun p σ5 hp y5 m5 => ?_)
  refine ssC (sFor (g := gSeq K 2 (gCons (gName 7) (gCons (gName 8) gNil))) y5.sl y5.ok (passes_of rfl) rfl (v 0) hx (pg_seq rfl (pgs_cons (pg_name nd' (by rfl) (by first | exact Or.inl rfl | exact Or.inr rfl)) (pgs_cons (pg_name nd' (by rfl) (by first | exact Or.inl rfl | exact Or.inr rfl)) pgs_nil))) fun w6 B6 H6 t6 o6 hd6 => ?_)
  refine ⟨fun i B' σ' H' => ∃ (vs : List V) (r : List PyData), Sy K none B H B' H' σ' [.dat h, .dat (.int b), .dat (.int lv), .dat (.int nd), .any, .any, .raw (.ref p), .any, .any] ∧ Mu none H B' H' p (.lst vs) ∧ DpAll K B' vs r ∧ strsH lv nd (xs.take i) = .ok r ∧ r.length ≤ i, ?_, ?_, ?_, ?_⟩
  · exact ⟨[], [], y5.on t6 o6, m5.on t6, .nil, rfl, Nat.le_refl _⟩
  · rintro i B' σ' H' ⟨vs, r, y7, _⟩
    exact y7.same
  · rintro i x wx B' σ' H' hxi eB ⟨vs, r, y7, mp, hdr, hst, hrl⟩ hdx
    have hi := (List.getElem?_eq_some_iff.mp hxi)
    obtain ⟨a, s', hxs⟩ := hcp x (List.mem_of_getElem? hxi)
    refine gSeq2 y7.same hdx hxs fun v1 v2 d1 d2 => ?_
    have y8 : Sy K none B H B' H' ((σ'.set 7 (some v1)).set 8 (some v2)) [.dat h, .dat (.int b), .dat (.int lv), .dat (.int nd), .any, .any, .raw (.ref p), .dat a, .dat s'] :=
      (y7.put 7 (x := .dat a) ⟨_, rfl, d1⟩).put 8 (x := .dat s') ⟨_, rfl, d2⟩
    refine (show wSs _ _ _ ((σ'.set 7 (some v1)).set 8 (some v2)) H' from ?_)
    generalize (σ'.set 7 (some v1)).set 8 (some v2) = σ8 at y8 ⊢
    obtain ⟨fS, fdS, psS, FS, hmS, kpS, bS⟩ := (ok_chkStr (P := P) (w := w) (base := base) M Z).ex
    obtain ⟨fI, fdI, psI, h1I, h2I, FI, hbI⟩ := Z.vwH.ex
    have VV : ∀ {X : Cx} {x : Str}, X.env.scope.names.lookup x = some .local → Vis X.env.scope x := fun h => .inl h
    refine ss1 (w_s (L2H.ps_try_onlyX (x := "BadStrength") (c := .ref (xc "BadStrength")) (Wout := fun cls d _ H => E cls d H)
      (tb := fun W => tDrop (tBM K "list" rAppend (tVar 6) (tCons (tTup (tCons (tVar 7) (tCons (tCallS (FnE xc K (fun ts => ts.length = 1) (e1 chkStr)) (L2.WE W) (tCons (tVar 8) tNil)) tNil))) tNil)))
      (ts := fun _ _ _ => fun _ σ H => tMkO (xc "BadView") (spI (xc "BadView") (fieldsOf "BadView")) [] (tCons (tC (.str "strength")) (tCons (tVar 2) (tCons (tVar 3) tNil))) σ H (fun cls d H' => E cls d H'))
      rfl rfl ⟨by rfl, by decide, .inl Z.str.gC⟩ (L2H.passesAt_of rfl) tk
      (fun W pn xe tk1 _ _ => pss_one (ps_expr (pe_bm PySem.F.plainAttrs_list PySem.F.slot_list_append PySem.F.type_list_append mt_append (pe_var (i := 6) (by rfl) (Or.inl rfl) (by decide) (by decide)) (pa_cons (pe_tup (pa_cons (pe_var (i := 7) (by rfl) (Or.inl rfl) (by decide) (by decide)) (pa_cons (pe_callS FS (Room.mono hr (by decide)) (by rfl) hmS kpS bS (fun σ => L2N.passAt tk1 σ) (pa_cons (pe_var (i := 8) (by rfl) (Or.inl rfl) (by decide) (by decide)) pa_nil)) pa_nil))) pa_nil))))
      (fun a oe cls d pn hz hf tkS hot => pss_one (L2H.ps_raiseHN hot tkS (L2H.pmk5_oexH Z.vwH.ox h1I h2I FI (L2H.roomH_mark (Room.mono hr (by decide)) _) hot hbI passL (by rfl) Z.vwH.gC (pa_cons pe_str (pa_cons (pe_var (i := 2) (by rfl) (Or.inl rfl) (by decide) (by decide)) (pa_cons (pe_var (i := 3) (by rfl) (Or.inl rfl) (by decide) (by decide)) pa_nil))))))) ?_)
    obtain ⟨u1, hu1, du1⟩ := y8.sl.dat (i := 7) rfl
    obtain ⟨u2, hu2, du2⟩ := y8.sl.dat (i := 8) rfl
    have htk := take_snoc hxi
    have hcpt : ∀ z ∈ xs.take i, ∃ a b, seqOf z = some [a, b] := fun z hz => hcp z (List.mem_of_mem_take hz)
    refine ⟨_, y8.sl.raw (i := 6) rfl, .inl ⟨rfl, _, SqL.of mp.at_⟩, u1, hu1, u2, hu2, B', [s'], _, _, y8.ok, .cons du2 .nil, ⟨rfl, rfl, rfl⟩, fun w9 t9 B9 H9 t9r o9 d9 e9 => ?_, fun er dd B9 H9 t9r o9 hT hx9 => ?_⟩
    · have e9' : chkStr s' = .ok t9 := e9
      refine ⟨show 2 ≤ sizeLine by decide, fun q hq => ?_⟩
      have y10 := (y8.on t9r o9).on (Tr.lay (o := .tup [u1, w9]) o9 hq) (o9.lay hq)
      have m10 := (mp.on t9r).on (Tr.lay (o := .tup [u1, w9]) o9 hq)
      have kb := t9r.kb.trans (Tr.lay (o := .tup [u1, w9]) o9 hq).kb
      refine ⟨p, vs, _, rfl, rfl, m10.at_, Nat.lt_of_lt_of_le (show vs.length < 100000 by rw [hdr.len]; have := hi.1; omega) (by decide), ?_⟩
      refine ⟨_, eB.trans kb, _, r ++ [.tuple [a, t9]], ((y10.mut m10).fo 7).fo 8, m10.set, (hdr.up kb).snoc (.tup (SqT.of upd_same) (.cons (du1.up kb) (.cons (d9.up (Tr.lay (o := .tup [u1, w9]) o9 hq).kb) .nil))), ?_, by rw [List.length_append]; exact Nat.add_le_add hrl (Nat.le_refl 1)⟩
      rw [htk]
      exact strs_snoc hcpt hst hxs e9'
    · have e9 : chkStr s' = .error er := hT
      obtain ⟨n9, l9⟩ := er
      have en : n9 = "BadStrength" := chkStr_err e9
      subst en
      refine ⟨true, Z.exStr, fun _ a0 _ => ?_, fun z => by cases z⟩
      refine mkO_gen (K := K) (d := none) (B0 := B) (H0 := H) (B := B9) (ts := [.str "strength", .int lv, .int nd]) (x := "BadView") (T := fun er => eHeard [h, .int b, .int lv, .int nd] = .error er) (y8.tr.trans t9r) ?_ rfl rfl ?_ retX
      · intro Q' q'
        refine q' [.str "strength", .int lv, .int nd] _ B9 H9 .refl o9 (.cons (.str _) (.cons (.int _) (.cons (.int _) .nil))) rfl |> fun z => ?_
        obtain ⟨u3, hu3, du3⟩ := y8.sl.dat (i := 2) rfl
        obtain ⟨u4, hu4, du4⟩ := y8.sl.dat (i := 3) rfl
        obtain rfl := du3.int_inv
        obtain rfl := du4.int_inv
        exact ⟨_, hu3, _, hu4, z⟩
      · show chkHeard h b lv nd = .error (vwE "strength" lv nd)
        have hsp : xs = xs.take i ++ x :: xs.drop (i + 1) := by
          conv => lhs; rw [← List.take_append_drop i xs]
          rw [List.drop_eq_getElem_cons hi.1, hi.2]
        rw [ec, show strsH lv nd xs = _ from (congrArg (strsH lv nd) hsp).trans (strs_stop hcpt hst hxs e9)]
  · rintro B' σ' H' eB ⟨vs, r, y7, mp, hdr, hst, hrl⟩
    rw [List.take_length] at hst
    refine ss1 (sRet (y7.done mp hdr 6) (dTupleS (S := (· = .tuple r)) M.tuple (v 6) (by rintro _ rfl; exact ⟨r, rfl, rfl⟩)) fun v t' B' H' tr ok' hd e' => ret v t' B' H' tr ok' hd ?_)
    show chkHeard h b lv nd = .ok t'
    rw [ec, hst, e']
end K20
set_option maxHeartbeats 4000000
namespace K20
open PySem PySem.Spec L2
open PyProof.Rows hiding St
open PySem.W (dataLt dataLe alike alikeAll)
variable {P : Program} {w : World} {K : Fg} {mg : Str → Option Value} {base : Heap}
/-! ### a node, a level -/
def chkNode (t : PyData) (below lv nd : Int) : Except Er PyData := match seqOf t with
  | some [a, h] => if isWhole a 0 (below - 1) then (match chkHeard h below lv nd with
      | .error e => .error e
      | .ok r => .ok (.tuple [a, r])) else .error (vwE "parent" lv nd)
  | _ => .error (vwE "node" lv nd)
def eNode : List PyData → Except Er PyData
  | [t, .int b, .int lv, .int nd] => chkNode t b lv nd
  | _ => .error ("", [])
/-- small: no list or tuple of more than 1000 items, two levels down -/
def Sm1 (t : PyData) : Prop := ∀ xs, seqOf t = some xs → xs.length ≤ 1000
def Sm2 (t : PyData) : Prop := ∀ xs, seqOf t = some xs → xs.length ≤ 1000 ∧ ∀ x ∈ xs, Sm1 x
def Sm3 (t : PyData) : Prop := ∀ xs, seqOf t = some xs → xs.length ≤ 1000 ∧ ∀ x ∈ xs, Sm2 x
def Sm4 (t : PyData) : Prop := ∀ xs, seqOf t = some xs → xs.length ≤ 1000 ∧ ∀ x ∈ xs, Sm3 x
def pNode : List PyData → Prop := fun ts => ∃ t b lv nd, ts = [t, .int b, .int lv, .int nd] ∧ Sm2 t
abbrev nNd : List Str := ["thing", "below", "level", "node"]
theorem scNd : FnScope nNd nNd (defScope (top 41)) := ⟨rfl, rfl, rfl, by decide +kernel, rfl, by decide +kernel, by decide +kernel⟩
theorem ok_nodeC {xc : Str → Addr} (M : Me K mg) (Z : Xs P w K mg base xc) : Cal P w K mg base 7 "check_node" (FnE xc K pNode eNode) [] := by
  refine mkX (M.df 41 (by decide)) scNd (fun _ _ _ _ _ _ us hl => match us, hl with | [_, _, _, _], _ => rfl) (fun vs H Q E h => ?_) fun f cdv A outer s H vs Q E hr h tk => ?_
  · obtain ⟨B, ts, S, T, ok, hv, ⟨⟨h, b, lv, nd, rfl, _⟩, _⟩, _⟩ := h
    exact hv.len
  obtain ⟨B, ts, S, T, ok, hv, ⟨⟨t, b, lv, nd, rfl, hsm⟩, rfl, rfl⟩, ret, retX⟩ := h
  have y := Sy.ini (N := nNd) ok hv
  refine cWhen1 y (tNot' (dVal (dCall1 (ok_couple M) hr (aC (v 0) aN) ⟨t, rfl, rfl⟩))) (fun hb H1 t1 y1 => ?_) fun hb H1 t1 y1 => ?_
  · refine ss1 (sRaise Z.vw hr rfl tk y1 (aC dS (aC (v 2) (aC (v 3) aN))) rfl rfl ?_ retX)
    show chkNode t b lv nd = .error (vwE "node" lv nd)
    have hb' : isLen 2 t = false := by
      have : isCouple t = false := by simpa using hb
      exact this
    unfold chkNode
    unfold isLen at hb'
    split
    · rename_i e; rw [e] at hb'; cases hb'
    · rfl
  have hb' : isLen 2 t = true := by
    have : isCouple t = true := by simpa using hb
    exact this
  obtain ⟨a, h, e⟩ := len_two hb'
  have ec : chkNode t b lv nd = if isWhole a 0 (b - 1) then (match chkHeard h b lv nd with
      | .error e => .error e
      | .ok r => .ok (.tuple [a, r])) else .error (vwE "parent" lv nd) := by unfold chkNode; rw [e]
  refine cWhen1 y1 (tNot' (dVal (dCall1 (ok_whole M) hr (aC (dIx (v 0) dI e rfl) (aC dI (aC (dSub (v 1) dI) aN))) ⟨a, 0, b - 1, rfl, rfl⟩))) (fun hb2 H2 t2 y2 => ?_) fun hb2 H2 t2 y2 => ?_
  · refine ss1 (sRaise Z.vw hr rfl tk y2 (aC dS (aC (v 2) (aC (v 3) aN))) rfl rfl ?_ retX)
    show chkNode t b lv nd = .error (vwE "parent" lv nd)
    rw [ec, if_neg (by simpa using hb2)]
  have h2 : isWhole a 0 (b - 1) = true := by simpa using hb2
  rw [if_pos h2] at ec
  have sm := (hsm _ e).2 _ (List.mem_cons_of_mem _ (List.mem_singleton.mpr rfl))
  refine ss1 (sRetA y2 ((ltTup (ltC (ltE (dIx (v 0) dI e rfl) y2.sl) (ltC (ltCall (S := fun r => chkHeard h b lv nd = .ok r) (ok_heardC M Z) hr tk (ltC (ltE (dIx (v 0) dI e rfl) y2.sl) (ltC (ltE (v 1) y2.sl) (ltC (ltE (v 2) y2.sl) (ltC (ltE (v 3) y2.sl) ltN)))) (retX.after y2.tr) ?_) ltN))).now y2.ok) ?_)
  · intro ts0 hts0
    obtain rfl := argsEq (l := [h, .int b, .int lv, .int nd]) hts0
    refine ⟨_, _, ⟨⟨h, b, lv, nd, rfl, sm⟩, rfl, rfl⟩, fun t ht => ht, fun er her => ?_⟩
    have her' : chkHeard h b lv nd = .error er := her
    show chkNode t b lv nd = .error er
    rw [ec, her']
  · rintro v' t' B' H' tr ok' hd ⟨_, rfl, a', ha', _, ⟨r, hr', _, rfl, rfl⟩, rfl⟩
    refine ret v' _ B' H' tr ok' hd ?_
    show chkNode t b lv nd = .ok _
    rw [show a' = a from ha']
    rw [ec, hr']
end K20
set_option maxHeartbeats 4000000
namespace K20
open PySem PySem.Spec L2
open PyProof.Rows hiding St
open PySem.W (dataLt dataLe alike alikeAll)
variable {P : Program} {w : World} {K : Fg} {mg : Str → Option Value} {base : Heap}
/-! ### a level -/
def mapE {α β : Type} (f : α → β) : Except Er α → Except Er β
  | .ok a => .ok (f a)
  | .error e => .error e
def chkItem (below lv : Int) (n : Nat) (x : PyData) : Except Er PyData :=
  if 0 < lv then chkNode x below lv n else if isStart x then (match seqOf x with
    | some [a, b] => .ok (.tuple [a, b])
    | _ => .error (vwE "node" lv n)) else .error (vwE "node" lv n)
def ordOk (p : Option PyData) (c : PyData) : Bool := match p with
  | none => true
  | some q => dataLt q c
def goLv (below lv : Int) : Nat → Option PyData → List PyData → Except Er (List PyData)
  | _, _, [] => .ok []
  | n, p, x :: xs => match chkItem below lv n x with
    | .error e => .error e
    | .ok c => if ordOk p c then mapE (c :: ·) (goLv below lv (n + 1) (some c) xs) else .error (vwE "order" lv n)
def chkLevel (t : PyData) (below lv : Int) : Except Er PyData := match seqOf t with
  | none => .error (vwE "level" lv 0)
  | some xs => if 1 ≤ xs.length ∧ xs.length ≤ 12 then mapE .tuple (goLv below lv 0 none xs) else .error (vwE "level" lv 0)
def eLevel : List PyData → Except Er PyData
  | [t, .int b, .int lv] => chkLevel t b lv
  | _ => .error ("", [])
def pLevel : List PyData → Prop := fun ts => ∃ t b lv, ts = [t, .int b, .int lv] ∧ Sm3 t
/-! checked things are alike -/
def CkE (e : PyData) : Prop := ∃ j a b : Int, e = .tuple [.int j, .tuple [.int a, .int b]]
def CkN (c : PyData) : Prop := ∃ (i : Int) (es : List PyData), c = .tuple [.int i, .tuple es] ∧ ∀ e ∈ es, CkE e
def CkS (c : PyData) : Prop := ∃ i j : Int, c = .tuple [.int i, .int j]
def Ck (lv : Int) (c : PyData) : Prop := if 0 < lv then CkN c else CkS c
theorem alike_all : ∀ {xs ys : List PyData}, (∀ x ∈ xs, ∀ y ∈ ys, alike x y = true) → alikeAll xs ys = true
  | [], _, _ => by simp [alikeAll]
  | _ :: _, [], _ => by simp [alikeAll]
  | x :: xs, y :: ys, h => by
    have h1 := h x (List.mem_cons_self ..) y (List.mem_cons_self ..)
    have h2 := alike_all (xs := xs) (ys := ys) fun a ha b hb => h a (List.mem_cons_of_mem _ ha) b (List.mem_cons_of_mem _ hb)
    simp [alikeAll, h1, h2]
theorem ck_alike {lv : Int} {x y : PyData} (hx : Ck lv x) (hy : Ck lv y) : alike x y = true := by
  unfold Ck at hx hy
  by_cases h : 0 < lv
  · rw [if_pos h] at hx hy
    obtain ⟨i, es, rfl, he⟩ := hx
    obtain ⟨j, fs, rfl, hf⟩ := hy
    have := alike_all (xs := es) (ys := fs) fun a ha b hb => by
      obtain ⟨_, _, _, rfl⟩ := he a ha
      obtain ⟨_, _, _, rfl⟩ := hf b hb
      simp [alike, alikeAll]
    simp [alike, alikeAll, this]
  · rw [if_neg h] at hx hy
    obtain ⟨_, _, rfl⟩ := hx
    obtain ⟨_, _, rfl⟩ := hy
    simp [alike, alikeAll]
theorem ck_depth {lv : Int} {x : PyData} (hx : Ck lv x) : x ≠ .none ∧ x.depth ≤ 60 := by
  unfold Ck at hx
  by_cases h : 0 < lv
  · rw [if_pos h] at hx
    obtain ⟨i, es, rfl, he⟩ := hx
    have hd : ∀ {es : List PyData}, (∀ e ∈ es, CkE e) → PyData.depthAll es ≤ 3 := by
      intro es
      induction es with
      | nil => intro _; simp [PyData.depthAll]
      | cons a es ih =>
        intro h
        obtain ⟨_, _, _, rfl⟩ := h a (List.mem_cons_self ..)
        have := ih fun e he => h e (List.mem_cons_of_mem _ he)
        simp [PyData.depthAll, PyData.depth]
        omega
    have := hd he
    refine ⟨(fun z => nomatch z), ?_⟩
    simp [PyData.depthAll, PyData.depth]
    omega
  · rw [if_neg h] at hx
    obtain ⟨_, _, rfl⟩ := hx
    exact ⟨(fun z => nomatch z), by simp [PyData.depthAll, PyData.depth]⟩
theorem chkStr_ok {t r : PyData} (h : chkStr t = .ok r) : ∃ a b : Int, r = .tuple [.int a, .int b] := by
  unfold chkStr at h
  split at h
  · rename_i i j _
    split at h
    · cases h
    · split at h
      · cases h
      · cases h; exact ⟨i, j, rfl⟩
  · cases h
  · cases h
theorem strs_ck {below lv nd : Int} : ∀ {xs : List PyData} {least : Int} {r : List PyData}, scanH below least xs = true → strsH lv nd xs = .ok r → ∀ e ∈ r, CkE e
  | [], _, r, _, h, e, he => by cases h; cases he
  | x :: xs, least, r, hs, h, e, he => by
    unfold scanH at hs
    unfold strsH at h
    split at hs
    · rename_i i s ex
      rw [ex] at h
      by_cases c : least ≤ i ∧ i ≤ below - 1
      · rw [if_pos c] at hs
        simp only at h
        cases hc : chkStr s with
        | error e => rw [hc] at h; cases h
        | ok s' =>
          rw [hc] at h
          simp only at h
          cases hr : strsH lv nd xs with
          | error e => rw [hr] at h; cases h
          | ok r' =>
            rw [hr] at h
            cases h
            rcases List.mem_cons.mp he with rfl | he
            · obtain ⟨a, b, rfl⟩ := chkStr_ok hc
              exact ⟨i, a, b, rfl⟩
            · exact strs_ck hs hr e he
      · rw [if_neg c] at hs; cases hs
    · cases hs
theorem item_ck {below lv : Int} {n : Nat} {x c : PyData} (h : chkItem below lv n x = .ok c) : Ck lv c := by
  unfold chkItem at h
  unfold Ck
  by_cases hl : 0 < lv
  · rw [if_pos hl] at h ⊢
    unfold chkNode at h
    split at h
    · rename_i a hd e
      by_cases hw : isWhole a 0 (below - 1) = true
      · rw [if_pos hw] at h
        obtain ⟨i, rfl⟩ : ∃ i, a = .int i := by cases a <;> first | exact ⟨_, rfl⟩ | cases hw
        cases hh : chkHeard hd below lv n with
        | error e => rw [hh] at h; cases h
        | ok r =>
          rw [hh] at h
          cases h
          unfold chkHeard at hh
          cases hs : seqOf hd with
          | none => rw [hs] at hh; cases hh
          | some xs =>
            rw [hs] at hh
            simp only at hh
            by_cases hsc : scanH below 0 xs = true
            · rw [if_pos hsc] at hh
              cases hst : strsH lv n xs with
              | error e => rw [hst] at hh; cases hh
              | ok es =>
                rw [hst] at hh
                cases hh
                exact ⟨i, es, rfl, strs_ck hsc hst⟩
            · rw [if_neg hsc] at hh; cases hh
      · rw [if_neg hw] at h; cases h
    · cases h
  · rw [if_neg hl] at h ⊢
    by_cases hs : isStart x = true
    · rw [if_pos hs] at h
      unfold isStart at hs
      split at hs
      · rename_i a b e
        rw [e] at h
        cases h
        obtain ⟨h1, h2⟩ := Bool.and_eq_true_iff.mp hs
        obtain ⟨i, rfl⟩ : ∃ i, a = .int i := by cases a <;> first | exact ⟨_, rfl⟩ | cases h1
        obtain ⟨j, rfl⟩ : ∃ j, b = .int j := by cases b <;> first | exact ⟨_, rfl⟩ | cases h2
        exact ⟨i, j, rfl⟩
      · cases hs
    · rw [if_neg hs] at h; cases h
end K20
set_option maxHeartbeats 4000000
namespace K20
open PySem PySem.Spec L2
open PyProof.Rows hiding St
open PySem.W (dataLt dataLe alike alikeAll)
variable {P : Program} {w : World} {K : Fg} {mg : Str → Option Value} {base : Heap}
abbrev nLv : List Str := ["things", "below", "level", "found", "node", "thing", "checked"]
theorem scLv : FnScope nLv ["things", "below", "level"] (defScope (top 42)) := ⟨rfl, rfl, rfl, by decide +kernel, rfl, by decide +kernel, by decide +kernel⟩
theorem mapE_map {α β γ : Type} (f : α → β) (g : β → γ) (x : Except Er α) : mapE g (mapE f x) = mapE (g ∘ f) x := by cases x <;> rfl
theorem last_at {r : List PyData} {n : Nat} (h : r.length = n) (hn : 0 < n) : ∃ q, r.getLast? = some q ∧ r[n - 1]? = some q := by
  cases e : r.getLast? with
  | none =>
    rw [List.getLast?_eq_none_iff.mp e] at h
    simp at h
    omega
  | some q =>
    refine ⟨q, rfl, ?_⟩
    rw [List.getLast?_eq_getElem?, h] at e
    exact e
theorem ok_levelC {xc : Str → Addr} (M : Me K mg) (Z : Xs P w K mg base xc) : Cal P w K mg base 8 "check_level" (FnE xc K pLevel eLevel) [] := by
  refine mkX (M.df 42 (by decide)) scLv (fun _ _ _ _ _ _ us hl => match us, hl with | [_, _, _], _ => rfl) (fun vs H Q E h => ?_) fun f cdv A outer s H vs Q E hr h tk => ?_
  · obtain ⟨B, ts, S, T, ok, hv, ⟨⟨t, b, lv, rfl, _⟩, _⟩, _⟩ := h
    exact hv.len
  obtain ⟨B, ts, S, T, ok, hv, ⟨⟨t, b, lv, rfl, hsm⟩, rfl, rfl⟩, ret, retX⟩ := h
  have y := Sy.ini (N := nLv) ok hv
  have nd := scLv.nd
  have hbound : ∀ xs, seqOf t = some xs → ((!(decide ((1 : Int) ≤ (xs.length : Nat)) && decide (((xs.length : Nat) : Int) ≤ 12))) = true ↔ ¬ (1 ≤ xs.length ∧ xs.length ≤ 12)) := fun xs _ => by
    constructor
    · intro h z
      have h1 : decide ((1 : Int) ≤ (xs.length : Nat)) = true := decide_eq_true (by omega)
      have h2 : decide (((xs.length : Nat) : Int) ≤ 12) = true := decide_eq_true (by omega)
      rw [h1, h2] at h
      cases h
    · intro h
      by_cases h1 : 1 ≤ xs.length
      · have h2 : decide (((xs.length : Nat) : Int) ≤ 12) = false := decide_eq_false (by omega)
        rw [h2, Bool.and_false]
        rfl
      · have h2 : decide ((1 : Int) ≤ (xs.length : Nat)) = false := decide_eq_false (by omega)
        rw [h2]
        rfl
  refine cWhen (St' := fun c => if c then chkLevel t b lv = .error (vwE "level" lv 0) else ∃ xs, seqOf t = some xs ∧ 1 ≤ xs.length ∧ xs.length ≤ 12) y (tW (wOrS (S1 := (· = !(seqOf t).isSome)) (S2 := fun c => if c then chkLevel t b lv = .error (vwE "level" lv 0) else ∃ xs, seqOf t = some xs ∧ 1 ≤ xs.length ∧ xs.length ≤ 12) (tNot' (dVal (dSeq M.isinstance M.list M.tuple (v 0)))) (fun hc => ?_) (fun hc => ?_) (fun _ _ h => h))) (fun hc H1 t1 y1 => ?_) fun hc H1 t1 y1 => ?_
  · cases e : seqOf t with
    | none => rw [e] at hc; cases hc
    | some xs =>
      refine wOr1 (tTo (tNot' (tChainLe dI (dLen (n := xs.length) M.len (v 0) (lenD_seq e)) (dGI M.cMOST_NODES))) ?_)
      rintro _ rfl
      have hb := hbound xs e
      cases hx : (!(decide ((1 : Int) ≤ (xs.length : Nat)) && decide (((xs.length : Nat) : Int) ≤ 12))) with
      | true =>
        refine iteT ?_
        unfold chkLevel
        rw [e]
        exact if_neg (hb.mp hx)
      | false =>
        refine iteF ⟨xs, rfl, ?_⟩
        have : ¬ ¬ (1 ≤ xs.length ∧ xs.length ≤ 12) := fun z => by rw [hb.mpr z] at hx; cases hx
        omega
  · cases e : seqOf t with
    | none =>
      refine iteT ?_
      unfold chkLevel
      rw [e]
    | some xs => rw [e] at hc; cases hc
  · exact ss1 (sRaise Z.vw hr rfl tk y1 (aC dS (aC (v 2) (aC dI aN))) rfl rfl hc retX)
  obtain ⟨xs, hx, hl1, hl12⟩ := (show ∃ xs, seqOf t = some xs ∧ 1 ≤ xs.length ∧ xs.length ≤ 12 from hc)
  have ec : chkLevel t b lv = mapE .tuple (goLv b lv 0 none xs) := by unfold chkLevel; rw [hx]; exact if_pos ⟨hl1, hl12⟩
  refine ssC (sNew 3 y1 ok nd fun p σ2 hp y2 m2 => ?_)
  refine ssC (sForEn (g := gTup K 2 (gCons (gName 4) (gCons (gName 5) gNil))) y2.sl y2.ok (passes_of rfl) rfl M.enumerate (v 0) hx (pg_tup rfl (pgs_cons (pg_name nd (by rfl) (by first | exact Or.inl rfl | exact Or.inr rfl)) (pgs_cons (pg_name nd (by rfl) (by first | exact Or.inl rfl | exact Or.inr rfl)) pgs_nil))) fun B3 H3 t3 o3 => ?_)
  refine ⟨fun i B' σ' H' => ∃ (vs : List V) (r : List PyData), Sy K none B H B' H' σ' [.dat t, .dat (.int b), .dat (.int lv), .raw (.ref p), .any, .any, .any] ∧ Mu none H B' H' p (.lst vs) ∧ DpAll K B' vs r ∧ r.length = i ∧ (∀ c ∈ r, Ck lv c) ∧ goLv b lv 0 none xs = mapE (r ++ ·) (goLv b lv i r.getLast? (xs.drop i)), ?_, ?_, ?_, ?_⟩
  · refine ⟨[], [], y2.on t3 o3, m2.on t3, .nil, rfl, (fun c h => nomatch h), ?_⟩
    show _ = mapE _ (goLv b lv 0 none xs)
    cases goLv b lv 0 none xs <;> rfl
  · rintro i B' σ' H' ⟨vs, r, y4, _⟩
    exact y4.ok
  · rintro i x wx B' σ' H' q hxi eB ⟨vs, r, y4, mp, hdr, hrl, hck, hgo⟩ hdx hq
    have hi := List.getElem?_eq_some_iff.mp hxi
    rw [List.drop_eq_getElem_cons hi.1, hi.2] at hgo
    have y5 : Sy K none B H B' (upd H' q (.tup [.int (i : Nat), wx])) σ' [.dat t, .dat (.int b), .dat (.int lv), .raw (.ref p), .any, .any, .any] := ⟨y4.tr.trans (.lay0 hq), y4.ok.lay0 hq, y4.sl⟩
    have pq : p ≠ q := fun z => by rw [← z, mp.at_] at hq; cases hq
    have mp5 := mp.other (o := .tup [.int (i : Nat), wx]) pq
    refine ⟨q, _, rfl, SqT.of upd_same, rfl, _, _, rfl, _, _, rfl, rfl, ?_⟩
    have y6 : Sy K none B H B' (upd H' q (.tup [.int (i : Nat), wx])) ((σ'.set 4 (some (.int (i : Nat)))).set 5 (some wx)) [.dat t, .dat (.int b), .dat (.int lv), .raw (.ref p), .dat (.int (i : Nat)), .dat x, .any] :=
      (y5.put 4 (x := .dat (.int (i : Nat))) ⟨_, rfl, .int _⟩).put 5 (x := .dat x) ⟨_, rfl, hdx⟩
    refine (show wSs _ _ _ ((σ'.set 4 (some (.int (i : Nat)))).set 5 (some wx)) (upd H' q (.tup [.int (i : Nat), wx])) from ?_)
    generalize (σ'.set 4 (some (V.int (i : Nat)))).set 5 (some wx) = σ6 at y6 ⊢
    generalize upd H' q (.tup [.int (i : Nat), wx]) = H6 at y6 mp5 ⊢
    have smx := (hsm xs hx).2 x (List.mem_of_getElem? hxi)
    have eUnf : goLv b lv i r.getLast? (x :: xs.drop (i + 1)) = (match chkItem b lv i x with
      | .error e => .error e
      | .ok c => if ordOk r.getLast? c then mapE (c :: ·) (goLv b lv (i + 1) (some c) (xs.drop (i + 1))) else .error (vwE "order" lv i)) := rfl
    -- the item
    refine ssCut (fun σ' H' => ∃ (B2 : Hp) (c : PyData), Same B' B2 ∧ Sy K none B H B2 H' σ' [.dat t, .dat (.int b), .dat (.int lv), .raw (.ref p), .dat (.int (i : Nat)), .dat x, .dat c] ∧ Mu none H B2 H' p (.lst vs) ∧ chkItem b lv i x = .ok c) (sIf1 y6 (tGt (v 2) dI) (fun hlv H7 t7 y7 => ?_) fun hlv H7 t7 y7 => ?_) fun σ8 H8 h8 => ?_
    · have hlv' : 0 < lv := of_decide_eq_true hlv
      refine ss1 (sSetA 6 y7 nd ((ltCall (S := fun c => chkItem b lv i x = .ok c) (ok_nodeC M Z) hr tk (ltC (ltE (v 5) y7.sl) (ltC (ltE (v 1) y7.sl) (ltC (ltE (v 2) y7.sl) (ltC (ltE (v 4) y7.sl) ltN)))) (retX.after y7.tr) ?_).now y7.ok) fun c B8 σ8 H8 hc8 t8 y8 => ?_)
      · intro ts0 hts0
        obtain rfl := argsEq (l := [x, .int b, .int lv, .int (i : Nat)]) hts0
        refine ⟨_, _, ⟨⟨x, b, lv, (i : Nat), rfl, smx⟩, rfl, rfl⟩, fun c hc => ?_, fun er her => ?_⟩
        · show chkItem b lv i x = .ok c
          unfold chkItem
          rw [if_pos hlv']
          exact hc
        · show chkLevel t b lv = .error er
          have e1 : chkItem b lv i x = .error er := by unfold chkItem; rw [if_pos hlv']; exact her
          rw [ec, hgo, eUnf, e1]
          rfl
      · exact ⟨B8, c, t8.kb, y8, (mp5.on t7).on t8, hc8⟩
    · have hlv' : ¬ 0 < lv := of_decide_eq_false hlv
      refine ss1 (sIf1 y7 (dVal (dCall1 (ok_start M) hr (aC (v 5) aN) ⟨x, rfl, rfl⟩)) (fun hs H8 t8 y8 => ?_) fun hs H8 t8 y8 => ?_)
      · obtain ⟨a, c, e⟩ : ∃ a c, seqOf x = some [a, c] := by
          unfold isStart at hs
          split at hs
          · rename_i a c e; exact ⟨a, c, e⟩
          · cases hs
        refine ss1 (sSet1 6 y8 nd (dTup (aC (dIx (v 5) dI e rfl) (aC (dIx (v 5) dI e rfl) aN))) fun B9 σ9 H9 t9 y9 => ⟨B9, _, t9.kb, y9, ((mp5.on t7).on t8).on t9, ?_⟩)
        unfold chkItem
        rw [if_neg hlv', if_pos hs, e]
      · refine ss1 (sRaise Z.vw hr rfl tk y8 (aC dS (aC (v 2) (aC (v 4) aN))) rfl rfl ?_ retX)
        show chkLevel t b lv = .error (vwE "node" lv (i : Nat))
        have e1 : chkItem b lv i x = .error (vwE "node" lv (i : Nat)) := by unfold chkItem; rw [if_neg hlv', if_neg (by rw [hs]; exact Bool.false_ne_true)]
        rw [ec, hgo, eUnf, e1]
        rfl
    · obtain ⟨B8, c, kb8, y8, mp8, hc8⟩ := h8
      have hckc := item_ck hc8
      rw [hc8] at eUnf
      have hdr8 := hdr.up kb8
      obtain ⟨okl, sll⟩ := y8.lock mp8 hdr8 (i := 3) rfl
      refine ssC (w_s (ps_if pt_w pss_w pss_w) (goT (S := (· = !ordOk r.getLast? c)) (tW (wAndS (S1 := (· = decide ((0 : Int) < (i : Nat)))) (S2 := (· = !ordOk r.getLast? c)) (tGt (v 4) dI) (fun hpos => ?_) (fun hz => ?_) (fun _ _ h => h))) sll okl ?_))
      · have hpos' : 0 < i := by have := of_decide_eq_true hpos.symm; omega
        obtain ⟨q0, hq1, hq2⟩ := last_at hrl hpos'
        have hq3 : (i : Int) - 1 = ((i - 1 : Nat) : Int) := by omega
        obtain ⟨hn0, hd0⟩ := ck_depth hckc
        refine wAnd1 (tTo (tLeD hr (v 6) (dIx (v 3) (dSub (v 4) dI) rfl (by
          show atI r ((i : Int) - 1) = _
          rw [hq3]
          exact atI_nat hq2)) (ck_alike hckc (hck q0 (List.mem_of_getElem? hq2))) hn0 hd0) ?_)
        rintro _ rfl
        rw [hq1]
        rfl
      · have hi0 : i = 0 := by have := of_decide_eq_false hz.symm; omega
        rw [hi0] at hrl
        rw [List.eq_nil_of_length_eq_zero hrl]
        rfl
      · rintro bb H9 t9 o9 rfl
        obtain ⟨t10, o10, m10⟩ := unlook y8.ok mp8 t9 o9
        have y10 := y8.on t10 o10
        have kb10 := t10.kb
        have hdr10 := hdr8.up kb10
        generalize less (upd B8 p (.lst vs)) p = B10 at t10 o10 m10 y10 kb10 hdr10
        cases ho : ordOk r.getLast? c with
        | false =>
          refine iteT ?_
          refine ss1 (sRaise Z.vw hr rfl tk y10 (aC dS (aC (v 2) (aC (v 4) aN))) rfl rfl ?_ retX)
          show chkLevel t b lv = .error (vwE "order" lv (i : Nat))
          rw [ec, hgo, eUnf]
          simp only [ho]
          rfl
        | true =>
          refine iteF ?_
          refine ssN ?_
          refine ss1 (sApp 3 y10 m10 (v 6) ?_ (by have := hi.1; rw [hdr.len]; omega))
          intro w11 t11' B11 H11 ex t11 hd11 _ _ y11 m11
          rw [show t11' = c from ex] at hd11
          refine ⟨B11, eB.trans ((kb8.trans kb10).trans t11.kb), _, r ++ [c], ((y11.fo 4).fo 5).fo 6, m11, (hdr10.up t11.kb).snoc hd11, by rw [List.length_append, hrl]; rfl, fun c' hc' => ?_, ?_⟩
          · rcases List.mem_append.mp hc' with hc' | hc'
            · exact hck c' hc'
            · rw [List.mem_singleton.mp hc']
              exact hckc
          · rw [hgo, eUnf]
            simp only [ho, if_true]
            rw [List.getLast?_concat, mapE_map]
            congr 1
            funext l
            show r ++ (c :: l) = r ++ [c] ++ l
            rw [List.append_assoc]
            rfl
  · rintro B' σ' H' eB ⟨vs, r, y4, mp, hdr, hrl, hck, hgo⟩
    rw [List.drop_length] at hgo
    have hgo' : goLv b lv 0 none xs = .ok r := by rw [hgo]; show Except.ok (r ++ []) = _; rw [List.append_nil]
    refine ss1 (sRet (y4.done mp hdr 3) (dTupleS (S := (· = .tuple r)) M.tuple (v 3) (by rintro _ rfl; exact ⟨r, rfl, rfl⟩)) fun v t' B' H' tr ok' hd e' => ret v t' B' H' tr ok' hd ?_)
    show chkLevel t b lv = .ok t'
    rw [ec, hgo', e']
    rfl
end K20
set_option maxHeartbeats 4000000
namespace K20
open PySem PySem.Spec L2
open PyProof.Rows hiding St
variable {P : Program} {w : World} {K : Fg} {mg : Str → Option Value} {base : Heap}
/-! ### what is reached -/
abbrev CN := Nat × List (Nat × Int × Int)
def ceD (e : Nat × Int × Int) : PyData := .tuple [.int e.1, .tuple [.int e.2.1, .int e.2.2]]
def cnD (c : CN) : PyData := .tuple [.int c.1, .tuple (c.2.map ceD)]
def CnRef (c : CN) (q : Nat) : Prop := c.1 = q ∨ ∃ e ∈ c.2, e.1 = q
def CnOk (m : Nat) (c : CN) : Prop := c.1 < m ∧ ∀ e ∈ c.2, e.1 < m
theorem nodup_len : ∀ {m : Nat} {l : List Nat}, l.Nodup → (∀ x ∈ l, x < m) → l.length ≤ m
  | 0, [], _, _ => Nat.le_refl _
  | 0, x :: _, _, h => absurd (h x (List.mem_cons_self ..)) (Nat.not_lt_zero _)
  | m + 1, l, nd, h => by
    have ih := nodup_len (m := m) (l := l.erase m) (nd.erase m) fun x hx => by
      have h1 := h x (List.mem_of_mem_erase hx)
      have h2 : x ≠ m := fun e => by
        rw [e] at hx
        exact (List.Nodup.not_mem_erase nd) hx
      omega
    have := List.length_erase_le (l := l) (a := m)
    have h3 : l.length ≤ (l.erase m).length + 1 := by
      by_cases hm : m ∈ l
      · rw [List.length_erase_of_mem hm]; omega
      · rw [List.erase_of_not_mem hm]; omega
    omega
def fReach : List PyData → (PyData → Prop) → Prop := fun ts S => ∃ (cs : List CN) (nums : List Nat) (m : Nat), ts = [.tuple (cs.map cnD), .list (natsD nums)] ∧ (∀ c ∈ cs, CnOk m c ∧ c.2.length ≤ 1000) ∧ m ≤ 60 ∧ nums.length ≤ 60 ∧ (∀ n ∈ nums, n < cs.length) ∧
  S = fun t => ∃ bl : List Nat, t = .list (natsD bl) ∧ ∀ q, q ∈ bl ↔ ∃ n ∈ nums, ∃ c, cs[n]? = some c ∧ CnRef c q
abbrev nRe : List Str := ["nodes", "numbers", "found", "number", "parent", "heard", "near", "strength"]
theorem scRe : FnScope nRe ["nodes", "numbers"] (defScope (top 43)) := ⟨rfl, rfl, rfl, by decide +kernel, rfl, by decide +kernel, by decide +kernel⟩
abbrev reD (cs : List CN) (nums : List Nat) (u : Addr) : List Sd := [.dat (.tuple (cs.map cnD)), .dat (.list (natsD nums)), .raw (.ref u), .any, .any, .any, .any, .any]
theorem ok_reach (M : Me K mg) : Cal P w K mg base 1 "reached_below" (Fn K fReach) [] := by
  refine mkCal (M.df 43 (by decide)) scRe (fun _ _ _ _ _ _ us hl => match us, hl with | [_, _], _ => rfl) (fun vs H Q E h => ?_) fun f cdv A outer s H vs Q E hr h => ?_
  · obtain ⟨B, ts, S, ok, hv, ⟨cs, nums, m, rfl, _⟩, _⟩ := h
    exact hv.len
  obtain ⟨B, ts, S, ok, hv, ⟨cs, nums, m, rfl, hcs, hm, hnl, hnums, rfl⟩, ret⟩ := h
  have y := Sy.ini (N := nRe) ok hv
  have nd := scRe.nd
  refine ssC (sNewK 2 y ok nd fun u σ1 hu y1 m1 => ?_)
  have e1 : (natsD nums).length = nums.length := List.length_map _
  refine ssC (sFor (g := gName 3) y1.sl y1.ok (passes_of rfl) rfl (v 1) rfl (pg_name nd (by rfl) (by first | exact Or.inl rfl | exact Or.inr rfl)) fun w2 B2 H2 t2 o2 hd2 => ?_)
  refine ⟨fun i B' σ' H' => ∃ kvs : List (Key × V), Sy K none B H B' H' σ' (reD cs nums u) ∧ Mu none H B' H' u (.dK kvs) ∧ Kn K B' kvs (fun q => ∃ n ∈ nums.take i, ∃ c, cs[n]? = some c ∧ CnRef c q) (1001 * i), ?_, ?_, ?_, ?_⟩
  · exact ⟨[], y1.on t2 o2, m1.on t2, ⟨.nil, fun q => ⟨(fun h => nomatch h), (fun ⟨n, hn, _⟩ => by simp at hn)⟩, Nat.le_refl _⟩⟩
  · rintro i B' σ' H' ⟨kvs, y3, _⟩
    exact y3.same
  · rintro i x wx B' σ' H' hx eB ⟨kvs, y3, m3, kn3⟩ hdx
    obtain ⟨n, hn, rfl⟩ : ∃ n, nums[i]? = some n ∧ x = .int (n : Nat) := by
      unfold natsD at hx
      rw [List.getElem?_map] at hx
      cases e : nums[i]? with
      | none => rw [e] at hx; cases hx
      | some m => rw [e] at hx; cases hx; exact ⟨m, rfl, rfl⟩
    have hi : i < nums.length := (List.getElem?_eq_some_iff.mp hn).1
    have hnc := hnums n (List.mem_of_getElem? hn)
    obtain ⟨c, hc⟩ : ∃ c, cs[n]? = some c := ⟨_, List.getElem?_eq_getElem hnc⟩
    obtain ⟨hck, hcl⟩ := hcs c (List.mem_of_getElem? hc)
    have hcD : (cs.map cnD)[n]? = some (cnD c) := by rw [List.getElem?_map, hc]; rfl
    obtain rfl := hdx.int_inv
    have y4 := y3.put 3 (s := some (V.int (n : Int))) (x := .dat (.int (n : Int))) ⟨_, rfl, .int _⟩
    refine (show wSs _ _ _ (σ'.set 3 (some (V.int (n : Int)))) H' from ?_)
    generalize σ'.set 3 (some (V.int (n : Int))) = σ4 at y4 ⊢
    refine ssC (sUnp2 4 5 y4 rfl nd (dIx (v 0) (v 3) rfl (atI_nat hcD)) (by rintro _ rfl; exact ⟨_, _, rfl⟩) ?_)
    intro a b B5 σ5 H5 eab t5 y5
    have eab' : (.tuple [a, b] : PyData) = cnD c := eab
    cases eab'
    have m5 := m3.on t5
    refine ssC (sPutK (k0 := (c.1 : Nat)) 2 hr y5 m5 dB (v 4) (by have := kn3.le; omega) ?_)
    rintro w6 _ B6 H6 rfl t6 hd6 y6 m6
    have kn6 : Kn K B6 (putK kvs (.inl ((c.1 : Nat) : Int)) w6) (fun q => (∃ n ∈ nums.take i, ∃ c, cs[n]? = some c ∧ CnRef c q) ∨ q = c.1) (1001 * i + 1) := ((kn3.up t5.kb).up t6.kb).put hd6 (by have := hck.1; omega) (fun x => Iff.rfl)
    refine ss1 (sFor (t := .tuple (c.2.map ceD)) (xs := c.2.map ceD) (g := gTup K 2 (gCons (gName 6) (gCons (gName 7) gNil))) y6.sl y6.ok (passes_of rfl) rfl (v 5) rfl (pg_tup rfl (pgs_cons (pg_name nd (by rfl) (by first | exact Or.inl rfl | exact Or.inr rfl)) (pgs_cons (pg_name nd (by rfl) (by first | exact Or.inl rfl | exact Or.inr rfl)) pgs_nil))) fun w7 B7 H7 t7 o7 hd7 => ?_)
    refine ⟨fun j B' σ' H' => ∃ kvs : List (Key × V), Sy K none B H B' H' σ' ((reD cs nums u).set 3 (.dat (.int (n : Int)))) ∧ Mu none H B' H' u (.dK kvs) ∧ Kn K B' kvs (fun q => ((∃ n ∈ nums.take i, ∃ c, cs[n]? = some c ∧ CnRef c q) ∨ q = c.1) ∨ ∃ e ∈ c.2.take j, e.1 = q) (1001 * i + 1 + j), ?_, ?_, ?_, ?_⟩
    · exact ⟨_, ((y6.on t7 o7).fo 4).fo 5, m6.on t7, (kn6.up t7.kb).imp (fun q => ⟨fun h => h.elim id (fun ⟨e, he, _⟩ => by simp at he), .inl⟩) (Nat.le_refl _)⟩
    · rintro j B' σ' H' ⟨kvs, y3, _⟩
      exact y3.same
    · rintro j x wx B' σ' H' hx eB' ⟨kvs', y8, m8, kn8⟩ hdx'
      obtain ⟨e0, he0, rfl⟩ : ∃ e0, c.2[j]? = some e0 ∧ x = ceD e0 := by
        rw [List.getElem?_map] at hx
        cases e : c.2[j]? with
        | none => rw [e] at hx; cases hx
        | some m => rw [e] at hx; cases hx; exact ⟨m, rfl, rfl⟩
      have hj : j < c.2.length := (List.getElem?_eq_some_iff.mp he0).1
      obtain ⟨ax, vx, rfl, hsx, hdvx⟩ := hdx'.tup_inv
      obtain ⟨v1, v2, rfl, d1, d2⟩ := hdvx.two
      obtain rfl := d1.int_inv
      refine ⟨ax, _, rfl, sqT_mono y8.same hsx, rfl, _, _, rfl, _, _, rfl, rfl, ?_⟩
      have y9 : Sy K none B H B' H' ((σ'.set 6 (some (.int (e0.1 : Int)))).set 7 (some v2)) (((reD cs nums u).set 3 (.dat (.int (n : Int)))).set 6 (.dat (.int (e0.1 : Int)))) :=
        (((y8.put 6 (x := .dat (.int (e0.1 : Int))) ⟨_, rfl, .int _⟩).put 7 (x := .dat (.tuple [.int e0.2.1, .int e0.2.2])) ⟨_, rfl, d2⟩).fo 7)
      refine (show wSs _ _ _ ((σ'.set 6 (some (.int (e0.1 : Int)))).set 7 (some v2)) H' from ?_)
      generalize (σ'.set 6 (some (V.int (e0.1 : Int)))).set 7 (some v2) = σ9 at y9 ⊢
      have he1 := hck.2 e0 (List.mem_of_getElem? he0)
      refine ss1 (sPutK (k0 := (e0.1 : Nat)) 2 hr y9 m8 dB (v 6) (by have := kn8.le; omega) ?_)
      rintro w10 _ B10 H10 rfl t10 hd10 y10 m10
      refine ⟨B10, eB'.trans t10.kb, _, y10.fo 6, m10, (kn8.up t10.kb).put hd10 (by omega) (fun q => ?_)⟩
      rw [take_snoc he0]
      constructor
      · rintro (h | ⟨e, he, rfl⟩)
        · exact .inl (.inl h)
        · rcases List.mem_append.mp he with he | he
          · exact .inl (.inr ⟨e, he, rfl⟩)
          · rw [List.mem_singleton.mp he]; exact .inr rfl
      · rintro ((h | ⟨e, he, rfl⟩) | rfl)
        · exact .inl h
        · exact .inr ⟨e, List.mem_append_left _ he, rfl⟩
        · exact .inr ⟨e0, List.mem_append_right _ (List.mem_singleton.mpr rfl), rfl⟩
    · rintro B' σ' H' eB' ⟨kvs', y8, m8, kn8⟩
      rw [List.length_map] at kn8
      refine ⟨B', ((eB.trans t5.kb).trans (t6.kb.trans t7.kb)).trans eB', kvs', y8.fo 3, m8, kn8.imp (fun q => ?_) (by omega)⟩
      rw [List.take_length, take_snoc hn]
      constructor
      · rintro ⟨n', hn', c', hc', h⟩
        rcases List.mem_append.mp hn' with hn' | hn'
        · exact .inl (.inl ⟨n', hn', c', hc', h⟩)
        · rw [List.mem_singleton.mp hn', hc] at hc'
          cases hc'
          rcases h with h | h
          · exact .inl (.inr h.symm)
          · exact .inr h
      · rintro ((⟨n', hn', h⟩ | h) | h)
        · exact ⟨n', List.mem_append_left _ hn', h⟩
        · exact ⟨n, List.mem_append_right _ (List.mem_singleton.mpr rfl), c, hc, .inl h.symm⟩
        · exact ⟨n, List.mem_append_right _ (List.mem_singleton.mpr rfl), c, hc, .inr h⟩
  · rintro B' σ' H' eB ⟨kvs, y3, m3, kn3⟩
    rw [e1, List.take_length] at kn3
    have y4 := y3.look m3
    -- fewer than 64 keys
    have few : ∀ ks : List Int, kvs.map (·.1) = ks.map Sum.inl → ks.length < 64 := by
      intro ks hks
      obtain ⟨ns, h1, h2, h3⟩ := keys_nat kn3.en (m := 100) fun k t h => h
      have h4 : ∀ q ∈ ns, q < m := fun q hq => by
        have hin : (.inl (q : Int) : Key) ∈ kvs.map (·.1) := by rw [h1]; exact List.mem_map_of_mem (List.mem_map_of_mem hq)
        obtain ⟨n, hn, c, hc, hr⟩ := (kn3.ks q).mp hin
        have := (hcs c (List.mem_of_getElem? hc)).1
        rcases hr with rfl | ⟨e, he, rfl⟩
        · exact this.1
        · exact this.2 e he
      have h5 := nodup_len h2 h4
      have h6 := congrArg List.length h1
      have h7 := congrArg List.length hks
      rw [List.length_map] at h6 h7
      rw [List.length_map, List.length_map] at h6
      rw [List.length_map] at h7
      omega
    obtain ⟨ks, hks, _, hys⟩ := kn3.sorted
    refine ss1 (sRet y4 (dSortDI (S := fun t => ∃ bl : List Nat, t = .list (natsD bl) ∧ ∀ q, q ∈ bl ↔ ∃ n ∈ nums, ∃ c, cs[n]? = some c ∧ CnRef c q) 2 rfl M.sorted (.inl upd_same) hks (few ks hks) (fun ys h1 h2 => ?_)) ret)
    obtain ⟨bl, e1, e2, e3⟩ := hys ys h1 h2
    exact ⟨bl, by rw [e1], e3⟩
end K20
set_option maxHeartbeats 4000000
/-! Plain: what check_levels answers. -/
namespace K20
open PySem PySem.Spec L2
open PyProof.Rows hiding St
def lenT : PyData → Nat
  | .tuple cs => cs.length
  | _ => 0
def goLvs : Nat → Nat → List PyData → Except Er (List PyData)
  | _, _, [] => .ok []
  | lv, b, t :: ts => match chkLevel t (b : Int) (lv : Int) with
    | .error e => .error e
    | .ok c => mapE (c :: ·) (goLvs (lv + 1) (lenT c) ts)
/-- the numbers that a node tells of -/
def refN : PyData → List Int
  | .tuple [.int i, .tuple es] => i :: es.map fun e => match e with
    | .tuple (.int j :: _) => j
    | _ => -1
  | _ => []
def refT : PyData → List Int
  | .tuple ns => ns.flatMap refN
  | _ => []
def looseIn (c c' : PyData) : Option Nat := (List.range (lenT c)).find? fun n => !decide (((n : Nat) : Int) ∈ refT c')
def loose : Nat → List PyData → Option Er
  | lv, c :: c' :: r => match looseIn c c' with
    | some n => some (vwE "loose" lv n)
    | none => loose (lv + 1) (c' :: r)
  | _, _ => none
def topLen (cs : List PyData) : Nat := match cs.getLast? with
  | some c => lenT c
  | none => 0
def chkLevels (t : PyData) : Except Er PyData := match seqOf t with
  | none => .error (vwE "levels" 0 0)
  | some xs => if 1 ≤ xs.length ∧ xs.length ≤ 37 then (match goLvs 0 0 xs with
      | .error e => .error e
      | .ok cs => if 1 < topLen cs then .error (vwE "top" ((cs.length : Int) - 1) 0) else (match loose 0 cs with
        | some e => .error e
        | none => .ok (.tuple cs))) else .error (vwE "levels" 0 0)
theorem scan_len {b : Int} : ∀ {xs : List PyData} {least : Int}, scanH b least xs = true → (xs.length : Int) ≤ b - least ∨ xs = []
  | [], _, _ => .inr rfl
  | x :: xs, least, h => by
    unfold scanH at h
    split at h
    · rename_i i s e
      by_cases c : least ≤ i ∧ i ≤ b - 1
      · rw [if_pos c] at h
        left
        rcases scan_len h with h2 | rfl
        · rw [List.length_cons]
          omega
        · show ((1 : Nat) : Int) ≤ _
          omega
      · rw [if_neg c] at h; cases h
    · cases h
theorem strs_cn {b lv nd : Int} : ∀ {xs : List PyData} {least : Int} {r : List PyData}, 0 ≤ least → scanH b least xs = true → strsH lv nd xs = .ok r → ∃ es : List (Nat × Int × Int), r = es.map ceD ∧ es.length = xs.length ∧ ∀ e ∈ es, e.1 < b.toNat
  | [], _, r, _, _, h => by cases h; exact ⟨[], rfl, rfl, fun e he => nomatch he⟩
  | x :: xs, least, r, hl, hs, h => by
    unfold scanH at hs
    unfold strsH at h
    split at hs
    · rename_i i s ex
      rw [ex] at h
      by_cases c : least ≤ i ∧ i ≤ b - 1
      · rw [if_pos c] at hs
        simp only at h
        cases hc : chkStr s with
        | error e => rw [hc] at h; cases h
        | ok s' =>
          rw [hc] at h
          simp only at h
          cases hr : strsH lv nd xs with
          | error e => rw [hr] at h; cases h
          | ok r' =>
            rw [hr] at h
            cases h
            obtain ⟨p, q, rfl⟩ := chkStr_ok hc
            obtain ⟨es, rfl, h1, h2⟩ := strs_cn (show 0 ≤ i + 1 by omega) hs hr
            refine ⟨(i.toNat, p, q) :: es, ?_, by rw [List.length_cons, h1, List.length_cons], fun e he => ?_⟩
            · rw [List.map_cons]
              have : ceD (i.toNat, p, q) = .tuple [.int i, .tuple [.int p, .int q]] := by
                unfold ceD
                rw [show ((i.toNat : Nat) : Int) = i by omega]
              rw [this]
            · rcases List.mem_cons.mp he with rfl | he
              · show i.toNat < b.toNat
                omega
              · exact h2 e he
      · rw [if_neg c] at hs; cases hs
    · cases hs
theorem node_cn {t c : PyData} {b lv nd : Int} (h : chkNode t b lv nd = .ok c) : ∃ x : CN, c = cnD x ∧ CnOk b.toNat x ∧ x.2.length ≤ b.toNat := by
  unfold chkNode at h
  split at h
  · rename_i a hd e
    by_cases hw : isWhole a 0 (b - 1) = true
    · rw [if_pos hw] at h
      obtain ⟨i, rfl⟩ : ∃ i, a = .int i := by cases a <;> first | exact ⟨_, rfl⟩ | cases hw
      obtain ⟨w1, w2⟩ := Bool.and_eq_true_iff.mp (show (decide (0 ≤ i) && decide (i ≤ b - 1)) = true from hw)
      have w1 := of_decide_eq_true w1
      have w2 := of_decide_eq_true w2
      cases hh : chkHeard hd b lv nd with
      | error e => rw [hh] at h; cases h
      | ok r =>
        rw [hh] at h
        cases h
        unfold chkHeard at hh
        cases hs : seqOf hd with
        | none => rw [hs] at hh; cases hh
        | some xs =>
          rw [hs] at hh
          simp only at hh
          by_cases hsc : scanH b 0 xs = true
          · rw [if_pos hsc] at hh
            cases hst : strsH lv nd xs with
            | error e => rw [hst] at hh; cases hh
            | ok es =>
              rw [hst] at hh
              cases hh
              obtain ⟨es, rfl, h1, h2⟩ := strs_cn (Int.le_refl 0) hsc hst
              refine ⟨(i.toNat, es), ?_, ⟨by show i.toNat < b.toNat; omega, h2⟩, ?_⟩
              · unfold cnD
                rw [show (((i.toNat : Nat) : Int)) = i by omega]
              · show es.length ≤ _
                rcases scan_len hsc with h3 | rfl
                · omega
                · rw [h1]; exact Nat.zero_le _
          · rw [if_neg hsc] at hh; cases hh
    · rw [if_neg hw] at h; cases h
  · cases h
theorem goLv_all {b lv : Int} {Q : PyData → Prop} : ∀ {xs : List PyData} {n : Nat} {p : Option PyData} {r : List PyData}, (∀ n x c, chkItem b lv n x = .ok c → Q c) → goLv b lv n p xs = .ok r → r.length = xs.length ∧ ∀ c ∈ r, Q c
  | [], _, _, r, _, h => by cases h; exact ⟨rfl, fun c hc => nomatch hc⟩
  | x :: xs, n, p, r, hq, h => by
    unfold goLv at h
    cases hi : chkItem b lv n x with
    | error e => rw [hi] at h; cases h
    | ok c =>
      rw [hi] at h
      simp only at h
      cases ho : ordOk p c with
      | false => rw [ho] at h; cases h
      | true =>
        rw [ho] at h
        simp only [if_true] at h
        cases hg : goLv b lv (n + 1) (some c) xs with
        | error e => rw [hg] at h; cases h
        | ok r' =>
          rw [hg] at h
          cases h
          obtain ⟨h1, h2⟩ := goLv_all hq hg
          refine ⟨congrArg Nat.succ h1, fun c' hc' => ?_⟩
          rcases List.mem_cons.mp hc' with rfl | hc'
          · exact hq n x _ hi
          · exact h2 c' hc'
theorem level_ok {t c : PyData} {b lv : Int} (h : chkLevel t b lv = .ok c) : ∃ cs, c = .tuple cs ∧ 1 ≤ cs.length ∧ cs.length ≤ 12 ∧ (0 < lv → ∃ ns : List CN, cs = ns.map cnD ∧ ∀ x ∈ ns, CnOk b.toNat x ∧ x.2.length ≤ b.toNat) := by
  unfold chkLevel at h
  cases hs : seqOf t with
  | none => rw [hs] at h; cases h
  | some xs =>
    rw [hs] at h
    simp only at h
    by_cases hl : 1 ≤ xs.length ∧ xs.length ≤ 12
    · rw [if_pos hl] at h
      cases hg : goLv b lv 0 none xs with
      | error e => rw [hg] at h; cases h
      | ok r =>
        rw [hg] at h
        cases h
        have h1 := (goLv_all (Q := fun _ => True) (fun _ _ _ _ => trivial) hg).1
        refine ⟨r, rfl, by omega, by omega, fun hlv => ?_⟩
        have h2 := (goLv_all (Q := fun c => ∃ x : CN, (CnOk b.toNat x ∧ x.2.length ≤ b.toNat) ∧ c = cnD x) (fun n x c hc => by
          unfold chkItem at hc
          rw [if_pos hlv] at hc
          obtain ⟨x, e1, e2, e3⟩ := node_cn hc
          exact ⟨x, ⟨e2, e3⟩, e1⟩) hg).2
        obtain ⟨ns, e, hn⟩ := unmap h2
        exact ⟨ns, e, hn⟩
    · rw [if_neg hl] at h; cases h
theorem refT_cn {cs : List CN} {q : Nat} : (q : Int) ∈ refT (.tuple (cs.map cnD)) ↔ ∃ c ∈ cs, CnRef c q := by
  show (q : Int) ∈ (cs.map cnD).flatMap refN ↔ _
  rw [List.mem_flatMap]
  constructor
  · rintro ⟨_, hx, hq⟩
    obtain ⟨c, hc, rfl⟩ := List.mem_map.mp hx
    refine ⟨c, hc, ?_⟩
    have hq' : (q : Int) ∈ ((c.1 : Nat) : Int) :: (c.2.map ceD).map (fun e => match e with
      | .tuple (.int j :: _) => j
      | _ => -1) := hq
    rcases List.mem_cons.mp hq' with h | h
    · left; omega
    · obtain ⟨_, he, e2⟩ := List.mem_map.mp h
      obtain ⟨e, he', rfl⟩ := List.mem_map.mp he
      right
      refine ⟨e, he', ?_⟩
      have : ((e.1 : Nat) : Int) = (q : Int) := e2
      omega
  · rintro ⟨c, hc, h⟩
    refine ⟨cnD c, List.mem_map_of_mem hc, ?_⟩
    show (q : Int) ∈ ((c.1 : Nat) : Int) :: (c.2.map ceD).map (fun e => match e with
      | .tuple (.int j :: _) => j
      | _ => -1)
    rcases h with rfl | ⟨e, he, rfl⟩
    · exact List.mem_cons_self ..
    · exact List.mem_cons_of_mem _ (List.mem_map.mpr ⟨ceD e, List.mem_map_of_mem he, rfl⟩)
end K20
set_option maxHeartbeats 4000000
/-! check_levels. -/
namespace K20
open PySem PySem.Spec L2
open PyProof.Rows hiding St
section
variable {X : Cx} {d : Dr} {ds : List Sd} {B0 H0 B H : Hp} {σ : St} {S Sa Sb S' : PyData → Prop} {D : Ends} {st : Stmt} {rest a b body : List Stmt} {e e1 e2 c iter tg elt : Expr} {es : List Expr} {pos pa pb pc p3 p' pt : Pos} {p : Addr} {x x' : Str} {vs : List V} {ts : List PyData}
/-- x.append(e), the value got now -/
theorem sAppA (i : Nat) (y : Sy X.K d B0 H0 B H σ ds) (m : Mu d H0 B H p (.lst vs)) (h : AtE X d e σ B H S) (k : ∀ w t B1 H1, S t → Tr d B H B1 H1 → Dp X.K B1 w t → Sy X.K d B0 H0 B1 (upd H1 p (.lst (vs ++ [w]))) σ ds → Mu d H0 B1 (upd H1 p (.lst (vs ++ [w]))) p (.lst (vs ++ [w])) → D.nx σ (upd H1 p (.lst (vs ++ [w]))))
    (hl : vs.length < 100000) (hi : ds[i]? = some (.raw (.ref p)) := by rfl) (hN : X.N[i]? = some x := by rfl) (hv : Vis X.env.scope x := by first | exact Or.inl rfl | exact Or.inr (Or.inl rfl) | exact Or.inr (Or.inr rfl)) (hd : (x == ("__debug__" : Str)) = false := by decide)
    (hcd : (x == ("__classdict__" : Str)) = false := by decide) (hbase : attributeBase (.Name x pa) "append" X.env (eval (.Name x pa) X.env) = eval (.Name x pa) X.env := by rfl)
    (hfew : ((backTo pc (starEach [e] X.env)).all (fun x => !x.1) && (backToKw pc (keywordEach [] X.env)).all (fun x => x.1.isSome) && decide (([e] : List Expr).length + ([] : List Keyword).length + (if ([] : List Keyword).isEmpty then 0 else 1) < 30)) = true := by rfl)
    (hline : (pb.endLine == pc.line) = true := by rfl) (hst : starEach [e] X.env = (false, eval e X.env) :: starEach [] X.env := by rfl) (hpl : (backTo pc (starEach [] X.env)).any (·.1) = false := by rfl)
    (hs : swapsWith (.Call (.Attribute (.Name x pa) "append" pb) [e] [] pc) none pos.line X.env = pure false := by rfl) :
    wS X (.Expr (.Call (.Attribute (.Name x pa) "append" pb) [e] [] pc) pos) D σ H := by
  refine w_s (ps_expr (pe_bm PySem.F.plainAttrs_list PySem.F.slot_list_append PySem.F.type_list_append mt_append (pe_var hN hv hd hcd) (pa_cons pe_w pa_nil hst) hbase hfew hline hst hpl) hs) ?_
  refine ⟨_, y.sl.raw hi, .inl ⟨rfl, _, SqL.of m.at_⟩, h _ fun w t B1 H1 tr ok hd1 hs1 => ?_⟩
  have m1 := m.on tr
  exact ⟨p, vs, w, rfl, rfl, m1.at_, Nat.lt_of_lt_of_le hl (by decide), k w t B1 H1 hs1 tr hd1 ((y.on tr ok).mut m1) m1.set⟩
/-- a number got while one's own list stands still -/
theorem atLockI (i : Nat) {n : Int} (y : Sy X.K d B0 H0 B H σ ds) (m : Mu d H0 B H p (.lst vs)) (hv : DpAll X.K B vs ts) (h : DE X d e (ds.set i (.dat (.list ts))) (upd B p (.lst vs)) (· = .int n)) (hi : ds[i]? = some (.raw (.ref p)) := by rfl) : AtE X d e σ B H (· = .int n) := fun Q r => by
  obtain ⟨okl, sll⟩ := y.lock m hv hi
  refine goE h sll okl fun v t B' H' tr' ok' hd' hs' => ?_
  have e' : t = .int n := hs'
  subst e'
  obtain rfl := hd'.int_inv
  obtain ⟨t2, ok2, m2⟩ := unlook y.ok m tr' ok'
  exact r (.int n) (.int n) _ _ t2 ok2 (.int _) rfl
/-- a not in xs, whole numbers -/
theorem dNotInN {q : Nat} {l : List Nat} (ha : DE X d e ds B (· = .int q)) (hb : DE X d e2 ds B (· = .list (natsD l))) (hm : behindInMarks .NotIn e2 = false := by rfl) :
    DT X d (.Compare e [.NotIn] [e2] pos) ds B (· = !decide (q ∈ l)) :=
  cmpT op_notIn_seq ha hb (fun B1 H x y ta tb e0 ok g1 g2 h1 h2 Q r => by
    subst h1 h2
    obtain rfl := g1.int_inv
    obtain ⟨p, vs, rfl, hs, hv⟩ := g2.lst_inv
    have e3 : vs = natsV l := by
      clear hb hs r g2
      induction l generalizing vs with
      | nil => cases hv; rfl
      | cons a l ih =>
        cases hv with
        | cons h1 h2 =>
          obtain rfl := h1.int_inv
          rw [ih _ h2]
          rfl
    subst e3
    refine ⟨p, _, rfl, .inl (ok.kh.seq hs), rfl, ?_, r _ _ B1 H .refl ok ?_ rfl⟩
    · rw [List.all_eq_true]
      intro z hz
      obtain ⟨_, _, rfl⟩ := List.mem_map.mp hz
      rfl
    · have e4 : inV (.int q) (natsV l) = decide (q ∈ l) := by
        clear hb hv hs g2 r
        induction l with
        | nil => rfl
        | cons a l ih =>
          show (eqV (.int (a : Nat)) (.int (q : Nat)) || inV _ (natsV l)) = _
          rw [ih]
          show (decide ((a : Int) = q) || _) = _
          by_cases c : q = a
          · subst c; simp
          · have : ¬ (a : Int) = q := fun z => c (by omega)
            simp [c, this]
      show Dp _ _ (.bl (!inV _ _)) _
      rw [e4]
      exact .bl _) hm
end
theorem goLvs_at : ∀ {ts : List PyData} {lv b : Nat} {cs : List PyData}, goLvs lv b ts = .ok cs → cs.length = ts.length ∧ ∀ (k : Nat) c, cs[k]? = some c → ∃ t b', chkLevel t ((b' : Nat) : Int) ((lv + k : Nat) : Int) = .ok c ∧ ∀ k', k = k' + 1 → ∃ c0, cs[k']? = some c0 ∧ b' = lenT c0
  | [], _, _, cs, h => by cases h; exact ⟨rfl, fun k c hk => by simp at hk⟩
  | t :: ts, lv, b, cs, h => by
    unfold goLvs at h
    cases hc : chkLevel t (b : Int) (lv : Int) with
    | error e => rw [hc] at h; cases h
    | ok c =>
      rw [hc] at h
      simp only at h
      cases hr : goLvs (lv + 1) (lenT c) ts with
      | error e => rw [hr] at h; cases h
      | ok r =>
        rw [hr] at h
        cases h
        obtain ⟨h1, h2⟩ := goLvs_at hr
        refine ⟨congrArg Nat.succ h1, fun k c' hk => ?_⟩
        cases k with
        | zero =>
          simp at hk
          subst hk
          exact ⟨t, b, hc, fun k' e => nomatch e⟩
        | succ k =>
          rw [List.getElem?_cons_succ] at hk
          cases k with
          | zero =>
            cases ts with
            | nil => cases hr; simp at hk
            | cons t2 ts =>
              unfold goLvs at hr
              cases hc2 : chkLevel t2 ((lenT c : Nat) : Int) ((lv + 1 : Nat) : Int) with
              | error e => rw [hc2] at hr; cases hr
              | ok c2 =>
                rw [hc2] at hr
                simp only at hr
                cases hr2 : goLvs (lv + 1 + 1) (lenT c2) ts with
                | error e => rw [hr2] at hr; cases hr
                | ok r2 =>
                  rw [hr2] at hr
                  cases hr
                  simp at hk
                  subst hk
                  exact ⟨t2, lenT c, hc2, fun k' e => by
                    obtain rfl : k' = 0 := by omega
                    exact ⟨c, rfl, rfl⟩⟩
          | succ k =>
            obtain ⟨t', b', e1, e2⟩ := h2 (k + 1) c' hk
            refine ⟨t', b', by rw [show lv + (k + 1 + 1) = lv + 1 + (k + 1) by omega]; exact e1, fun k' e => ?_⟩
            obtain rfl : k' = k + 1 := by omega
            obtain ⟨c0, e3, e4⟩ := e2 k rfl
            exact ⟨c0, by rw [List.getElem?_cons_succ]; exact e3, e4⟩
theorem goLvs_lv {ts cs : List PyData} (h : goLvs 0 0 ts = .ok cs) : cs.length = ts.length ∧ (∀ c ∈ cs, ∃ l, c = .tuple l ∧ 1 ≤ l.length ∧ l.length ≤ 12) ∧ ∀ (k : Nat) c', cs[k + 1]? = some c' → ∃ c, cs[k]? = some c ∧ ∃ ns : List CN, c' = .tuple (ns.map cnD) ∧ ∀ x ∈ ns, CnOk (lenT c) x ∧ x.2.length ≤ lenT c := by
  obtain ⟨h1, h2⟩ := goLvs_at h
  refine ⟨h1, fun c hc => ?_, fun k c' hk => ?_⟩
  · obtain ⟨k, hk⟩ := List.getElem?_of_mem hc
    obtain ⟨t, b', e1, _⟩ := h2 k c hk
    obtain ⟨l, a1, a2, a3, _⟩ := level_ok e1
    exact ⟨l, a1, a2, a3⟩
  · obtain ⟨t, b', e1, e2⟩ := h2 _ c' hk
    obtain ⟨c0, e3, rfl⟩ := e2 k rfl
    obtain ⟨l, rfl, _, _, a4⟩ := level_ok e1
    obtain ⟨ns, rfl, hn⟩ := a4 (by omega)
    exact ⟨c0, e3, ns, rfl, hn⟩
theorem topLen_snoc (r : List PyData) (c : PyData) : topLen (r ++ [c]) = lenT c := by unfold topLen; rw [List.getLast?_concat]
def eLevels : List PyData → Except Er PyData
  | [t] => chkLevels t
  | _ => .error ("", [])
def pLevels : List PyData → Prop := fun ts => ∃ t, ts = [t] ∧ Sm4 t
end K20
set_option maxHeartbeats 4000000
/-! check_levels: the walk. -/
namespace K20
open PySem PySem.Spec L2
open PyProof.Rows hiding St
variable {P : Program} {w : World} {K : Fg} {mg : Str → Option Value} {base : Heap}
abbrev nLs : List Str := ["levels", "found", "below", "level", "things", "above", "reached", "node"]
theorem scLs : FnScope nLs ["levels"] (defScope (top 44)) := ⟨rfl, rfl, rfl, by decide +kernel, rfl, by decide +kernel, by decide +kernel⟩
theorem find_none {n : Nat} {f : Nat → Bool} (h : ∀ m < n, f m = false) : (List.range n).find? f = none := by
  rw [List.find?_eq_none]
  intro x hx
  rw [h x (List.mem_range.mp hx)]
  exact Bool.false_ne_true
theorem find_at {n j : Nat} {f : Nat → Bool} (hj : j < n) (h : ∀ m < j, f m = false) (hf : f j = true) : (List.range n).find? f = some j := by
  induction n with
  | zero => omega
  | succ n ih =>
    rw [List.range_succ, List.find?_append]
    by_cases c : j < n
    · rw [ih c]; rfl
    · obtain rfl : j = n := by omega
      rw [find_none h]
      show List.find? f [j] = _
      rw [List.find?_cons_of_pos hf]
theorem ok_levelsC {xc : Str → Addr} (M : Me K mg) (Z : Xs P w K mg base xc) : Cal P w K mg base 9 "check_levels" (FnE xc K pLevels eLevels) [] := by
  refine mkX (M.df 44 (by decide)) scLs (fun _ _ _ _ _ _ us hl => match us, hl with | [_], _ => rfl) (fun vs H Q E h => ?_) fun f cdv A outer s H vs Q E hr h tk => ?_
  · obtain ⟨B, ts, S, T, ok, hv, ⟨⟨t, rfl, _⟩, _⟩, _⟩ := h
    exact hv.len
  obtain ⟨B, ts, S, T, ok, hv, ⟨⟨t, rfl, hsm⟩, rfl, rfl⟩, ret, retX⟩ := h
  have y := Sy.ini (N := nLs) ok hv
  have nd := scLs.nd
  have hbound : ∀ xs, seqOf t = some xs → ((!(decide ((1 : Int) ≤ (xs.length : Nat)) && decide (((xs.length : Nat) : Int) ≤ 37))) = true ↔ ¬ (1 ≤ xs.length ∧ xs.length ≤ 37)) := fun xs _ => by
    constructor
    · intro h z
      have h1 : decide ((1 : Int) ≤ (xs.length : Nat)) = true := decide_eq_true (by omega)
      have h2 : decide (((xs.length : Nat) : Int) ≤ 37) = true := decide_eq_true (by omega)
      rw [h1, h2] at h
      cases h
    · intro h
      by_cases h1 : 1 ≤ xs.length
      · have h2 : decide (((xs.length : Nat) : Int) ≤ 37) = false := decide_eq_false (by omega)
        rw [h2, Bool.and_false]
        rfl
      · have h2 : decide ((1 : Int) ≤ (xs.length : Nat)) = false := decide_eq_false (by omega)
        rw [h2]
        rfl
  refine cWhen (St' := fun c => if c then chkLevels t = .error (vwE "levels" 0 0) else ∃ xs, seqOf t = some xs ∧ 1 ≤ xs.length ∧ xs.length ≤ 37) y (tW (wOrS (S1 := (· = !(seqOf t).isSome)) (S2 := fun c => if c then chkLevels t = .error (vwE "levels" 0 0) else ∃ xs, seqOf t = some xs ∧ 1 ≤ xs.length ∧ xs.length ≤ 37) (tNot' (dVal (dSeq M.isinstance M.list M.tuple (v 0)))) (fun hc => ?_) (fun hc => ?_) (fun _ _ h => h))) (fun hc H1 t1 y1 => ?_) fun hc H1 t1 y1 => ?_
  · cases e : seqOf t with
    | none => rw [e] at hc; cases hc
    | some xs =>
      refine wOr1 (tTo (tNot' (tChainLe dI (dLen (n := xs.length) M.len (v 0) (lenD_seq e)) (dGI M.cMOST_LEVELS))) ?_)
      rintro _ rfl
      have hb := hbound xs e
      cases hx : (!(decide ((1 : Int) ≤ (xs.length : Nat)) && decide (((xs.length : Nat) : Int) ≤ 37))) with
      | true =>
        refine iteT ?_
        unfold chkLevels
        rw [e]
        exact if_neg (hb.mp hx)
      | false =>
        refine iteF ⟨xs, rfl, ?_⟩
        have : ¬ ¬ (1 ≤ xs.length ∧ xs.length ≤ 37) := fun z => by rw [hb.mpr z] at hx; cases hx
        omega
  · cases e : seqOf t with
    | none =>
      refine iteT ?_
      unfold chkLevels
      rw [e]
    | some xs => rw [e] at hc; cases hc
  · exact ss1 (sRaise Z.vw hr rfl tk y1 (aC dS (aC dI (aC dI aN))) rfl rfl hc retX)
  obtain ⟨xs, hx, hl1, hl37⟩ := (show ∃ xs, seqOf t = some xs ∧ 1 ≤ xs.length ∧ xs.length ≤ 37 from hc)
  have ec : chkLevels t = (match goLvs 0 0 xs with
      | .error e => .error e
      | .ok cs => if 1 < topLen cs then .error (vwE "top" ((cs.length : Int) - 1) 0) else (match loose 0 cs with
        | some e => .error e
        | none => .ok (.tuple cs))) := by unfold chkLevels; rw [hx]; exact if_pos ⟨hl1, hl37⟩
  refine ssC (sNew 1 y1 ok nd fun p σ2 hp y2 m2 => ?_)
  refine ssC (sSet1 2 y2 nd dI fun B2 σ2 H2 t2 y2 => ?_)
  have m2 := m2.on t2
  refine ssCut (fun σ' H' => ∃ (B' : Hp) (vs : List V) (r : List PyData), Sy K none B H B' H' σ' [.dat t, .raw (.ref p), .dat (.int (topLen r : Nat)), .any, .any, .any, .any, .any] ∧ Mu none H B' H' p (.lst vs) ∧ DpAll K B' vs r ∧ goLvs 0 0 xs = .ok r) (sForEn (g := gTup K 2 (gCons (gName 3) (gCons (gName 4) gNil))) y2.sl y2.ok (passes_of rfl) rfl M.enumerate (v 0) hx (pg_tup rfl (pgs_cons (pg_name nd (by rfl) (by first | exact Or.inl rfl | exact Or.inr rfl)) (pgs_cons (pg_name nd (by rfl) (by first | exact Or.inl rfl | exact Or.inr rfl)) pgs_nil))) fun B3 H3 t3 o3 => ?_) fun σ3 H3 h3 => ?_
  · refine ⟨fun i B' σ' H' => ∃ (vs : List V) (r : List PyData), Sy K none B H B' H' σ' [.dat t, .raw (.ref p), .dat (.int (topLen r : Nat)), .any, .any, .any, .any, .any] ∧ Mu none H B' H' p (.lst vs) ∧ DpAll K B' vs r ∧ r.length = i ∧ goLvs 0 0 xs = mapE (r ++ ·) (goLvs i (topLen r) (xs.drop i)), ?_, ?_, ?_, ?_⟩
    · refine ⟨[], [], y2.on t3 o3, m2.on t3, .nil, rfl, ?_⟩
      show _ = mapE _ (goLvs 0 0 xs)
      cases goLvs 0 0 xs <;> rfl
    · rintro i B' σ' H' ⟨vs, r, y4, _⟩
      exact y4.ok
    · rintro i x wx B' σ' H' q hxi eB ⟨vs, r, y4, mp, hdr, hrl, hgo⟩ hdx hq
      have hi := List.getElem?_eq_some_iff.mp hxi
      rw [List.drop_eq_getElem_cons hi.1, hi.2] at hgo
      have y5 : Sy K none B H B' (upd H' q (.tup [.int (i : Nat), wx])) σ' [.dat t, .raw (.ref p), .dat (.int (topLen r : Nat)), .any, .any, .any, .any, .any] := ⟨y4.tr.trans (.lay0 hq), y4.ok.lay0 hq, y4.sl⟩
      have pq : p ≠ q := fun z => by rw [← z, mp.at_] at hq; cases hq
      have mp5 := mp.other (o := .tup [.int (i : Nat), wx]) pq
      refine ⟨q, _, rfl, SqT.of upd_same, rfl, _, _, rfl, _, _, rfl, rfl, ?_⟩
      have y6 : Sy K none B H B' (upd H' q (.tup [.int (i : Nat), wx])) ((σ'.set 3 (some (.int (i : Nat)))).set 4 (some wx)) [.dat t, .raw (.ref p), .dat (.int (topLen r : Nat)), .dat (.int (i : Nat)), .dat x, .any, .any, .any] :=
        (y5.put 3 (x := .dat (.int (i : Nat))) ⟨_, rfl, .int _⟩).put 4 (x := .dat x) ⟨_, rfl, hdx⟩
      refine (show wSs _ _ _ ((σ'.set 3 (some (.int (i : Nat)))).set 4 (some wx)) (upd H' q (.tup [.int (i : Nat), wx])) from ?_)
      generalize (σ'.set 3 (some (V.int (i : Nat)))).set 4 (some wx) = σ6 at y6 ⊢
      generalize upd H' q (.tup [.int (i : Nat), wx]) = H6 at y6 mp5 ⊢
      have smx := (hsm xs hx).2 x (List.mem_of_getElem? hxi)
      have eUnf : goLvs i (topLen r) (x :: xs.drop (i + 1)) = (match chkLevel x (topLen r : Nat) (i : Nat) with
        | .error e => .error e
        | .ok c => mapE (c :: ·) (goLvs (i + 1) (lenT c) (xs.drop (i + 1)))) := rfl
      have hvl := hdr.len
      refine ssC (sAppA (S := fun c => chkLevel x (topLen r : Nat) (i : Nat) = .ok c) 1 y6 mp5 ((ltCall (S := fun c => chkLevel x (topLen r : Nat) (i : Nat) = .ok c) (ok_levelC M Z) hr tk (ltC (ltE (v 4) y6.sl) (ltC (ltE (v 2) y6.sl) (ltC (ltE (v 3) y6.sl) ltN))) (retX.after y6.tr) ?_).now y6.ok) (fun wc c B8 H8 hc8 t8 hd8 y8 m8 => ?_) (by have := hi.1; omega))
      · intro ts0 hts0
        obtain rfl := argsEq (l := [x, .int (topLen r : Nat), .int (i : Nat)]) hts0
        refine ⟨_, _, ⟨⟨x, _, _, rfl, smx⟩, rfl, rfl⟩, fun c hc => hc, fun er her => ?_⟩
        show chkLevels t = .error er
        have her' : chkLevel x (topLen r : Nat) (i : Nat) = .error er := her
        rw [ec, hgo, eUnf, her']
        rfl
      have hdr8 : DpAll K B8 (vs ++ [wc]) (r ++ [c]) := (hdr.up t8.kb).snoc hd8
      have hgo2 : goLvs 0 0 xs = mapE (r ++ [c] ++ ·) (goLvs (i + 1) (topLen (r ++ [c])) (xs.drop (i + 1))) := by
        rw [hgo, eUnf, hc8, topLen_snoc]
        simp only
        rw [mapE_map]
        congr 1
        funext l
        show r ++ (c :: l) = r ++ [c] ++ l
        rw [List.append_assoc]
        rfl
      obtain ⟨l, ecl, _⟩ := level_ok hc8
      have hat : atI (r ++ [c]) (i : Nat) = some c := atI_nat (by rw [← hrl]; exact List.getElem?_concat_length)
      refine ss1 (sSetA 2 y8 nd (atLockI 1 y8 m8 hdr8 (n := (topLen (r ++ [c]) : Nat)) (dLen M.len (dIx (v 1) (v 3) rfl hat) (by rw [topLen_snoc, ecl]; rfl))) fun t9 B9 σ9 H9 e9 tr9 y9 => ?_)
      have e9' : t9 = .int (topLen (r ++ [c]) : Nat) := e9
      subst e9'
      exact ⟨B9, eB.trans (t8.kb.trans tr9.kb), _, r ++ [c], (y9.fo 3).fo 4, m8.on tr9, hdr8.up tr9.kb, by rw [List.length_append, hrl]; rfl, hgo2⟩
    · rintro B' σ' H' eB ⟨vs, r, y4, mp, hdr, hrl, hgo⟩
      rw [List.drop_length] at hgo
      refine ⟨B', vs, r, y4, mp, hdr, ?_⟩
      rw [hgo]
      show Except.ok (r ++ []) = _
      rw [List.append_nil]
  obtain ⟨B3, vs, cs, y3, m3, hdr, hgo⟩ := h3
  have y4 := y3.done m3 hdr 1
  generalize upd B3 p (.lst vs) = B4 at y4
  rw [hgo] at ec
  simp only at ec
  obtain ⟨hcl, hct, hcn⟩ := goLvs_lv hgo
  have hcl1 : 1 ≤ cs.length := by omega
  refine cWhen1 y4 (tGt (v 2) dI) (fun hc H5 t5 y5 => ?_) fun hc H5 t5 y5 => ?_
  · have hc' : 1 < topLen cs := by have := of_decide_eq_true hc; omega
    refine ss1 (sRaise Z.vw hr rfl tk y5 (aC dS (aC (dSub (dLen M.len (v 1)) dI) (aC dI aN))) rfl rfl ?_ retX)
    show chkLevels t = .error (vwE "top" ((cs.length : Int) - 1) 0)
    rw [ec, if_pos hc']
  have hc' : ¬ 1 < topLen cs := by have := of_decide_eq_false hc; omega
  rw [if_neg hc'] at ec
  refine ssC (sForR (g := gName 3) y5.sl y5.ok (passes_of rfl) rfl M.range (dSub (dLen M.len (v 1)) dI) (by omega) (by omega) (pg_name nd (by rfl) (by first | exact Or.inl rfl | exact Or.inr rfl)) fun B6 H6 t6 o6 => ?_)
  refine ⟨fun i σ' H' => ∃ B', Sy K none B H B' H' σ' [.dat t, .dat (.list cs), .dat (.int (topLen cs : Nat)), .any, .any, .any, .any, .any] ∧ loose 0 cs = loose i (cs.drop i), ?_, ?_, ?_⟩
  · exact ⟨B6, y5.on t6 o6, rfl⟩
  · rintro i σ' H' hi ⟨B', y7, hlo⟩
    have hi1 : i + 1 < cs.length := by omega
    have y8 := y7.put 3 (x := .dat (.int (i : Nat))) ⟨_, rfl, .int _⟩
    refine (show wSs _ _ _ (σ'.set 3 (some (.int (i : Nat)))) H' from ?_)
    generalize σ'.set 3 (some (V.int (i : Nat))) = σ8 at y8 ⊢
    have e1 : cs[i + 1]? = some cs[i + 1] := List.getElem?_eq_getElem hi1
    obtain ⟨c, e0, ns, e2, hns⟩ := hcn i _ e1
    rw [e2] at e1
    have ec0 : cs.drop i = c :: PyData.tuple (ns.map cnD) :: cs.drop (i + 2) := by
      obtain ⟨g0, g1⟩ := List.getElem?_eq_some_iff.mp e0
      obtain ⟨g2, g3⟩ := List.getElem?_eq_some_iff.mp e1
      rw [List.drop_eq_getElem_cons g0, g1, List.drop_eq_getElem_cons g2, g3]
    have ec1 : cs.drop (i + 1) = PyData.tuple (ns.map cnD) :: cs.drop (i + 2) := by
      obtain ⟨g2, g3⟩ := List.getElem?_eq_some_iff.mp e1
      rw [List.drop_eq_getElem_cons g2, g3]
    obtain ⟨l, ecl, hl1', hl12⟩ := hct c (List.mem_of_getElem? e0)
    obtain ⟨l', ecl', hlb, hlb12⟩ := hct _ (List.mem_of_getElem? e1)
    have hnl : ns.length ≤ 12 := by
      cases ecl'
      rw [List.length_map] at hlb12
      exact hlb12
    refine ssC (sSet1 5 y8 nd (dIx (v 1) (dAdd (v 3) dI) rfl (atI_nat e1)) fun B9 σ9 H9 t9 y9 => ?_)
    refine ssC (sSet 6 y9 nd (dCall1 (S := fun t => ∃ bl : List Nat, t = .list (natsD bl) ∧ ∀ q, q ∈ bl ↔ ∃ n ∈ List.range ns.length, ∃ c, ns[n]? = some c ∧ CnRef c q) (ok_reach M) hr (aC (v 5) (aC (dListR rfl M.list M.range (dLen (n := ns.length) M.len (v 5) (by show some (ns.map cnD).length = _; rw [List.length_map])) (by omega)) aN)) ?_) fun tt B10 σ10 H10 hbl t10 y10 => ?_)
    · refine ⟨ns, List.range ns.length, lenT c, rfl, fun x hx => ?_, ?_, ?_, fun n hn => List.mem_range.mp hn, rfl⟩
      · have h1 := hns x hx
        have : lenT c ≤ 12 := by rw [ecl]; exact hl12
        exact ⟨h1.1, by omega⟩
      · rw [ecl]; show l.length ≤ 60; omega
      · rw [List.length_range]; omega
    obtain ⟨bl, rfl, hbl⟩ := hbl
    have hbl' : ∀ q : Nat, q ∈ bl ↔ (q : Int) ∈ refT (.tuple (ns.map cnD)) := fun q => by
      rw [hbl q, refT_cn]
      constructor
      · rintro ⟨n, _, c, h1, h2⟩
        exact ⟨c, List.mem_of_getElem? h1, h2⟩
      · rintro ⟨c, h1, h2⟩
        obtain ⟨n, hn⟩ := List.getElem?_of_mem h1
        exact ⟨n, List.mem_range.mpr (List.getElem?_eq_some_iff.mp hn).1, c, hn, h2⟩
    have elc : lenT c = l.length := by rw [ecl]; rfl
    refine ss1 (sForR (n := (lenT c : Nat)) (g := gName 7) y10.sl y10.ok (passes_of rfl) rfl M.range (dLen (n := lenT c) M.len (dIx (v 1) (v 3) rfl (atI_nat e0)) (by rw [ecl]; rfl)) (by omega) (by omega) (pg_name nd (by rfl) (by first | exact Or.inl rfl | exact Or.inr rfl)) fun B11 H11 t11 o11 => ?_)
    refine ⟨fun j σ' H' => ∃ B', Sy K none B H B' H' σ' [.dat t, .dat (.list cs), .dat (.int (topLen cs : Nat)), .dat (.int (i : Nat)), .any, .dat (.tuple (ns.map cnD)), .dat (.list (natsD bl)), .any] ∧ ∀ m < j, (!decide (((m : Nat) : Int) ∈ refT (.tuple (ns.map cnD)))) = false, ?_, ?_, ?_⟩
    · exact ⟨B11, y10.on t11 o11, fun m hm => absurd hm (Nat.not_lt_zero m)⟩
    · rintro j σ' H' hj ⟨B', y12, hall⟩
      have y13 := y12.put 7 (x := .dat (.int (j : Nat))) ⟨_, rfl, .int _⟩
      refine (show wSs _ _ _ (σ'.set 7 (some (.int (j : Nat)))) H' from ?_)
      generalize σ'.set 7 (some (V.int (j : Nat))) = σ13 at y13 ⊢
      refine ss1 (sIf1 y13 (dNotInN (v 7) (v 6)) (fun hn H14 t14 y14 => ?_) fun hn H14 t14 y14 => ?_)
      · refine ss1 (sRaise Z.vw hr rfl tk y14 (aC dS (aC (v 3) (aC (v 7) aN))) rfl rfl ?_ retX)
        show chkLevels t = .error (vwE "loose" (i : Nat) (j : Nat))
        have hf : looseIn c (.tuple (ns.map cnD)) = some j := find_at (by omega) hall (by
          rw [show decide (((j : Nat) : Int) ∈ refT (.tuple (ns.map cnD))) = decide (j ∈ bl) from decide_eq_decide.mpr (hbl' j).symm]
          exact hn)
        have e5 : loose 0 cs = some (vwE "loose" (i : Nat) (j : Nat)) := by
          rw [hlo, ec0]
          unfold loose
          rw [hf]
        rw [ec, e5]
      · refine ssN ⟨_, y14.fo 7, fun m hm => ?_⟩
        by_cases c2 : m < j
        · exact hall m c2
        · obtain rfl : m = j := by omega
          rw [show decide (((m : Nat) : Int) ∈ refT (.tuple (ns.map cnD))) = decide (m ∈ bl) from decide_eq_decide.mpr (hbl' m).symm]
          exact hn
    · rintro σ' H' ⟨B', y12, hall⟩
      refine ⟨B', ((y12.fo 3).fo 5).fo 6, ?_⟩
      have hf : looseIn c (.tuple (ns.map cnD)) = none := find_none fun m hm => hall m (by omega)
      rw [hlo, ec0, ec1]
      show loose i (c :: PyData.tuple (ns.map cnD) :: _) = _
      rw [loose, hf]
  · rintro σ' H' ⟨B', y7, hlo⟩
    have e5 : loose 0 cs = none := by
      rw [hlo]
      have h6 : (((cs.length : Nat) : Int) - 1).toNat = cs.length - 1 := by omega
      rw [h6, List.drop_eq_getElem_cons (show cs.length - 1 < cs.length by omega), show cs.length - 1 + 1 = cs.length by omega, List.drop_length]
      rfl
    refine ss1 (sRet y7 (dTupleS (S := (· = .tuple cs)) M.tuple (v 1) (by rintro _ rfl; exact ⟨cs, rfl, rfl⟩)) fun v t' B' H' tr ok' hd e' => ret v t' B' H' tr ok' hd ?_)
    show chkLevels t = .ok t'
    rw [ec, e5, e']
end K20
set_option maxHeartbeats 4000000
/-! Layer: instances; calls that take or give them. -/
namespace K20
open PySem PySem.Spec L2
open PyProof.Rows hiding St
/-- evaluated from here on, whatever it gives -/
def GL (X : Cx) (d : Dr) (e : Expr) (σ : St) (B H : Hp) (R : Hp → V → Prop) : Prop := ∀ B1 H1, Tr d B H B1 H1 → Ok d B1 H1 → ∀ Q : VK, (∀ v B' H', Tr d B1 H1 B' H' → Ok d B' H' → R B' v → Q v H') → wE X e σ H1 Q
def GLA (X : Cx) (d : Dr) (es : List Expr) (σ : St) (B H : Hp) (R : Hp → List V → Prop) : Prop := ∀ B1 H1, Tr d B H B1 H1 → Ok d B1 H1 → ∀ Q : List V → Hp → Prop, (∀ vs B' H', Tr d B1 H1 B' H' → Ok d B' H' → R B' vs → Q vs H') → wA X es σ H1 Q
/-- such a thing stays such a thing -/
def Up (R : Hp → V → Prop) : Prop := ∀ B B' v, Same B B' → R B v → R B' v
def GArgs : List (Hp → V → Prop) → Hp → List V → Prop
  | [], _, vs => vs = []
  | R :: Rs, B, vs => ∃ v ws, vs = v :: ws ∧ R B v ∧ GArgs Rs B ws
/-- data, known -/
def DaR (K : Fg) (S : PyData → Prop) : Hp → V → Prop := fun B v => ∃ t, Dp K B v t ∧ S t
theorem DaR.upR {K : Fg} {S : PyData → Prop} : Up (DaR K S) := fun B B' v e ⟨t, h, s⟩ => ⟨t, h.up e, s⟩
/-- an instance with these attributes -/
def InD (K : Fg) (C : Addr) (fl : List (Str × PyData)) : Hp → V → Prop := fun B v => ∃ a dx fs, v = .ref a ∧ B a = some (.ins C dx fs) ∧ ∀ f t, fl.lookup f = some t → ∃ u, fs.lookup f = some u ∧ Dp K B u t
theorem InD.upR {K : Fg} {C : Addr} {fl : List (Str × PyData)} : Up (InD K C fl) := fun B B' v e ⟨a, dx, fs, h1, h2, h3⟩ => ⟨a, dx, fs, h1, e _ _ h2, fun f t hf => let ⟨u, g1, g2⟩ := h3 f t hf; ⟨u, g1, g2.up e⟩⟩
/-- a promise about anything -/
def FnG (xc : Str → Addr) {α : Type} (pre : α → Hp → List V → Prop) (post : α → Hp → V → Prop) (ex : α → Er → Prop) : Sp := fun vs H Q E => ∃ (a : α) (B : Hp), Ok none B H ∧ pre a B vs ∧ (∀ v B' H', Tr none B H B' H' → Ok none B' H' → post a B' v → Q v H') ∧ RetX xc none B H (ex a) E
/-- .. of an own __init__ -/
def FnN (xc : Str → Addr) (K : Fg) (C : Addr) (F : List PyData → (List (Str × PyData) → Prop) → (Er → Prop) → Prop) : Sp := fun vs H Q E => ∃ B H1 p dx ws ts S T, H1 p = none ∧ H1 dx = none ∧ dx ≠ p ∧ H = upd (upd H1 dx (.own p)) p (.ins C dx []) ∧ vs = .ref p :: ws ∧ Ok none B H1 ∧ DpAll K B ws ts ∧ F ts S T ∧
  (∀ fl B' H', Tr none B H1 B' H' → Ok none B' H' → InD K C fl B' (.ref p) → S fl → Q .non H') ∧ RetX xc none B H1 T E
/-- what the top leaves of a class -/
structure KlD (K : Fg) (mg : Str → Option Value) (C : Addr) (x q : Str) (st : Stmt) (fl : List Str) (dvs : List V) : Prop where
  gC : mg x = some (.ref C)
  cls : Cls K C
  no : ∀ f ∈ fl, NoAttr K C f
  ex : ∃ (fI : Addr) (fd : FuncData), Mk K C fI ∧ FunD K "__init__" q (defArgs st) (defBody st) (defScope st) dvs [] fI fd
/-- a class that may be called -/
structure Kl (P : Program) (w : World) (K : Fg) (mg : Str → Option Value) (base : Heap) (C : Addr) (x : Str) (k : Nat) (sp : Sp) : Prop where
  gC : mg x = some (.ref C)
  ex : ∃ (fI : Addr) (fd : FuncData) (ps : List Str), Mk K C fI ∧ FnOk P w K mg base (L2.CX P w) k fI fd ps sp ∧ Binds K fd ps []
section
variable {X : Cx} {d : Dr} {ds : List Sd} {B0 H0 B H : Hp} {σ : St} {S Sa Sb S' : PyData → Prop} {R R' : Hp → V → Prop} {D : Ends} {st : Stmt} {rest a b body : List Stmt} {e e1 e2 c iter tg elt : Expr} {es : List Expr} {pos pa pb pc p3 p p' pt : Pos} {x x' f : Str}
theorem LtE.g (h : LtE X d e σ B H S) : GL X d e σ B H (DaR X.K S) := fun B1 H1 tr ok Q r => h B1 H1 tr ok Q fun v t B' H' tr' ok' hd hs => r v B' H' tr' ok' ⟨t, hd, hs⟩
theorem dG (h : DE X d e ds B S) (sl : Sl X.K B σ ds) : GL X d e σ B H (DaR X.K S) := LtE.g (ltE h sl)
theorem GL.to (h : GL X d e σ B H R) (k : ∀ B v, R B v → R' B v) : GL X d e σ B H R' := fun B1 H1 tr ok Q r => h B1 H1 tr ok Q fun v B' H' tr' ok' hr => r v B' H' tr' ok' (k _ _ hr)
/-- something of the def's -/
theorem gV (i : Nat) {u : V} (sl : Sl X.K B σ ds) (hu : R B u) (up : Up R) (e : ds[i]? = some (.raw u) := by rfl) (hN : X.N[i]? = some x := by rfl) (hv : Vis X.env.scope x := by first | exact Or.inl rfl | exact Or.inr (Or.inl rfl) | exact Or.inr (Or.inr rfl)) (hd : (x == ("__debug__" : Str)) = false := by decide)
    (hcd : (x == ("__classdict__" : Str)) = false := by decide) : GL X d (.Name x p) σ B H R := fun B1 H1 tr ok Q r =>
  w_e (pe_var hN hv hd hcd) ⟨u, sl.raw e, r u B1 H1 .refl ok (up _ _ _ tr.kb hu)⟩
theorem glN : GLA X d [] σ B H (GArgs []) := fun B1 H1 tr ok Q r => w_a pa_nil (r [] B1 H1 .refl ok rfl)
theorem glC {l : List (Hp → V → Prop)} (h : GL X d e σ B H R) (up : Up R) (hr : GLA X d es σ B H (GArgs l)) (hs : starEach (e :: es) X.env = (false, eval e X.env) :: starEach es X.env := by rfl) : GLA X d (e :: es) σ B H (GArgs (R :: l)) := fun B1 H1 tr ok Q r =>
  w_a (pa_cons pe_w pa_w hs) (h B1 H1 tr ok _ fun v B2 H2 tr2 ok2 hd2 => hr B2 H2 (tr.trans tr2) ok2 _ fun vs B3 H3 tr3 ok3 hs3 => r (v :: vs) B3 H3 (tr2.trans tr3) ok3 ⟨v, vs, rfl, up _ _ _ tr3.kb hd2, hs3⟩)
theorem glCall {α : Type} {pre : α → Hp → List V → Prop} {post : α → Hp → V → Prop} {ex : α → Er → Prop} {xc : Str → Addr} {E : XK} {T : Er → Prop} {l : List (Hp → V → Prop)} {k j : Nat} (c : Cal X.prog X.w X.K X.mg X.base k x (FnG xc pre post ex) []) (hr : Room j X.A) (tk : Takes X (fun cls d _ H => E cls d H)) (ha : GLA X none (e :: es) σ B H (GArgs l)) (r0 : RetX xc none B H T E)
    (hF : ∀ B1 vs, Same B B1 → GArgs l B1 vs → ∃ a, pre a B1 vs ∧ (∀ B2 v, Same B1 B2 → post a B2 v → R B2 v) ∧ ∀ er, ex a er → T er) (hk : k ≤ j := by decide) (hg : Gl X x := by rfl)
    (hdb : (x == ("__debug__" : Str)) = false := by decide) (he : starEach (e :: es) X.env = (false, eval e X.env) :: starEach es X.env := by rfl) (hpl : (backTo pos (starEach es X.env)).any (·.1) = false := by rfl) : GL X none (.Call (.Name x p) (e :: es) [] pos) σ B H R := by
  obtain ⟨f, fd, ps, ds', F', hm, kp, b, dv⟩ := c.ex
  intro B1 H1 tr ok Q r
  refine w_e (pe_call F' (hr.mono hk) hg hm kp b dv (E := E) (fun pins σ H s e s' I c => tk e s' (XE.of_call I (fun _ _ _ h => h) c)) pa_w hdb he hpl) (ha B1 H1 tr ok _ fun vs B2 H2 tr2 ok2 hs => ?_)
  obtain ⟨a, h1, h2, h3⟩ := hF B2 vs (tr.kb.trans tr2.kb) hs
  refine ⟨a, B2, ok2, by rw [List.append_nil]; exact h1, fun v B' H' tr' ok' hp => r v B' H' (tr2.trans tr') ok' (h2 B' v tr'.kb hp), (r0.after (tr.trans tr2)).imp h3⟩
/-- C(..) -/
theorem glMake {C : Addr} {F : List PyData → (List (Str × PyData) → Prop) → (Er → Prop) → Prop} {xc : Str → Addr} {E : XK} {T : Er → Prop} {l : List (PyData → Prop)} {k j : Nat} (c : Kl X.prog X.w X.K X.mg X.base C x k (FnN xc X.K C F)) (hr : Room j X.A) (tk : Takes X (fun cls d _ H => E cls d H)) (ha : LtA X none (e :: es) σ B H (Args l)) (r0 : RetX xc none B H T E)
    (hF : ∀ ts, Args l ts → ∃ S' T', F ts S' T' ∧ (∀ B2 v fl, S' fl → InD X.K C fl B2 v → R B2 v) ∧ ∀ er, T' er → T er) (hk : k + 1 ≤ j := by decide) (hg : Gl X x := by rfl)
    (hdb : (x == ("__debug__" : Str)) = false := by decide) (he : starEach (e :: es) X.env = (false, eval e X.env) :: starEach es X.env := by rfl) (hpl : (backTo pos (starEach es X.env)).any (·.1) = false := by rfl) : GL X none (.Call (.Name x p) (e :: es) [] pos) σ B H R := by
  obtain ⟨fI, fd, ps, M, F', b⟩ := c.ex
  intro B1 H1 tr ok Q r
  refine w_e (pe_make (ds := []) (dvs := []) M F' (hr.mono hk) hg c.gC b .nil (E := E) (fun pins σ H s e s' I c => tk e s' (XE.of_call I (fun _ _ _ h => h) c)) pa_w hdb he hpl) (ha B1 H1 tr ok _ fun vs ts B2 H2 tr2 ok2 hd hs => ?_)
  obtain ⟨S', T', h1, h2, h3⟩ := hF ts hs
  intro q dx hq hdx hne
  refine ⟨B2, H2, q, dx, vs, ts, S', T', hq, hdx, hne, rfl, by rw [List.append_nil], ok2, hd, h1, fun fl B' H' tr' ok' hi hS => ⟨rfl, r (.ref q) B' H' (tr2.trans tr') ok' (h2 _ _ fl hS hi)⟩, (r0.after (tr.trans tr2)).imp h3⟩
theorem sSetG (i : Nat) (y : Sy X.K d B0 H0 B H σ ds) (nd : X.N.Nodup) (h : GL X d e σ B H R) (k : ∀ v B1 σ1 H1, R B1 v → Tr d B H B1 H1 → Sy X.K d B0 H0 B1 H1 σ1 (ds.set i (.raw v)) → D.nx σ1 H1)
    (hi : X.N[i]? = some x := by rfl) (hx : Loc X.env.scope x := by first | exact Or.inl rfl | exact Or.inr rfl) (hs : swapsWith e (some (.Name x pb)) pos.line X.env = pure false := by rfl) (hf : X.fn x = true ∨ X.env.scope.names.lookup x = some .local := by first | exact .inl rfl | exact .inr rfl) :
    wS X (.Assign [.Name x pb] e pos) D σ H :=
  w_s (ps_set nd hi hx pe_w hs hf) (h B H .refl y.ok _ fun v B1 H1 tr ok hr => k v B1 _ H1 hr tr (Sy.put (x := .raw v) (y.on tr ok) i rfl))
theorem sRetG (y : Sy X.K d B0 H0 B H σ ds) (h : GL X d e σ B H R) (k : ∀ v B' H', Tr d B0 H0 B' H' → Ok d B' H' → R B' v → D.rt v H') : wS X (.Return (some e) pos) D σ H :=
  w_s (ps_ret pe_w) (h B H .refl y.ok _ fun v B1 H1 tr ok hr => k v B1 H1 (y.tr.trans tr) ok hr)
/-- x.f -/
theorem dFld {C : Addr} {u : V} {t : PyData} {fl : List (Str × PyData)} (i : Nat) (hI : InD X.K C fl B u) (c : Cls X.K C) (n : NoAttr X.K C f) (hf : fl.lookup f = some t := by rfl) (hi : ds[i]? = some (.raw u) := by rfl) (hN : X.N[i]? = some x := by rfl)
    (hv : Vis X.env.scope x := by first | exact Or.inl rfl | exact Or.inr (Or.inl rfl) | exact Or.inr (Or.inr rfl)) (hd : (x == ("__debug__" : Str)) = false := by decide) (hcd : (x == ("__classdict__" : Str)) = false := by decide)
    (hb : attributeBase (.Name x pa) f X.env (eval (.Name x pa) X.env) = eval (.Name x pa) X.env := by rfl) : DE X d (.Attribute (.Name x pa) f pos) ds B (· = t) :=
  de_of (pe_fld (pe_var hN hv hd hcd) hb) fun B1 σ H e sl ok Q r => by
    obtain ⟨a, dx, fs, rfl, h2, h3⟩ := hI
    obtain ⟨w, g1, g2⟩ := h3 f t hf
    exact ⟨_, sl.raw hi, a, C, dx, fs, w, rfl, ok.kh _ _ (e _ _ h2), c, n, g1, r w t B1 H .refl ok (g2.up e) rfl⟩
/-- self.f = e -/
theorem sFldS {C dx q : Addr} {fs : List (Str × V)} (i : Nat) (y : Sy X.K d B0 H0 B H σ ds) (m : Mu d H0 B H q (.ins C dx fs)) (h : AtE X d e σ B H S) (c : Cls X.K C) (n : NoAttr X.K C f) (hl : fs.length < 1000)
    (k : ∀ w t B1 H1, S t → Tr d B H B1 H1 → Dp X.K B1 w t → Sy X.K d B0 H0 B1 (upd H1 q (.ins C dx (putF f w fs))) σ ds → Mu d H0 B1 (upd H1 q (.ins C dx (putF f w fs))) q (.ins C dx (putF f w fs)) → D.nx σ (upd H1 q (.ins C dx (putF f w fs))))
    (hi : ds[i]? = some (.raw (.ref q)) := by rfl) (hN : X.N[i]? = some x := by rfl) (hv : Vis X.env.scope x := by first | exact Or.inl rfl | exact Or.inr (Or.inl rfl) | exact Or.inr (Or.inr rfl)) (hd : (x == ("__debug__" : Str)) = false := by decide) (hcd : (x == ("__classdict__" : Str)) = false := by decide)
    (hs : swapsWith e (some (.Attribute (.Name x pa) f pb)) pos.line X.env = pure false := by rfl) : wS X (.Assign [.Attribute (.Name x pa) f pb] e pos) D σ H := by
  refine w_s (ps_fld (pe_var hN hv hd hcd) pe_w hs) (h _ fun w t B1 H1 tr ok hd1 hs1 => ?_)
  have m1 := m.on tr
  exact ⟨_, y.sl.raw hi, q, C, dx, fs, rfl, m1.at_, c, n, hl, k w t B1 H1 hs1 tr hd1 ((y.on tr ok).mut m1) m1.set⟩
/-- a number got while one's own object stands still -/
theorem atLockO {q : Addr} {o : HO} {n : Int} (y : Sy X.K d B0 H0 B H σ ds) (m : Mu d H0 B H q o) (h : DE X d e ds (upd B q o) (· = .int n)) : AtE X d e σ B H (· = .int n) := fun Q r => by
  refine goE h (y.sl.up (same_upd m.hid)) (y.ok.freeze m) fun v t B' H' tr' ok' hd' hs' => ?_
  have e' : t = .int n := hs'
  subst e'
  obtain rfl := hd'.int_inv
  obtain ⟨t2, ok2, m2⟩ := unlook y.ok m tr' ok'
  exact r (.int n) (.int n) _ _ t2 ok2 (.int _) rfl
end
end K20
set_option maxHeartbeats 4000000
/-! The classes View and Facts. -/
namespace K20
open PySem PySem.Spec L2
open PyProof.Rows hiding St
variable {P : Program} {w : World} {K : Fg} {mg : Str → Option Value} {base : Heap}
theorem Sy.iniO {B H : Hp} {a dx C : Addr} {vs : List V} {ts : List PyData} {N : List Str} (ok : Ok none B H) (h1 : H a = none) (h2 : H dx = none) (hne : dx ≠ a) (hv : DpAll K B vs ts) : Sy K none B H B (upd (upd H dx (.own a)) a (.ins C dx [])) (L2.start N (.ref a :: vs)) (.raw (.ref a) :: (ts.map .dat ++ List.replicate (N.length - ts.length - 1) .any)) ∧ Mu none H B (upd (upd H dx (.own a)) a (.ins C dx [])) a (.ins C dx []) := by
  have h3 : upd H dx (.own a) a = none := by rw [upd_ne (Ne.symm hne)]; exact h1
  have t1 : Tr none B H B (upd H dx (.own a)) := .lay0 h2
  have o1 : Ok none B (upd H dx (.own a)) := ok.lay0 h2
  refine ⟨⟨t1.trans (.lay0 h3), o1.lay0 h3, ⟨fun i x hx => ?_⟩⟩, ⟨h1, ok.free h1, upd_same, fun _ _ e => nomatch e⟩⟩
  cases i with
  | zero =>
    cases hx
    exact ⟨some (.ref a), rfl, rfl⟩
  | succ i =>
    have hx' : (ts.map Sd.dat ++ List.replicate (N.length - ts.length - 1) .any)[i]? = some x := by simpa using hx
    have y := (Sy.ini (K := K) (N := List.replicate (N.length - 1) ("" : Str)) ok hv).sl.at_ i x
    rw [List.length_replicate] at y
    have e : N.length - 1 - ts.length = N.length - ts.length - 1 := by omega
    rw [e] at y
    obtain ⟨s, h1, h2⟩ := y hx'
    refine ⟨s, ?_, h2⟩
    unfold L2.start at h1 ⊢
    rw [List.length_replicate] at h1
    rw [List.map_cons, List.cons_append, List.getElem?_cons_succ]
    have e2 : N.length - (V.ref a :: vs).length = N.length - 1 - vs.length := by rw [List.length_cons]; omega
    rw [e2]
    exact h1
/-- an own __init__ -/
theorem mkI {xc : Str → Addr} {C : Addr} {x q : Str} {st : Stmt} {fl N ps : List Str} {k : Nat} {F : List PyData → (List (Str × PyData) → Prop) → (Er → Prop) → Prop} (D : KlD K mg C x q st fl []) (S : FnScope N ps (defScope st))
    (hb : ∀ (kV doc pm : Value) (an : Option Addr) (cdv ct : Value) (us : List Value), us.length = ps.length → bindArgs (PySem.W.fnOf "__init__" q (defArgs st) (defBody st) (defScope st) .none kV doc pm an cdv ct) ⟨us, []⟩ = pure (ps.zip us))
    (len : ∀ ts S T, F ts S T → ts.length + 1 = ps.length)
    (hbody : ∀ (f : Addr) (cdv : Value) (A : Around) (outer : List Env) (s : Shared) (H : Hp) (vs : List V) (Q : VK) (E : XK), Room k (A.deeper (envOfC q (defScope st) s.heap.objs.size f cdv)) → FnN xc K C F vs H Q E → Takes (cxOf (L2.CX P w) P w K mg base N q (defScope st) f cdv A outer s H E) (fun cls d _ H => E cls d H) →
      wSs (cxOf (L2.CX P w) P w K mg base N q (defScope st) f cdv A outer s H E) (defBody st) { nx := fun _ H' => Q .non H', rt := Q } (L2.start N vs) H) : Kl P w K mg base C x (k + 1) (FnN xc K C F) := by
  obtain ⟨fI, fd, M, G⟩ := D.ex
  refine ⟨D.gC, fI, fd, ps, M, G.ok S (fun vs H Q E h => ?_) fun cdv A outer s H vs Q E hr h => ⟨_, pss_w, hbody fI cdv A outer s H vs Q E hr h (takes_of rfl rfl rfl rfl)⟩, G.bindsN hb⟩
  obtain ⟨B, H1, p, dx, ws, ts, S', T', _, _, _, _, rfl, _, hv, hF, _⟩ := h
  rw [List.length_cons, hv.len]
  exact len _ _ _ hF
/-- .. with defaults, all arguments given -/
theorem mkID {xc : Str → Addr} {C : Addr} {x q : Str} {st : Stmt} {fl N ps : List Str} {dvs : List V} {k : Nat} {F : List PyData → (List (Str × PyData) → Prop) → (Er → Prop) → Prop} (D : KlD K mg C x q st fl dvs) (S : FnScope N ps (defScope st)) (hd : dvs ≠ []) (n : Nat) (hn : n = ps.length)
    (hb : ∀ (T : Addr) (kV doc pm : Value) (an : Option Addr) (cdv ct : Value) (us its : List Value), us.length = n → its.length = dvs.length →
      ∃ k, bindArgs (PySem.W.fnOf "__init__" q (defArgs st) (defBody st) (defScope st) (.ref T) kV doc pm an cdv ct) ⟨us, []⟩ = seqItems? (.ref T) >>= k ∧ k (some its.toArray) = pure (ps.zip (us ++ its.drop dvs.length)))
    (len : ∀ ts S T, F ts S T → ts.length + 1 = ps.length)
    (hbody : ∀ (f : Addr) (cdv : Value) (A : Around) (outer : List Env) (s : Shared) (H : Hp) (vs : List V) (Q : VK) (E : XK), Room k (A.deeper (envOfC q (defScope st) s.heap.objs.size f cdv)) → FnN xc K C F vs H Q E → Takes (cxOf (L2.CX P w) P w K mg base N q (defScope st) f cdv A outer s H E) (fun cls d _ H => E cls d H) →
      wSs (cxOf (L2.CX P w) P w K mg base N q (defScope st) f cdv A outer s H E) (defBody st) { nx := fun _ H' => Q .non H', rt := Q } (L2.start N vs) H) : Kl P w K mg base C x (k + 1) (FnN xc K C F) := by
  obtain ⟨fI, fd, M, G⟩ := D.ex
  obtain ⟨ds, hv, b⟩ := G.binds1 n dvs.length hd (by omega) hb
  rw [List.drop_length] at hv
  cases hv
  refine ⟨D.gC, fI, fd, ps, M, G.ok S (fun vs H Q E h => ?_) fun cdv A outer s H vs Q E hr h => ⟨_, pss_w, hbody fI cdv A outer s H vs Q E hr h (takes_of rfl rfl rfl rfl)⟩, b⟩
  obtain ⟨B, H1, p, dx, ws, ts, S', T', _, _, _, _, rfl, _, hv, hF, _⟩ := h
  rw [List.length_cons, hv.len]
  exact len _ _ _ hF
/-! ### View -/
def flV (t : PyData) : List (Str × PyData) := [("levels", t), ("round", .int ((lenT t : Int) - 1))]
def fVw (ts : List PyData) (S : List (Str × PyData) → Prop) (T : Er → Prop) : Prop := ∃ t, ts = [t] ∧ Sm4 t ∧ S = (fun fl => ∃ c, chkLevels t = .ok c ∧ fl = flV c) ∧ T = fun er => chkLevels t = .error er
abbrev VwD (K : Fg) (mg : Str → Option Value) (CV : Addr) : Prop := KlD K mg CV "View" "View.__init__" (mtop 45 0) ["levels", "round"] []
theorem scVw : FnScope ["self", "levels"] ["self", "levels"] (defScope (mtop 45 0)) := ⟨rfl, rfl, rfl, by decide +kernel, rfl, by decide +kernel, by decide +kernel⟩
theorem chkLevels_tup {t c : PyData} (h : chkLevels t = .ok c) : ∃ cs, c = .tuple cs := by
  unfold chkLevels at h
  split at h
  · cases h
  · split at h
    · split at h
      · cases h
      · split at h
        · cases h
        · split at h
          · cases h
          · cases h; exact ⟨_, rfl⟩
    · cases h
theorem ok_View {xc : Str → Addr} {CV : Addr} (M : Me K mg) (Z : Xs P w K mg base xc) (D : VwD K mg CV) : Kl P w K mg base CV "View" 10 (FnN xc K CV fVw) := by
  refine mkI D scVw (fun _ _ _ _ _ _ us hl => match us, hl with | [_, _], _ => rfl) (by rintro ts S T ⟨t, rfl, _⟩; rfl) fun f cdv A outer s H vs Q E hr h tk => ?_
  obtain ⟨B, H1, p, dx, ws, ts, S, T, h1, h2, hne, rfl, rfl, ok, hv, ⟨t, rfl, hsm, rfl, rfl⟩, ret, retX⟩ := h
  obtain ⟨y, m⟩ := Sy.iniO (K := K) (C := CV) (N := ["self", "levels"]) ok h1 h2 hne hv
  refine ssC (sFldS (S := fun c => chkLevels t = .ok c) 0 y m ((ltCall (S := fun c => chkLevels t = .ok c) (ok_levelsC M Z) hr tk (ltC (ltE (v 1) y.sl) ltN) (retX.after y.tr) ?_).now y.ok) D.cls (D.no _ (by simp)) (by decide) fun w1 c B2 H2 hc t2 hd2 y2 m2 => ?_)
  · intro ts0 hts0
    obtain rfl := argsEq (l := [t]) hts0
    exact ⟨_, _, ⟨⟨t, rfl, hsm⟩, rfl, rfl⟩, fun c hc => hc, fun er her => her⟩
  obtain ⟨cs, rfl⟩ := chkLevels_tup hc
  have I2 : InD K CV [("levels", .tuple cs)] (upd B2 p (.ins CV dx (putF "levels" w1 []))) (.ref p) := ⟨p, dx, _, rfl, upd_same, fun f t hf => by
    by_cases e : f = "levels"
    · subst e
      cases hf
      exact ⟨w1, rfl, hd2.up (same_upd m2.hid)⟩
    · rw [List.lookup_cons] at hf
      have : (f == ("levels" : Str)) = false := beq_eq_false_iff_ne.mpr e
      rw [this] at hf
      cases hf⟩
  refine ss1 (sFldS 0 y2 m2 (atLockO y2 m2 (dSub (dLen (n := cs.length) M.len (dFld 0 I2 D.cls (D.no _ (by simp)))) dI)) D.cls (D.no _ (by simp)) (show (putF "levels" w1 []).length + 1 ≤ 1000 from Nat.le_of_ble_eq_true rfl) fun w2 t2' B3 H3 he3 t3 hd3 y3 m3 => ?_)
  have e3 : t2' = .int ((cs.length : Int) - 1) := he3
  subst e3
  refine ret (flV (.tuple cs)) _ _ (y3.tr.freeze m3) (y3.ok.freeze m3) ⟨p, dx, _, rfl, upd_same, fun f t hf => ?_⟩ ⟨_, hc, rfl⟩
  have e3 := same_upd (o := .ins CV dx (putF "round" w2 (putF "levels" w1 []))) m3.hid
  unfold flV at hf
  rw [List.lookup_cons] at hf
  by_cases e : f = "levels"
  · subst e
    cases hf
    exact ⟨w1, rfl, (hd2.up t3.kb).up e3⟩
  · have : (f == ("levels" : Str)) = false := beq_eq_false_iff_ne.mpr e
    rw [this] at hf
    simp only at hf
    rw [List.lookup_cons] at hf
    by_cases e' : f = "round"
    · subst e'
      cases hf
      exact ⟨w2, rfl, hd3.up e3⟩
    · have : (f == ("round" : Str)) = false := beq_eq_false_iff_ne.mpr e'
      rw [this] at hf
      cases hf
end K20
set_option maxHeartbeats 4000000
/-! The class Facts. -/
namespace K20
open PySem PySem.Spec L2
open PyProof.Rows hiding St
variable {P : Program} {w : World} {K : Fg} {mg : Str → Option Value} {base : Heap}
def facE (s : Str) : Er := ("BadFacts", [.str s])
def hiOf : PyData → Int
  | .int i => i
  | _ => 12
def m0 (m : PyData) : PyData := if isNon m then .int 0 else m
def mostOk (m : PyData) : Bool := isNon m || isWhole m 1 12
def chkFacts (m l w h s : PyData) : Except Er PyData :=
  if mostOk m = false then .error (facE "most") else if isWhole l 0 (hiOf m) = false then .error (facE "lamps") else if isWhole w 1 4 = false then .error (facE "words") else
  if isW "sums" "which" h = false then .error (facE "hearing") else if isWhole s 1 12 = false then .error (facE "stretch") else .ok (.tuple [m0 m, l, w, h, s])
def flF (m l w h s : PyData) : List (Str × PyData) := [("most", m), ("lamps", l), ("words", w), ("hearing", h), ("stretch", s), ("told", .tuple [m0 m, l, w, h, s])]
def fFacts (ts : List PyData) (S : List (Str × PyData) → Prop) (T : Er → Prop) : Prop := ∃ m l w h s, ts = [m, l, w, h, s] ∧ atom h = true ∧ S = (fun fl => (∃ c, chkFacts m l w h s = .ok c) ∧ fl = flF m l w h s) ∧ T = fun er => chkFacts m l w h s = .error er
abbrev FaD (K : Fg) (mg : Str → Option Value) (CF : Addr) : Prop := KlD K mg CF "Facts" "Facts.__init__" (mtop 31 0) ["most", "lamps", "words", "hearing", "stretch", "told"] [.non, .int 1, .int 1, .str "sums", .int 1]
abbrev nFa : List Str := ["self", "most", "lamps", "words", "hearing", "stretch"]
theorem scFa : FnScope nFa nFa (defScope (mtop 31 0)) := ⟨rfl, rfl, rfl, by decide +kernel, rfl, by decide +kernel, by decide +kernel⟩
/-- attributes stored one behind another -/
def putAll : List (Str × V) → List (Str × V) → List (Str × V)
  | fs, [] => fs
  | fs, (f, x) :: r => putAll (putF f x fs) r
theorem ok_Facts {xc : Str → Addr} {CF : Addr} (M : Me K mg) (Z : Xs P w K mg base xc) (D : FaD K mg CF) : Kl P w K mg base CF "Facts" 4 (FnN xc K CF fFacts) := by
  refine mkID D scFa (fun z => nomatch z) 6 rfl (fun T kV doc pm an cdv ct us its hl h2 => match us, hl, its, h2 with | [_, _, _, _, _, _], _, [_, _, _, _, _], _ => ⟨_, rfl, rfl⟩) (by rintro ts S T ⟨m, l, w, h, s, rfl, _⟩; rfl) fun f cdv A outer s H vs Q E hr h tk => ?_
  obtain ⟨B, H1, p, dx, ws, ts, S, T, h1, h2, hne, rfl, rfl, ok, hv, ⟨m, l, wo, he, st, rfl, hat, rfl, rfl⟩, ret, retX⟩ := h
  obtain ⟨y, mu⟩ := Sy.iniO (K := K) (C := CF) (N := nFa) ok h1 h2 hne hv
  have eM : ((!isNon m) && !isWhole m 1 12) = !mostOk m := by unfold mostOk; cases isNon m <;> cases isWhole m 1 12 <;> rfl
  refine cWhen1 y (tW (wAnd (tIsnt (v 1) dN) (fun _ => wAnd1 (tNot' (dVal (dCall1 (ok_whole M) hr (aC (v 1) (aC dI (aC (dGI M.cMOST_HEADS) aN))) ⟨m, 1, 12, rfl, rfl⟩)))))) (fun hc H2 t2 y2 => ?_) fun hc H2 t2 y2 => ?_
  · rw [eM] at hc
    have hc' : mostOk m = false := by cases e : mostOk m with | false => rfl | true => rw [e] at hc; cases hc
    exact ss1 (sRaise Z.fac hr rfl tk y2 (aC dS aN) rfl rfl (by show chkFacts m l wo he st = _; unfold chkFacts; rw [if_pos hc']; rfl) retX)
  rw [eM] at hc
  have c1 : ¬ mostOk m = false := fun e => by rw [e] at hc; cases hc
  have hc1 : mostOk m = true := by cases e : mostOk m with | true => rfl | false => exact absurd e c1
  have mu := mu.on t2
  have hm3 : isNon m = false → m = .int (hiOf m) := fun e => by
    unfold mostOk at hc1
    rw [e, Bool.false_or] at hc1
    cases m <;> first | rfl | cases hc1
  have hm4 : isNon m = true → hiOf m = 12 := fun e => by cases m <;> first | rfl | cases e
  refine cWhen1 y2 (tNot' (dVal (dCall1 (ok_whole M) hr (aC (v 2) (aC dI (aC (dIf (S := (· = .int (hiOf m))) (tIs (v 1) dN) (fun e => by rw [hm4 e]; exact dGI M.cMOST_HEADS) (fun e => DE.to (v 1) (by rintro _ rfl; exact hm3 e))) aN))) ⟨l, 0, hiOf m, rfl, rfl⟩))) (fun hc H3 t3 y3 => ?_) fun hc H3 t3 y3 => ?_
  · have hc' : isWhole l 0 (hiOf m) = false := by cases e : isWhole l 0 (hiOf m) with | false => rfl | true => rw [e] at hc; cases hc
    exact ss1 (sRaise Z.fac hr rfl tk y3 (aC dS aN) rfl rfl (by show chkFacts m l wo he st = _; unfold chkFacts; rw [if_neg c1, if_pos hc']; rfl) retX)
  have c2 : ¬ isWhole l 0 (hiOf m) = false := fun e => by rw [e] at hc; cases hc
  have mu := mu.on t3
  refine cWhen1 y3 (tNot' (dVal (dCall1 (ok_whole M) hr (aC (v 3) (aC dI (aC dI aN))) ⟨wo, 1, 4, rfl, rfl⟩))) (fun hc H4 t4 y4 => ?_) fun hc H4 t4 y4 => ?_
  · have hc' : isWhole wo 1 4 = false := by cases e : isWhole wo 1 4 with | false => rfl | true => rw [e] at hc; cases hc
    exact ss1 (sRaise Z.fac hr rfl tk y4 (aC dS aN) rfl rfl (by show chkFacts m l wo he st = _; unfold chkFacts; rw [if_neg c1, if_neg c2, if_pos hc']; rfl) retX)
  have c3 : ¬ isWhole wo 1 4 = false := fun e => by rw [e] at hc; cases hc
  have mu := mu.on t4
  refine cWhen1 y4 (dNotIn2 (v 4) hat) (fun hc H5 t5 y5 => ?_) fun hc H5 t5 y5 => ?_
  · have hc' : isW "sums" "which" he = false := by cases e : isW "sums" "which" he with | false => rfl | true => rw [e] at hc; cases hc
    exact ss1 (sRaise Z.fac hr rfl tk y5 (aC dS aN) rfl rfl (by show chkFacts m l wo he st = _; unfold chkFacts; rw [if_neg c1, if_neg c2, if_neg c3, if_pos hc']; rfl) retX)
  have c4 : ¬ isW "sums" "which" he = false := fun e => by rw [e] at hc; cases hc
  have mu := mu.on t5
  refine cWhen1 y5 (tNot' (dVal (dCall1 (ok_whole M) hr (aC (v 5) (aC dI (aC (dGI M.cMOST_STRETCH) aN))) ⟨st, 1, 12, rfl, rfl⟩))) (fun hc H6 t6 y6 => ?_) fun hc H6 t6 y6 => ?_
  · have hc' : isWhole st 1 12 = false := by cases e : isWhole st 1 12 with | false => rfl | true => rw [e] at hc; cases hc
    exact ss1 (sRaise Z.fac hr rfl tk y6 (aC dS aN) rfl rfl (by show chkFacts m l wo he st = _; unfold chkFacts; rw [if_neg c1, if_neg c2, if_neg c3, if_neg c4, if_pos hc']; rfl) retX)
  have c5 : ¬ isWhole st 1 12 = false := fun e => by rw [e] at hc; cases hc
  have mu := mu.on t6
  have eok : chkFacts m l wo he st = .ok (.tuple [m0 m, l, wo, he, st]) := by unfold chkFacts; rw [if_neg c1, if_neg c2, if_neg c3, if_neg c4, if_neg c5]
  refine ssC (sFldS 0 y6 mu ((ltE (v 1) y6.sl).now y6.ok) D.cls (D.no _ (by simp)) (Nat.le_of_ble_eq_true rfl) fun w1 x1 B7 H7 e7 t7 d7 y7 m7 => ?_)
  refine ssC (sFldS 0 y7 m7 ((ltE (v 2) y7.sl).now y7.ok) D.cls (D.no _ (by simp)) (Nat.le_of_ble_eq_true rfl) fun w2 x2 B8 H8 e8 t8 d8 y8 m8 => ?_)
  refine ssC (sFldS 0 y8 m8 ((ltE (v 3) y8.sl).now y8.ok) D.cls (D.no _ (by simp)) (Nat.le_of_ble_eq_true rfl) fun w3 x3 B9 H9 e9 t9 d9 y9 m9 => ?_)
  refine ssC (sFldS 0 y9 m9 ((ltE (v 4) y9.sl).now y9.ok) D.cls (D.no _ (by simp)) (Nat.le_of_ble_eq_true rfl) fun w4 x4 Ba Ha ea ta da ya ma => ?_)
  refine ssC (sFldS 0 ya ma ((ltE (v 5) ya.sl).now ya.ok) D.cls (D.no _ (by simp)) (Nat.le_of_ble_eq_true rfl) fun w5 x5 Bb Hb eb tb db yb mb => ?_)
  refine ss1 (sFldS 0 yb mb ((ltE (dTup (aC (dIf (S := (· = m0 m)) (tIs (v 1) dN) (fun e => DE.to dI (by rintro _ rfl; unfold m0; rw [if_pos e])) (fun e => DE.to (v 1) (by rintro _ rfl; unfold m0; rw [e]; rfl))) (aC (v 2) (aC (v 3) (aC (v 4) (aC (v 5) aN)))))) yb.sl).now yb.ok) D.cls (D.no _ (by simp)) (Nat.le_of_ble_eq_true rfl) fun w6 x6 Bc Hc ec tc dc yc mc => ?_)
  rw [show x1 = m from e7] at d7
  rw [show x2 = l from e8] at d8
  rw [show x3 = wo from e9] at d9
  rw [show x4 = he from ea] at da
  rw [show x5 = st from eb] at db
  rw [show x6 = .tuple [m0 m, l, wo, he, st] from ec] at dc
  refine ret (flF m l wo he st) _ _ (yc.tr.freeze mc) (yc.ok.freeze mc) ⟨p, dx, _, rfl, upd_same, fun f t hf => ?_⟩ ⟨⟨_, eok⟩, rfl⟩
  have fz := same_upd (o := .ins CF dx (putF "told" w6 (putF "stretch" w5 (putF "hearing" w4 (putF "words" w3 (putF "lamps" w2 (putF "most" w1 []))))))) mc.hid
  have step : ∀ {g : Str} {u : PyData} {r : List (Str × PyData)} {C : Prop}, ((g, u) :: r).lookup f = some t → (f = g → t = u → C) → (f ≠ g → r.lookup f = some t → C) → C := fun {g u r C} hl k1 k2 => by
    rw [List.lookup_cons] at hl
    by_cases e : f = g
    · subst e
      rw [beq_self_eq_true] at hl
      exact k1 rfl (Option.some.inj hl).symm
    · have : (f == g) = false := beq_eq_false_iff_ne.mpr e
      rw [this] at hl
      exact k2 e hl
  unfold flF at hf
  refine step hf (by rintro rfl rfl; exact ⟨w1, rfl, (d7.up (t8.kb.trans (t9.kb.trans (ta.kb.trans (tb.kb.trans tc.kb))))).up fz⟩) fun _ hf => ?_
  refine step hf (by rintro rfl rfl; exact ⟨w2, rfl, (d8.up (t9.kb.trans (ta.kb.trans (tb.kb.trans tc.kb)))).up fz⟩) fun _ hf => ?_
  refine step hf (by rintro rfl rfl; exact ⟨w3, rfl, (d9.up (ta.kb.trans (tb.kb.trans tc.kb))).up fz⟩) fun _ hf => ?_
  refine step hf (by rintro rfl rfl; exact ⟨w4, rfl, (da.up (tb.kb.trans tc.kb)).up fz⟩) fun _ hf => ?_
  refine step hf (by rintro rfl rfl; exact ⟨w5, rfl, (db.up tc.kb).up fz⟩) fun _ hf => ?_
  refine step hf (by rintro rfl rfl; exact ⟨w6, rfl, dc.up fz⟩) fun _ hf => ?_
  cases hf
end K20
set_option maxHeartbeats 4000000
/-! facts_of. -/
namespace K20
open PySem PySem.Spec L2
open PyProof.Rows hiding St
variable {P : Program} {w : World} {K : Fg} {mg : Str → Option Value} {base : Heap}
abbrev FD := PyData × PyData × PyData × PyData × PyData
def finF (m l w h s : PyData) : Except Er FD := match chkFacts m l w h s with
  | .ok _ => .ok (m, l, w, h, s)
  | .error e => .error e
def chkTold (t : PyData) : Except Er FD := match seqOf t with
  | some [a, l, w, h, s] => if isWhole a 0 0 = true then finF .none l w h s else if isNon a = true then .error (facE "most") else finF a l w h s
  | _ => .error (facE "told")
def FaR (K : Fg) (CF : Addr) (x : FD) : Hp → V → Prop := InD K CF (flF x.1 x.2.1 x.2.2.1 x.2.2.2.1 x.2.2.2.2)
def pTold (t : PyData) : Prop := ∀ a l w h s, seqOf t = some [a, l, w, h, s] → atom h = true
/-- a promise: data in, an object out -/
def FnT (xc : Str → Addr) (K : Fg) {α : Type} (p : PyData → Prop) (f : PyData → Except Er α) (R : α → Hp → V → Prop) : Sp := FnG xc (α := PyData) (fun t B vs => ∃ w, vs = [w] ∧ Dp K B w t ∧ p t) (fun t B v => ∃ c, f t = .ok c ∧ R c B v) (fun t er => f t = .error er)
theorem scFo : FnScope ["told", "most"] ["told"] (defScope (top 32)) := ⟨rfl, rfl, rfl, by decide +kernel, rfl, by decide +kernel, by decide +kernel⟩
theorem Sy.ini1 {B H : Hp} {w1 : V} {t : PyData} {N : List Str} (ok : Ok none B H) (hd : Dp K B w1 t) : Sy K none B H B H (L2.start N [w1]) ([.dat t] ++ List.replicate (N.length - 1) .any) := Sy.ini (N := N) (ts := [t]) ok (.cons hd .nil)
theorem ok_factsOf {xc : Str → Addr} {CF : Addr} (M : Me K mg) (Z : Xs P w K mg base xc) (D : FaD K mg CF) : Cal P w K mg base 6 "facts_of" (FnT xc K pTold chkTold (FaR K CF)) [] := by
  refine mkX (M.df 32 (by decide)) scFo (fun _ _ _ _ _ _ us hl => match us, hl with | [_], _ => rfl) (fun vs H Q E h => ?_) fun f cdv A outer s H vs Q E hr h tk => ?_
  · obtain ⟨t, B, ok, ⟨w1, rfl, _⟩, _⟩ := h
    rfl
  obtain ⟨t, B, ok, ⟨w1, rfl, hd, hp⟩, ret, retX⟩ := h
  have y := Sy.ini1 (N := ["told", "most"]) ok hd
  have nd := scFo.nd
  refine cWhen1 y (tNotLen (k := 5) (dSeq M.isinstance M.list M.tuple (v 0)) (fun xs hx => tTo (tNe hr (dLen (n := xs.length) M.len (v 0) (lenD_seq hx)) dI rfl rfl) (by rintro _ rfl; exact ne_len xs.length 5))) (fun hb H1 t1 y1 => ?_) fun hb H1 t1 y1 => ?_
  · refine ss1 (sRaise Z.fac hr rfl tk y1 (aC dS aN) rfl rfl ?_ retX)
    show chkTold t = .error (facE "told")
    unfold chkTold
    unfold isLen at hb
    split
    · rename_i a l w h s e
      rw [e] at hb
      cases hb
    · rfl
  obtain ⟨a, l, wo, he, st, hx⟩ : ∃ a l w h s, seqOf t = some [a, l, w, h, s] := by
    have hb' : isLen 5 t = true := by simpa using hb
    unfold isLen at hb'
    cases e : seqOf t with
    | none => rw [e] at hb'; cases hb'
    | some xs =>
      rw [e] at hb'
      have h5 : xs.length = 5 := of_decide_eq_true hb'
      match xs, h5 with
      | [a, l, w, h, s], _ => exact ⟨a, l, w, h, s, rfl⟩
  have hat := hp _ _ _ _ _ hx
  have ec : chkTold t = if isWhole a 0 0 = true then finF .none l wo he st else if isNon a = true then .error (facE "most") else finF a l wo he st := by unfold chkTold; rw [hx]
  refine ssC (sSet1 1 y1 nd (dIx (v 0) dI hx rfl) fun B2 σ2 H2 t2 y2 => ?_)
  refine ssCut (fun σ' H' => ∃ (B' : Hp) (m : PyData), Sy K none B H B' H' σ' [.dat t, .dat m] ∧ chkTold t = finF m l wo he st) (sIf1 y2 (dVal (dCall1 (ok_whole M) hr (aC (v 1) (aC dI (aC dI aN))) ⟨a, 0, 0, rfl, rfl⟩)) (fun hc H3 t3 y3 => ?_) fun hc H3 t3 y3 => ?_) fun σ4 H4 h4 => ?_
  · refine ss1 (sSet1 1 y3 nd dN fun B4 σ4 H4 t4 y4 => ⟨B4, _, y4, ?_⟩)
    rw [ec, if_pos hc]
  · have hc' : ¬ isWhole a 0 0 = true := fun e => by rw [e] at hc; cases hc
    refine ss1 (sIf1 y3 (tIs (v 1) dN) (fun hn H4 t4 y4 => ?_) fun hn H4 t4 y4 => ?_)
    · exact ss1 (sRaise Z.fac hr rfl tk y4 (aC dS aN) rfl rfl (by show chkTold t = _; rw [ec, if_neg hc', if_pos hn]; rfl) retX)
    · refine ssN ⟨_, _, y4, ?_⟩
      rw [ec, if_neg hc', if_neg (by rw [hn]; exact Bool.false_ne_true)]
  · obtain ⟨B4, m, y4, hm⟩ := h4
    refine ss1 (sRetG y4 (glMake (R := fun B v => ∃ c, chkTold t = .ok c ∧ FaR K CF c B v) (ok_Facts M Z D) hr tk (ltC (ltE (v 1) y4.sl) (ltC (ltE (dIx (v 0) dI hx rfl) y4.sl) (ltC (ltE (dIx (v 0) dI hx rfl) y4.sl) (ltC (ltE (dIx (v 0) dI hx rfl) y4.sl) (ltC (ltE (dIx (v 0) dI hx rfl) y4.sl) ltN))))) (retX.after y4.tr) ?_) fun v B' H' tr' ok' hr' => ret v B' H' tr' ok' hr')
    intro ts0 hts0
    obtain rfl := argsEq (l := [m, l, wo, he, st]) hts0
    refine ⟨_, _, ⟨m, l, wo, he, st, rfl, hat, rfl, rfl⟩, ?_, fun er her => ?_⟩
    · rintro B2 v fl ⟨⟨c, hc⟩, rfl⟩ hi
      refine ⟨(m, l, wo, he, st), ?_, hi⟩
      rw [hm]
      unfold finF
      rw [hc]
    · show chkTold t = .error er
      rw [hm]
      unfold finF
      rw [show chkFacts m l wo he st = .error er from her]
end K20
set_option maxHeartbeats 4000000
/-! starts_fit. -/
namespace K20
open PySem PySem.Spec L2
open PyProof.Rows hiding St
variable {P : Program} {w : World} {K : Fg} {mg : Str → Option Value} {base : Heap}
theorem Sy.iniG {B H : Hp} {vs : List V} {sds : List Sd} {N : List Str} (ok : Ok none B H) (hl : sds.length = vs.length) (hs : ∀ (i : Nat) x, sds[i]? = some x → ∃ v, vs[i]? = some v ∧ SdOk K B x (some v)) : Sy K none B H B H (L2.start N vs) (sds ++ List.replicate (N.length - sds.length) .any) := by
  refine ⟨.refl, ok, ⟨fun i x hx => ?_⟩⟩
  unfold L2.start
  by_cases hi : i < sds.length
  · rw [List.getElem?_append_left hi] at hx
    obtain ⟨v, h1, h2⟩ := hs i x hx
    exact ⟨some v, by rw [List.getElem?_append_left (by rw [List.length_map, ← hl]; exact hi), List.getElem?_map, h1]; rfl, h2⟩
  · rw [List.getElem?_append_right (by omega), List.getElem?_replicate] at hx
    split at hx
    · cases hx
      rename_i h
      refine ⟨none, ?_, trivial⟩
      rw [List.getElem?_append_right (by rw [List.length_map, ← hl]; omega), List.getElem?_replicate, if_pos (by rw [List.length_map, ← hl]; exact h)]
    · cases hx
theorem bools_v {B : Hp} : ∀ {bs : List Bool} {vs : List V}, DpAll K B vs (bs.map .bool) → vs = bs.map V.bl
  | [], _, h => by cases h; rfl
  | b :: bs, _, h => by
    cases h with
    | cons h1 h2 =>
      cases h1
      rw [bools_v h2]
      rfl
/-- any([..]) of truth values -/
theorem dAny {X : Cx} {d : Dr} {ds : List Sd} {B : Hp} {e : Expr} {Sa : PyData → Prop} {r : Bool} {p pos : Pos} (hc : X.calm = true) (hm : X.mg "any" = none) (ha : DE X d e ds B Sa) (k : ∀ t, Sa t → ∃ bs : List Bool, t = .list (bs.map .bool) ∧ bs.any id = r) (hg : Gl X "any" := by rfl) (he : starEach [e] X.env = (false, eval e X.env) :: starEach [] X.env := by rfl) (hpl : (backTo pos (starEach [] X.env)).any (·.1) = false := by rfl) :
    DE X d (.Call (.Name "any" p) [e] [] pos) ds B (· = .bool r) := dCB (cr_any hc) hm PyProof.Rows.boot_any (aCS ha aN (S2 := fun ts => ∃ bs : List Bool, ts = [.list (bs.map .bool)] ∧ bs.any id = r) (by
      rintro t ts h rfl
      obtain ⟨bs, rfl, h2⟩ := k t h
      exact ⟨bs, rfl, h2⟩) he) (fun B1 H vs ts e0 ok g ⟨bs, e1, e2⟩ Q rr => by
      subst e1
      obtain ⟨v, rfl, g2⟩ := DpAll.one g
      obtain ⟨a, us, rfl, hs, hv⟩ := g2.lst_inv
      have e3 : us = bs.map V.bl := bools_v hv
      subst e3
      rw [e2.symm] at rr
      exact ⟨a, bs, rfl, ok.kh.seq hs, rr _ _ B1 H .refl ok (.bl _) rfl⟩) hg (by decide) (by decide) he hpl
def sFst : PyData → Int
  | .tuple [.int i, _] => i
  | _ => 0
def sSnd : PyData → Int
  | .tuple [_, .int j] => j
  | _ => 0
def litN (xs : List PyData) : Nat := (xs.filter fun x => decide (sFst x = 1)).length
def startsFit (xs : List PyData) (m : PyData) (l w : Int) : Bool := if ((xs.any fun x => decide (w ≤ sSnd x)) || decide (l < (litN xs : Nat))) = true then false else isNon m || decide (((xs.length : Nat) : Int) - (litN xs : Nat) + l ≤ hiOf m)
def FdOk (x : FD) (l w : Int) : Prop := x.2.1 = .int l ∧ x.2.2.1 = .int w ∧ (isNon x.1 = false → x.1 = .int (hiOf x.1))
abbrev Sf := List PyData × FD × Int × Int
def FnSf (xc : Str → Addr) (K : Fg) (CF : Addr) : Sp := FnG xc (α := Sf) (fun a B vs => ∃ w1 w2, vs = [w1, w2] ∧ Dp K B w1 (.tuple a.1) ∧ FaR K CF a.2.1 B w2 ∧ (∀ x ∈ a.1, CkS x) ∧ a.1.length ≤ 1000 ∧ FdOk a.2.1 a.2.2.1 a.2.2.2) (fun a => DaR K (· = .bool (startsFit a.1 a.2.1.1 a.2.2.1 a.2.2.2))) (fun _ _ => False)
abbrev nSf : List Str := ["starts", "facts", "lit", "start"]
theorem scSf : FnScope nSf ["starts", "facts"] (defScope (top 47)) := ⟨rfl, rfl, rfl, by decide +kernel, rfl, by decide +kernel, by decide +kernel⟩
theorem ok_startsFit {xc : Str → Addr} {CF : Addr} (M : Me K mg) (D : FaD K mg CF) : Cal P w K mg base 3 "starts_fit" (FnSf xc K CF) [] := by
  refine mkX (M.df 47 (by decide)) scSf (fun _ _ _ _ _ _ us hl => match us, hl with | [_, _], _ => rfl) (fun vs H Q E h => ?_) fun f cdv A outer s H vs Q E hr h tk => ?_
  · obtain ⟨a, B, ok, ⟨w1, w2, rfl, _⟩, _⟩ := h
    rfl
  obtain ⟨⟨xs, ⟨m, pl, pw, he, st⟩, l, wi⟩, B, ok, ⟨w1, w2, rfl, hd, hF, hck, hlen, e1, e2, e3⟩, ret, retX⟩ := h
  dsimp only at hd hF hck hlen e1 e2 e3 ret
  subst e1
  subst e2
  have hF : InD K CF (flF m (.int l) (.int wi) he st) B w2 := hF
  have y : Sy K none B H B H (L2.start nSf [w1, w2]) [.dat (.tuple xs), .raw w2, .any, .any] := Sy.iniG (sds := [.dat (.tuple xs), .raw w2]) ok rfl (fun i x hx => by
    match i, hx with
    | 0, hx => cases hx; exact ⟨w1, rfl, w1, rfl, hd⟩
    | 1, hx => cases hx; exact ⟨w2, rfl, rfl⟩
    | i + 2, hx => simp at hx)
  have nd := scSf.nd
  refine ssC (sSet1 2 y nd (dLen (t := .list (xs.filter fun x => decide (sFst x = 1))) (n := litN xs) M.len ((deL (dLcI (q := fun x => decide (sFst x = 1)) (R := fun x y => y = x) 3 rfl nd (blkOk_by (N := nSf) (sc := defScope (top 47)) (own := [("start", 3)]) (by decide +kernel)) (v 0) rfl (by omega) (by decide) (fun s H C cl fp => pg_name nd (i := 3) (by rfl) (Or.inl rfl)) (fun z B5 hz e s H C cl fp => ?_) (fun z B5 hz hq e s H C cl fp => v 3))).to ?_)) fun B2 σ2 H2 t2 y2 => ?_)
  · obtain ⟨i, j, rfl⟩ := hck z hz
    exact (tTo (tEq hr (dIx (v 3) dI rfl rfl) dI rfl rfl) (by rintro _ rfl; exact eqv_int _ _))
  · rintro _ ⟨ys, rfl, hp⟩
    have := paired_map (f := fun x => x) hp
    rw [this, List.map_id']
  have hF2 := InD.upR _ _ _ t2.kb hF
  have eany : ∀ t : PyData, (∃ ys, t = .list ys ∧ Paired (fun x y => y = .bool (decide (wi ≤ sSnd x))) xs ys) → ∃ bs : List Bool, t = .list (bs.map .bool) ∧ bs.any id = xs.any fun x => decide (wi ≤ sSnd x) := by
    rintro _ ⟨ys, rfl, hp⟩
    refine ⟨xs.map fun x => decide (wi ≤ sSnd x), ?_, ?_⟩
    · rw [paired_map (f := fun x => .bool (decide (wi ≤ sSnd x))) hp, List.map_map]
      rfl
    · rw [List.any_map]
      rfl
  refine cWhen1 y2 (tW (wOr (dVal (dAny rfl M.any (deL (dLc (R := fun x y => y = .bool (decide (wi ≤ sSnd x))) 3 rfl nd (blkOk_by (N := nSf) (sc := defScope (top 47)) (own := [("start", 3)]) (by decide +kernel)) (v 0) rfl (by omega) (by decide) (fun s H C cl fp => pg_name nd (i := 3) (by rfl) (Or.inl rfl)) (fun z B5 hz e s H C cl fp => ?_))) eany)) (fun _ => wOr1 (tGt (v 2) (dFld 1 hF2 D.cls (D.no _ (by simp))))))) (fun hb H3 t3 y3 => ?_) fun hb H3 t3 y3 => ?_
  · obtain ⟨i, j, rfl⟩ := hck z hz
    exact dGe (dIx (v 3) dI rfl rfl) (dFld 1 (InD.upR _ _ _ e hF2) D.cls (D.no _ (by simp)))
  · refine ss1 (sRet y3 dB fun v t B' H' tr ok' hd' e' => ret v B' H' tr ok' ⟨t, hd', ?_⟩)
    rw [e']
    unfold startsFit
    rw [if_pos hb]
  · have hF3 := hF2
    have hb' : ¬ ((xs.any fun x => decide (wi ≤ sSnd x)) || decide (l < (litN xs : Nat))) = true := fun z => by rw [z] at hb; cases hb
    refine ss1 (sRet y3 (dOr (dIs (dFld 1 hF3 D.cls (D.no _ (by simp))) dN) (fun hn => dOne (dLe (dAdd (dSub (dLen (n := xs.length) M.len (v 0)) (v 2)) (dFld 1 hF3 D.cls (D.no _ (by simp)))) (DE.to (dFld 1 hF3 D.cls (D.no _ (by simp))) (by rintro _ rfl; exact e3 hn))))) fun v t B' H' tr ok' hd' e' => ret v B' H' tr ok' ⟨t, hd', ?_⟩)
    rw [e']
    unfold startsFit
    rw [if_neg hb']
end K20
set_option maxHeartbeats 4000000
/-! letter_of. -/
namespace K20
open PySem PySem.Spec L2
open PyProof.Rows hiding St
variable {P : Program} {w : World} {K : Fg} {mg : Str → Option Value} {base : Heap}
def toldOf (x : FD) : PyData := .tuple [m0 x.1, x.2.1, x.2.2.1, x.2.2.2.1, x.2.2.2.2]
def ViR (K : Fg) (CV : Addr) (c : PyData) : Hp → V → Prop := InD K CV (flV c)
def FnLo (xc : Str → Addr) (K : Fg) (CV CF : Addr) : Sp := FnG xc (α := PyData × FD) (fun a B vs => ∃ w1 w2, vs = [w1, w2] ∧ ViR K CV a.1 B w1 ∧ FaR K CF a.2 B w2) (fun a => DaR K (· = .tuple [toldOf a.2, a.1])) (fun _ _ => False)
abbrev nLo : List Str := ["view", "facts"]
theorem scLo : FnScope nLo nLo (defScope (top 50)) := ⟨rfl, rfl, rfl, by decide +kernel, rfl, by decide +kernel, by decide +kernel⟩
theorem ok_letterOf {xc : Str → Addr} {CV CF : Addr} (M : Me K mg) (DV : VwD K mg CV) (D : FaD K mg CF) : Cal P w K mg base 1 "letter_of" (FnLo xc K CV CF) [] := by
  refine mkX (M.df 50 (by decide)) scLo (fun _ _ _ _ _ _ us hl => match us, hl with | [_, _], _ => rfl) (fun vs H Q E h => ?_) fun f cdv A outer s H vs Q E hr h tk => ?_
  · obtain ⟨a, B, ok, ⟨w1, w2, rfl, _⟩, _⟩ := h
    rfl
  obtain ⟨⟨c, x⟩, B, ok, ⟨w1, w2, rfl, hV, hF⟩, ret, retX⟩ := h
  have y : Sy K none B H B H (L2.start nLo [w1, w2]) [.raw w1, .raw w2] := Sy.iniG (sds := [.raw w1, .raw w2]) ok rfl (fun i x hx => by
    match i, hx with
    | 0, hx => cases hx; exact ⟨w1, rfl, rfl⟩
    | 1, hx => cases hx; exact ⟨w2, rfl, rfl⟩
    | i + 2, hx => simp at hx)
  exact ss1 (sRet y (dTup (aC (dFld (t := toldOf x) 1 hF D.cls (D.no _ (by simp))) (aC (dFld (t := c) 0 hV DV.cls (DV.no _ (by simp))) aN))) fun v t B' H' tr ok' hd' e' => ret v B' H' tr ok' ⟨t, hd', e'⟩)
end K20
set_option maxHeartbeats 4000000
/-! Layer: slices of tuples, tuple + tuple. -/
namespace K20
open PySem PySem.Spec L2
open PyProof.Rows hiding St
section
variable {X : Cx} {d : Dr} {ds : List Sd} {B : Hp} {S Sa Sb : PyData → Prop} {a e1 e2 lo hi : Expr} {pos p2 : Pos} {xs : List PyData}
theorem slA_go {K : Fg} {B1 H : Hp} {v : V} {l h : Option Int} {Q : VK} (ok : Ok d B1 H) (hd : Dp K B1 v (.tuple xs)) (hl : xs.length ≤ 100000) (r : Ret K d B1 H (· = .tuple ((xs.drop (HT.sIx xs.length 0 l)).take (HT.sIx xs.length xs.length h - HT.sIx xs.length 0 l))) Q) : rSlA K v l h H Q := by
  obtain ⟨q, vs, rfl, hs, hv⟩ := hd.tup_inv
  have e : vs.length = xs.length := hv.len
  have hc : DpAll K B1 (cutV vs l h) ((xs.drop (HT.sIx xs.length 0 l)).take (HT.sIx xs.length xs.length h - HT.sIx xs.length 0 l)) := by
    unfold cutV
    rw [e]
    exact (hv.drop _).take _
  refine ⟨q, vs, rfl, sqT_mono ok.kh hs, fun hw => ?_, fun hw p hp => ?_⟩
  · refine r _ _ B1 H .refl ok hd ?_
    rw [e] at hw
    rw [hw.1, hw.2, List.drop_zero, Nat.sub_zero, List.take_length]
  · exact r _ _ _ _ (Tr.lay ok hp) (ok.lay hp) (.tup (SqT.of upd_same) (hc.up (Tr.lay (o := .tup (cutV vs l h)) ok hp).kb)) rfl
/-- t[k:] -/
theorem dSlF {k : Nat} (ha : DE X d a ds B (· = .tuple xs)) (hl : DE X d lo ds B (· = .int k)) (hk : k ≤ xs.length) (hn : xs.length ≤ 100000) : DE X d (.Subscript a (.Slice (some lo) none none p2) pos) ds B (· = .tuple (xs.drop k)) :=
  de_of (pe_slice sl_tupA pe_w (po_some pe_w) po_none) fun B1 σ H e sl ok Q r => ha B1 σ H e sl ok _ fun v t B2 H2 tr2 ok2 hd2 e2 => by
    rw [show t = .tuple xs from e2] at hd2
    refine hl B2 σ H2 (e.trans tr2.kb) (sl.up tr2.kb) ok2 _ fun w u B3 H3 tr3 ok3 hd3 e3 => ?_
    rw [show u = .int k from e3] at hd3
    obtain rfl := hd3.int_inv
    refine ⟨(k : Int), rfl, slA_go ok3 (hd2.up tr3.kb) hn ?_⟩
    have e4 : (xs.drop (HT.sIx xs.length 0 (some (k : Int)))).take (HT.sIx xs.length xs.length none - HT.sIx xs.length 0 (some (k : Int))) = xs.drop k := by
      rw [HT.sIx_nat, HT.sIx_none, Nat.min_eq_left hk, List.take_of_length_le (by rw [List.length_drop]; omega)]
    rw [e4]
    exact (r.after tr2).after tr3
/-- t[:k] -/
theorem dSlT {k : Nat} (ha : DE X d a ds B (· = .tuple xs)) (hl : DE X d hi ds B (· = .int k)) (hk : k ≤ xs.length) (hn : xs.length ≤ 100000) : DE X d (.Subscript a (.Slice none (some hi) none p2) pos) ds B (· = .tuple (xs.take k)) :=
  de_of (pe_slice sl_tupA pe_w po_none (po_some pe_w)) fun B1 σ H e sl ok Q r => ha B1 σ H e sl ok _ fun v t B2 H2 tr2 ok2 hd2 e2 => by
    rw [show t = .tuple xs from e2] at hd2
    refine hl B2 σ H2 (e.trans tr2.kb) (sl.up tr2.kb) ok2 _ fun w u B3 H3 tr3 ok3 hd3 e3 => ?_
    rw [show u = .int k from e3] at hd3
    obtain rfl := hd3.int_inv
    refine ⟨(k : Int), rfl, slA_go ok3 (hd2.up tr3.kb) hn ?_⟩
    have e4 : (xs.drop (HT.sIx xs.length 0 none)).take (HT.sIx xs.length xs.length (some (k : Int)) - HT.sIx xs.length 0 none) = xs.take k := by
      rw [HT.sIx_nat, HT.sIx_none, Nat.min_eq_left hk, List.drop_zero, Nat.sub_zero]
    rw [e4]
    exact (r.after tr2).after tr3
end
end K20
set_option maxHeartbeats 4000000
/-! has_sums. -/
namespace K20
open PySem PySem.Spec L2
open PyProof.Rows hiding St
variable {P : Program} {w : World} {K : Fg} {mg : Str → Option Value} {base : Heap}
def oneOne : PyData := .tuple [.int 1, .int 1]
def strOf : PyData → PyData
  | .tuple [_, s] => s
  | _ => .none
def itemsT : PyData → List PyData
  | .tuple xs => xs
  | _ => []
def heardOf : PyData → List PyData
  | .tuple [_, .tuple es] => es
  | _ => []
def sumN (n : PyData) : Bool := (heardOf n).any fun e => !PyData.eqv (strOf e) oneOne
def sumC (c : PyData) : Bool := (itemsT c).any sumN
def hasSums (cs : List PyData) : Bool := (cs.drop 1).any sumC
def LvC (c : PyData) : Prop := ∃ ns, c = .tuple ns ∧ ∀ n ∈ ns, CkN n ∧ (heardOf n).length ≤ 1000
def FnHs (xc : Str → Addr) (K : Fg) (CV : Addr) : Sp := FnG xc (α := List PyData) (fun cs B vs => ∃ w1, vs = [w1] ∧ ViR K CV (.tuple cs) B w1 ∧ 1 ≤ cs.length ∧ cs.length ≤ 1000 ∧ ∀ c ∈ cs.drop 1, LvC c) (fun cs => DaR K (· = .bool (hasSums cs))) (fun _ _ => False)
abbrev nHs : List Str := ["view", "nodes", "parent", "heard", "near", "strength"]
theorem scHs : FnScope nHs ["view"] (defScope (top 48)) := ⟨rfl, rfl, rfl, by decide +kernel, rfl, by decide +kernel, by decide +kernel⟩
theorem any_take {xs : List PyData} {f : PyData → Bool} (h : ∀ c ∈ xs, f c = false) : xs.any f = false := by
  rw [List.any_eq_false]
  intro c hc
  rw [h c hc]
  exact Bool.false_ne_true
theorem take_all {xs : List PyData} {f : PyData → Bool} {i : Nat} {x : PyData} (hx : xs[i]? = some x) (h : ∀ c ∈ xs.take i, f c = false) (hf : f x = false) : ∀ c ∈ xs.take (i + 1), f c = false := by
  intro c hc
  rw [List.take_add_one, hx] at hc
  rcases List.mem_append.mp hc with hc | hc
  · exact h c hc
  · rw [List.mem_singleton.mp hc]
    exact hf
theorem ok_hasSums {xc : Str → Addr} {CV : Addr} (M : Me K mg) (DV : VwD K mg CV) : Cal P w K mg base 3 "has_sums" (FnHs xc K CV) [] := by
  refine mkX (M.df 48 (by decide)) scHs (fun _ _ _ _ _ _ us hl => match us, hl with | [_], _ => rfl) (fun vs H Q E h => ?_) fun f cdv A outer s H vs Q E hr h tk => ?_
  · obtain ⟨a, B, ok, ⟨w1, rfl, _⟩, _⟩ := h
    rfl
  obtain ⟨cs, B, ok, ⟨w1, rfl, hV, hl1, hl2, hcs⟩, ret, retX⟩ := h
  have y : Sy K none B H B H (L2.start nHs [w1]) [.raw w1, .any, .any, .any, .any, .any] := Sy.iniG (sds := [.raw w1]) ok rfl (fun i x hx => by
    match i, hx with
    | 0, hx => cases hx; exact ⟨w1, rfl, rfl⟩
    | i + 1, hx => simp at hx)
  have nd := scHs.nd
  refine ssC (sFor (g := gName 1) y.sl y.ok (passes_of rfl) rfl (dSlF (k := 1) (dFld (t := .tuple cs) 0 hV DV.cls (DV.no _ (by simp))) dI hl1 (by omega)) rfl (pg_name nd (by rfl) (by first | exact Or.inl rfl | exact Or.inr rfl)) fun w2 B2 H2 t2 o2 hd2 => ?_)
  refine ⟨fun i B' σ' H' => Sy K none B H B' H' σ' [.raw w1, .any, .any, .any, .any, .any] ∧ ∀ c ∈ (cs.drop 1).take i, sumC c = false, ?_, ?_, ?_, ?_⟩
  · exact ⟨y.on t2 o2, fun c hc => by simp at hc⟩
  · rintro i B' σ' H' ⟨y3, _⟩
    exact y3.same
  · rintro i x wx B' σ' H' hx eB ⟨y3, hall⟩ hdx
    obtain ⟨ns, rfl, hns⟩ := hcs x (List.mem_of_getElem? hx)
    have y4 := y3.put 1 (x := .dat (.tuple ns)) ⟨_, rfl, hdx⟩
    refine (show wSs _ _ _ (σ'.set 1 (some wx)) H' from ?_)
    generalize σ'.set 1 (some wx) = σ4 at y4 ⊢
    refine ss1 (sFor (g := gTup K 2 (gCons (gName 2) (gCons (gName 3) gNil))) y4.sl y4.ok (passes_of rfl) rfl (v 1) rfl (pg_tup rfl (pgs_cons (pg_name nd (by rfl) (Or.inl rfl)) (pgs_cons (pg_name nd (by rfl) (Or.inl rfl)) pgs_nil))) fun w5 B5 H5 t5 o5 hd5 => ?_)
    refine ⟨fun j B' σ' H' => Sy K none B H B' H' σ' [.raw w1, .any, .any, .any, .any, .any] ∧ ∀ n ∈ ns.take j, sumN n = false, ?_, ?_, ?_, ?_⟩
    · exact ⟨(y4.on t5 o5).fo 1, fun c hc => by simp at hc⟩
    · rintro j B' σ' H' ⟨y6, _⟩
      exact y6.same
    · rintro j n wn B' σ' H' hn eB' ⟨y6, hall2⟩ hdn
      obtain ⟨⟨pi, es, rfl, hes⟩, hel⟩ := hns n (List.mem_of_getElem? hn)
      obtain ⟨ax, vx, rfl, hsx, hdvx⟩ := hdn.tup_inv
      obtain ⟨v1, v2, rfl, d1, d2⟩ := hdvx.two
      refine ⟨ax, _, rfl, sqT_mono y6.same hsx, rfl, _, _, rfl, _, _, rfl, rfl, ?_⟩
      have y7 : Sy K none B H B' H' ((σ'.set 2 (some v1)).set 3 (some v2)) [.raw w1, .any, .dat (.int pi), .dat (.tuple es), .any, .any] := (y6.put 2 (x := .dat (.int pi)) ⟨_, rfl, d1⟩).put 3 (x := .dat (.tuple es)) ⟨_, rfl, d2⟩
      refine (show wSs _ _ _ ((σ'.set 2 (some v1)).set 3 (some v2)) H' from ?_)
      generalize (σ'.set 2 (some v1)).set 3 (some v2) = σ7 at y7 ⊢
      have eany : ∀ t : PyData, (∃ ys, t = .list ys ∧ Paired (fun x y => y = .bool (!PyData.eqv (strOf x) oneOne)) es ys) → ∃ bs : List Bool, t = .list (bs.map .bool) ∧ bs.any id = sumN (.tuple [.int pi, .tuple es]) := by
        rintro _ ⟨ys, rfl, hp⟩
        refine ⟨es.map fun x => !PyData.eqv (strOf x) oneOne, ?_, ?_⟩
        · rw [paired_map (f := fun x => .bool (!PyData.eqv (strOf x) oneOne)) hp, List.map_map]
          rfl
        · rw [List.any_map]
          rfl
      have hel' : es.length ≤ 1000 := hel
      refine ss1 (sIf1 y7 (dVal (dAny rfl M.any (deL (dLcG (t := .tuple es) (g := gTup K 2 (gCons (gName 4) (gCons (gName 5) gNil))) rfl nd (blkOk_by (N := nHs) (sc := defScope (top 48)) (own := [("near", 4), ("strength", 5)]) (by decide +kernel)) (v 3) rfl (by omega)
        (fun s H C cl fp => pg_tup rfl (pgs_cons (pg_name nd (i := 4) (by rfl) (Or.inl rfl)) (pgs_cons (pg_name nd (i := 5) (by rfl) (Or.inl rfl)) pgs_nil))) (R := fun x y => y = .bool (!PyData.eqv (strOf x) oneOne)) (fun z wz B8 H8 σ8 hz e hk hd sl8 => ?_))) eany)) (fun hb H9 t9 y9 => ?_) fun hb H9 t9 y9 => ?_)
      · obtain ⟨q, p1, p2, rfl⟩ := hes z hz
        obtain ⟨az, vz, rfl, hsz, hdz⟩ := hd.tup_inv
        obtain ⟨u1, u2, rfl, g1, g2⟩ := hdz.two
        refine ⟨_, _, fun Q h => ⟨az, _, rfl, sqT_mono hk hsz, rfl, _, _, rfl, _, _, rfl, rfl, h⟩, ?_, (sl8.put 4 (s := some u1) (x := .dat (.int q)) ⟨_, rfl, g1⟩).put 5 (s := some u2) (x := .dat (.tuple [.int p1, .int p2])) ⟨_, rfl, g2⟩, fun s H C cl fp => dNe (u := oneOne) hr (v 5) (dTup (aC dI (aC dI aN))) rfl rfl⟩
        rw [wipe_put (by decide), wipe_put (by decide), wipe_wipe]
      · refine ss1 (sRet y9 dB fun v t B' H' tr ok' hd' e' => ret v B' H' tr ok' ⟨t, hd', ?_⟩)
        rw [e']
        have : hasSums cs = true := by
          unfold hasSums
          rw [List.any_eq_true]
          refine ⟨_, List.mem_of_getElem? hx, ?_⟩
          unfold sumC
          rw [List.any_eq_true]
          exact ⟨_, List.mem_of_getElem? hn, hb⟩
        rw [this]
      · exact ssN ⟨_, eB'.trans (Same.refl _), (y9.fo 2).fo 3, take_all hn hall2 hb⟩
    · rintro B' σ' H' eB' ⟨y6, hall2⟩
      rw [List.take_length] at hall2
      exact ⟨_, eB.trans (t5.kb.trans eB'), y6, take_all hx hall (any_take hall2)⟩
  · rintro B' σ' H' eB ⟨y3, hall⟩
    rw [List.take_length] at hall
    refine ss1 (sRet y3 dB fun v t B' H' tr ok' hd' e' => ret v B' H' tr ok' ⟨t, hd', ?_⟩)
    rw [e']
    have : hasSums cs = false := any_take hall
    rw [this]
end K20
set_option maxHeartbeats 4000000
/-! Plain: what a taken letter's parts look like; more of the layer. -/
namespace K20
open PySem PySem.Spec L2
open PyProof.Rows hiding St
variable {P : Program} {w : World} {K : Fg} {mg : Str → Option Value} {base : Heap}
theorem facts_fd {m l w h s c : PyData} (hc : chkFacts m l w h s = .ok c) : (∃ li wi, FdOk (m, l, w, h, s) li wi) ∧ isW "sums" "which" h = true ∧ mostOk m = true ∧ isWhole s 1 12 = true := by
  unfold chkFacts at hc
  split at hc
  · cases hc
  · rename_i h1
    split at hc
    · cases hc
    · rename_i h2
      split at hc
      · cases hc
      · rename_i h3
        split at hc
        · cases hc
        · rename_i h4
          split at hc
          · cases hc
          · rename_i h5
            have h1' : mostOk m = true := by cases e : mostOk m with | true => rfl | false => exact absurd e h1
            have h4' : isW "sums" "which" h = true := by cases e : isW "sums" "which" h with | true => rfl | false => exact absurd e h4
            have h5' : isWhole s 1 12 = true := by cases e : isWhole s 1 12 with | true => rfl | false => exact absurd e h5
            obtain ⟨li, rfl⟩ : ∃ i, l = .int i := by cases l <;> first | exact ⟨_, rfl⟩ | exact absurd rfl h2
            obtain ⟨wi, rfl⟩ : ∃ i, w = .int i := by cases w <;> first | exact ⟨_, rfl⟩ | exact absurd rfl h3
            refine ⟨⟨li, wi, rfl, rfl, fun e => ?_⟩, h4', h1', h5'⟩
            unfold mostOk at h1'
            have e : isNon m = false := e
            rw [e, Bool.false_or] at h1'
            show m = _
            cases m <;> first | rfl | cases h1'
theorem told_fd {t : PyData} {x : FD} (h : chkTold t = .ok x) : ∃ c, chkFacts x.1 x.2.1 x.2.2.1 x.2.2.2.1 x.2.2.2.2 = .ok c := by
  have key : ∀ {m l w h s : PyData}, finF m l w h s = .ok x → ∃ c, chkFacts x.1 x.2.1 x.2.2.1 x.2.2.2.1 x.2.2.2.2 = .ok c := fun {m l w h s} hf => by
    unfold finF at hf
    split at hf
    · rename_i c e
      cases hf
      exact ⟨c, e⟩
    · cases hf
  unfold chkTold at h
  split at h
  · split at h
    · exact key h
    · split at h
      · cases h
      · exact key h
  · cases h
theorem levels_ok {t c : PyData} (h : chkLevels t = .ok c) : ∃ cs, c = .tuple cs ∧ 1 ≤ cs.length ∧ cs.length ≤ 37 ∧ (∀ c ∈ cs.drop 1, LvC c) ∧ ∃ ns, cs[0]? = some (.tuple ns) ∧ ns.length ≤ 12 ∧ ∀ x ∈ ns, CkS x := by
  unfold chkLevels at h
  split at h
  · cases h
  · rename_i xs e
    split at h
    · rename_i hl
      split at h
      · cases h
      · rename_i cs hg
        split at h
        · cases h
        · split at h
          · cases h
          · cases h
            obtain ⟨h1, h2, h3⟩ := goLvs_lv hg
            refine ⟨cs, rfl, by omega, by omega, fun c hc => ?_, ?_⟩
            · obtain ⟨k, hk⟩ := List.getElem?_of_mem hc
              rw [List.getElem?_drop, Nat.add_comm] at hk
              obtain ⟨c0, e0, ns, rfl, hns⟩ := h3 k c hk
              obtain ⟨l0, rfl, _, hl0⟩ := h2 c0 (List.mem_of_getElem? e0)
              refine ⟨_, rfl, fun n hn => ?_⟩
              obtain ⟨x, hx, rfl⟩ := List.mem_map.mp hn
              obtain ⟨_, hx2⟩ := hns x hx
              have hx3 : x.2.length ≤ l0.length := hx2
              refine ⟨⟨_, _, rfl, fun e he => ?_⟩, ?_⟩
              · obtain ⟨z, _, rfl⟩ := List.mem_map.mp he
                exact ⟨_, _, _, rfl⟩
              · show (x.2.map ceD).length ≤ 1000
                rw [List.length_map]; omega
            · obtain ⟨c0, hc0⟩ : ∃ c, cs[0]? = some c := ⟨_, List.getElem?_eq_getElem (show 0 < cs.length by omega)⟩
              obtain ⟨_, hat⟩ := goLvs_at hg
              obtain ⟨t0, b0, e0, _⟩ := hat 0 c0 hc0
              obtain ⟨l0, rfl, _, hl0⟩ := h2 c0 (List.mem_of_getElem? hc0)
              refine ⟨l0, hc0, hl0, ?_⟩
              unfold chkLevel at e0
              split at e0
              · cases e0
              · split at e0
                · rename_i ys _ _
                  cases hgl : goLv ((b0 : Nat) : Int) ((0 + 0 : Nat) : Int) 0 none ys with
                  | error er => rw [hgl] at e0; cases e0
                  | ok r =>
                    rw [hgl] at e0
                    cases e0
                    exact (goLv_all (Q := CkS) (fun n x c hc => by
                      have := item_ck hc
                      unfold Ck at this
                      rwa [if_neg (by omega)] at this) hgl).2
                · cases e0
    · cases h
section
variable {X : Cx} {d : Dr} {ds : List Sd} {B H : Hp} {σ : St} {S : PyData → Prop} {e : Expr} {es : List Expr} {pos : Pos}
theorem DE.ofGL (h : ∀ B1 σ H, Same B B1 → Sl X.K B1 σ ds → Ok d B1 H → GL X d e σ B1 H (DaR X.K S)) : DE X d e ds B S := fun B1 σ H e sl ok Q r => h B1 σ H e sl ok B1 H .refl ok Q fun v B' H' tr ok' ⟨t, hd, hs⟩ => r v t B' H' tr ok' hd hs
/-- a tuple of anything -/
def TuR (K : Fg) (l : List (Hp → V → Prop)) : Hp → V → Prop := fun B v => ∃ a ws, v = .ref a ∧ SqT K B a ws ∧ GArgs l B ws
theorem gargs_up : ∀ {l : List (Hp → V → Prop)} {B B' : Hp} {ws : List V}, (∀ R ∈ l, Up R) → Same B B' → GArgs l B ws → GArgs l B' ws
  | [], _, _, _, _, _, h => h
  | R :: l, B, B', ws, hu, e, ⟨v, us, e1, h1, h2⟩ => ⟨v, us, e1, hu R (List.mem_cons_self ..) _ _ _ e h1, gargs_up (fun R hR => hu R (List.mem_cons_of_mem _ hR)) e h2⟩
theorem gargs_len : ∀ {l : List (Hp → V → Prop)} {B : Hp} {ws : List V}, GArgs l B ws → ws.length = l.length
  | [], _, _, h => by rw [show _ = [] from h]; rfl
  | R :: l, B, ws, ⟨v, us, e1, h1, h2⟩ => by rw [e1, List.length_cons, gargs_len h2, List.length_cons]
theorem glTup {l : List (Hp → V → Prop)} {j} (h : GLA X d es σ B H (GArgs l)) (hu : ∀ R ∈ l, Up R) (hl : l.length ≤ 100000 := by exact Nat.le_of_ble_eq_true rfl) : GL X d (.Tuple es j pos) σ B H (TuR X.K l) := fun B1 H1 tr ok Q r =>
  w_e (pe_tup pa_w) (h B1 H1 tr ok _ fun vs B2 H2 tr2 ok2 hs => ⟨small_line (by rw [gargs_len hs]; exact hl), fun p hp => r (.ref p) _ _ (tr2.trans (Tr.lay ok2 hp)) (ok2.lay hp) ⟨p, vs, rfl, SqT.of upd_same, gargs_up hu (Tr.lay (o := .tup vs) ok2 hp).kb hs⟩⟩)
end
end K20
set_option maxHeartbeats 4000000
/-! letter_parts. -/
namespace K20
open PySem PySem.Spec L2
open PyProof.Rows hiding St
variable {P : Program} {w : World} {K : Fg} {mg : Str → Option Value} {base : Heap}
def letE (s : Str) : Er := ("WrongLetter", [.str s])
def intOf : PyData → Int
  | .int i => i
  | _ => 0
def firstOf : PyData → List PyData
  | .tuple (c :: _) => itemsT c
  | _ => []
def isWhich : PyData → Bool
  | .str z => decide (z = "which")
  | _ => false
def chkParts (t : PyData) : Except Er (FD × PyData) := match seqOf t with
  | some [a, b] => (match chkTold a with
    | .error e => .error e
    | .ok x => (match chkLevels b with
      | .error e => .error e
      | .ok c => if startsFit (firstOf c) x.1 (intOf x.2.1) (intOf x.2.2.1) = false then .error (letE "start") else if (isWhich x.2.2.2.1 && hasSums (itemsT c)) = true then .error (letE "strength") else .ok (x, c)))
  | _ => .error (letE "shape")
def PaR (K : Fg) (CV CF : Addr) (y : FD × PyData) : Hp → V → Prop := TuR K [FaR K CF y.1, ViR K CV y.2]
def pParts (t : PyData) : Prop := ∀ a b, seqOf t = some [a, b] → pTold a ∧ Sm4 b
abbrev nLp : List Str := ["letter", "facts", "view"]
theorem scLp : FnScope nLp ["letter"] (defScope (top 49)) := ⟨rfl, rfl, rfl, by decide +kernel, rfl, by decide +kernel, by decide +kernel⟩
theorem ok_parts {xc : Str → Addr} {CV CF : Addr} (M : Me K mg) (Z : Xs P w K mg base xc) (DV : VwD K mg CV) (D : FaD K mg CF) : Cal P w K mg base 12 "letter_parts" (FnT xc K pParts chkParts (PaR K CV CF)) [] := by
  refine mkX (M.df 49 (by decide)) scLp (fun _ _ _ _ _ _ us hl => match us, hl with | [_], _ => rfl) (fun vs H Q E h => ?_) fun f cdv A outer s H vs Q E hr h tk => ?_
  · obtain ⟨t, B, ok, ⟨w1, rfl, _⟩, _⟩ := h
    rfl
  obtain ⟨t, B, ok, ⟨w1, rfl, hd, hp⟩, ret, retX⟩ := h
  have y := Sy.ini1 (N := nLp) ok hd
  have nd := scLp.nd
  refine cWhen1 y (tNot' (dVal (dCall1 (ok_couple M) hr (aC (v 0) aN) ⟨t, rfl, rfl⟩))) (fun hc H1 t1 y1 => ?_) fun hc H1 t1 y1 => ?_
  · refine ss1 (sRaise Z.let_ hr rfl tk y1 (aC dS aN) rfl rfl ?_ retX)
    show chkParts t = .error (letE "shape")
    unfold chkParts
    unfold isCouple isLen at hc
    split
    · rename_i a b e
      rw [e] at hc
      cases hc
    · rfl
  obtain ⟨a, b, hx⟩ : ∃ a b, seqOf t = some [a, b] := len_two (by
    have : isCouple t = true := by simpa using hc
    exact this)
  obtain ⟨hpa, hpb⟩ := hp a b hx
  have ec : chkParts t = (match chkTold a with
    | .error e => .error e
    | .ok x => (match chkLevels b with
      | .error e => .error e
      | .ok c => if startsFit (firstOf c) x.1 (intOf x.2.1) (intOf x.2.2.1) = false then .error (letE "start") else if (isWhich x.2.2.2.1 && hasSums (itemsT c)) = true then .error (letE "strength") else .ok (x, c))) := by unfold chkParts; rw [hx]
  refine ssC (sSetG (R := fun B v => ∃ x, chkTold a = .ok x ∧ FaR K CF x B v) 1 y1 nd (glCall (l := [DaR K (· = a)]) (ok_factsOf M Z D) hr tk (glC (dG (dIx (v 0) dI hx rfl) y1.sl) DaR.upR glN) (retX.after y1.tr) ?_) fun wf B2 σ2 H2 hf t2 y2 => ?_)
  · rintro B1 vs e ⟨v1, us, rfl, ⟨t', hd', e'⟩, rfl⟩
    refine ⟨a, ⟨v1, rfl, by rw [← e']; exact hd', hpa⟩, fun B2 v _ h => h, fun er her => ?_⟩
    show chkParts t = .error er
    rw [ec, show chkTold a = .error er from her]
  obtain ⟨x, hxa, hF⟩ := hf
  rw [hxa] at ec
  simp only at ec
  refine ssC (sSetG (R := fun B v => ∃ c, chkLevels b = .ok c ∧ ViR K CV c B v) 2 y2 nd (glMake (l := [(· = b)]) (ok_View M Z DV) hr tk (ltC (ltE (dIx (v 0) dI hx rfl) y2.sl) ltN) (retX.after y2.tr) ?_) fun wv B3 σ3 H3 hv t3 y3 => ?_)
  · intro ts0 hts0
    obtain rfl := argsEq (l := [b]) hts0
    refine ⟨_, _, ⟨b, rfl, hpb, rfl, rfl⟩, ?_, fun er her => ?_⟩
    · rintro B2 v fl ⟨c, hc, rfl⟩ hi
      exact ⟨c, hc, hi⟩
    · show chkParts t = .error er
      rw [ec, show chkLevels b = .error er from her]
  obtain ⟨c, hcl, hV⟩ := hv
  rw [hcl] at ec
  simp only at ec
  have hF3 := InD.upR _ _ _ t3.kb hF
  obtain ⟨cf, hcf⟩ := told_fd hxa
  obtain ⟨⟨li, wi, hfd⟩, hw, hm, hst⟩ := facts_fd hcf
  obtain ⟨cs, rfl, hl1, hl37, hlv, ns, h0, hnl, hck⟩ := levels_ok hcl
  have ef : firstOf (.tuple cs) = ns := by
    cases cs with
    | nil => simp at h0
    | cons c cs =>
      simp at h0
      rw [h0]
      rfl
  rw [ef, show intOf x.2.1 = li from by rw [hfd.1]; rfl, show intOf x.2.2.1 = wi from by rw [hfd.2.1]; rfl] at ec
  have y3' : Sy K none B H B3 H3 σ3 [.dat t, .raw wf, .raw wv] := y3
  refine cWhen1 y3' (tNot' (dVal (k := startsFit ns x.1 li wi) (DE.ofGL fun B4 σ4 H4 e4 sl4 ok4 => glCall (xc := xc) (T := fun _ => False) (l := [DaR K (· = .tuple ns), FaR K CF x]) (ok_startsFit M D) hr tk (glC (dG (dIx (dFld (t := .tuple cs) 2 (InD.upR _ _ _ e4 hV) DV.cls (DV.no _ (by simp))) dI rfl (atI_nat (j := 0) h0)) sl4) DaR.upR (glC (gV 1 sl4 (InD.upR _ _ _ e4 hF3) InD.upR) InD.upR glN)) (fun er _ _ _ _ _ z _ => z.elim) ?_))) (fun hb H5 t5 y5 => ?_) fun hb H5 t5 y5 => ?_
  · rintro B1 vs e ⟨v1, us, rfl, ⟨t', hd', e'⟩, v2, us2, rfl, h2, rfl⟩
    exact ⟨(ns, x, li, wi), ⟨v1, v2, rfl, by rw [← e']; exact hd', h2, hck, by show ns.length ≤ 1000; omega, hfd⟩, fun B2 v _ h => h, fun er her => her⟩
  · have hb' : startsFit ns x.1 li wi = false := by simpa using hb
    refine ss1 (sRaise Z.let_ hr rfl tk y5 (aC dS aN) rfl rfl ?_ retX)
    show chkParts t = .error (letE "start")
    rw [ec, if_pos hb']
  have hb1 : ¬ startsFit ns x.1 li wi = false := fun z => by rw [z] at hb; cases hb
  rw [if_neg hb1] at ec
  have ehs : x.2.2.2.1 = .str "sums" ∨ x.2.2.2.1 = .str "which" := by
    unfold isW at hw
    split at hw
    · rename_i z e
      rw [e]
      rcases Bool.or_eq_true_iff.mp hw with h | h
      · left; rw [of_decide_eq_true h]
      · right; rw [of_decide_eq_true h]
    · cases hw
  have hsh : SeqAt.shaped x.2.2.2.1 = true := by
    rcases ehs with h | h <;> rw [h] <;> decide +kernel
  have edec : isWhich x.2.2.2.1 = PyData.eqv x.2.2.2.1 (.str "which") := by
    rcases ehs with h | h <;> rw [h] <;> decide +kernel
  rw [edec, show itemsT (.tuple cs) = cs from rfl] at ec
  refine cWhen1 y5 (tW (wAnd (tEq (t := x.2.2.2.1) hr (dFld 1 hF3 D.cls (D.no _ (by simp))) dS hsh (by decide +kernel)) (fun _ => wAnd1 (dVal (k := hasSums cs) (DE.ofGL fun B4 σ4 H4 e4 sl4 ok4 => glCall (xc := xc) (T := fun _ => False) (l := [ViR K CV (.tuple cs)]) (ok_hasSums M DV) hr tk (glC (gV 2 sl4 (InD.upR _ _ _ e4 hV) InD.upR) InD.upR glN) (fun er _ _ _ _ _ z _ => z.elim) ?_))))) (fun hb H6 t6 y6 => ?_) fun hb H6 t6 y6 => ?_
  · rintro B1 vs e ⟨v1, us, rfl, h1, rfl⟩
    exact ⟨cs, ⟨v1, rfl, h1, hl1, by show cs.length ≤ 1000; omega, hlv⟩, fun B2 v _ h => h, fun er her => her⟩
  · refine ss1 (sRaise Z.let_ hr rfl tk y6 (aC dS aN) rfl rfl ?_ retX)
    show chkParts t = .error (letE "strength")
    rw [ec, if_pos hb]
  · have hb2 : ¬ (PyData.eqv x.2.2.2.1 (.str "which") && hasSums cs) = true := fun z => by rw [z] at hb; cases hb
    rw [if_neg hb2] at ec
    refine ss1 (sRetG y6 (glTup (l := [FaR K CF x, ViR K CV (.tuple cs)]) (glC (gV 1 y6.sl hF3 InD.upR) InD.upR (glC (gV 2 y6.sl hV InD.upR) InD.upR glN)) (fun R hR => by
      rcases List.mem_cons.mp hR with rfl | hR
      · exact InD.upR
      · rw [List.mem_singleton.mp hR]; exact InD.upR)) fun v B' H' tr' ok' hr' => ret v B' H' tr' ok' ⟨(x, .tuple cs), ec, hr'⟩)
end K20
set_option maxHeartbeats 4000000
/-! check_letter. -/
namespace K20
open PySem PySem.Spec L2
open PyProof.Rows hiding St
variable {P : Program} {w : World} {K : Fg} {mg : Str → Option Value} {base : Heap}
theorem glIx1 {X : Cx} {d : Dr} {B H : Hp} {σ : St} {R0 R : Hp → V → Prop} {a : Expr} {j} {pos p : Pos} (h : GL X d a σ B H (TuR X.K [R0, R])) : GL X d (.Subscript a (.Constant (.int 1) j p) pos) σ B H R := fun B1 H1 tr ok Q r =>
  w_e (pe_ix ix_seq pe_w pe_int (fun _ _ => rfl)) (h B1 H1 tr ok _ fun v B2 H2 tr2 ok2 hs => by
    obtain ⟨q, ws, rfl, hq, v0, us, rfl, h0, v1, us2, rfl, h1, rfl⟩ := hs
    exact .inr (.inl ⟨q, [v0, v1], 1, v1, rfl, rfl, sqT_mono ok2.kh hq, rfl, r v1 B2 H2 tr2 ok2 h1⟩))
def chkLetter (t : PyData) : Except Er PyData := match chkParts t with
  | .error e => .error e
  | .ok y => .ok y.2
theorem scCl : FnScope ["letter"] ["letter"] (defScope (top 51)) := ⟨rfl, rfl, rfl, by decide +kernel, rfl, by decide +kernel, by decide +kernel⟩
theorem ok_checkLetter {xc : Str → Addr} {CV CF : Addr} (M : Me K mg) (Z : Xs P w K mg base xc) (DV : VwD K mg CV) (D : FaD K mg CF) : Cal P w K mg base 13 "check_letter" (FnT xc K pParts chkLetter (ViR K CV)) [] := by
  refine mkX (M.df 51 (by decide)) scCl (fun _ _ _ _ _ _ us hl => match us, hl with | [_], _ => rfl) (fun vs H Q E h => ?_) fun f cdv A outer s H vs Q E hr h tk => ?_
  · obtain ⟨t, B, ok, ⟨w1, rfl, _⟩, _⟩ := h
    rfl
  obtain ⟨t, B, ok, ⟨w1, rfl, hd, hp⟩, ret, retX⟩ := h
  have y := Sy.ini1 (N := ["letter"]) ok hd
  refine ss1 (sRetG y (glIx1 (R0 := fun _ _ => True) (R := fun B v => ∃ c, chkLetter t = .ok c ∧ ViR K CV c B v) (glCall (l := [DaR K (· = t)]) (ok_parts M Z DV D) hr tk (glC (dG (v 0) y.sl) DaR.upR glN) (retX.after y.tr) ?_)) fun v B' H' tr' ok' hr' => ret v B' H' tr' ok' hr')
  rintro B1 vs e ⟨v1, us, rfl, ⟨t', hd', e'⟩, rfl⟩
  refine ⟨t, ⟨v1, rfl, by rw [← e']; exact hd', hp⟩, ?_, fun er her => ?_⟩
  · rintro B2 v _ ⟨z, hz, q, ws, rfl, hq, v0, us, rfl, h0, v1, us2, rfl, h1, rfl⟩
    exact ⟨q, _, rfl, hq, v0, _, rfl, trivial, v1, _, rfl, ⟨z.2, by unfold chkLetter; rw [hz], h1⟩, rfl⟩
  · show chkLetter t = .error er
    unfold chkLetter
    rw [show chkParts t = .error er from her]
end K20
set_option maxHeartbeats 4000000
/-! _law_facts. -/
namespace K20
open PySem PySem.Spec L2
open PyProof.Rows hiding St
variable {P : Program} {w : World} {K : Fg} {mg : Str → Option Value} {base : Heap}
def mOf (m : Int) : PyData := if 0 < m then .int m else .none
def lawFd (t : PyData) : Except Er FD := match t with
  | .tuple [.int m, l, w, h, s] => finF (mOf m) l w h s
  | _ => .error ("", [])
theorem scLf : FnScope ["_law_told_here"] ["_law_told_here"] (defScope (top 76)) := ⟨rfl, rfl, rfl, by decide +kernel, rfl, by decide +kernel, by decide +kernel⟩
theorem ok_lawFacts {xc : Str → Addr} {CF : Addr} (M : Me K mg) (Z : Xs P w K mg base xc) (D : FaD K mg CF) : Cal P w K mg base 6 "_law_facts" (FnT xc K (fun t => ∃ m l w h s, t = .tuple [.int m, l, w, h, s] ∧ atom h = true) lawFd (FaR K CF)) [] := by
  refine mkX (M.df 76 (by decide)) scLf (fun _ _ _ _ _ _ us hl => match us, hl with | [_], _ => rfl) (fun vs H Q E h => ?_) fun f cdv A outer s H vs Q E hr h tk => ?_
  · obtain ⟨t, B, ok, ⟨w1, rfl, _⟩, _⟩ := h
    rfl
  obtain ⟨t, B, ok, ⟨w1, rfl, hd, m, l, wo, he, st, rfl, hat⟩, ret, retX⟩ := h
  have y := Sy.ini1 (N := ["_law_told_here"]) ok hd
  refine ss1 (sRetG y (glMake (R := fun B v => ∃ c, lawFd (.tuple [.int m, l, wo, he, st]) = .ok c ∧ FaR K CF c B v) (ok_Facts M Z D) hr tk (ltC (ltE (dIf (S := (· = mOf m)) (tGt (dIx (v 0) dI) dI) (fun e => DE.to (dIx (v 0) dI) (by rintro _ rfl; unfold mOf; rw [if_pos (of_decide_eq_true e)])) (fun e => DE.to dN (by rintro _ rfl; unfold mOf; rw [if_neg (of_decide_eq_false e)]))) y.sl) (ltC (ltE (dIx (v 0) dI) y.sl) (ltC (ltE (dIx (v 0) dI) y.sl) (ltC (ltE (dIx (v 0) dI) y.sl) (ltC (ltE (dIx (v 0) dI) y.sl) ltN))))) (retX.after y.tr) ?_) fun v B' H' tr' ok' hr' => ret v B' H' tr' ok' hr')
  intro ts0 hts0
  obtain rfl := argsEq (l := [mOf m, l, wo, he, st]) hts0
  refine ⟨_, _, ⟨_, l, wo, he, st, rfl, hat, rfl, rfl⟩, ?_, fun er her => ?_⟩
  · rintro B2 v fl ⟨⟨c, hc⟩, rfl⟩ hi
    refine ⟨(mOf m, l, wo, he, st), ?_, hi⟩
    show finF _ _ _ _ _ = _
    unfold finF
    rw [hc]
  · show finF _ _ _ _ _ = _
    unfold finF
    rw [show chkFacts (mOf m) l wo he st = .error er from her]
end K20
set_option maxHeartbeats 4000000
/-! Layer: tuple + tuple. -/
namespace K20
open PySem PySem.Spec L2
open PyProof.Rows hiding St
variable {X : Cx} {d : Dr} {ds : List Sd} {B : Hp} {e1 e2 : Expr} {pos : Pos} {xs ys : List PyData}
theorem dCatT (ha : DE X d e1 ds B (· = .tuple xs)) (hb : DE X d e2 ds B (· = .tuple ys)) (hl : xs.length + ys.length ≤ 100000) : DE X d (.BinOp e1 .Add e2 pos) ds B (· = .tuple (xs ++ ys)) := dBin op_catA ha hb (by
  intro B1 H x y ta tb e ok g1 g2 h1 h2 Q r
  rw [show ta = .tuple xs from h1] at g1
  rw [show tb = .tuple ys from h2] at g2
  obtain ⟨a, us, rfl, q1, d1⟩ := g1.tup_inv
  obtain ⟨b, ws, rfl, q2, d2⟩ := g2.tup_inv
  refine ⟨a, b, us, ws, rfl, rfl, sqT_mono ok.kh q1, sqT_mono ok.kh q2, small_line (by rw [d1.len, d2.len]; exact hl), fun z => ?_, fun _ z => ?_, fun _ _ p hp => ?_⟩
  · subst z
    cases d1
    exact r _ _ B1 H .refl ok g2 rfl
  · subst z
    cases d2
    exact r _ _ B1 H .refl ok g1 (by rw [List.append_nil])
  · exact r _ _ _ _ (Tr.lay ok hp) (ok.lay hp) (.tup (SqT.of upd_same) ((d1.app d2).up (Tr.lay (o := .tup (us ++ ws)) ok hp).kb)) rfl)
end K20
set_option maxHeartbeats 4000000
/-! _law_fits. -/
namespace K20
open PySem PySem.Spec L2
open PyProof.Rows hiding St
variable {P : Program} {w : World} {K : Fg} {mg : Str → Option Value} {base : Heap}
theorem shaped_starts (xs : List PyData) (h : ∀ x ∈ xs, CkS x) : SeqAt.shaped (.list xs) = true := by
  have key : ∀ xs : List PyData, (∀ x ∈ xs, CkS x) → PyData.canLayAll0 xs = true ∧ PyData.depthAll xs ≤ 2 := by
    intro xs
    induction xs with
    | nil => intro _; exact ⟨by simp [PyData.canLayAll0], by simp [PyData.depthAll]⟩
    | cons x xs ih =>
      intro h
      obtain ⟨i, j, rfl⟩ := h x (List.mem_cons_self ..)
      obtain ⟨a, b⟩ := ih fun y hy => h y (List.mem_cons_of_mem _ hy)
      exact ⟨by simp [PyData.canLayAll0, PyData.canLay0, a], by simp [PyData.depthAll, PyData.depth]; omega⟩
  obtain ⟨a, b⟩ := key xs h
  exact shaped_of (by simp only [PyData.canLay0]; exact a) (by simp only [PyData.depth]; omega)
end K20
set_option maxHeartbeats 4000000
/-! _law_fits: the walk. -/
namespace K20
open PySem PySem.Spec L2
open PyProof.Rows hiding St
variable {P : Program} {w : World} {K : Fg} {mg : Str → Option Value} {base : Heap}
def lawFits (xs : List PyData) (m l w : Int) : Bool := if ((!(xs.filter fun x => decide (w ≤ sSnd x)).isEmpty) || decide (l < (litN xs : Nat))) = true then false else decide (m = 0) || decide (((xs.length : Nat) : Int) - (litN xs : Nat) + l ≤ m)
def fFits : List PyData → (PyData → Prop) → Prop := fun ts S => ∃ xs m l w h s, ts = [.tuple xs, .tuple [.int m, .int l, .int w, h, s]] ∧ (∀ x ∈ xs, CkS x) ∧ xs.length ≤ 1000 ∧ S = (· = .bool (lawFits xs m l w))
abbrev nFi : List Str := ["_law_starts_here", "_law_told_here", "_law_lit", "_law_start"]
theorem scFi : FnScope nFi ["_law_starts_here", "_law_told_here"] (defScope (top 78)) := ⟨rfl, rfl, rfl, by decide +kernel, rfl, by decide +kernel, by decide +kernel⟩
theorem ne_nil (xs : List PyData) : (!PyData.eqv (.list xs) (.list [])) = !xs.isEmpty := by
  cases xs <;> simp [PyData.eqv, PyData.eqvAll]
theorem ok_fits (M : Me K mg) : Cal P w K mg base 1 "_law_fits" (Fn K fFits) [] := by
  refine mkCal (M.df 78 (by decide)) scFi (fun _ _ _ _ _ _ us hl => match us, hl with | [_, _], _ => rfl) (fun vs H Q E h => ?_) fun f cdv A outer s H vs Q E hr h => ?_
  · obtain ⟨B, ts, S, ok, hv, ⟨xs, m, l, w, he, st, rfl, _⟩, _⟩ := h
    exact hv.len
  obtain ⟨B, ts, S, ok, hv, ⟨xs, m, l, wi, he, st, rfl, hck, hlen, rfl⟩, ret⟩ := h
  have y := Sy.ini (N := nFi) ok hv
  have nd := scFi.nd
  have flt : ∀ (q : PyData → Bool) (t : PyData), (∃ ys, t = .list ys ∧ Paired (fun x y => y = x) (xs.filter q) ys) → t = .list (xs.filter q) := by
    rintro q _ ⟨ys, rfl, hp⟩
    have := paired_map (f := fun x => x) hp
    rw [this, List.map_id']
  refine ssC (sSet1 2 y nd (dLen (t := .list (xs.filter fun x => decide (sFst x = 1))) (n := litN xs) M.len ((deL (dLcI (q := fun x => decide (sFst x = 1)) (R := fun x y => y = x) 3 rfl nd (blkOk_by (N := nFi) (sc := defScope (top 78)) (own := [("_law_start", 3)]) (by decide +kernel)) (v 0) rfl (by omega) (by decide) (fun s H C cl fp => pg_name nd (i := 3) (by rfl) (Or.inl rfl)) (fun z B5 hz e s H C cl fp => ?_) (fun z B5 hz hq e s H C cl fp => v 3))).to (flt _))) fun B2 σ2 H2 t2 y2 => ?_)
  · obtain ⟨i, j, rfl⟩ := hck z hz
    exact (tTo (tEq hr (dIx (v 3) dI rfl rfl) dI rfl rfl) (by rintro _ rfl; exact eqv_int _ _))
  refine cWhen1 y2 (tW (wOr (k := !(xs.filter fun x => decide (wi ≤ sSnd x)).isEmpty) (tTo (tNe (t := .list (xs.filter fun x => decide (wi ≤ sSnd x))) (u := .list []) hr ((deL (dLcI (q := fun x => decide (wi ≤ sSnd x)) (R := fun x y => y = x) 3 rfl nd (blkOk_by (N := nFi) (sc := defScope (top 78)) (own := [("_law_start", 3)]) (by decide +kernel)) (v 0) rfl (by omega) (by decide) (fun s H C cl fp => pg_name nd (i := 3) (by rfl) (Or.inl rfl)) (fun z B5 hz e s H C cl fp => ?_) (fun z B5 hz hq e s H C cl fp => v 3))).to (flt _)) (dLst aN) (shaped_starts _ fun x hx => hck x (List.mem_filter.mp hx).1) rfl) (by rintro _ rfl; exact ne_nil _)) (fun _ => wOr1 (tGt (v 2) (dIx (v 1) dI))))) (fun hb H3 t3 y3 => ?_) fun hb H3 t3 y3 => ?_
  · obtain ⟨i, j, rfl⟩ := hck z hz
    exact tGe (dIx (v 3) dI rfl rfl) (dIx (v 1) dI)
  · refine ss1 (sRet y3 dB ?_)
    have e : lawFits xs m l wi = false := by unfold lawFits; rw [if_pos hb]
    rw [e] at ret
    exact ret
  · refine ss1 (sRet y3 (dOr (k := decide (m = 0)) (DE.to (dEq (t := .int m) (u := .int 0) hr (dIx (v 1) dI) dI rfl rfl) (by rintro _ rfl; rw [eqv_int])) (fun _ => dOne (dLe (dAdd (dSub (dLen (n := xs.length) M.len (v 0)) (v 2)) (dIx (v 1) dI)) (dIx (v 1) dI)))) ?_)
    have e : lawFits xs m l wi = (decide (m = 0) || decide (((xs.length : Nat) : Int) - (litN xs : Nat) + l ≤ m)) := by unfold lawFits; rw [if_neg (by rw [hb]; exact Bool.false_ne_true)]
    rw [e] at ret
    exact ret
end K20
set_option maxHeartbeats 4000000
/-! _law_first_fault. -/
namespace K20
open PySem PySem.Spec L2
open PyProof.Rows hiding St
variable {P : Program} {w : World} {K : Fg} {mg : Str → Option Value} {base : Heap}
def dueL (s : Str) : PyData := .tuple [.str "letter", .str s]
def firstFault (ns cs : List PyData) (m l w : Int) (h : PyData) : PyData := if lawFits ns m l w = false then dueL "start" else if (isWhich h && hasSums cs) = true then dueL "strength" else .none
def fFirst : List PyData → (PyData → Prop) → Prop := fun ts S => ∃ cs ns m l w h s, ts = [.tuple [.int m, .int l, .int w, h, s], .tuple cs] ∧ (h = .str "sums" ∨ h = .str "which") ∧ cs[0]? = some (.tuple ns) ∧ (∀ x ∈ ns, CkS x) ∧ ns.length ≤ 1000 ∧ 1 ≤ cs.length ∧ cs.length ≤ 1000 ∧ (∀ c ∈ cs.drop 1, LvC c) ∧ S = (· = firstFault ns cs m l w h)
abbrev nFf : List Str := ["_law_told_here", "_law_levels_here", "_law_nodes", "_law_parent", "_law_heard_here", "_law_entry"]
theorem scFf : FnScope nFf ["_law_told_here", "_law_levels_here"] (defScope (top 79)) := ⟨rfl, rfl, rfl, by decide +kernel, rfl, by decide +kernel, by decide +kernel⟩
theorem shaped_ents (es : List PyData) (h : ∀ e ∈ es, CkE e) : SeqAt.shaped (.list es) = true := by
  have key : ∀ xs : List PyData, (∀ x ∈ xs, CkE x) → PyData.canLayAll0 xs = true ∧ PyData.depthAll xs ≤ 3 := by
    intro xs
    induction xs with
    | nil => intro _; exact ⟨by simp [PyData.canLayAll0], by simp [PyData.depthAll]⟩
    | cons x xs ih =>
      intro h
      obtain ⟨i, j, k, rfl⟩ := h x (List.mem_cons_self ..)
      obtain ⟨a, b⟩ := ih fun y hy => h y (List.mem_cons_of_mem _ hy)
      exact ⟨by simp [PyData.canLayAll0, PyData.canLay0, a], by simp [PyData.depthAll, PyData.depth]; omega⟩
  obtain ⟨a, b⟩ := key es h
  exact shaped_of (by simp only [PyData.canLay0]; exact a) (by simp only [PyData.depth]; omega)
theorem sumN_filter {p : Int} {es : List PyData} : (!(es.filter fun e => !PyData.eqv (strOf e) oneOne).isEmpty) = sumN (.tuple [.int p, .tuple es]) := by
  show _ = es.any _
  induction es with
  | nil => rfl
  | cons e es ih =>
    rw [List.any_cons, List.filter_cons]
    cases (!PyData.eqv (strOf e) oneOne) with
    | true => rfl
    | false =>
      rw [if_neg Bool.false_ne_true, Bool.false_or]
      exact ih
theorem ok_first (M : Me K mg) : Cal P w K mg base 2 "_law_first_fault" (Fn K fFirst) [] := by
  refine mkCal (M.df 79 (by decide)) scFf (fun _ _ _ _ _ _ us hl => match us, hl with | [_, _], _ => rfl) (fun vs H Q E h => ?_) fun f cdv A outer s H vs Q E hr h => ?_
  · obtain ⟨B, ts, S, ok, hv, ⟨cs, ns, m, l, w, he, st, rfl, _⟩, _⟩ := h
    exact hv.len
  obtain ⟨B, ts, S, ok, hv, ⟨cs, ns, m, l, wi, he, st, rfl, hhe, h0, hck, hnl, hl1, hl2, hcs, rfl⟩, ret⟩ := h
  have y := Sy.ini (N := nFf) ok hv
  have nd := scFf.nd
  refine cWhen1 y (tNot' (dVal (dCall1 (S := (· = .bool (lawFits ns m l wi))) (ok_fits M) hr (aC (dIx (v 1) dI rfl (atI_nat (j := 0) h0)) (aC (v 0) aN)) ⟨ns, m, l, wi, he, st, rfl, hck, hnl, rfl⟩))) (fun hb H1 t1 y1 => ?_) fun hb H1 t1 y1 => ?_
  · have hb' : lawFits ns m l wi = false := by simpa using hb
    refine ss1 (sRet y1 (dTup (aC dS (aC dS aN))) ?_)
    have e : firstFault ns cs m l wi he = dueL "start" := by unfold firstFault; rw [if_pos hb']
    rw [e] at ret
    exact ret
  have hb' : ¬ lawFits ns m l wi = false := fun z => by rw [z] at hb; cases hb
  have hsh : SeqAt.shaped he = true := by rcases hhe with h | h <;> rw [h] <;> decide +kernel
  have ew : PyData.eqv he (.str "which") = isWhich he := by rcases hhe with h | h <;> rw [h] <;> decide +kernel
  refine ssC (sFor (t := .tuple (if isWhich he = true then cs.drop 1 else [])) (g := gName 2) y1.sl y1.ok (passes_of rfl) rfl (dIf (tEq (t := he) (u := .str "which") hr (dIx (v 0) dI) dS hsh (by decide +kernel)) (fun e => DE.to (dSlF (k := 1) (xs := cs) (v 1) dI hl1 (by omega)) (by rintro _ rfl; rw [if_pos (by rw [← ew]; exact e)])) (fun e => DE.to (dTup aN) (by rintro _ rfl; rw [if_neg (by rw [← ew, e]; exact Bool.false_ne_true)]))) rfl (pg_name nd (by rfl) (by first | exact Or.inl rfl | exact Or.inr rfl)) fun w2 B2 H2 t2 o2 hd2 => ?_)
  have hsub : ∀ c ∈ (if isWhich he = true then cs.drop 1 else []), isWhich he = true ∧ c ∈ cs.drop 1 := fun c hc => by
    split at hc
    · rename_i e; exact ⟨e, hc⟩
    · cases hc
  refine ⟨fun i B' σ' H' => Sy K none B H B' H' σ' [.dat (.tuple [.int m, .int l, .int wi, he, st]), .dat (.tuple cs), .any, .any, .any, .any] ∧ ∀ c ∈ (if isWhich he = true then cs.drop 1 else []).take i, sumC c = false, ?_, ?_, ?_, ?_⟩
  · exact ⟨y1.on t2 o2, fun c hc => by simp at hc⟩
  · rintro i B' σ' H' ⟨y3, _⟩
    exact y3.same
  · rintro i x wx B' σ' H' hx eB ⟨y3, hall⟩ hdx
    obtain ⟨hwh, hxc⟩ := hsub x (List.mem_of_getElem? hx)
    obtain ⟨ms, rfl, hns⟩ := hcs x hxc
    have y4 := y3.put 2 (x := .dat (.tuple ms)) ⟨_, rfl, hdx⟩
    refine (show wSs _ _ _ (σ'.set 2 (some wx)) H' from ?_)
    generalize σ'.set 2 (some wx) = σ4 at y4 ⊢
    refine ss1 (sFor (g := gTup K 2 (gCons (gName 3) (gCons (gName 4) gNil))) y4.sl y4.ok (passes_of rfl) rfl (v 2) rfl (pg_tup rfl (pgs_cons (pg_name nd (by rfl) (Or.inl rfl)) (pgs_cons (pg_name nd (by rfl) (Or.inl rfl)) pgs_nil))) fun w5 B5 H5 t5 o5 hd5 => ?_)
    refine ⟨fun j B' σ' H' => Sy K none B H B' H' σ' [.dat (.tuple [.int m, .int l, .int wi, he, st]), .dat (.tuple cs), .any, .any, .any, .any] ∧ ∀ n ∈ ms.take j, sumN n = false, ?_, ?_, ?_, ?_⟩
    · exact ⟨(y4.on t5 o5).fo 2, fun c hc => by simp at hc⟩
    · rintro j B' σ' H' ⟨y6, _⟩
      exact y6.same
    · rintro j n wn B' σ' H' hn eB' ⟨y6, hall2⟩ hdn
      obtain ⟨⟨pi, es, rfl, hes⟩, hel⟩ := hns n (List.mem_of_getElem? hn)
      obtain ⟨ax, vx, rfl, hsx, hdvx⟩ := hdn.tup_inv
      obtain ⟨v1, v2, rfl, d1, d2⟩ := hdvx.two
      refine ⟨ax, _, rfl, sqT_mono y6.same hsx, rfl, _, _, rfl, _, _, rfl, rfl, ?_⟩
      have y7 : Sy K none B H B' H' ((σ'.set 3 (some v1)).set 4 (some v2)) [.dat (.tuple [.int m, .int l, .int wi, he, st]), .dat (.tuple cs), .any, .dat (.int pi), .dat (.tuple es), .any] := (y6.put 3 (x := .dat (.int pi)) ⟨_, rfl, d1⟩).put 4 (x := .dat (.tuple es)) ⟨_, rfl, d2⟩
      refine (show wSs _ _ _ ((σ'.set 3 (some v1)).set 4 (some v2)) H' from ?_)
      generalize (σ'.set 3 (some v1)).set 4 (some v2) = σ7 at y7 ⊢
      have hel' : es.length ≤ 1000 := hel
      have flt : ∀ (q : PyData → Bool) (t : PyData), (∃ ys, t = .list ys ∧ Paired (fun x y => y = x) (es.filter q) ys) → t = .list (es.filter q) := by
        rintro q _ ⟨ys, rfl, hp⟩
        have := paired_map (f := fun x => x) hp
        rw [this, List.map_id']
      refine ss1 (sIf1 y7 (tTo (tNe (t := .list (es.filter fun e => !PyData.eqv (strOf e) oneOne)) (u := .list []) hr ((deL (dLcI (q := fun e => !PyData.eqv (strOf e) oneOne) (R := fun x y => y = x) 5 rfl nd (blkOk_by (N := nFf) (sc := defScope (top 79)) (own := [("_law_entry", 5)]) (by decide +kernel)) (v 4) rfl (by omega) (by decide) (fun s H C cl fp => pg_name nd (i := 5) (by rfl) (Or.inl rfl)) (fun z B5 hz e s H C cl fp => ?_) (fun z B5 hz hq e s H C cl fp => v 5))).to (flt _)) (dLst aN) (shaped_ents _ fun x hx => hes x (List.mem_filter.mp hx).1) rfl) (S2 := (· = sumN (.tuple [.int pi, .tuple es]))) (by rintro _ rfl; rw [ne_nil]; exact sumN_filter)) (fun hb H9 t9 y9 => ?_) fun hb H9 t9 y9 => ?_)
      · obtain ⟨q, p1, p2, rfl⟩ := hes z hz
        exact tNe (t := .tuple [.int p1, .int p2]) (u := oneOne) hr (dIx (v 5) dI rfl rfl) (dTup (aC dI (aC dI aN))) rfl rfl
      · refine ss1 (sRet y9 (dTup (aC dS (aC dS aN))) ?_)
        have : hasSums cs = true := by
          unfold hasSums
          rw [List.any_eq_true]
          refine ⟨_, hxc, ?_⟩
          unfold sumC
          rw [List.any_eq_true]
          exact ⟨_, List.mem_of_getElem? hn, hb⟩
        have e : firstFault ns cs m l wi he = dueL "strength" := by unfold firstFault; rw [if_neg hb', hwh, this]; rfl
        rw [e] at ret
        exact ret
      · exact ssN ⟨_, eB'.trans (Same.refl _), (y9.fo 3).fo 4, take_all hn hall2 hb⟩
    · rintro B' σ' H' eB' ⟨y6, hall2⟩
      rw [List.take_length] at hall2
      exact ⟨_, eB.trans (t5.kb.trans eB'), y6, take_all hx hall (any_take hall2)⟩
  · rintro B' σ' H' eB ⟨y3, hall⟩
    rw [List.take_length] at hall
    refine ss1 (sRet y3 dN ?_)
    have e : firstFault ns cs m l wi he = .none := by
      unfold firstFault
      rw [if_neg hb']
      cases hw : isWhich he with
      | false => rfl
      | true =>
        rw [hw, if_pos rfl] at hall
        rw [show hasSums cs = false from any_take hall]
        rfl
    rw [e] at ret
    exact ret
end K20
set_option maxHeartbeats 4000000
/-! _law_lists. -/
namespace K20
open PySem PySem.Spec L2
open PyProof.Rows hiding St
variable {P : Program} {w : World} {K : Fg} {mg : Str → Option Value} {base : Heap}
/-- tuples no deeper than n, of bounded lengths -/
def WT : Nat → PyData → Prop
  | 0, t => isTupD t = false
  | n + 1, t => ∀ xs, t = .tuple xs → xs.length ≤ 1000 ∧ ∀ x ∈ xs, WT n x
def listsN : Nat → PyData → PyData
  | 0, t => t
  | n + 1, t => match t with
    | .tuple xs => .list (xs.map (listsN n))
    | t => t
theorem scLi : FnScope ["_law_thing", "_law_part"] ["_law_thing"] (defScope (top 74)) := ⟨rfl, rfl, rfl, by decide +kernel, rfl, by decide +kernel, by decide +kernel⟩
def fLists (n : Nat) : List PyData → (PyData → Prop) → Prop := fun ts S => ∃ t, ts = [t] ∧ WT n t ∧ S = (· = listsN n t)
theorem lists_step (M : Md K mg) (n : Nat) (ih : ∀ m, m + 1 = n → Cal P w K mg base (m + 1) "_law_lists" (Fn K (fLists m)) []) : Cal P w K mg base (n + 1) "_law_lists" (Fn K (fLists n)) [] := by
    refine mkCal (M.df 74 (by decide)) scLi (fun _ _ _ _ _ _ us hl => match us, hl with | [_], _ => rfl) (fun vs H Q E h => ?_) fun f cdv A outer s H vs Q E hr h => ?_
    · obtain ⟨B, ts, S, ok, hv, ⟨t, rfl, _⟩, _⟩ := h
      exact hv.len
    obtain ⟨B, ts, S, ok, hv, ⟨t, rfl, hw, rfl⟩, ret⟩ := h
    have y := Sy.ini (N := ["_law_thing", "_law_part"]) ok hv
    have nd := scLi.nd
    refine ss1 (sRet y (dIf (S := (· = listsN n t)) (dVal (dIsi (T := "tuple") M.isinstance M.tuple (by decide +kernel) (v 0) (isTupD_kit t))) (fun e => ?_) (fun e => DE.to (v 0) (by
      rintro _ rfl
      cases n with
      | zero => rfl
      | succ n => unfold listsN; split <;> first | cases e | rfl))) ret)
    cases n with
    | zero =>
      have : isTupD t = false := hw
      rw [this] at e
      cases e
    | succ n =>
      obtain ⟨xs, rfl⟩ : ∃ xs, t = .tuple xs := by cases t <;> first | exact ⟨_, rfl⟩ | cases e
      obtain ⟨hl, hx⟩ := hw xs rfl
      refine (deL (dLc (t := .tuple xs) (R := fun x y => y = listsN n x) 1 rfl nd (blkOk_by (N := ["_law_thing", "_law_part"]) (sc := defScope (top 74)) (own := [("_law_part", 1)]) (by decide +kernel)) (v 0) rfl (by omega) (by decide) (fun s H C cl fp => pg_name nd (i := 1) (by rfl) (Or.inl rfl)) (fun z B5 hz e s H C cl fp => dCall1 (ih n rfl) hr (aC (v 1) aN) ⟨z, rfl, hx z hz, rfl⟩ (Nat.le_refl _)))).to ?_
      rintro _ ⟨ys, rfl, hp⟩
      rw [paired_map (f := listsN n) hp]
      rfl
theorem ok_lists (M : Md K mg) : ∀ n : Nat, Cal P w K mg base (n + 1) "_law_lists" (Fn K (fLists n)) []
  | 0 => lists_step M 0 fun m e => nomatch e
  | n + 1 => lists_step M (n + 1) fun m e => by
    obtain rfl : m = n := by omega
    exact ok_lists M m
end K20
set_option maxHeartbeats 4000000
/-! Layer: texts. -/
namespace K20
open PySem PySem.Spec L2 TL
open PyProof.Rows hiding St
/-- a text of one sign -/
abbrev sgn (c : Nat) : Str := ⟨#[c]⟩
theorem sgn_inj {a b : Nat} (h : sgn a = sgn b) : a = b := by
  have := congrArg tl h
  simpa [tl, sgn] using this
theorem eqv_str (x y : Str) : PyData.eqv (.str x) (.str y) = decide (x = y) := by
  simp only [PyData.eqv]
  by_cases h : x = y <;> simp [h]
theorem eqv_sgn (a b : Nat) : PyData.eqv (.str (sgn a)) (.str (sgn b)) = decide (a = b) := by
  rw [eqv_str]
  exact decide_eq_decide.mpr ⟨sgn_inj, fun h => by rw [h]⟩
section
variable {X : Cx} {d : Dr} {ds : List Sd} {B0 H0 B H : Hp} {σ : St} {S Sa Sb : PyData → Prop} {a b e e1 e2 lo hi o elt iter : Expr} {pos pa pb pc p2 p px : Pos} {x : Str} {scope : Scope}
/-- text[i] -/
theorem dChr {z : Str} {i : Int} {c : Nat} (ha : DE X d a ds B (· = .str z)) (hb : DE X d b ds B (· = .int i)) (hz : z.length ≤ 100000) (h : atI z.cps.toList i = some c) (hs : PlainIx b := by exact fun _ _ => rfl) : DE X d (.Subscript a b pos) ds B (· = .str (sgn c)) :=
  de_of (pe_ix ix_str pe_w pe_w hs) (ev_op ha hb fun B1 H x y ta tb e ok g1 g2 e1 e2 Q r => by
    subst e1 e2
    exact ⟨z, i, c, g1.str_inv, g2.int_inv, small_line hz, h, r _ _ B1 H .refl ok (.str _) rfl⟩)
theorem tInSign {c : Nat} {z : Str} (ha : DE X d a ds B (· = .str (sgn c))) (hb : DE X d b ds B (· = .str z)) (hm : behindInMarks .In b = false := by rfl) : DT X d (.Compare a [.In] [b] pos) ds B (· = decide (c ∈ tl z)) :=
  cmpT op_in_sign ha hb (fun B1 H x y ta tb e ok g1 g2 e1 e2 Q r => by
    subst e1 e2
    exact ⟨c, z, g1.str_inv, g2.str_inv, r _ _ B1 H .refl ok (.bl _) rfl⟩) hm
theorem dInSign {c : Nat} {z : Str} (ha : DE X d a ds B (· = .str (sgn c))) (hb : DE X d b ds B (· = .str z)) (hm : behindInMarks .In b = false := by rfl) : DE X d (.Compare a [.In] [b] pos) ds B (· = .bool (decide (c ∈ tl z))) :=
  dCmp op_in_sign ha hb (fun B1 H x y ta tb e ok g1 g2 e1 e2 Q r => by
    subst e1 e2
    exact ⟨c, z, g1.str_inv, g2.str_inv, r _ _ B1 H .refl ok (.bl _) rfl⟩) hm
theorem tNotInSign {c : Nat} {z : Str} (ha : DE X d a ds B (· = .str (sgn c))) (hb : DE X d b ds B (· = .str z)) (hm : behindInMarks .NotIn b = false := by rfl) : DT X d (.Compare a [.NotIn] [b] pos) ds B (· = !decide (c ∈ tl z)) :=
  cmpT op_notIn_sign ha hb (fun B1 H x y ta tb e ok g1 g2 e1 e2 Q r => by
    subst e1 e2
    exact ⟨c, z, g1.str_inv, g2.str_inv, r _ _ B1 H .refl ok (.bl _) rfl⟩) hm
/-- a text == a text -/
theorem tEqStr {y z : Str} (ha : DE X d a ds B (· = .str y)) (hb : DE X d b ds B (· = .str z)) : DT X d (.Compare a [.Eq] [b] pos) ds B (· = decide (y = z)) :=
  cmpT op_eq ha hb (fun B1 H x w ta tb e ok g1 g2 e1 e2 Q r => by
    subst e1 e2
    obtain rfl := g1.str_inv
    obtain rfl := g2.str_inv
    refine ⟨rfl, ?_⟩
    have e : decide (V.str y = V.str z) = decide (y = z) := decide_eq_decide.mpr ⟨fun h => by injection h, fun h => by rw [h]⟩
    rw [e]
    exact r _ _ B1 H .refl ok (.bl _) rfl) (nomark _)
theorem tNeStr {y z : Str} (ha : DE X d a ds B (· = .str y)) (hb : DE X d b ds B (· = .str z)) : DT X d (.Compare a [.NotEq] [b] pos) ds B (· = !decide (y = z)) :=
  cmpT op_ne ha hb (fun B1 H x w ta tb e ok g1 g2 e1 e2 Q r => by
    subst e1 e2
    obtain rfl := g1.str_inv
    obtain rfl := g2.str_inv
    refine ⟨rfl, ?_⟩
    have e : decide (V.str y = V.str z) = decide (y = z) := decide_eq_decide.mpr ⟨fun h => by injection h, fun h => by rw [h]⟩
    rw [e]
    exact r _ _ B1 H .refl ok (.bl _) rfl) (nomark _)
/-- a sign == a sign -/
theorem tEqC {c c' : Nat} {z : Str} (ha : DE X d a ds B (· = .str (sgn c))) (hb : DE X d b ds B (· = .str z)) (hz : z = sgn c' := by rfl) : DT X d (.Compare a [.Eq] [b] pos) ds B (· = decide (c = c')) := by
  subst hz
  exact tTo (tEqStr ha hb) (by rintro _ rfl; exact decide_eq_decide.mpr ⟨sgn_inj, fun h => by rw [h]⟩)
theorem tNeC {c c' : Nat} {z : Str} (ha : DE X d a ds B (· = .str (sgn c))) (hb : DE X d b ds B (· = .str z)) (hz : z = sgn c' := by rfl) : DT X d (.Compare a [.NotEq] [b] pos) ds B (· = !decide (c = c')) := by
  subst hz
  exact tTo (tNeStr ha hb) (by rintro _ rfl; exact congrArg Bool.not (decide_eq_decide.mpr ⟨sgn_inj, fun h => by rw [h]⟩))
/-- str(i) -/
theorem dStrN {i : Int} (hm : X.mg "str" = none) (ha : DE X d e ds B (· = .int i)) (hi : i.natAbs.log2 < 1920) (hg : Gl X "str" := by rfl) (he : starEach [e] X.env = (false, eval e X.env) :: starEach [] X.env := by rfl) (hpl : (backTo pos (starEach [] X.env)).any (·.1) = false := by rfl) :
    DE X d (.Call (.Name "str" p) [e] [] pos) ds B (· = .str (Str.ofString (toString i))) := dCT call_str_int hm (by decide +kernel) (aC ha aN he) (fun B1 H vs ts e ok g e1 Q r => by
      subst e1
      obtain ⟨w, rfl, g2⟩ := g.one
      exact ⟨i, by rw [g2.int_inv], hi, r _ _ B1 H .refl ok (.str _) rfl⟩) hg (by decide) (by decide) he hpl
/-- int(text) -/
theorem dIntS {z : Str} {n : Int} (hm : X.mg "int" = none) (ha : DE X d e ds B (· = .str z)) (hn : PySem.intText? z = some n) (hl : z.length ≤ 640) (hg : Gl X "int" := by rfl) (he : starEach [e] X.env = (false, eval e X.env) :: starEach [] X.env := by rfl) (hpl : (backTo pos (starEach [] X.env)).any (·.1) = false := by rfl) :
    DE X d (.Call (.Name "int" p) [e] [] pos) ds B (· = .int n) := dCT call_int_str hm boot_int (aC ha aN he) (fun B1 H vs ts e ok g e1 Q r => by
      subst e1
      obtain ⟨w, rfl, g2⟩ := g.one
      exact ⟨z, n, by rw [g2.str_inv], hn, hl, r _ _ B1 H .refl ok (.int _) rfl⟩) hg (by decide) (by decide) he hpl
theorem dCatStr {y z : Str} (ha : DE X d a ds B (· = .str y)) (hb : DE X d b ds B (· = .str z)) (hl : y.length + z.length ≤ 1000000) : DE X d (.BinOp a .Add b pos) ds B (· = .str (y ++ z)) :=
  dBin op_add_str ha hb (fun B1 H x w ta tb e ok g1 g2 e1 e2 Q r => by
    subst e1 e2
    exact ⟨y, z, g1.str_inv, g2.str_inv, Nat.le_trans hl (by decide), r _ _ B1 H .refl ok (.str _) rfl⟩)
theorem strs_v {K : Fg} {B : Hp} : ∀ {ys : List Str} {vs : List V}, DpAll K B vs (ys.map .str) → vs = ys.map V.str
  | [], _, h => by cases h; rfl
  | b :: bs, _, h => by
    cases h with
    | cons h1 h2 =>
      cases h1
      rw [strs_v h2]
      rfl
/-- z.join(a list) -/
theorem dJoin {z : Str} (ho : DE X d o ds B (· = .str z)) (he : DE X d e ds B Sa) (k : ∀ t, Sa t → ∃ ys : List Str, t = .list (ys.map .str) ∧ (ys.map (·.length)).sum + ys.length * z.length ≤ 16777216 ∧ S (.str (Txt.join z ys)))
    (hs : starEach [e] X.env = [(false, eval e X.env)] := by rfl) (hbase : attributeBase o "join" X.env (eval o X.env) = eval o X.env := by rfl) (hline : (pa.endLine == pb.line) = true := by rfl) : DE X d (.Call (.Attribute o "join" pa) [e] [] pb) ds B S :=
  de_of (pe_join pe_w pe_w hs hbase hline) fun B1 σ H e0 sl ok Q r => ho B1 σ H e0 sl ok _ fun w t B2 H2 tr2 ok2 hd2 e1 => by
    rw [show t = .str z from e1] at hd2
    obtain rfl := hd2.str_inv
    refine ⟨⟨_, rfl⟩, he B2 σ H2 (e0.trans tr2.kb) (sl.up tr2.kb) ok2 _ fun w3 t3 B3 H3 tr3 ok3 hd3 e3 => ?_⟩
    obtain ⟨ys, rfl, hl, hS⟩ := k t3 e3
    obtain ⟨q, vs, rfl, hq, hv⟩ := hd3.lst_inv
    obtain rfl := strs_v hv
    exact ⟨z, q, ys, rfl, rfl, .inl (ok3.kh.seq hq), hl, r _ _ B3 H3 (tr2.trans tr3) ok3 (.str _) hS⟩
/-- z[k:m] -/
theorem dCut {z : Str} {k m : Nat} (ha : DE X d a ds B (· = .str z)) (hl : DE X d lo ds B (· = .int k)) (hh : DE X d hi ds B (· = .int m)) (hz : z.length ≤ 100000) : DE X d (.Subscript a (.Slice (some lo) (some hi) none p2) pos) ds B (· = .str (cutS z (some k) (some m))) :=
  de_of (pe_slice sl_str pe_w (po_some pe_w) (po_some pe_w)) fun B1 σ H e sl ok Q r => ha B1 σ H e sl ok _ fun v t B2 H2 tr2 ok2 hd2 e2 => by
    rw [show t = .str z from e2] at hd2
    obtain rfl := hd2.str_inv
    refine hl B2 σ H2 (e.trans tr2.kb) (sl.up tr2.kb) ok2 _ fun w u B3 H3 tr3 ok3 hd3 e3 => ?_
    rw [show u = .int k from e3] at hd3
    obtain rfl := hd3.int_inv
    refine ⟨(k : Int), rfl, ?_⟩
    have tr4 := tr2.trans tr3
    refine hh B3 σ H3 (e.trans tr4.kb) (sl.up tr4.kb) ok3 _ fun w u B5 H5 tr5 ok5 hd5 e5 => ?_
    rw [show u = .int m from e5] at hd5
    obtain rfl := hd5.int_inv
    exact ⟨(m : Int), rfl, z, rfl, small_line hz, r _ _ B5 H5 (tr4.trans tr5) ok5 (.str _) rfl⟩
/-- z[:m] -/
theorem dCutT {z : Str} {m : Nat} (ha : DE X d a ds B (· = .str z)) (hh : DE X d hi ds B (· = .int m)) (hz : z.length ≤ 100000) : DE X d (.Subscript a (.Slice none (some hi) none p2) pos) ds B (· = .str (cutS z none (some m))) :=
  de_of (pe_slice sl_str pe_w po_none (po_some pe_w)) fun B1 σ H e sl ok Q r => ha B1 σ H e sl ok _ fun v t B2 H2 tr2 ok2 hd2 e2 => by
    rw [show t = .str z from e2] at hd2
    obtain rfl := hd2.str_inv
    refine hh B2 σ H2 (e.trans tr2.kb) (sl.up tr2.kb) ok2 _ fun w u B3 H3 tr3 ok3 hd3 e3 => ?_
    rw [show u = .int m from e3] at hd3
    obtain rfl := hd3.int_inv
    exact ⟨(m : Int), rfl, z, rfl, small_line hz, r _ _ B3 H3 (tr2.trans tr3) ok3 (.str _) rfl⟩
theorem tl_cut {z : Str} {k m : Nat} (h1 : k ≤ m) (h2 : m ≤ z.length) : tl (cutS z (some k) (some m)) = ((tl z).drop k).take (m - k) := by
  show ((z.cps.toList.drop _).take _) = _
  rw [HT.sIx_nat, HT.sIx_nat, Nat.min_eq_left (Nat.le_trans h1 h2), Nat.min_eq_left h2]
theorem tl_cutT {z : Str} {m : Nat} (h2 : m ≤ z.length) : tl (cutS z none (some m)) = (tl z).take m := by
  show ((z.cps.toList.drop _).take _) = _
  rw [HT.sIx_nat, HT.sIx_none, Nat.min_eq_left h2, List.drop_zero, Nat.sub_zero]
/-- all([..]) of truth values -/
theorem dAll {r : Bool} (hc : X.calm = true) (hm : X.mg "all" = none) (ha : DE X d e ds B Sa) (k : ∀ t, Sa t → ∃ bs : List Bool, t = .list (bs.map .bool) ∧ bs.all id = r) (hg : Gl X "all" := by rfl) (he : starEach [e] X.env = (false, eval e X.env) :: starEach [] X.env := by rfl) (hpl : (backTo pos (starEach [] X.env)).any (·.1) = false := by rfl) :
    DE X d (.Call (.Name "all" p) [e] [] pos) ds B (· = .bool r) := dCB (cr_all hc) hm (by decide +kernel) (aCS ha aN (S2 := fun ts => ∃ bs : List Bool, ts = [.list (bs.map .bool)] ∧ bs.all id = r) (by
      rintro t ts h rfl
      obtain ⟨bs, rfl, h2⟩ := k t h
      exact ⟨bs, rfl, h2⟩) he) (fun B1 H vs ts e0 ok g ⟨bs, e1, e2⟩ Q rr => by
      subst e1
      obtain ⟨v, rfl, g2⟩ := DpAll.one g
      obtain ⟨a, us, rfl, hs, hv⟩ := g2.lst_inv
      have e3 : us = bs.map V.bl := bools_v hv
      subst e3
      rw [e2.symm] at rr
      exact ⟨a, bs, rfl, ok.kh.seq hs, rr _ _ B1 H .refl ok (.bl _) rfl⟩) hg (by decide) (by decide) he hpl
theorem signs_dp {K : Fg} {B : Hp} : ∀ l : List Nat, DpAll K B (l.map fun c => V.str (sgn c)) (l.map fun c => PyData.str (sgn c))
  | [] => .nil
  | _ :: l => .cons (.str _) (signs_dp l)
theorem walk_signs {z : Str} : Walk (Its z) ((tl z).map fun c => V.str (sgn c)).length (fun _ => True) (YAt ((tl z).map fun c => V.str (sgn c))) := by
  have e : ((tl z).map fun c => V.str (sgn c)).length = z.cps.size := by rw [List.length_map, tl, Array.length_toList]
  rw [e]
  refine (walk_str (z := z)).mono (fun _ h => h) fun i H x H' hi _ y => ?_
  obtain ⟨h1, c, h2, h3⟩ := y
  refine ⟨h1, ?_⟩
  rw [List.getElem?_map, tl, Array.getElem?_toList, h2, h3]
  rfl
/-- [elt for x in a text] -/
theorem dLcS {z : Str} {own : List (Str × Nat)} {R : PyData → PyData → Prop} (j : Nat) (hc : X.calm = true) (nd : X.N.Nodup) (it : DE X d iter ds B (· = .str z)) (hz : z.length ≤ 100000) (ok : BlkOk X.N X.env.scope scope own) (hj : j ∈ own.map (·.2))
    (hg : ∀ (s : Shared) (H : Hp) (C : Addr) (cl : List (Str × Addr)) (fp : List Addr), PG (X.blk s H scope (compEnvC scope cl C X.env) fp) (.Name x px) (gName j))
    (hE : ∀ (c : Nat) (B1 : Hp), c ∈ tl z → Same B B1 → DB X scope d elt ((wipeD ds (own.map (·.2))).set j (.dat (.str (sgn c)))) B1 (R (.str (sgn c))))
    (hs : ∀ x, foldedSetIterable iter X.env x = pure x := by intro _; rfl) :
    LO X d (.ListComp elt [⟨.Name x px, iter, [], 0⟩] scope pos) ds B (fun ys => Paired R ((tl z).map fun c => .str (sgn c)) ys) := by
  have fl : ∀ l : List PyData, l.filter (fun _ => true) = l := fun l => List.filter_eq_self.mpr fun _ _ => rfl
  refine lo_lc hc nd (pi_str pe_w) ok hg (fun s H C cl fp => pts_nil) pe_b hs fun B1 σ H e sl ok1 Q r => it B1 σ H e sl ok1 _ fun w t B2 H2 tr2 ok2 hd2 q2 => ?_
  cases q2
  refine ⟨z, hd2.str_inv, fun D hD => lc_data (R := R) (p := fun _ => true) walk_signs (signs_dp _) (by rw [List.length_map, ← len_tl]; exact hz) (fun _ _ _ _ => trivial) ok2 hD (fun i y w B' H' hi e4 ok4 hd4 => ?_) (by rw [fl]; exact r.after tr2)⟩
  obtain ⟨c, hc', rfl⟩ := List.mem_map.mp (List.mem_of_getElem? hi)
  exact ⟨_, _, fun Q h => h, wipe_set hj, ((sl.up (tr2.kb.trans e4)).wipe _).put j (x := .dat (.str (sgn c))) ⟨w, rfl, hd4⟩, et_yes, fun _ => ev_b (hE c B' hc' ((e.trans tr2.kb).trans e4))⟩
/-- a call that leaves a default -/
theorem dCallDf {F : List PyData → (PyData → Prop) → Prop} {j k : Nat} {dv : V} {dt : PyData} {ts : List PyData} {es : List Expr} (c : Cal X.prog X.w X.K X.mg X.base k x (Fn X.K F) [dv]) (hdv : ∀ B, Dp X.K B dv dt) (hr : Room j X.A) (ha : DA X d (e :: es) ds B (· = ts)) (hF : F (ts ++ [dt]) S) (hk : k ≤ j := by decide) (hg : Gl X x := by rfl)
    (hdb : (x == ("__debug__" : Str)) = false := by decide) (he : starEach (e :: es) X.env = (false, eval e X.env) :: starEach es X.env := by rfl) (hpl : (backTo pos (starEach es X.env)).any (·.1) = false := by rfl) : DE X d (.Call (.Name x p) (e :: es) [] pos) ds B S := by
  obtain ⟨f, fd, ps, ds', F', hm, kp, b, dvv⟩ := c.ex
  refine de_of (pe_call F' (hr.mono hk) hg hm kp b dvv passL pa_w hdb he hpl) fun B1 σ H e sl ok Q r => ha B1 σ H e sl ok _ fun vs ts' B2 H2 tr2 ok2 hd hs => ?_
  rw [show ts' = ts from hs] at hd
  exact ⟨B2, ts ++ [dt], S, ok2.pure, hd.snoc (hdv _), hF, (r.after tr2).none ok2 fun _ h => h⟩
end
end K20
set_option maxHeartbeats 4000000
/-! Plain: the text of data. -/
namespace K20
open PySem PySem.Spec L2 TL
open PyProof.Rows hiding St
mutual
def tx : PyData → List Nat
  | .int i => numL i.toNat
  | .str z => tl z
  | .tuple xs => 40 :: (joinL [32] (txs xs) ++ [41])
  | .none => []
  | .bool _ => []
  | .list _ => []
  | .dict _ => []
def txs : List PyData → List (List Nat)
  | [] => []
  | x :: r => tx x :: txs r
end
theorem txs_map : ∀ xs : List PyData, txs xs = xs.map tx
  | [] => by simp [txs]
  | x :: r => by rw [txs, txs_map r]; rfl
theorem tx_tup (xs : List PyData) : tx (.tuple xs) = 40 :: (joinL [32] (xs.map tx) ++ [41]) := by rw [tx, txs_map]
theorem tx_int (n : Nat) : tx (.int n) = numL n := by rw [tx]; rfl
theorem tx_str (z : Str) : tx (.str z) = tl z := by rw [tx]
def txS (t : PyData) : Str := ⟨(tx t).toArray⟩
theorem tl_txS (t : PyData) : tl (txS t) = tx t := rfl
theorem len_txS (t : PyData) : (txS t).length = (tx t).length := by rw [len_tl]; rfl
theorem joinL_len : ∀ ls : List (List Nat), (ls.map List.length).sum + ls.length ≤ (joinL [32] ls).length + 1
  | [] => by simp [joinL]
  | [p] => by simp [joinL]
  | p :: q :: r => by
    have ih := joinL_len (q :: r)
    rw [joinL, List.length_append, List.length_append, List.map_cons, List.sum_cons, List.length_cons]
    simp only [List.length_cons, List.length_nil] at ih ⊢
    omega
theorem joinL_le : ∀ (ls : List (List Nat)) (m : Nat), (∀ l ∈ ls, l.length ≤ m) → (joinL [32] ls).length ≤ ls.length * (m + 1)
  | [], m, _ => by simp [joinL]
  | [p], m, h => by
    have := h p (List.mem_cons_self ..)
    simp [joinL]
    omega
  | p :: q :: r, m, h => by
    have ih := joinL_le (q :: r) m fun l hl => h l (List.mem_cons_of_mem _ hl)
    have hp := h p (List.mem_cons_self ..)
    rw [joinL, List.length_append, List.length_append, List.length_cons (as := q :: r), Nat.succ_mul]
    simp only [List.length_cons, List.length_nil] at ih ⊢
    omega
theorem joinL_mem {ls : List (List Nat)} {l : List Nat} (h : l ∈ ls) : l.length ≤ (joinL [32] ls).length := by
  induction ls with
  | nil => cases h
  | cons p r ih =>
    cases r with
    | nil =>
      rw [List.mem_singleton.mp h]
      exact Nat.le_refl _
    | cons q r =>
      rw [joinL, List.length_append, List.length_append]
      rcases List.mem_cons.mp h with rfl | h
      · omega
      · have := ih h
        omega
theorem tx_mem {xs : List PyData} {x : PyData} (h : x ∈ xs) : (tx x).length ≤ (tx (.tuple xs)).length := by
  have := joinL_mem (List.mem_map_of_mem (f := tx) h)
  rw [tx_tup, List.length_cons, List.length_append]
  omega
/-- words, data -/
def wordOk (z : Str) : Prop := 1 ≤ z.length ∧ z.length ≤ 12 ∧ ∀ c ∈ tl z, 97 ≤ c ∧ c ≤ 122
def Leaf (t : PyData) : Prop := (∃ k : Nat, k < 10 ^ 400 ∧ t = .int k) ∨ ∃ z, wordOk z ∧ t = .str z
def WD : Nat → PyData → Prop
  | 0, t => Leaf t
  | n + 1, t => Leaf t ∨ ∃ xs, xs.length ≤ 1000 ∧ (∀ x ∈ xs, WD n x) ∧ t = .tuple xs
theorem WD.leaf {t : PyData} (h : Leaf t) : ∀ n, WD n t
  | 0 => h
  | _ + 1 => .inl h
theorem WD.up : ∀ {n : Nat} {t : PyData}, WD n t → WD (n + 1) t
  | 0, _, h => .inl h
  | n + 1, t, h => by
    rcases h with h | ⟨xs, h1, h2, h3⟩
    · exact .inl h
    · exact .inr ⟨xs, h1, fun x hx => WD.up (h2 x hx), h3⟩
theorem WD.to {n : Nat} {t : PyData} (h : WD n t) : ∀ k, WD (n + k) t
  | 0 => h
  | k + 1 => (WD.to h k).up
theorem log_small {k : Nat} (h : k < 10 ^ 400) : ((k : Int)).natAbs.log2 < 1920 := by
  rw [Int.natAbs_natCast]
  by_cases h0 : k = 0
  · subst h0; decide
  · exact (Nat.log2_lt h0).mpr (Nat.lt_of_lt_of_le h (by decide +kernel))
theorem txS_int (k : Nat) : Str.ofString (toString ((k : Nat) : Int)) = txS (.int k) := ext_tl (by rw [tl_num, tl_txS, tx_int])
theorem txS_str (z : Str) : txS (.str z) = z := ext_tl (by rw [tl_txS, tx_str])
def JS (xs : List PyData) : Str := Txt.join " " (xs.map txS)
theorem tl_JS (xs : List PyData) : tl (JS xs) = joinL [32] (xs.map tx) := by
  unfold JS
  rw [join_eq, tl_join, List.map_map]
  rfl
theorem txS_tup (xs : List PyData) : ("(" : Str) ++ JS xs ++ ")" = txS (.tuple xs) := ext_tl (by
  rw [tl_append, tl_append, tl_JS, tl_txS, tx_tup]
  rfl)
theorem JS_len {xs : List PyData} (h : (tx (.tuple xs)).length ≤ 100000) : ((xs.map txS).map (·.length)).sum + (xs.map txS).length * (" " : Str).length ≤ 16777216 ∧ ("(" : Str).length + (JS xs).length ≤ 1000000 ∧ (("(" : Str) ++ JS xs).length + (")" : Str).length ≤ 1000000 := by
  have h1 := joinL_len (xs.map tx)
  have e1 : (JS xs).length = (joinL [32] (xs.map tx)).length := by rw [len_tl, tl_JS]
  have h2 : (joinL [32] (xs.map tx)).length + 2 ≤ 100000 := by
    rw [tx_tup, List.length_cons, List.length_append] at h
    simpa using h
  have e2 : (xs.map txS).map (·.length) = (xs.map tx).map List.length := by
    rw [List.map_map, List.map_map]
    exact List.map_congr_left fun x _ => len_txS x
  have l1 : (" " : Str).length = 1 := rfl
  have l2 : ("(" : Str).length = 1 := rfl
  have l3 : (")" : Str).length = 1 := rfl
  have e3 : (("(" : Str) ++ JS xs).length = 1 + (JS xs).length := by
    rw [len_tl, tl_append, List.length_append, ← len_tl, ← len_tl, l2]
  rw [e2, l1, l2, l3, e3]
  simp only [List.length_map] at h1 ⊢
  omega
theorem tx_len (n : Nat) {xs : List PyData} {k m : Nat} (hl : xs.length ≤ k) (hm : ∀ x ∈ xs, (tx x).length ≤ m) (h : k * (m + 1) + 2 ≤ n) : (tx (.tuple xs)).length ≤ n := by
  rw [tx_tup, List.length_cons, List.length_append]
  have h1 := joinL_le (xs.map tx) m fun l hl => by
    obtain ⟨x, hx, rfl⟩ := List.mem_map.mp hl
    exact hm x hx
  rw [List.length_map] at h1
  have h2 := Nat.mul_le_mul_right (m + 1) hl
  simp only [List.length_cons, List.length_nil]
  omega
/-! ### is_word -/
variable {P : Program} {w : World} {K : Fg} {mg : Str → Option Value} {base : Heap}
theorem mem_letters (c : Nat) : decide (c ∈ tl ("abcdefghijklmnopqrstuvwxyz" : Str)) = decide (97 ≤ c ∧ c ≤ 122) := by
  have e : tl ("abcdefghijklmnopqrstuvwxyz" : Str) = (List.range 26).map (97 + ·) := by decide +kernel
  rw [e]
  refine decide_eq_decide.mpr ?_
  rw [List.mem_map]
  constructor
  · rintro ⟨a, ha, rfl⟩
    have := List.mem_range.mp ha
    omega
  · intro h
    exact ⟨c - 97, List.mem_range.mpr (by omega), by omega⟩
theorem mem_figures (c : Nat) : decide (c ∈ tl ("0123456789" : Str)) = decide (48 ≤ c ∧ c ≤ 57) := by
  have e : tl ("0123456789" : Str) = (List.range 10).map (48 + ·) := by decide +kernel
  rw [e]
  refine decide_eq_decide.mpr ?_
  rw [List.mem_map]
  constructor
  · rintro ⟨a, ha, rfl⟩
    have := List.mem_range.mp ha
    omega
  · intro h
    exact ⟨c - 48, List.mem_range.mpr (by omega), by omega⟩
def isWordD : PyData → Bool
  | .str z => (decide (1 ≤ z.length) && decide (z.length ≤ 12)) && (tl z).all fun c => decide (97 ≤ c ∧ c ≤ 122)
  | _ => false
def fWord : List PyData → (PyData → Prop) → Prop := fun ts S => ∃ t, ts = [t] ∧ (∀ z, t = .str z → z.length ≤ 100000) ∧ S = (· = .bool (isWordD t))
abbrev nWd : List Str := ["thing", "sign"]
theorem scWd : FnScope nWd ["thing"] (defScope (top 21)) := ⟨rfl, rfl, rfl, by decide +kernel, rfl, by decide +kernel, by decide +kernel⟩
theorem ok_word (M : Me K mg) : Cal P w K mg base 1 "is_word" (Fn K fWord) [] := by
  refine mkCal (M.df 21 (by decide)) scWd (fun _ _ _ _ _ _ us hl => match us, hl with | [_], _ => rfl) (fun vs H Q E h => ?_) fun f cdv A outer s H vs Q E hr h => ?_
  · obtain ⟨B, ts, S, ok, hv, ⟨t, rfl, _⟩, _⟩ := h
    exact hv.len
  obtain ⟨B, ts, S, ok, hv, ⟨t, rfl, hz, rfl⟩, ret⟩ := h
  have y := Sy.ini (N := nWd) ok hv
  have nd := scWd.nd
  by_cases hs : isStrD t = true
  · obtain ⟨z, rfl⟩ : ∃ z, t = .str z := by cases t <;> first | exact ⟨_, rfl⟩ | cases hs
    have hz := hz z rfl
    refine cWhen1 y (tW (wOr (tNot' (dVal (dIsi (T := "str") M.isinstance M.str (by decide +kernel) (v 0) (isStrD_kit _)))) (fun _ => wOr1 (tNot' (tChainLe dI (dLen (n := z.length) M.len (v 0) (by show (if z.length ≤ 100000 then some z.length else none) = _; rw [if_pos hz])) (dGI M.cLONGEST_WORD)))))) (fun hb H1 t1 y1 => ?_) fun hb H1 t1 y1 => ?_
    · refine ss1 (sRet y1 dB ?_)
      have e : isWordD (.str z) = false := by
        show ((decide (1 ≤ z.length) && decide (z.length ≤ 12)) && (tl z).all fun c => decide (97 ≤ c ∧ c ≤ 122)) = false
        have : (decide (1 ≤ z.length) && decide (z.length ≤ 12)) = (decide ((1 : Int) ≤ (z.length : Nat)) && decide (((z.length : Nat) : Int) ≤ 12)) := by
          congr 1 <;> exact decide_eq_decide.mpr (by omega)
        rw [this]
        have hb' : (!(decide ((1 : Int) ≤ (z.length : Nat)) && decide (((z.length : Nat) : Int) ≤ 12))) = true := hb
        cases h : (decide ((1 : Int) ≤ (z.length : Nat)) && decide (((z.length : Nat) : Int) ≤ 12)) with
        | false => rfl
        | true => rw [h] at hb'; cases hb'
      rw [e] at ret
      exact ret
    · refine ss1 (sRet y1 (dAll (r := isWordD (.str z)) rfl M.all (deL (dLcS (z := z) (R := fun x y => ∀ c, x = .str (sgn c) → y = .bool (decide (97 ≤ c ∧ c ≤ 122))) 1 rfl nd (v 0) hz (blkOk_by (N := nWd) (sc := defScope (top 21)) (own := [("sign", 1)]) (by decide +kernel)) (by decide) (fun s H C cl fp => pg_name nd (i := 1) (by rfl) (Or.inl rfl)) (fun c B5 hc e s H C cl fp => DE.to (dInSign (v 1) (dGS M.letters)) (by
          rintro _ rfl c' hc'
          have : c = c' := sgn_inj (by injection hc')
          rw [mem_letters, this])))) ?_) ret)
      rintro _ ⟨ys, rfl, hp⟩
      have key : ∀ (l : List Nat) (ys : List PyData), Paired (fun x y => ∀ c, x = PyData.str (sgn c) → y = .bool (decide (97 ≤ c ∧ c ≤ 122))) (l.map fun c => PyData.str (sgn c)) ys → ys = (l.map fun c => decide (97 ≤ c ∧ c ≤ 122)).map PyData.bool := by
        intro l
        induction l with
        | nil => intro ys h; cases h; rfl
        | cons c l ih =>
          intro ys h
          cases h with
          | cons h1 h2 => rw [h1 c rfl, ih _ h2]; rfl
      refine ⟨_, congrArg _ (key _ _ hp), ?_⟩
      rw [List.all_map]
      have e : isWordD (.str z) = ((decide (1 ≤ z.length) && decide (z.length ≤ 12)) && (tl z).all fun c => decide (97 ≤ c ∧ c ≤ 122)) := rfl
      rw [e]
      have : (decide (1 ≤ z.length) && decide (z.length ≤ 12)) = (decide ((1 : Int) ≤ (z.length : Nat)) && decide (((z.length : Nat) : Int) ≤ 12)) := by
        congr 1 <;> exact decide_eq_decide.mpr (by omega)
      rw [this]
      have hb' : (!(decide ((1 : Int) ≤ (z.length : Nat)) && decide (((z.length : Nat) : Int) ≤ 12))) = false := hb
      cases h : (decide ((1 : Int) ≤ (z.length : Nat)) && decide (((z.length : Nat) : Int) ≤ 12)) with
      | true => rfl
      | false => rw [h] at hb'; cases hb'
  · have hs' : isStrD t = false := by simpa using hs
    refine cWhen1 y (k := true) (tTo (tW (wOr (l := true) (tNot' (dVal (dIsi (T := "str") M.isinstance M.str (by decide +kernel) (v 0) (isStrD_kit _)))) (fun h => by rw [hs'] at h; cases h))) (by rintro _ rfl; rw [hs']; rfl)) (fun hb H1 t1 y1 => ?_) fun hb H1 t1 y1 => nomatch hb
    refine ss1 (sRet y1 dB ?_)
    have e : isWordD t = false := by cases t <;> first | rfl | cases hs'
    rw [e] at ret
    exact ret
theorem word_D {z : Str} (h : wordOk z) : isWordD (.str z) = true := by
  show ((decide (1 ≤ z.length) && decide (z.length ≤ 12)) && (tl z).all fun c => decide (97 ≤ c ∧ c ≤ 122)) = true
  rw [Bool.and_eq_true, Bool.and_eq_true]
  exact ⟨⟨decide_eq_true h.1, decide_eq_true h.2.1⟩, List.all_eq_true.mpr fun c hc => decide_eq_true (h.2.2 c hc)⟩
/-! ### data_text -/
def fText (n : Nat) : List PyData → (PyData → Prop) → Prop := fun ts S => ∃ (t : PyData) (dp : Nat), ts = [t, .int dp] ∧ WD n t ∧ dp + n ≤ 20 ∧ (tx t).length ≤ 100000 ∧ S = (· = .str (txS t))
abbrev nTx : List Str := ["data", "deep", "part"]
theorem scTx : FnScope nTx ["data", "deep"] (defScope (top 22)) := ⟨rfl, rfl, rfl, by decide +kernel, rfl, by decide +kernel, by decide +kernel⟩
theorem text_body (M : Me K mg) (n : Nat) (ih : ∀ m, m + 1 = n → Cal P w K mg base (m + 2) "data_text" (Fn K (fText m)) []) (f : Addr) (cdv : Value) (A : Around) (outer : List Env) (s : Shared) (H : Hp) (vs : List V) (Q : VK) (E : XK)
    (hr : Room (n + 1) (A.deeper (envOfC "data_text" (defScope (top 22)) s.heap.objs.size f cdv))) (h : Fn K (fText n) vs H Q E) :
    wSs (cxOf (L2.CX P w) P w K mg base nTx "data_text" (defScope (top 22)) f cdv A outer s H E) (defBody (top 22)) { nx := fun _ H' => Q .non H', rt := Q } (L2.start nTx vs) H := by
  obtain ⟨B, ts, S, ok, hv, ⟨t, dp, rfl, hw, hd, hl, rfl⟩, ret⟩ := h
  have y := Sy.ini (N := nTx) ok hv
  have nd := scTx.nd
  have hzl : ∀ z, t = .str z → z.length ≤ 100000 := fun z e => by
    rw [e, tx_str, ← len_tl] at hl
    exact hl
  refine cWhen1 y (dVal (dCall1 (ok_whole M) hr (aC (v 0) (aC (dSub dI (dGI M.cBEYOND)) (aC (dSub (dGI M.cBEYOND) dI) aN))) ⟨t, _, _, rfl, rfl⟩ (Nat.le_add_left 1 n))) (fun hb H1 t1 y1 => ?_) fun hb H1 t1 y1 => ?_
  · obtain ⟨k, hk, rfl⟩ : ∃ k : Nat, k < 10 ^ 400 ∧ t = .int k := by
      have key : ∀ {t : PyData}, Leaf t → isWhole t (1 - 10 ^ 400) (10 ^ 400 - 1) = true → ∃ k : Nat, k < 10 ^ 400 ∧ t = .int k := by
        rintro t (h | ⟨z, _, rfl⟩) h2
        · exact h
        · cases h2
      cases n with
      | zero => exact key hw hb
      | succ n =>
        rcases hw with h | ⟨xs, _, _, rfl⟩
        · exact key h hb
        · cases hb
    refine ss1 (sRet y1 (dStrN M.str (v 0) (log_small hk)) ?_)
    rw [← txS_int] at ret
    exact ret
  have hni : ∀ k : Nat, k < 10 ^ 400 → t ≠ .int k := by
    rintro k hk rfl
    have : isWhole (.int k) (1 - 10 ^ 400) (10 ^ 400 - 1) = true := by
      show (decide ((1 : Int) - 10 ^ 400 ≤ (k : Int)) && decide ((k : Int) ≤ 10 ^ 400 - 1)) = true
      rw [Bool.and_eq_true]
      exact ⟨decide_eq_true (by omega), decide_eq_true (by omega)⟩
    rw [this] at hb
    cases hb
  refine cWhen1 y1 (dVal (dCall1 (ok_word M) hr (aC (v 0) aN) ⟨t, rfl, hzl, rfl⟩ (Nat.le_add_left 1 n))) (fun hb2 H2 t2 y2 => ?_) fun hb2 H2 t2 y2 => ?_
  · obtain ⟨z, rfl⟩ : ∃ z, t = .str z := by cases t <;> first | exact ⟨_, rfl⟩ | cases hb2
    refine ss1 (sRet y2 (v 0) ?_)
    rw [txS_str] at ret
    exact ret
  have hnw : ∀ z, wordOk z → t ≠ .str z := by
    rintro z hz rfl
    rw [word_D hz] at hb2
    cases hb2
  have hnl : ¬ Leaf t := by
    rintro (⟨k, hk, e⟩ | ⟨z, hz, e⟩)
    · exact hni k hk e
    · exact hnw z hz e
  cases n with
  | zero => exact absurd hw hnl
  | succ n =>
    obtain ⟨xs, hx1, hx2, rfl⟩ : ∃ xs, xs.length ≤ 1000 ∧ (∀ x ∈ xs, WD n x) ∧ t = .tuple xs := by
      rcases hw with h | h
      · exact absurd h hnl
      · exact h
    have h20 : ¬ ((dp : Int) = 20) := by omega
    refine cWhen1 y2 (k := false) (tTo (tW (wOr (tNot' (dVal (dSeq M.isinstance M.list M.tuple (v 0)))) (fun _ => wOr1 (tEq (t := .int dp) (u := .int 20) hr (v 1) (dGI M.cDEEPEST) rfl rfl)))) (by
      rintro _ rfl
      rw [eqv_int]
      show (false || _) = false
      rw [decide_eq_false h20]
      rfl)) (fun hb3 _ _ _ => nomatch hb3) fun hb3 H3 t3 y3 => ?_
    obtain ⟨l1, l2, l3⟩ := JS_len hl
    refine ss1 (sRet y3 (dCatStr (dCatStr dS (dJoin (S := (· = .str (JS xs))) dS (deL (dLc (t := .tuple xs) (R := fun x y => y = .str (txS x)) 2 rfl nd (blkOk_by (N := nTx) (sc := defScope (top 22)) (own := [("part", 2)]) (by decide +kernel)) (v 0) rfl (by omega) (by decide) (fun s H C cl fp => pg_name nd (i := 2) (by rfl) (Or.inl rfl)) (fun z B5 hz e s H C cl fp => dCall1 (ih n rfl) hr (aC (v 2) (aC (dAdd (v 1) dI) aN)) ⟨z, dp + 1, rfl, hx2 z hz, by omega, Nat.le_trans (tx_mem hz) hl, rfl⟩ (Nat.le_refl _)))) ?_) l2) dS l3) ?_)
    · rintro _ ⟨ys, rfl, hp⟩
      refine ⟨xs.map txS, ?_, l1, rfl⟩
      rw [paired_map (f := fun x => .str (txS x)) hp, List.map_map]
      rfl
    · rw [← txS_tup] at ret
      exact ret
theorem ok_text (M : Me K mg) : ∀ n : Nat, Cal P w K mg base (n + 2) "data_text" (Fn K (fText n)) []
  | 0 => mkCalD (dvs := [.int 0]) M.text scTx 2 1 (by decide) rfl (fun T kV doc pm an cdv ct us its hl h2 => match us, hl, its, h2 with | [_, _], _, [_], _ => ⟨_, rfl, rfl⟩) (fun vs H Q E ⟨B, ts, S, ok, hv, ⟨t, dp, e, _⟩, _⟩ => by rw [hv.len, e]; rfl) (text_body M 0 fun m e => nomatch e)
  | n + 1 => mkCalD (dvs := [.int 0]) M.text scTx 2 1 (by decide) rfl (fun T kV doc pm an cdv ct us its hl h2 => match us, hl, its, h2 with | [_, _], _, [_], _ => ⟨_, rfl, rfl⟩) (fun vs H Q E ⟨B, ts, S, ok, hv, ⟨t, dp, e, _⟩, _⟩ => by rw [hv.len, e]; rfl) (text_body M (n + 1) fun m e => by
    obtain rfl : m = n := by omega
    exact ok_text M m)
theorem ok_text1 (M : Me K mg) (n : Nat) : Cal P w K mg base (n + 3) "data_text" (Fn K (fText (n + 1))) [.int 0] :=
  mkCalD (dvs := [.int 0]) M.text scTx 1 0 (by decide) rfl (fun T kV doc pm an cdv ct us its hl h2 => match us, hl, its, h2 with | [_], _, [_], _ => ⟨_, rfl, rfl⟩) (fun vs H Q E ⟨B, ts, S, ok, hv, ⟨t, dp, e, _⟩, _⟩ => by rw [hv.len, e]; rfl) (text_body M (n + 1) fun m e => by
    obtain rfl : m = n := by omega
    exact ok_text M m)
/-! ### letter_text -/
def fLt : List PyData → (PyData → Prop) → Prop := fun ts S => ∃ t, ts = [t] ∧ WD 8 t ∧ (tx t).length ≤ 100000 ∧ S = (· = .str (txS t))
theorem scLt : FnScope ["letter"] ["letter"] (defScope (top 52)) := ⟨rfl, rfl, rfl, by decide +kernel, rfl, by decide +kernel, by decide +kernel⟩
theorem ok_letterText (M : Me K mg) : Cal P w K mg base 11 "letter_text" (Fn K fLt) [] := by
  refine mkCal (M.df 52 (by decide)) scLt (fun _ _ _ _ _ _ us hl => match us, hl with | [_], _ => rfl) (fun vs H Q E h => ?_) fun f cdv A outer s H vs Q E hr h => ?_
  · obtain ⟨B, ts, S, ok, hv, ⟨t, rfl, _⟩, _⟩ := h
    exact hv.len
  obtain ⟨B, ts, S, ok, hv, ⟨t, rfl, hw, hl, rfl⟩, ret⟩ := h
  have y := Sy.ini (N := ["letter"]) ok hv
  exact ss1 (sRet y (dCallDf (ok_text1 M 7) (fun _ => .int 0) hr (aC (v 0) aN) ⟨t, 0, rfl, hw, by decide, hl, rfl⟩) ret)
/-! ### _law_data -/
def fData (n : Nat) : List PyData → (PyData → Prop) → Prop := fun ts S => ∃ t, ts = [t] ∧ WD n t ∧ (tx t).length ≤ 100000 ∧ S = (· = .str (txS t))
abbrev nDa : List Str := ["_law_thing", "_law_part"]
theorem scDa : FnScope nDa ["_law_thing"] (defScope (top 73)) := ⟨rfl, rfl, rfl, by decide +kernel, rfl, by decide +kernel, by decide +kernel⟩
theorem data_step (M : Me K mg) (n : Nat) (ih : ∀ m, m + 1 = n → Cal P w K mg base (m + 1) "_law_data" (Fn K (fData m)) []) : Cal P w K mg base (n + 1) "_law_data" (Fn K (fData n)) [] := by
  refine mkCal (M.df 73 (by decide)) scDa (fun _ _ _ _ _ _ us hl => match us, hl with | [_], _ => rfl) (fun vs H Q E h => ?_) fun f cdv A outer s H vs Q E hr h => ?_
  · obtain ⟨B, ts, S, ok, hv, ⟨t, rfl, _⟩, _⟩ := h
    exact hv.len
  obtain ⟨B, ts, S, ok, hv, ⟨t, rfl, hw, hl, rfl⟩, ret⟩ := h
  have y := Sy.ini (N := nDa) ok hv
  have nd := scDa.nd
  have leaf : Leaf t → wSs (cxOf (L2.CX P w) P w K mg base nDa "_law_data" (defScope (top 73)) f cdv A outer s H E) (defBody (top 73)) { nx := fun _ H' => Q .non H', rt := Q } (L2.start nDa vs) H := fun hlf => by
    refine cWhen1 y (k := false) (tTo (dVal (dIsi (T := "tuple") M.isinstance M.tuple (by decide +kernel) (v 0) (isTupD_kit t))) (by rintro _ rfl; rcases hlf with ⟨k, _, rfl⟩ | ⟨z, _, rfl⟩ <;> rfl)) (fun hb _ _ _ => nomatch hb) fun hb H1 t1 y1 => ?_
    refine ss1 (sRet y1 (dIf (dVal (dIsi (T := "str") M.isinstance M.str (by decide +kernel) (v 0) (isStrD_kit t))) (fun e => DE.to (v 0) ?_) (fun e => ?_)) ret)
    · rintro _ rfl
      rcases hlf with ⟨k, _, rfl⟩ | ⟨z, _, rfl⟩
      · cases e
      · rw [txS_str]
    · rcases hlf with ⟨k, hk, rfl⟩ | ⟨z, _, rfl⟩
      · exact DE.to (dStrN M.str (v 0) (log_small hk)) (by rintro _ rfl; rw [txS_int])
      · cases e
  cases n with
  | zero => exact leaf hw
  | succ n =>
    rcases hw with h | ⟨xs, hx1, hx2, rfl⟩
    · exact leaf h
    obtain ⟨l1, l2, l3⟩ := JS_len hl
    refine cWhen1 y (k := true) (dVal (dIsi (T := "tuple") M.isinstance M.tuple (by decide +kernel) (v 0) (isTupD_kit (.tuple xs)))) (fun hb H1 t1 y1 => ?_) (fun hb _ _ _ => nomatch hb)
    refine ss1 (sRet y1 (dCatStr (dCatStr dS (dJoin (S := (· = .str (JS xs))) dS (deL (dLc (t := .tuple xs) (R := fun x y => y = .str (txS x)) 1 rfl nd (blkOk_by (N := nDa) (sc := defScope (top 73)) (own := [("_law_part", 1)]) (by decide +kernel)) (v 0) rfl (by omega) (by decide) (fun s H C cl fp => pg_name nd (i := 1) (by rfl) (Or.inl rfl)) (fun z B5 hz e s H C cl fp => dCall1 (ih n rfl) hr (aC (v 1) aN) ⟨z, rfl, hx2 z hz, Nat.le_trans (tx_mem hz) hl, rfl⟩ (Nat.le_refl _)))) ?_) l2) dS l3) ?_)
    · rintro _ ⟨ys, rfl, hp⟩
      refine ⟨xs.map txS, ?_, l1, rfl⟩
      rw [paired_map (f := fun x => .str (txS x)) hp, List.map_map]
      rfl
    · rw [← txS_tup] at ret
      exact ret
theorem ok_data (M : Me K mg) : ∀ n : Nat, Cal P w K mg base (n + 1) "_law_data" (Fn K (fData n)) []
  | 0 => data_step M 0 fun m e => nomatch e
  | n + 1 => data_step M (n + 1) fun m e => by
    obtain rfl : m = n := by omega
    exact ok_data M m
end K20
set_option maxHeartbeats 4000000
/-! Plain: the reader of data texts. -/
namespace K20
open PySem PySem.Spec L2 TL
open PyProof.Rows hiding St
def isLet (c : Nat) : Bool := decide (97 ≤ c ∧ c ≤ 122)
def isFig (c : Nat) : Bool := decide (48 ≤ c ∧ c ≤ 57)
/-- how many of the first n are such -/
def runL (p : Nat → Bool) (n : Nat) (l : List Nat) : Nat := ((l.take n).takeWhile p).length
theorem takeWhile_at {p : Nat → Bool} : ∀ {l : List Nat} {j : Nat}, j ≤ (l.takeWhile p).length → ((∃ c, l[j]? = some c ∧ p c = true) ↔ j < (l.takeWhile p).length)
  | [], j, _ => by simp
  | c :: l, j, h => by
    by_cases hc : p c = true
    · rw [List.takeWhile_cons_of_pos hc, List.length_cons] at h ⊢
      cases j with
      | zero => simp [hc]
      | succ j =>
        rw [List.getElem?_cons_succ, takeWhile_at (by omega)]
        omega
    · rw [List.takeWhile_cons_of_neg hc] at h ⊢
      have h0 : j = 0 := Nat.le_zero.mp h
      subst h0
      simp [hc]
theorem runL_le (p : Nat → Bool) (n : Nat) (l : List Nat) : runL p n l ≤ n ∧ runL p n l ≤ l.length := by
  unfold runL
  have h1 := List.takeWhile_sublist p (l := l.take n) |>.length_le
  rw [List.length_take] at h1
  omega
theorem runL_at {p : Nat → Bool} {n j : Nat} {l : List Nat} (h : j ≤ runL p n l) : (j < n ∧ ∃ c, l[j]? = some c ∧ p c = true) ↔ j < runL p n l := by
  unfold runL at h ⊢
  rw [← takeWhile_at h]
  constructor
  · rintro ⟨h1, c, h2, h3⟩
    exact ⟨c, by rw [List.getElem?_take, if_pos h1]; exact h2, h3⟩
  · rintro ⟨c, h2, h3⟩
    rw [List.getElem?_take] at h2
    split at h2
    · rename_i h1
      exact ⟨h1, c, h2, h3⟩
    · cases h2
/-- a run ends where its word ends -/
theorem runL_word {p : Nat → Bool} {n : Nat} {l r : List Nat} (hl : l.length ≤ n) (hp : ∀ c ∈ l, p c = true) (hr : ∀ c, r.head? = some c → p c = false) : runL p n (l ++ r) = l.length := by
  unfold runL
  rw [List.take_append]
  have h1 : l.take n = l := List.take_of_length_le hl
  rw [h1, List.takeWhile_append_of_pos hp, List.length_append]
  have h2 : (r.take (n - l.length)).takeWhile p = [] := by
    cases r with
    | nil => simp
    | cons c r =>
      cases e : n - l.length with
      | zero => simp
      | succ k => rw [List.take_succ_cons, List.takeWhile_cons_of_neg (by rw [hr c rfl]; exact Bool.false_ne_true)]
  rw [h2]
  rfl
def wEnd (L : List Nat) (a : Nat) : Nat := a + runL isLet 12 (L.drop a)
def nEnd (L : List Nat) (a : Nat) : Nat := if L[a]? = some 48 then a + 1 else a + runL isFig 400 (L.drop a)
def cutL (L : List Nat) (a e : Nat) : List Nat := (L.drop a).take (e - a)
def strP (l : List Nat) : PyData := .str ⟨l.toArray⟩
def numP (l : List Nat) : PyData := .int (NumText.digitsVal l : Nat)
def rdLeaf (L : List Nat) (a : Nat) : Option (PyData × Nat) := match L[a]? with
  | none => none
  | some c => if isLet c = true then some (strP (cutL L a (wEnd L a)), wEnd L a) else if isFig c = true then some (numP (cutL L a (nEnd L a)), nEnd L a) else none
def rdClose (L : List Nat) : Nat → List PyData → List (List PyData) → Nat × List (List PyData) × Option PyData
  | a, x, [] => if L[a]? = some 41 then (a + 1, [], some (.tuple x)) else (a, [x], none)
  | a, x, y :: r => if L[a]? = some 41 then rdClose L (a + 1) (y ++ [.tuple x]) r else (a, x :: y :: r, none)
inductive Rd (L : List Nat) : Bool → Nat → List (List PyData) → Except Nat PyData → Prop
  | opn {a : Nat} {st : List (List PyData)} {R} (h : L[a]? = some 40) (hs : st.length < 20) (g : L[a + 1]? ≠ some 41) (k : Rd L false (a + 1) ([] :: st) R) : Rd L false a st R
  | emp {a : Nat} {st : List (List PyData)} {R} (h : L[a]? = some 40) (hs : st.length < 20) (g : L[a + 1]? = some 41) (k : Rd L true (a + 1) ([] :: st) R) : Rd L false a st R
  | leaf {a e : Nat} {x : PyData} {y : List PyData} {r : List (List PyData)} {R} (h : rdLeaf L a = some (x, e)) (k : Rd L true e ((y ++ [x]) :: r) R) : Rd L false a (y :: r) R
  | sep {a a' : Nat} {x : List PyData} {st st' : List (List PyData)} {R} (h : rdClose L a x st = (a', st', none)) (g : L[a']? = some 32) (k : Rd L false (a' + 1) st' R) : Rd L true a (x :: st) R
  | fin {a a' : Nat} {x : List PyData} {st st' : List (List PyData)} {t : PyData} (h : rdClose L a x st = (a', st', some t)) : Rd L true a (x :: st) (if a' = L.length then .ok t else .error a')
  | bad {a a' : Nat} {x : List PyData} {st st' : List (List PyData)} (h : rdClose L a x st = (a', st', none)) (g : L[a']? ≠ some 32) : Rd L true a (x :: st) (.error a')
theorem Rd.close {L : List Nat} {a : Nat} {x y : List PyData} {r : List (List PyData)} {R} (h : L[a]? = some 41) (k : Rd L true (a + 1) ((y ++ [.tuple x]) :: r) R) : Rd L true a (x :: y :: r) R := by
  have e : rdClose L a x (y :: r) = rdClose L (a + 1) (y ++ [.tuple x]) r := by rw [rdClose, if_pos h]
  cases k with
  | sep h g k => exact .sep (e.trans h) g k
  | fin h => exact .fin (e.trans h)
  | bad h g => exact .bad (e.trans h) g
/-! positions -/
theorem drop_at {L l r : List Nat} {a : Nat} (h : L.drop a = l ++ r) : L.drop (a + l.length) = r := by
  rw [← List.drop_drop, h, List.drop_left]
theorem at_drop {L : List Nat} {a : Nat} : L[a]? = (L.drop a).head? := by rw [List.head?_drop]
theorem at_cons {L r : List Nat} {a c : Nat} (h : L.drop a = c :: r) : L[a]? = some c := by rw [at_drop, h]; rfl
theorem drop_tail {L r : List Nat} {a c : Nat} (h : L.drop a = c :: r) : L.drop (a + 1) = r := drop_at (l := [c]) h
/-- what may stand behind an item -/
def Sepd (r : List Nat) : Prop := ∀ c, r.head? = some c → c = 32 ∨ c = 41
theorem numL_head0 : ∀ (k : Nat) {l : List Nat}, numL k = 48 :: l → k = 0 := by
  intro k
  induction k using Nat.strongRecOn with
  | ind k ih =>
    intro l e
    by_cases h : k < 10
    · rw [numL_lt h] at e
      injection e with e1 _
      omega
    · rw [numL_step (by omega)] at e
      obtain ⟨c, l', e2⟩ := List.exists_cons_of_ne_nil (numL_ne (k / 10))
      rw [e2] at e
      injection e with e1 _
      subst e1
      have := ih (k / 10) (by omega) e2
      omega
theorem leaf_rd {L r : List Nat} {a : Nat} {x : PyData} (hx : Leaf x) (h : L.drop a = tx x ++ r) (hr : Sepd r) : rdLeaf L a = some (x, a + (tx x).length) := by
  rcases hx with ⟨k, hk, rfl⟩ | ⟨z, hz, rfl⟩
  · have hD := numL_digits k
    have hne := numL_ne k
    have hlen := numL_len (n := k) (k := 400) (by decide) hk
    rw [tx_int] at h ⊢
    have fig : ∀ c ∈ numL k, isFig c = true := fun c hc => decide_eq_true (by have := hD c hc; omega)
    have nfig : ∀ c, r.head? = some c → isFig c = false := fun c hc => decide_eq_false (by rcases hr c hc with e | e <;> omega)
    have hend : nEnd L a = a + (numL k).length := by
      unfold nEnd
      by_cases h10 : k = 0
      · subst h10
        have e0 : numL 0 = [48] := numL_lt (by decide)
        rw [e0] at h
        rw [if_pos (at_cons h), e0]
        rfl
      · have hc : L[a]? ≠ some 48 := by
          obtain ⟨c, l, e⟩ := List.exists_cons_of_ne_nil hne
          rw [at_cons (r := l ++ r) (by rw [h, e]; rfl)]
          intro hh
          cases hh
          exact absurd (numL_head0 k e) h10
        rw [if_neg hc, h, runL_word hlen fig nfig]
    obtain ⟨c, l, e⟩ := List.exists_cons_of_ne_nil hne
    have hc : L[a]? = some c := at_cons (r := l ++ r) (by rw [h, e]; rfl)
    have f1 := fig c (by rw [e]; exact List.mem_cons_self ..)
    have f2 : isLet c = false := decide_eq_false (by have := of_decide_eq_true f1; omega)
    unfold rdLeaf
    rw [hc]
    simp only [f1, f2, if_true, Bool.false_eq_true, if_false]
    rw [hend]
    have : cutL L a (a + (numL k).length) = numL k := by
      unfold cutL
      rw [h, Nat.add_sub_cancel_left, List.take_left]
    rw [this]
    unfold numP
    rw [numL_val]
  · obtain ⟨h1, h2, h3⟩ := hz
    rw [tx_str] at h ⊢
    rw [len_tl] at h1 h2
    have lt : ∀ c ∈ tl z, isLet c = true := fun c hc => decide_eq_true (h3 c hc)
    have nlt : ∀ c, r.head? = some c → isLet c = false := fun c hc => decide_eq_false (by rcases hr c hc with e | e <;> omega)
    have hend : wEnd L a = a + (tl z).length := by
      unfold wEnd
      rw [h, runL_word h2 lt nlt]
    have hne : tl z ≠ [] := fun e => by rw [e] at h1; exact absurd h1 (by decide)
    obtain ⟨c, l, e⟩ := List.exists_cons_of_ne_nil hne
    have hc : L[a]? = some c := at_cons (r := l ++ r) (by rw [h, e]; rfl)
    have f1 := lt c (by rw [e]; exact List.mem_cons_self ..)
    unfold rdLeaf
    rw [hc]
    simp only [f1, if_true]
    rw [hend]
    have : cutL L a (a + (tl z).length) = tl z := by
      unfold cutL
      rw [h, Nat.add_sub_cancel_left, List.take_left]
    rw [this]
    unfold strP
    rw [mk_tl]
theorem tx_head {n : Nat} {x : PyData} (h : WD n x) : ∃ c l, tx x = c :: l ∧ c ≠ 41 := by
  have leaf : Leaf x → ∃ c l, tx x = c :: l ∧ c ≠ 41 := by
    rintro (⟨k, hk, rfl⟩ | ⟨z, hz, rfl⟩)
    · rw [tx_int]
      obtain ⟨c, l, e⟩ := List.exists_cons_of_ne_nil (numL_ne k)
      refine ⟨c, l, e, ?_⟩
      have := numL_digits k c (by rw [e]; exact List.mem_cons_self ..)
      omega
    · rw [tx_str]
      have hne : tl z ≠ [] := fun e => by have := hz.1; rw [len_tl, e] at this; exact absurd this (by decide)
      obtain ⟨c, l, e⟩ := List.exists_cons_of_ne_nil hne
      refine ⟨c, l, e, ?_⟩
      have := hz.2.2 c (by rw [e]; exact List.mem_cons_self ..)
      omega
  cases n with
  | zero => exact leaf h
  | succ n =>
    rcases h with h | ⟨xs, _, _, rfl⟩
    · exact leaf h
    · rw [tx_tup]
      exact ⟨40, _, rfl, by decide⟩
/-- items one behind another, then what comes -/
theorem items_rd {L : List Nat} {n d : Nat} (one : ∀ (x : PyData) (a : Nat) (r : List Nat) (y : List PyData) (st : List (List PyData)) (R : Except Nat PyData), WD n x → L.drop a = tx x ++ r → Sepd r → (y :: st).length = d → Rd L true (a + (tx x).length) ((y ++ [x]) :: st) R → Rd L false a (y :: st) R) :
    ∀ (xs : List PyData) (a : Nat) (r : List Nat) (y : List PyData) (st : List (List PyData)) (R : Except Nat PyData), xs ≠ [] → (∀ x ∈ xs, WD n x) → L.drop a = joinL [32] (xs.map tx) ++ r → (∀ c, r.head? = some c → c = 41) → (y :: st).length = d → Rd L true (a + (joinL [32] (xs.map tx)).length) ((y ++ xs) :: st) R → Rd L false a (y :: st) R
  | [], _, _, _, _, _, h, _, _, _, _, _ => absurd rfl h
  | [x], a, r, y, st, R, _, hw, h, hr, hd, k => one x a r y st R (hw x (List.mem_cons_self ..)) h (fun c hc => .inr (hr c hc)) hd k
  | x :: z :: xs, a, r, y, st, R, _, hw, h, hr, hd, k => by
    have e : joinL [32] ((x :: z :: xs).map tx) = tx x ++ (32 :: joinL [32] ((z :: xs).map tx)) := rfl
    rw [e] at h k
    have h2 : L.drop a = tx x ++ (32 :: (joinL [32] ((z :: xs).map tx) ++ r)) := by rw [h, List.append_assoc]; rfl
    have h3 := drop_at h2
    have h4 := drop_tail h3
    refine one x a _ y st R (hw x (List.mem_cons_self ..)) h2 (fun c hc => by cases hc; exact .inl rfl) hd ?_
    have hc : L[a + (tx x).length]? = some 32 := at_cons h3
    have hcl : rdClose L (a + (tx x).length) (y ++ [x]) st = (a + (tx x).length, (y ++ [x]) :: st, none) := by
      cases st with
      | nil => rw [rdClose, if_neg (by rw [hc]; decide)]
      | cons s st => rw [rdClose, if_neg (by rw [hc]; decide)]
    refine .sep hcl hc (items_rd one (z :: xs) _ r (y ++ [x]) st R (by simp) (fun w hw' => hw w (List.mem_cons_of_mem _ hw')) h4 hr hd ?_)
    rw [List.length_append, List.length_cons] at k
    rw [List.append_assoc]
    rw [show a + (tx x).length + 1 + (joinL [32] ((z :: xs).map tx)).length = a + ((tx x).length + ((joinL [32] ((z :: xs).map tx)).length + 1)) by omega]
    exact k
theorem one_rd {L : List Nat} : ∀ (n : Nat) (x : PyData) (a : Nat) (r : List Nat) (y : List PyData) (st : List (List PyData)) (R : Except Nat PyData), WD n x → L.drop a = tx x ++ r → Sepd r → (y :: st).length + n ≤ 20 → Rd L true (a + (tx x).length) ((y ++ [x]) :: st) R → Rd L false a (y :: st) R := by
  intro n
  induction n with
  | zero => exact fun x a r y st R hw h hr hd k => .leaf (leaf_rd hw h hr) k
  | succ n ih =>
    intro x a r y st R hw h hr hd k
    rcases hw with hw | ⟨xs, hx1, hx2, rfl⟩
    · exact .leaf (leaf_rd hw h hr) k
    rw [tx_tup] at h k
    have h1 : L.drop a = 40 :: (joinL [32] (xs.map tx) ++ (41 :: r)) := by rw [h]; simp
    have h2 := drop_tail h1
    have hd' : (y :: st).length < 20 := by omega
    cases xs with
    | nil =>
      have hc : L[a + 1]? = some 41 := at_cons (r := r) h2
      refine .emp (at_cons h1) hd' hc (.close hc ?_)
      exact k
    | cons x xs =>
      have hne : L[a + 1]? ≠ some 41 := by
        obtain ⟨c, l, e, hc⟩ := tx_head (hx2 x (List.mem_cons_self ..))
        rw [at_drop, h2]
        have : (joinL [32] ((x :: xs).map tx) ++ 41 :: r).head? = some c := by
          cases xs with
          | nil => rw [List.map_cons, List.map_nil, joinL, e]; rfl
          | cons z xs => rw [List.map_cons, List.map_cons, joinL, e]; rfl
        rw [this]
        exact fun z => hc (Option.some.inj z)
      refine .opn (at_cons h1) hd' hne (items_rd (n := n) (d := ([] :: y :: st).length) (fun x a r y' st' R hw h hr hd k => ih x a r y' st' R hw h hr (by rw [hd, List.length_cons]; omega) k) (x :: xs) (a + 1) _ [] (y :: st) R (by simp) hx2 h2 (fun c hc => by cases hc; rfl) rfl ?_)
      have h3 := drop_at h2
      refine .close (at_cons h3) ?_
      rw [List.nil_append]
      rw [List.length_cons, List.length_append] at k
      rw [show a + 1 + (joinL [32] ((x :: xs).map tx)).length + 1 = a + ((joinL [32] ((x :: xs).map tx)).length + [41].length + 1) by simp only [List.length_cons, List.length_nil]; omega]
      exact k
/-- the whole text -/
theorem top_rd {L r : List Nat} {n : Nat} {xs : List PyData} {R : Except Nat PyData} (hw : ∀ x ∈ xs, WD n x) (hn : n ≤ 18) (hne : xs ≠ []) (h : L = 40 :: (joinL [32] (xs.map tx) ++ r)) (hr : ∀ c, r.head? = some c → c = 41) (k : Rd L true (1 + (joinL [32] (xs.map tx)).length) [xs] R) : Rd L false 0 [] R := by
  have h1 : L.drop 0 = 40 :: (joinL [32] (xs.map tx) ++ r) := h
  have h2 := drop_tail h1
  have hne : L[0 + 1]? ≠ some 41 := by
    obtain ⟨x, xs, rfl⟩ := List.exists_cons_of_ne_nil hne
    obtain ⟨c, l, e, hc⟩ := tx_head (hw x (List.mem_cons_self ..))
    rw [at_drop, h2]
    have : (joinL [32] ((x :: xs).map tx) ++ r).head? = some c := by
      cases xs with
      | nil => rw [List.map_cons, List.map_nil, joinL, e]; rfl
      | cons z xs => rw [List.map_cons, List.map_cons, joinL, e]; rfl
    rw [this]
    exact fun z => hc (Option.some.inj z)
  refine .opn (at_cons h1) (by decide) hne (items_rd (n := n) (d := 1) (fun x a r y' st' R hw h hr hd k => one_rd n x a r y' st' R hw h hr (by omega) k) xs (0 + 1) r [] [] R ‹_› hw h2 hr rfl ?_)
  rw [List.nil_append, Nat.zero_add]
  exact k
theorem read_ok {n : Nat} {xs : List PyData} (hw : ∀ x ∈ xs, WD n x) (hn : n ≤ 18) (hne : xs ≠ []) : Rd (tx (.tuple xs)) false 0 [] (.ok (.tuple xs)) := by
  refine top_rd hw hn hne (r := [41]) (tx_tup xs) (fun c hc => by cases hc; rfl) ?_
  have hc : (tx (.tuple xs))[1 + (joinL [32] (xs.map tx)).length]? = some 41 := by
    rw [tx_tup, Nat.add_comm, List.getElem?_cons_succ, List.getElem?_append_right (Nat.le_refl _), Nat.sub_self]
    rfl
  have e : rdClose (tx (.tuple xs)) (1 + (joinL [32] (xs.map tx)).length) xs [] = (1 + (joinL [32] (xs.map tx)).length + 1, [], some (.tuple xs)) := by rw [rdClose, if_pos hc]
  have q := Rd.fin e
  rwa [if_pos (by rw [tx_tup, List.length_cons, List.length_append]; simp only [List.length_cons, List.length_nil]; omega)] at q
theorem read_short {n : Nat} {xs : List PyData} (hw : ∀ x ∈ xs, WD n x) (hn : n ≤ 18) (hne : xs ≠ []) : Rd ((tx (.tuple xs)).take ((tx (.tuple xs)).length - 1)) false 0 [] (.error ((tx (.tuple xs)).length - 1)) := by
  have el : (tx (.tuple xs)).length - 1 = 1 + (joinL [32] (xs.map tx)).length := by rw [tx_tup, List.length_cons, List.length_append]; simp only [List.length_cons, List.length_nil]; omega
  have e1 : (tx (.tuple xs)).take ((tx (.tuple xs)).length - 1) = 40 :: (joinL [32] (xs.map tx) ++ []) := by
    rw [el, tx_tup, Nat.add_comm, List.take_succ_cons, List.take_left, List.append_nil]
  rw [e1, el]
  refine top_rd hw hn hne (r := []) rfl (fun c hc => nomatch hc) ?_
  have hc : (40 :: (joinL [32] (xs.map tx) ++ []))[1 + (joinL [32] (xs.map tx)).length]? = none := List.getElem?_eq_none (by rw [List.append_nil, List.length_cons]; omega)
  refine .bad (st' := [xs]) ?_ (by rw [hc]; exact fun z => nomatch z)
  rw [rdClose, if_neg (by rw [hc]; exact fun z => nomatch z)]
theorem read_long {n : Nat} {xs : List PyData} (c : Nat) (hw : ∀ x ∈ xs, WD n x) (hn : n ≤ 18) (hne : xs ≠ []) : Rd (tx (.tuple xs) ++ [c]) false 0 [] (.error (tx (.tuple xs)).length) := by
  refine top_rd hw hn hne (r := [41, c]) (by rw [tx_tup]; simp) (fun c hc => by cases hc; rfl) ?_
  have hl : (tx (.tuple xs)).length = 1 + (joinL [32] (xs.map tx)).length + 1 := by rw [tx_tup, List.length_cons, List.length_append]; simp only [List.length_cons, List.length_nil]; omega
  have hc : (tx (.tuple xs) ++ [c])[1 + (joinL [32] (xs.map tx)).length]? = some 41 := by
    rw [List.getElem?_append_left (by omega), tx_tup, Nat.add_comm, List.getElem?_cons_succ, List.getElem?_append_right (Nat.le_refl _), Nat.sub_self]
    rfl
  have e : rdClose (tx (.tuple xs) ++ [c]) (1 + (joinL [32] (xs.map tx)).length) xs [] = (1 + (joinL [32] (xs.map tx)).length + 1, [], some (.tuple xs)) := by rw [rdClose, if_pos hc]
  have q := Rd.fin e
  rw [if_neg (by rw [List.length_append, hl]; simp only [List.length_cons, List.length_nil]; omega), ← hl] at q
  exact q
end K20
set_option maxHeartbeats 4000000
/-! Layer: own lists within an own list. -/
namespace K20
open PySem PySem.Spec L2 TL
open PyProof.Rows hiding St
theorem pmono {α β : Type} {R R' : α → β → Prop} : ∀ {l : List α} {m : List β}, Paired R l m → (∀ a ∈ l, ∀ b, R a b → R' a b) → Paired R' l m
  | _, _, .nil, _ => .nil
  | _, _, .cons h t, k => .cons (k _ (List.mem_cons_self ..) _ h) (pmono t fun a ha => k a (List.mem_cons_of_mem _ ha))
/-- p holds the lists at qs, the last of them first -/
structure Stk (K : Fg) (H0 B H : Hp) (p : Addr) (qs : List Addr) (st : List (List PyData)) : Prop where
  top : Mu none H0 B H p (.lst (qs.reverse.map V.ref))
  nd : (p :: qs).Nodup
  its : Paired (fun q ts => ∃ vs, Mu none H0 B H q (.lst vs) ∧ DpAll K B vs ts) qs st
section
variable {K : Fg} {B0 H0 B B1 H H1 : Hp} {p q : Addr} {qs : List Addr} {x : List PyData} {st : List (List PyData)}
theorem Stk.on (h : Stk K H0 B H p qs st) (t : Tr none B H B1 H1) : Stk K H0 B1 H1 p qs st :=
  ⟨h.top.on t, h.nd, pmono h.its fun q _ ts ⟨vs, m, d⟩ => ⟨vs, m.on t, d.up t.kb⟩⟩
theorem Stk.len (h : Stk K H0 B H p qs st) : qs.length = st.length := h.its.length
theorem Stk.head (h : Stk K H0 B H p (q :: qs) (x :: st)) : ∃ vs, Mu none H0 B H q (.lst vs) ∧ DpAll K B vs x := by
  cases h.its with
  | cons h1 _ => exact h1
theorem Stk.ne (h : Stk K H0 B H p (q :: qs) st) : p ≠ q ∧ q ∉ qs ∧ p ∉ qs := by
  obtain ⟨h1, h2⟩ := List.nodup_cons.mp h.nd
  obtain ⟨h3, h4⟩ := List.nodup_cons.mp h2
  exact ⟨fun z => h1 (by rw [z]; exact List.mem_cons_self ..), h3, fun z => h1 (List.mem_cons_of_mem _ z)⟩
theorem Stk.setHead {x' : List PyData} {vs' : List V} (h : Stk K H0 B H p (q :: qs) (x :: st)) (hd : DpAll K B vs' x') : Stk K H0 B (upd H q (.lst vs')) p (q :: qs) (x' :: st) := by
  obtain ⟨n1, n2, n3⟩ := h.ne
  refine ⟨h.top.other n1, h.nd, ?_⟩
  cases h.its with
  | cons h1 h2 =>
    obtain ⟨vs, m, _⟩ := h1
    exact .cons ⟨vs', m.set, hd⟩ (pmono h2 fun a ha ts ⟨vs, m, d⟩ => ⟨vs, m.other (fun z => n2 (by rw [← z]; exact ha)), d⟩)
theorem Stk.push (h : Stk K H0 B H p qs st) (ok0 : Ok none B0 H0) (ok : Ok none B H) (tr : Tr none B0 H0 B H) (hq : H q = none) : Stk K H0 B (upd (upd H q (.lst [])) p (.lst (qs.reverse.map V.ref ++ [.ref q]))) p (q :: qs) ([] :: st) := by
  have np : p ≠ q := fun z => by have := h.top.at_; rw [z, hq] at this; cases this
  have nq : q ∉ qs := fun z => by
    have key : ∀ {l : List Addr} {m : List (List PyData)}, Paired (fun q ts => ∃ vs, Mu none H0 B H q (.lst vs) ∧ DpAll K B vs ts) l m → q ∉ l := by
      intro l m hp
      induction hp with
      | nil => exact fun z => nomatch z
      | cons h1 _ ih =>
        obtain ⟨vs, m, _⟩ := h1
        rintro (_ | ⟨_, z⟩)
        · rw [m.at_] at hq; cases hq
        · exact ih z
    exact key h.its z
  obtain ⟨h1, h2⟩ := List.nodup_cons.mp h.nd
  have m1 : Mu none H0 B (upd H q (.lst [])) q (.lst []) := Mu.make ok0 ok tr hq
  refine ⟨?_, List.nodup_cons.mpr ⟨fun z => ?_, List.nodup_cons.mpr ⟨nq, h2⟩⟩, .cons ⟨[], m1.other (Ne.symm np), .nil⟩ (pmono h.its fun a ha ts ⟨vs, m, d⟩ => ⟨vs, (m.other fun z => nq (by rw [← z]; exact ha)).other fun z => h1 (by rw [← z]; exact ha), d⟩)⟩
  · have := (h.top.other (u := .lst (qs.reverse.map V.ref)) (o := .lst []) np).set (u := .lst (qs.reverse.map V.ref ++ [.ref q]))
    rw [List.reverse_cons, List.map_append]
    exact this
  · rcases List.mem_cons.mp z with z | z
    · exact np z
    · exact h1 z
theorem Stk.pop (h : Stk K H0 B H p (q :: qs) (x :: st)) : Stk K H0 B (upd H p (.lst (qs.reverse.map V.ref))) p qs st ∧ ∃ vs, Mu none H0 B (upd H p (.lst (qs.reverse.map V.ref))) q (.lst vs) ∧ DpAll K B vs x := by
  obtain ⟨n1, n2, n3⟩ := h.ne
  obtain ⟨h1, h2⟩ := List.nodup_cons.mp h.nd
  obtain ⟨h3, h4⟩ := List.nodup_cons.mp h2
  cases h.its with
  | cons g1 g2 =>
    obtain ⟨vs, m, d⟩ := g1
    exact ⟨⟨h.top.set, List.nodup_cons.mpr ⟨n3, h4⟩, pmono g2 fun a ha ts ⟨vs, m, d⟩ => ⟨vs, m.other fun z => n3 (by rw [← z]; exact ha), d⟩⟩, vs, m.other (Ne.symm n1), d⟩
theorem Stk.last (h : Stk K H0 B H p (q :: qs) st) : ((q :: qs).reverse.map V.ref)[((q :: qs).reverse.map V.ref).length - 1]? = some (.ref q) ∧ ((q :: qs).reverse.map V.ref).dropLast = qs.reverse.map V.ref ∧ atI ((q :: qs).reverse.map V.ref) (-1) = some (.ref q) := by
  have e : (q :: qs).reverse.map V.ref = qs.reverse.map V.ref ++ [.ref q] := by rw [List.reverse_cons, List.map_append]; rfl
  rw [e]
  exact ⟨by simp, by simp, atI_last _ _⟩
end
/-- the test, evaluated now -/
def AtT (X : Cx) (d : Dr) (e : Expr) (σ : St) (B H : Hp) (S : Bool → Prop) : Prop := ∀ Q : Bool → Hp → Prop, RetT d B H S Q → wT X e σ H Q
section
variable {X : Cx} {d : Dr} {ds : List Sd} {B0 H0 B H : Hp} {σ : St} {S Sa Sb S' : PyData → Prop} {D : Ends} {st : Stmt} {rest a b body : List Stmt} {e e1 e2 c iter tg elt : Expr} {es : List Expr} {pos pa pb pc p1 p2 p3 p4 p' pt : Pos} {p q : Addr} {x x' o : Str} {qs : List Addr} {vs : List V} {ts u : List PyData} {st' : List (List PyData)}
theorem sIfT {k : Bool} (y : Sy X.K d B0 H0 B H σ ds) (h : AtT X d c σ B H (· = k)) (h1 : k = true → ∀ H1, Tr d B H B H1 → Sy X.K d B0 H0 B H1 σ ds → wSs X a D σ H1) (h2 : k = false → ∀ H1, Tr d B H B H1 → Sy X.K d B0 H0 B H1 σ ds → wSs X b D σ H1) :
    wS X (.If c a b pos) D σ H := w_s (ps_if pt_w pss_w pss_w) (h _ fun k' H1 tr ok hs => by
  have e : k' = k := hs
  subst e
  cases k' with
  | true => exact iteT (h1 rfl H1 tr (y.on tr ok))
  | false => exact iteF (h2 rfl H1 tr (y.on tr ok)))
theorem cWhenT {k : Bool} (y : Sy X.K d B0 H0 B H σ ds) (h : AtT X d c σ B H (· = k)) (h1 : k = true → ∀ H1, Tr d B H B H1 → Sy X.K d B0 H0 B H1 σ ds → wSs X a { D with nx := wSs X rest D } σ H1) (h2 : k = false → ∀ H1, Tr d B H B H1 → Sy X.K d B0 H0 B H1 σ ds → wSs X rest D σ H1) :
    wSs X (.If c a [] pos :: rest) D σ H := ssC (sIfT y h h1 fun e H1 tr y1 => ssN (h2 e H1 tr y1))
/-- not x, x a list of one's own -/
theorem atNotO (i : Nat) (y : Sy X.K d B0 H0 B H σ ds) (m : Mu d H0 B H p (.lst vs)) (hi : ds[i]? = some (.raw (.ref p)) := by rfl) (hN : X.N[i]? = some x := by rfl) (hv : Vis X.env.scope x := by first | exact Or.inl rfl | exact Or.inr (Or.inl rfl) | exact Or.inr (Or.inr rfl)) (hd : (x == ("__debug__" : Str)) = false := by decide)
    (hcd : (x == ("__classdict__" : Str)) = false := by decide) (he : ∀ whole, isTrue (.Name x pa) X.env whole = (do let v ← whole; standAt (Expr.Name x pa).pos; holding [v] (truthy v)) := by intro _; rfl) : AtT X d (.UnaryOp .Not (.Name x pa) pos) σ B H (· = vs.isEmpty) := fun Q r => by
  refine w_t (pt_not (pt_truth (pe_var hN hv hd hcd) he)) ⟨_, y.sl.raw hi, !vs.isEmpty, .inl ⟨vs, SqL.of m.at_, rfl⟩, ?_⟩
  exact r _ H .refl y.ok (Bool.not_not _)
/-- len(x) == e, x a list of one's own -/
theorem atLenEq {n : Int} (i : Nat) (y : Sy X.K d B0 H0 B H σ ds) (m : Mu d H0 B H p (.lst vs)) (hm : X.mg "len" = none) (hb : DE X d e2 ds B (· = .int n)) (hi : ds[i]? = some (.raw (.ref p)) := by rfl) (hN : X.N[i]? = some x := by rfl) (hv : Vis X.env.scope x := by first | exact Or.inl rfl | exact Or.inr (Or.inl rfl) | exact Or.inr (Or.inr rfl)) (hd : (x == ("__debug__" : Str)) = false := by decide)
    (hcd : (x == ("__classdict__" : Str)) = false := by decide) (hg : Gl X "len" := by rfl) (he : starEach [.Name x pa] X.env = (false, eval (.Name x pa) X.env) :: starEach [] X.env := by rfl) (hpl : (backTo pb (starEach [] X.env)).any (·.1) = false := by rfl) :
    AtT X d (.Compare (.Call (.Name "len" p1) [.Name x pa] [] pb) [.Eq] [e2] pos) σ B H (· = decide ((vs.length : Int) = n)) := fun Q r => by
  refine w_t (pt_cmpR op_eq (pe_callB call_len hg hm PySem.boot_len (pa_cons (pe_var hN hv hd hcd) pa_nil he) (by decide) (by decide) he hpl) pe_w (nomark _)) ⟨_, y.sl.raw hi, .ref p, vs.length, rfl, .inl ⟨vs, SqL.of m.at_, rfl⟩, ?_⟩
  refine hb B σ H (Same.refl B) y.sl y.ok _ fun w t B1 H1 tr ok hd1 e1 => ?_
  rw [show t = .int n from e1] at hd1
  obtain rfl := hd1.int_inv
  refine ⟨rfl, _, rfl, r _ H1 tr.back (y.ok.back tr ok) ?_⟩
  exact decide_eq_decide.mpr ⟨fun h => by injection h, fun h => by rw [h]⟩
theorem dNeg {i : Int} (ha : DE X d e ds B (· = .int i)) : DE X d (.UnaryOp .USub e pos) ds B (· = .int (-i)) := de_of (pe_un un_neg pe_w) (ev_un ha fun B1 H x t _ ok hd hs Q r => by
  rw [show t = .int i from hs] at hd
  exact ⟨i, hd.int_inv, r _ _ B1 H .refl ok (.int _) rfl⟩)
/-- x += e -/
theorem sAug (i : Nat) {n m : Int} (y : Sy X.K d B0 H0 B H σ ds) (nd : X.N.Nodup) (he : DE X d e ds B (· = .int m)) (k : ∀ B1 σ1 H1, Tr d B H B1 H1 → Sy X.K d B0 H0 B1 H1 σ1 (ds.set i (.dat (.int (n + m)))) → D.nx σ1 H1) (h0 : ds[i]? = some (.dat (.int n)) := by rfl)
    (hi : X.N[i]? = some x := by rfl) (hx : Loc X.env.scope x := by first | exact Or.inl rfl | exact Or.inr rfl) (hf : X.fn x = true ∨ X.env.scope.names.lookup x = some .local := by first | exact .inl rfl | exact .inr rfl) : wS X (.AugAssign (.Name x pa) .Add e pos) D σ H := by
  obtain ⟨w, hw, hdw⟩ := y.sl.dat h0
  obtain rfl := hdw.int_inv
  refine w_s (ps_aug nd hi hx pe_w ip_add hf) ⟨_, hw, he B σ H (Same.refl B) y.sl y.ok _ fun w2 t B1 H1 tr ok hd1 e1 => ?_⟩
  rw [show t = .int m from e1] at hd1
  obtain rfl := hd1.int_inv
  exact ⟨n, m, rfl, rfl, k B1 _ H1 tr ((y.on tr ok).put i (x := .dat (.int (n + m))) ⟨_, rfl, .int _⟩)⟩
/-- o.append([]) -/
theorem sPush (i : Nat) (y : Sy X.K none B0 H0 B H σ ds) (ok0 : Ok none B0 H0) (sk : Stk X.K H0 B H p qs st') (hl : qs.length < 100000) (k : ∀ q H1, Sy X.K none B0 H0 B H1 σ ds → Stk X.K H0 B H1 p (q :: qs) ([] :: st') → D.nx σ H1)
    (hi : ds[i]? = some (.raw (.ref p)) := by rfl) (hN : X.N[i]? = some x := by rfl) (hv : Vis X.env.scope x := by first | exact Or.inl rfl | exact Or.inr (Or.inl rfl) | exact Or.inr (Or.inr rfl)) (hd : (x == ("__debug__" : Str)) = false := by decide)
    (hcd : (x == ("__classdict__" : Str)) = false := by decide) (hbase : attributeBase (.Name x pa) "append" X.env (eval (.Name x pa) X.env) = eval (.Name x pa) X.env := by rfl)
    (hfew : ((backTo pc (starEach [.List [] pt] X.env)).all (fun x => !x.1) && (backToKw pc (keywordEach [] X.env)).all (fun x => x.1.isSome) && decide (([.List [] pt] : List Expr).length + ([] : List Keyword).length + (if ([] : List Keyword).isEmpty then 0 else 1) < 30)) = true := by rfl)
    (hline : (pb.endLine == pc.line) = true := by rfl) (hst : starEach [.List [] pt] X.env = (false, eval (.List [] pt) X.env) :: starEach [] X.env := by rfl) (hpl : (backTo pc (starEach [] X.env)).any (·.1) = false := by rfl)
    (hs : swapsWith (.Call (.Attribute (.Name x pa) "append" pb) [.List [] pt] [] pc) none pos.line X.env = pure false := by rfl) :
    wS X (.Expr (.Call (.Attribute (.Name x pa) "append" pb) [.List [] pt] [] pc) pos) D σ H := by
  refine w_s (ps_expr (pe_bm PySem.F.plainAttrs_list PySem.F.slot_list_append PySem.F.type_list_append mt_append (pe_var hN hv hd hcd) (pa_cons (pe_lst pa_nil) pa_nil hst) hbase hfew hline hst hpl) hs) ?_
  refine ⟨_, y.sl.raw hi, .inl ⟨rfl, _, SqL.of sk.top.at_⟩, show 0 ≤ sizeLine by decide, fun q hq => ?_⟩
  have np : p ≠ q := fun z => by have := sk.top.at_; rw [z, hq] at this; cases this
  have y1 : Sy X.K none B0 H0 B (upd H q (.lst [])) σ ds := ⟨y.tr.trans (.lay0 hq), y.ok.lay0 hq, y.sl⟩
  refine ⟨p, _, .ref q, rfl, rfl, by rw [upd_ne np]; exact sk.top.at_, ?_, k q _ (y1.mut (sk.top.other np)) (sk.push ok0 y.ok y.tr hq)⟩
  rw [List.length_map, List.length_reverse]
  exact Nat.lt_of_lt_of_le hl (by decide)
/-- o[-1].append(e) -/
theorem sAppTop {t : PyData} (i : Nat) (y : Sy X.K none B0 H0 B H σ ds) (sk : Stk X.K H0 B H p (q :: qs) (u :: st')) (h1 : DE X none e1 ds B (· = .int (-1))) (h : DE X none e ds B (· = t)) (k : ∀ B1 H1, Same B B1 → Sy X.K none B0 H0 B1 H1 σ ds → Stk X.K H0 B1 H1 p (q :: qs) ((u ++ [t]) :: st') → D.nx σ H1)
    (hl : u.length < 100000) (hi : ds[i]? = some (.raw (.ref p)) := by rfl) (hN : X.N[i]? = some x := by rfl) (hv : Vis X.env.scope x := by first | exact Or.inl rfl | exact Or.inr (Or.inl rfl) | exact Or.inr (Or.inr rfl)) (hd : (x == ("__debug__" : Str)) = false := by decide)
    (hcd : (x == ("__classdict__" : Str)) = false := by decide) (hpi : PlainIx e1 := by exact fun _ _ => rfl) (hbase : attributeBase (.Subscript (.Name x pa) e1 p3) "append" X.env (eval (.Subscript (.Name x pa) e1 p3) X.env) = eval (.Subscript (.Name x pa) e1 p3) X.env := by rfl)
    (hfew : ((backTo pc (starEach [e] X.env)).all (fun x => !x.1) && (backToKw pc (keywordEach [] X.env)).all (fun x => x.1.isSome) && decide (([e] : List Expr).length + ([] : List Keyword).length + (if ([] : List Keyword).isEmpty then 0 else 1) < 30)) = true := by rfl)
    (hline : (pb.endLine == pc.line) = true := by rfl) (hst : starEach [e] X.env = (false, eval e X.env) :: starEach [] X.env := by rfl) (hpl : (backTo pc (starEach [] X.env)).any (·.1) = false := by rfl)
    (hs : swapsWith (.Call (.Attribute (.Subscript (.Name x pa) e1 p3) "append" pb) [e] [] pc) none pos.line X.env = pure false := by rfl) :
    wS X (.Expr (.Call (.Attribute (.Subscript (.Name x pa) e1 p3) "append" pb) [e] [] pc) pos) D σ H := by
  refine w_s (ps_expr (pe_bm PySem.F.plainAttrs_list PySem.F.slot_list_append PySem.F.type_list_append mt_append (pe_ix ix_seq (pe_var hN hv hd hcd) pe_w hpi) (pa_cons pe_w pa_nil hst) hbase hfew hline hst hpl) hs) ?_
  refine ⟨_, y.sl.raw hi, h1 B σ H (Same.refl B) y.sl y.ok _ fun w t1 B1 H1 tr ok hd1 e1 => ?_⟩
  rw [show t1 = .int (-1) from e1] at hd1
  obtain rfl := hd1.int_inv
  have sk1 := sk.on tr
  have y1 := y.on tr ok
  obtain ⟨us, mq, dq⟩ := sk1.head
  refine .inl ⟨p, _, -1, .ref q, rfl, rfl, SqL.of sk1.top.at_, sk1.last.2.2, .inl ⟨rfl, _, SqL.of mq.at_⟩, h B1 σ H1 tr.kb y1.sl ok _ fun w t2 B2 H2 tr2 ok2 hd2 e2 => ?_⟩
  rw [show t2 = t from e2] at hd2
  have sk2 := sk1.on tr2
  have y2 := y1.on tr2 ok2
  have mq2 := mq.on tr2
  exact ⟨q, us, w, rfl, rfl, mq2.at_, Nat.lt_of_lt_of_le (by rw [dq.len]; exact hl) (by decide), k B2 _ (tr.kb.trans tr2.kb) (y2.mut mq2) (sk2.setHead ((dq.up tr2.kb).snoc hd2))⟩
/-- x = tuple(o.pop()) -/
theorem sPopT (i j : Nat) (y : Sy X.K none B0 H0 B H σ ds) (nd : X.N.Nodup) (sk : Stk X.K H0 B H p (q :: qs) (u :: st')) (hm : X.mg "tuple" = none) (k : ∀ B1 σ1 H1, Same B B1 → Sy X.K none B0 H0 B1 H1 σ1 (ds.set j (.dat (.tuple u))) → Stk X.K H0 B1 H1 p qs st' → D.nx σ1 H1)
    (hi : ds[i]? = some (.raw (.ref p)) := by rfl) (hN : X.N[i]? = some o := by rfl) (hv : Vis X.env.scope o := by first | exact Or.inl rfl | exact Or.inr (Or.inl rfl) | exact Or.inr (Or.inr rfl)) (hd : (o == ("__debug__" : Str)) = false := by decide) (hcd : (o == ("__classdict__" : Str)) = false := by decide)
    (hbase : attributeBase (.Name o pa) "pop" X.env (eval (.Name o pa) X.env) = eval (.Name o pa) X.env := by rfl) (hline : (pb.endLine == pc.line) = true := by rfl) (hg : Gl X "tuple" := by rfl)
    (he : starEach [.Call (.Attribute (.Name o pa) "pop" pb) [] [] pc] X.env = (false, eval (.Call (.Attribute (.Name o pa) "pop" pb) [] [] pc) X.env) :: starEach [] X.env := by rfl) (hpl : (backTo p2 (starEach [] X.env)).any (·.1) = false := by rfl)
    (hj : X.N[j]? = some x := by rfl) (hx : Loc X.env.scope x := by first | exact Or.inl rfl | exact Or.inr rfl) (hs : swapsWith (.Call (.Name "tuple" p1) [.Call (.Attribute (.Name o pa) "pop" pb) [] [] pc] [] p2) (some (.Name x p3)) pos.line X.env = pure false := by rfl) (hf : X.fn x = true ∨ X.env.scope.names.lookup x = some .local := by first | exact .inl rfl | exact .inr rfl) :
    wS X (.Assign [.Name x p3] (.Call (.Name "tuple" p1) [.Call (.Attribute (.Name o pa) "pop" pb) [] [] pc] [] p2) pos) D σ H := by
  refine w_s (ps_set nd hj hx (pe_callTy call_tuple_of hg hm (by decide +kernel) (pa_cons (pe_bm0 PySem.F.plainAttrs_list PySem.F.slot_list_pop PySem.F.type_list_pop mt_pop (pe_var hN hv hd hcd) hbase hline) pa_nil he) (by decide) (by decide) he hpl) hs hf) ?_
  obtain ⟨l1, l2, l3⟩ := sk.last
  obtain ⟨sk1, us, mq, dq⟩ := sk.pop
  refine ⟨_, y.sl.raw hi, .inl ⟨rfl, _, SqL.of sk.top.at_⟩, p, _, .ref q, rfl, rfl, sk.top.at_, l1, q, us, rfl, .inl ⟨?_, fun l hl => ?_⟩⟩
  · rw [l2]
    exact SqL.of mq.at_
  · rw [l2] at hl ⊢
    have y1 := y.mut (o := .lst (qs.reverse.map V.ref)) sk.top
    have t1 := Tr.lay (o := .tup us) y1.ok hl
    exact k _ _ _ t1.kb ((y1.on t1 (y1.ok.lay hl)).put j (x := .dat (.tuple u)) ⟨_, rfl, .tup (SqT.of upd_same) (dq.up t1.kb)⟩) (sk1.on t1)
/-- x, x' = e, whatever is known behind it -/
theorem sUnp2W (i j : Nat) {kt : Nat} {t1 t2 : PyData} {R : Hp → Hp → Prop} (hc : X.calm = true) (nd : X.N.Nodup) (W : ∀ Q : VK, (∀ v B1 H1, Same B1 H1 → Dp X.K B1 v (.tuple [t1, t2]) → R B1 H1 → Q v H1) → wE X e σ H Q) (k : ∀ v1 v2 B1 H1, R B1 H1 → Dp X.K B1 v1 t1 → Dp X.K B1 v2 t2 → D.nx ((σ.set i (some v1)).set j (some v2)) H1)
    (hi : X.N[i]? = some x := by rfl) (hj : X.N[j]? = some x' := by rfl) (hx : Loc X.env.scope x := by first | exact Or.inl rfl | exact Or.inr rfl) (hx' : Loc X.env.scope x' := by first | exact Or.inl rfl | exact Or.inr rfl)
    (hf : X.fn x = true ∨ X.env.scope.names.lookup x = some .local := by first | exact .inl rfl | exact .inr rfl) (hf' : X.fn x' = true ∨ X.env.scope.names.lookup x' = some .local := by first | exact .inl rfl | exact .inr rfl)
    (hs : swapsWithSole [.Tuple [.Name x p1, .Name x' p'] kt pt] e pos.line X.env = pure false := by rfl) (hw : swappedStores [.Tuple [.Name x p1, .Name x' p'] kt pt] e X.env = pure none := by rfl) (h1 : (assignEach [.Tuple [.Name x p1, .Name x' p'] kt pt] X.env).map (·.2) = [assign (.Tuple [.Name x p1, .Name x' p'] kt pt) X.env] := by rfl)
    (hn : (assignEach [.Name x p1, .Name x' p'] X.env).length = 2 := by rfl) (hst : (assignEach [.Name x p1, .Name x' p'] X.env).findIdx? (·.1) = none := by rfl)
    (he1 : (assignEach [.Name x p1, .Name x' p'] X.env).map (·.2) = assign (.Name x p1) X.env :: (assignEach [.Name x' p'] X.env).map (·.2) := by rfl) (he2 : (assignEach [.Name x' p'] X.env).map (·.2) = assign (.Name x' p') X.env :: (assignEach [] X.env).map (·.2) := by rfl) :
    wS X (.Assign [.Tuple [.Name x p1, .Name x' p'] kt pt] e pos) D σ H := by
  refine w_s (ps_asg pe_w (pg_tup (n := 2) hc (pgs_cons (pg_name nd hi hx hf) (pgs_cons (pg_name nd hj hx' hf') pgs_nil he2) he1) hn hst) hs hw h1) (W _ fun v B1 H1 sm hd hr => ?_)
  obtain ⟨q, us, rfl, hq, hdq⟩ := hd.tup_inv
  obtain ⟨v1, v2, rfl, d1, d2⟩ := hdq.two
  exact ⟨q, _, rfl, sqT_mono sm hq, rfl, _, _, rfl, _, _, rfl, rfl, k v1 v2 B1 H1 hr d1 d2⟩
end
end K20
set_option maxHeartbeats 4000000
/-! word_end, number_end, read_leaf. -/
namespace K20
open PySem PySem.Spec L2 TL
open PyProof.Rows hiding St
variable {P : Program} {w : World} {K : Fg} {mg : Str → Option Value} {base : Heap}
theorem lenD_str {z : Str} (h : z.length ≤ 100000) : lenD (.str z) = some z.length := by
  show (if z.length ≤ 100000 then some z.length else none) = _
  rw [if_pos h]
theorem eq_at {L : List Nat} {a c k : Nat} (h : L[a]? = some c) : decide (c = k) = decide (L[a]? = some k) := decide_eq_decide.mpr ⟨fun e => by rw [h, e], fun e => by rw [h] at e; exact Option.some.inj e⟩
theorem letD (c : Nat) : decide (c ∈ tl ("abcdefghijklmnopqrstuvwxyz" : Str)) = isLet c := mem_letters c
theorem figD (c : Nat) : decide (c ∈ tl ("0123456789" : Str)) = isFig c := mem_figures c
theorem wTo {X : Cx} {d : Dr} {ds : List Sd} {B : Hp} {e : Expr} {S1 S2 : Bool → Prop} (h : DW X d e ds B S1) (k : ∀ b, S1 b → S2 b) : DW X d e ds B S2 := fun B1 σ H e sl ok Q r => h B1 σ H e sl ok Q fun b H' tr ok' hs => r b H' tr ok' (k b hs)
def fEnd (f : List Nat → Nat → Nat) : List PyData → (PyData → Prop) → Prop := fun ts S => ∃ (z : Str) (a : Nat), ts = [.str z, .int a] ∧ z.length ≤ 100000 ∧ a ≤ z.length ∧ S = (· = .int (f (tl z) a : Nat))
abbrev nWe : List Str := ["text", "at", "end"]
theorem scWe : FnScope nWe ["text", "at"] (defScope (top 23)) := ⟨rfl, rfl, rfl, by decide +kernel, rfl, by decide +kernel, by decide +kernel⟩
theorem ok_wordEnd (M : Me K mg) : Cal P w K mg base 1 "word_end" (Fn K (fEnd wEnd)) [] := by
  refine mkCal (M.df 23 (by decide)) scWe (fun _ _ _ _ _ _ us hl => match us, hl with | [_, _], _ => rfl) (fun vs H Q E h => ?_) fun f cdv A outer s H vs Q E hr h => ?_
  · obtain ⟨B, ts, S, ok, hv, ⟨z, a, rfl, _⟩, _⟩ := h
    exact hv.len
  obtain ⟨B, ts, S, ok, hv, ⟨z, a, rfl, hz, ha, rfl⟩, ret⟩ := h
  have y := Sy.ini (N := nWe) ok hv
  have nd := scWe.nd
  have hzl := len_tl z
  refine ssC (sSet1 2 y nd (v 1) fun B1 σ1 H1 t1 y1 => ?_)
  obtain ⟨h12, hle⟩ := runL_le isLet 12 ((tl z).drop a)
  rw [List.length_drop] at hle
  refine ssC (sWhile (d := none) (B := B1) (I := fun (j : Nat) B' σ' H' => Sy K none B H B' H' σ' [.dat (.str z), .dat (.int a), .dat (.int (a + j : Nat))] ∧ j ≤ runL isLet 12 ((tl z).drop a)) (fun j => 12 - j) 0 (passes_of rfl) ⟨y1, Nat.zero_le _⟩ ?_)
  rintro j B2 σ2 H2 ⟨y2, hj⟩
  have hat : ((tl z).drop a)[j]? = (tl z)[a + j]? := List.getElem?_drop
  have key := runL_at hj
  rw [hat] at key
  refine ⟨_, decide (j < runL isLet 12 ((tl z).drop a)), y2.sl, y2.ok, tTo (tW (wAnd (l := decide (j < runL isLet 12 ((tl z).drop a))) (tLt (v 2) (dLen (n := z.length) M.len (v 0) (lenD_str hz))) (fun h1 => ?_))) ?_, fun hb H3 t3 o3 => ?_, fun hb H3 t3 o3 => ?_⟩
  · have h1 := of_decide_eq_true h1
    have hlt : a + j < (tl z).length := by rw [← hzl]; omega
    have hc : (tl z)[a + j]? = some (tl z)[a + j] := List.getElem?_eq_getElem hlt
    refine wTo (S1 := (· = (decide ((((a + j : Nat) : Int) - (a : Nat)) < 12) && decide ((tl z)[a + j] ∈ tl ("abcdefghijklmnopqrstuvwxyz" : Str))))) (wAnd (tLt (dSub (v 2) (v 1)) (dGI M.cLONGEST_WORD)) (fun h2 => wAnd1 (tInSign (dChr (v 0) (v 2) hz (atI_nat hc)) (dGS M.letters)))) ?_
    rintro _ rfl
    rw [letD, ← Bool.decide_coe (isLet _), ← Bool.decide_and]
    refine decide_eq_decide.mpr ?_
    rw [← key, hc]
    constructor
    · rintro ⟨q1, q2⟩
      exact ⟨by omega, _, rfl, q2⟩
    · rintro ⟨q1, c, q2, q3⟩
      cases q2
      exact ⟨by omega, q3⟩
  · rintro _ rfl
    by_cases hlt : j < runL isLet 12 ((tl z).drop a)
    · have : ((a + j : Nat) : Int) < (z.length : Nat) := by omega
      rw [decide_eq_true this, Bool.true_and]
    · rw [decide_eq_false hlt, Bool.and_false]
  · have hlt := of_decide_eq_true hb
    refine ss1 (sAug 2 (⟨y2.tr.trans t3, o3, y2.sl.up t3.kb⟩ : Sy K none B H B2 H3 σ2 _) nd dI fun B4 σ4 H4 t4 y4 => ⟨j + 1, B4, by omega, ?_, hlt⟩)
    rw [show (((a + j : Nat) : Int) + 1) = ((a + (j + 1) : Nat) : Int) by omega] at y4
    exact y4
  · have hlt := of_decide_eq_false hb
    have e : j = runL isLet 12 ((tl z).drop a) := by omega
    refine ss1 (sRet (⟨y2.tr.trans t3, o3, y2.sl.up t3.kb⟩ : Sy K none B H B2 H3 σ2 _) (v 2) ?_)
    rw [e]
    exact ret
/-! ### number_end -/
def fNEnd : List PyData → (PyData → Prop) → Prop := fun ts S => ∃ (z : Str) (a c : Nat), ts = [.str z, .int a] ∧ z.length ≤ 100000 ∧ (tl z)[a]? = some c ∧ isFig c = true ∧ S = (· = .int (nEnd (tl z) a : Nat))
abbrev nNe : List Str := ["text", "at", "first", "end"]
theorem scNe : FnScope nNe ["text", "at"] (defScope (top 24)) := ⟨rfl, rfl, rfl, by decide +kernel, rfl, by decide +kernel, by decide +kernel⟩
theorem ok_numEnd (M : Me K mg) : Cal P w K mg base 1 "number_end" (Fn K fNEnd) [] := by
  refine mkCal (M.df 24 (by decide)) scNe (fun _ _ _ _ _ _ us hl => match us, hl with | [_, _], _ => rfl) (fun vs H Q E h => ?_) fun f cdv A outer s H vs Q E hr h => ?_
  · obtain ⟨B, ts, S, ok, hv, ⟨z, a, c, rfl, _⟩, _⟩ := h
    exact hv.len
  obtain ⟨B, ts, S, ok, hv, ⟨z, a, c, rfl, hz, hc, hf, rfl⟩, ret⟩ := h
  have y := Sy.ini (N := nNe) ok hv
  have nd := scNe.nd
  have hzl := len_tl z
  have hal : a < z.length := by rw [hzl]; exact (List.getElem?_eq_some_iff.mp hc).1
  have hf' := of_decide_eq_true hf
  refine cWhen1 y (tEqC (c' := 48) (dChr (v 0) (v 1) hz (atI_nat hc)) dS) (fun hb H1 t1 y1 => ?_) fun hb H1 t1 y1 => ?_
  · refine ss1 (sRet y1 (dAdd (v 1) dI) ?_)
    have e : nEnd (tl z) a = a + 1 := by unfold nEnd; rw [if_pos (by rw [hc, of_decide_eq_true hb])]
    rw [e] at ret
    exact ret
  have h48 : ¬ c = 48 := of_decide_eq_false hb
  refine ssC (sSet1 (t := .int a) 2 y1 nd (dIf (tEqC (c' := 45) (dChr (v 0) (v 1) hz (atI_nat hc)) dS) (fun h => absurd (of_decide_eq_true h) (by omega)) (fun _ => v 1)) fun B2 σ2 H2 t2 y2 => ?_)
  refine cWhen1 y2 (k := false) (tTo (tW (wOr (k := false) (tTo (tEq (t := .int a) (u := .int z.length) hr (v 2) (dLen (n := z.length) M.len (v 0) (lenD_str hz)) rfl rfl) (by rintro _ rfl; rw [eqv_int]; exact decide_eq_false (by omega))) (fun _ => wOr (k := false) (tTo (tNotInSign (dChr (v 0) (v 2) hz (atI_nat hc)) (dGS M.figures)) (by rintro _ rfl; rw [figD, hf]; rfl)) (fun _ => wOr1 (tEqC (c' := 48) (dChr (v 0) (v 2) hz (atI_nat hc)) dS))))) (by rintro _ rfl; rw [decide_eq_false h48]; rfl)) (fun hb3 _ _ _ => nomatch hb3) fun hb3 H3 t3 y3 => ?_
  refine ssC (sSet1 3 y3 nd (v 2) fun B4 σ4 H4 t4 y4 => ?_)
  obtain ⟨h12, hle⟩ := runL_le isFig 400 ((tl z).drop a)
  rw [List.length_drop] at hle
  refine ssC (sWhile (d := none) (B := B4) (I := fun (j : Nat) B' σ' H' => Sy K none B H B' H' σ' [.dat (.str z), .dat (.int a), .dat (.int a), .dat (.int (a + j : Nat))] ∧ j ≤ runL isFig 400 ((tl z).drop a)) (fun j => 400 - j) 0 (passes_of rfl) ⟨y4, Nat.zero_le _⟩ ?_)
  rintro j B2 σ2 H2 ⟨y2, hj⟩
  have hat : ((tl z).drop a)[j]? = (tl z)[a + j]? := List.getElem?_drop
  have key := runL_at hj
  rw [hat] at key
  refine ⟨_, decide (j < runL isFig 400 ((tl z).drop a)), y2.sl, y2.ok, tTo (tW (wAnd (l := decide (j < runL isFig 400 ((tl z).drop a))) (tLt (v 3) (dLen (n := z.length) M.len (v 0) (lenD_str hz))) (fun h1 => ?_))) ?_, fun hb H3 t3 o3 => ?_, fun hb H3 t3 o3 => ?_⟩
  · have h1 := of_decide_eq_true h1
    have hlt : a + j < (tl z).length := by rw [← hzl]; omega
    have hc : (tl z)[a + j]? = some (tl z)[a + j] := List.getElem?_eq_getElem hlt
    refine wTo (S1 := (· = (decide ((((a + j : Nat) : Int) - (a : Nat)) < 400) && decide ((tl z)[a + j] ∈ tl ("0123456789" : Str))))) (wAnd (tLt (dSub (v 3) (v 2)) (dGI M.cMOST_FIGURES)) (fun h2 => wAnd1 (tInSign (dChr (v 0) (v 3) hz (atI_nat hc)) (dGS M.figures)))) ?_
    rintro _ rfl
    rw [figD, ← Bool.decide_coe (isFig _), ← Bool.decide_and]
    refine decide_eq_decide.mpr ?_
    rw [← key, hc]
    constructor
    · rintro ⟨q1, q2⟩
      exact ⟨by omega, _, rfl, q2⟩
    · rintro ⟨q1, c, q2, q3⟩
      cases q2
      exact ⟨by omega, q3⟩
  · rintro _ rfl
    by_cases hlt : j < runL isFig 400 ((tl z).drop a)
    · have : ((a + j : Nat) : Int) < (z.length : Nat) := by omega
      rw [decide_eq_true this, Bool.true_and]
    · rw [decide_eq_false hlt, Bool.and_false]
  · have hlt := of_decide_eq_true hb
    refine ss1 (sAug 3 (⟨y2.tr.trans t3, o3, y2.sl.up t3.kb⟩ : Sy K none B H B2 H3 σ2 _) nd dI fun B4 σ4 H4 t4 y4 => ⟨j + 1, B4, by omega, ?_, hlt⟩)
    rw [show (((a + j : Nat) : Int) + 1) = ((a + (j + 1) : Nat) : Int) by omega] at y4
    exact y4
  · have hlt := of_decide_eq_false hb
    have e : j = runL isFig 400 ((tl z).drop a) := by omega
    refine ss1 (sRet (⟨y2.tr.trans t3, o3, y2.sl.up t3.kb⟩ : Sy K none B H B2 H3 σ2 _) (v 3) ?_)
    have e2 : nEnd (tl z) a = a + j := by unfold nEnd; rw [if_neg (by rw [hc]; intro h; exact h48 (Option.some.inj h)), e]
    rw [e2] at ret
    exact ret
/-! ### read_leaf -/
def fLeaf : List PyData → (PyData → Prop) → Prop := fun ts S => ∃ (z : Str) (a e : Nat) (x : PyData), ts = [.str z, .int a] ∧ z.length ≤ 100000 ∧ rdLeaf (tl z) a = some (x, e) ∧ S = (· = .tuple [x, .int e])
abbrev nLe : List Str := ["text", "at", "end"]
theorem scLe : FnScope nLe ["text", "at"] (defScope (top 25)) := ⟨rfl, rfl, rfl, by decide +kernel, rfl, by decide +kernel, by decide +kernel⟩
theorem cut_eq {z : Str} {a e : Nat} (h1 : a ≤ e) (h2 : e ≤ z.length) : cutS z (some a) (some e) = ⟨(cutL (tl z) a e).toArray⟩ := ext_tl (by rw [tl_cut h1 h2]; rfl)
theorem nEnd_le {L : List Nat} {a : Nat} (h : a < L.length) : a < nEnd L a + 1 ∧ a ≤ nEnd L a ∧ nEnd L a ≤ L.length ∧ nEnd L a ≤ a + 400 := by
  unfold nEnd
  have := runL_le isFig 400 (L.drop a)
  rw [List.length_drop] at this
  split <;> omega
theorem wEnd_le {L : List Nat} {a : Nat} (h : a < L.length) : a ≤ wEnd L a ∧ wEnd L a ≤ L.length := by
  unfold wEnd
  have := runL_le isLet 12 (L.drop a)
  rw [List.length_drop] at this
  omega
theorem mem_tw {p : Nat → Bool} {x : Nat} : ∀ {l : List Nat}, x ∈ l.takeWhile p → p x = true
  | [], h => nomatch h
  | c :: l, h => by
    by_cases hc : p c = true
    · rw [List.takeWhile_cons_of_pos hc] at h
      rcases List.mem_cons.mp h with rfl | h
      · exact hc
      · exact mem_tw h
    · rw [List.takeWhile_cons_of_neg hc] at h
      cases h
/-- a figure's number is read -/
theorem num_read {L : List Nat} {a c : Nat} (hc : L[a]? = some c) (hf : isFig c = true) : PySem.intText? (⟨(cutL L a (nEnd L a)).toArray⟩ : Str) = some ((NumText.digitsVal (cutL L a (nEnd L a)) : Nat) : Int) := by
  have hal := (List.getElem?_eq_some_iff.mp hc).1
  have hd : L.drop a = c :: L.drop (a + 1) := by
    rw [List.drop_eq_getElem_cons hal]
    rw [List.getElem?_eq_getElem hal] at hc
    rw [Option.some.inj hc]
  have hall : ∀ x ∈ cutL L a (nEnd L a), isFig x = true := by
    unfold cutL nEnd
    split
    · rename_i h48
      rw [Nat.add_sub_cancel_left, hd]
      intro x hx
      simp at hx
      rw [hx]
      exact hf
    · rw [Nat.add_sub_cancel_left]
      unfold runL
      intro x hx
      have h1 : ((L.drop a).take 400).takeWhile isFig <+: L.drop a := (List.takeWhile_prefix isFig).trans (List.take_prefix 400 _)
      rw [List.prefix_iff_eq_take.mp h1 |>.symm] at hx
      exact mem_tw hx
  have hne : cutL L a (nEnd L a) ≠ [] := by
    have : 1 ≤ nEnd L a - a := by
      unfold nEnd
      split
      · omega
      · have : 0 < runL isFig 400 (L.drop a) := (runL_at (j := 0) (Nat.zero_le _)).mp ⟨by decide, c, by rw [hd]; rfl, hf⟩
        omega
    unfold cutL
    rw [hd]
    obtain ⟨k, hk⟩ : ∃ k, nEnd L a - a = k + 1 := ⟨nEnd L a - a - 1, by omega⟩
    rw [hk, List.take_succ_cons]
    exact fun z => nomatch z
  have hlen : (cutL L a (nEnd L a)).length ≤ 4300 := by
    unfold cutL
    rw [List.length_take]
    have := (nEnd_le hal).2.2.2
    omega
  exact PySem.intText_digits (x := ⟨(cutL L a (nEnd L a)).toArray⟩) (fun x hx => by have := of_decide_eq_true (hall x hx); omega) hne hlen
theorem ok_leaf (M : Me K mg) : Cal P w K mg base 2 "read_leaf" (Fn K fLeaf) [] := by
  refine mkCal (M.df 25 (by decide)) scLe (fun _ _ _ _ _ _ us hl => match us, hl with | [_, _], _ => rfl) (fun vs H Q E h => ?_) fun f cdv A outer s H vs Q E hr h => ?_
  · obtain ⟨B, ts, S, ok, hv, ⟨z, a, e, x, rfl, _⟩, _⟩ := h
    exact hv.len
  obtain ⟨B, ts, S, ok, hv, ⟨z, a, e, x, rfl, hz, hx, rfl⟩, ret⟩ := h
  have y := Sy.ini (N := nLe) ok hv
  have nd := scLe.nd
  have hzl := len_tl z
  unfold rdLeaf at hx
  cases hc : (tl z)[a]? with
  | none => rw [hc] at hx; cases hx
  | some c =>
    rw [hc] at hx
    simp only at hx
    have hal : a < (tl z).length := (List.getElem?_eq_some_iff.mp hc).1
    have hlt : ((a : Nat) : Int) < (z.length : Nat) := by omega
    refine cWhen1 y (k := isLet c) (tTo (tW (wAnd (tLt (v 1) (dLen (n := z.length) M.len (v 0) (lenD_str hz))) (fun _ => wAnd1 (tInSign (dChr (v 0) (v 1) hz (atI_nat hc)) (dGS M.letters))))) (by rintro _ rfl; rw [decide_eq_true hlt, letD]; rfl)) (fun hb H1 t1 y1 => ?_) fun hb H1 t1 y1 => ?_
    · rw [if_pos hb] at hx
      obtain ⟨rfl, rfl⟩ := Prod.mk.inj (Option.some.inj hx)
      have hw := wEnd_le hal
      refine ssC (sSet1 2 y1 nd (dCall1 (ok_wordEnd M) hr (aC (v 0) (aC (v 1) aN)) ⟨z, a, rfl, hz, by omega, rfl⟩) fun B2 σ2 H2 t2 y2 => ?_)
      refine ss1 (sRet y2 (dTup (aC (DE.to (dCut (v 0) (v 1) (v 2) hz) (S' := (· = strP (cutL (tl z) a (wEnd (tl z) a)))) (by rintro _ rfl; unfold strP; rw [cut_eq hw.1 (by rw [hzl]; exact hw.2)])) (aC (v 2) aN))) ret)
    · rw [if_neg (by rw [hb]; exact Bool.false_ne_true)] at hx
      cases hf : isFig c with
      | false => rw [hf] at hx; simp at hx
      | true =>
        rw [hf, if_pos rfl] at hx
        obtain ⟨rfl, rfl⟩ := Prod.mk.inj (Option.some.inj hx)
        have hw := nEnd_le hal
        have hf' := of_decide_eq_true hf
        refine cWhen1 y1 (k := true) (tTo (tW (wAnd (l := true) (tLt (v 1) (dLen (n := z.length) M.len (v 0) (lenD_str hz))) (fun _ => wAnd1 (tTo (tW (wOr (l := true) (tEqC (c' := 45) (dChr (v 0) (v 1) hz (atI_nat hc)) dS) (fun _ => wOr1 (tTo (tInSign (dChr (v 0) (v 1) hz (atI_nat hc)) (dGS M.figures)) (by rintro _ rfl; rw [figD, hf]))))) (by rintro _ rfl; exact Bool.or_true _))))) (by rintro _ rfl; rw [decide_eq_true hlt]; rfl)) (fun _ H2 t2 y2 => ?_) fun hb2 _ _ _ => nomatch hb2
        refine ssC (sSet1 2 y2 nd (dCall1 (ok_numEnd M) hr (aC (v 0) (aC (v 1) aN)) ⟨z, a, c, rfl, hz, hc, hf, rfl⟩) fun B2 σ2 H2 t2 y2 => ?_)
        refine ss1 (sRet y2 (dTup (aC (DE.to (dIntS (z := cutS z (some a) (some (nEnd (tl z) a))) (n := ((NumText.digitsVal (cutL (tl z) a (nEnd (tl z) a)) : Nat) : Int)) M.int (dCut (v 0) (v 1) (v 2) hz) (by rw [cut_eq hw.2.1 (by rw [hzl]; exact hw.2.2.1)]; exact num_read hc hf) ?_) (S' := (· = numP (cutL (tl z) a (nEnd (tl z) a)))) (by rintro _ rfl; rfl)) (aC (v 2) aN))) ret)
        rw [len_tl, tl_cut hw.2.1 (by rw [hzl]; exact hw.2.2.1), List.length_take]
        omega
end K20
set_option maxHeartbeats 4000000
/-! close_tuples, read_data. -/
namespace K20
open PySem PySem.Spec L2 TL
open PyProof.Rows hiding St
variable {P : Program} {w : World} {K : Fg} {mg : Str → Option Value} {base : Heap}
theorem AtT.to {X : Cx} {d : Dr} {e : Expr} {σ : St} {B H : Hp} {S1 S2 : Bool → Prop} (h : AtT X d e σ B H S1) (k : ∀ b, S1 b → S2 b) : AtT X d e σ B H S2 := fun Q r => h Q fun b H' tr' ok' hs => r b H' tr' ok' (k b hs)
section
variable {X : Cx} {d : Dr} {ds : List Sd} {B : Hp} {e1 e2 e3 e4 e5 : Expr} {p1 p2 p3 p4 : Pos} {z : Str} {a c : Nat}
theorem at_none {L : List Nat} {a : Nat} (h : ¬ a < L.length) (c : Nat) : decide (L[a]? = some c) = false := decide_eq_false (by rw [List.getElem?_eq_none (by omega)]; exact fun z => nomatch z)
/-- the sign at a place, if there is one, is this -/
theorem tAtIs (hm : X.mg "len" = none) (hz : z.length ≤ 100000) (h1 : DE X d e1 ds B (· = .int a)) (h2 : DE X d e2 ds B (· = .int z.length)) (h3 : DE X d e3 ds B (· = .str z)) (h4 : DE X d e4 ds B (· = .int a)) (h5 : DE X d e5 ds B (· = .str (sgn c))) (hs : PlainIx e4 := by exact fun _ _ => rfl) :
    DT X d (.BoolOp .And [.Compare e1 [.Lt] [e2] p1, .Compare (.Subscript e3 e4 p2) [.Eq] [e5] p3] p4) ds B (· = decide ((tl z)[a]? = some c)) := by
  have hzl := len_tl z
  refine tTo (tW (wAnd (l := decide ((tl z)[a]? = some c)) (tLt h1 h2) (fun h => ?_))) ?_
  · have hlt : a < (tl z).length := by have := of_decide_eq_true h; omega
    have hc : (tl z)[a]? = some (tl z)[a] := List.getElem?_eq_getElem hlt
    exact wAnd1 (tTo (tEqC (c' := c) (dChr h3 h4 hz (atI_nat hc) hs) h5) (by rintro _ rfl; exact eq_at hc))
  · rintro _ rfl
    by_cases hlt : a < (tl z).length
    · rw [decide_eq_true (show ((a : Nat) : Int) < (z.length : Nat) by omega), Bool.true_and]
    · rw [at_none hlt, Bool.and_false]
theorem tAtNot {k : Nat} (hr : Room k X.A) (hz : z.length ≤ 100000) (ha : a ≤ z.length) (h1 : DE X d e1 ds B (· = .int a)) (h2 : DE X d e2 ds B (· = .int z.length)) (h3 : DE X d e3 ds B (· = .str z)) (h4 : DE X d e4 ds B (· = .int a)) (h5 : DE X d e5 ds B (· = .str (sgn c))) (hs : PlainIx e4 := by exact fun _ _ => rfl) :
    DT X d (.BoolOp .Or [.Compare e1 [.Eq] [e2] p1, .Compare (.Subscript e3 e4 p2) [.NotEq] [e5] p3] p4) ds B (· = !decide ((tl z)[a]? = some c)) := by
  have hzl := len_tl z
  refine tTo (tW (wOr (k := decide (a = z.length)) (l := !decide ((tl z)[a]? = some c)) (tTo (tEq (t := .int a) (u := .int z.length) hr h1 h2 rfl rfl) (by rintro _ rfl; rw [eqv_int]; exact decide_eq_decide.mpr (by omega))) (fun h => ?_))) ?_
  · have hne := of_decide_eq_false h
    have hlt : a < (tl z).length := by omega
    have hc : (tl z)[a]? = some (tl z)[a] := List.getElem?_eq_getElem hlt
    exact wOr1 (tTo (tNeC (c' := c) (dChr h3 h4 hz (atI_nat hc) hs) h5) (by rintro _ rfl; rw [eq_at hc]))
  · rintro _ rfl
    by_cases hlt : a < (tl z).length
    · rw [decide_eq_false (show ¬ a = z.length by omega), Bool.false_or]
    · rw [at_none hlt, decide_eq_true (show a = z.length by omega)]; rfl
end
def SpCl (K : Fg) : Sp := fun vs H Q E => ∃ (z : Str) (a : Nat) (p : Addr) (qs : List Addr) (x : List PyData) (st : List (List PyData)) (B0 H0 B : Hp), vs = [.str z, .int a, .ref p] ∧ z.length ≤ 100000 ∧ a ≤ z.length ∧ Tr none B0 H0 B H ∧ Ok none B H ∧ Stk K H0 B H p qs (x :: st) ∧ (∀ u ∈ x :: st, u.length ≤ a) ∧
  ∀ v B' H' qs', Tr none B0 H0 B' H' → Same B B' → Ok none B' H' → Stk K H0 B' H' p qs' (rdClose (tl z) a x st).2.1 → Dp K B' v (.tuple [.int ((rdClose (tl z) a x st).1 : Nat), (rdClose (tl z) a x st).2.2.getD .none]) → Q v H'
abbrev nClo : List Str := ["text", "at", "opened", "made"]
theorem scClo : FnScope nClo ["text", "at", "opened"] (defScope (top 26)) := ⟨rfl, rfl, rfl, by decide +kernel, rfl, by decide +kernel, by decide +kernel⟩
theorem ok_close (M : Me K mg) : Cal P w K mg base 1 "close_tuples" (SpCl K) [] := by
  refine mkCal (M.df 26 (by decide)) scClo (fun _ _ _ _ _ _ us hl => match us, hl with | [_, _, _], _ => rfl) (fun vs H Q E h => ?_) fun f cdv A outer s H vs Q E hr h => ?_
  · obtain ⟨z, a, p, qs, x, st, B0, H0, B, rfl, _⟩ := h
    rfl
  obtain ⟨z, a, p, qs, x, st, B0, H0, B, rfl, hz, ha, tr, ok, sk, hbd, ret⟩ := h
  have sl := (Sy.iniG (K := K) (vs := [.str z, .int a, .ref p]) (N := nClo) (sds := [.dat (.str z), .dat (.int a), .raw (.ref p)]) ok rfl (fun i x hx => by
    match i, hx with
    | 0, hx => cases hx; exact ⟨_, rfl, _, rfl, .str _⟩
    | 1, hx => cases hx; exact ⟨_, rfl, _, rfl, .int _⟩
    | 2, hx => cases hx; exact ⟨_, rfl, rfl⟩
    | i + 3, hx => simp at hx)).sl
  have y : Sy K none B0 H0 B H (L2.start nClo [.str z, .int a, .ref p]) [.dat (.str z), .dat (.int a), .raw (.ref p), .any] := ⟨tr, ok, sl⟩
  have nd := scClo.nd
  have hzl := len_tl z
  refine ssC (sWhile (d := none) (B := B) (I := fun (α : Nat × List PyData × List (List PyData)) B' σ' H' => ∃ qs', Same B B' ∧ Sy K none B0 H0 B' H' σ' [.dat (.str z), .dat (.int α.1), .raw (.ref p), .any] ∧ Stk K H0 B' H' p qs' (α.2.1 :: α.2.2) ∧ α.1 ≤ z.length ∧ (∀ u ∈ α.2.1 :: α.2.2, u.length ≤ α.1) ∧ rdClose (tl z) α.1 α.2.1 α.2.2 = rdClose (tl z) a x st) (fun α => z.length - α.1) (a, x, st) (passes_of rfl) ⟨qs, Same.refl B, y, sk, ha, hbd, rfl⟩ ?_)
  rintro ⟨a', x', st'⟩ B1 σ1 H1 ⟨qs', sm, y1, sk1, ha1, hb1, he⟩
  dsimp only at y1 sk1 ha1 hb1 he
  refine ⟨_, decide ((tl z)[a']? = some 41), y1.sl, y1.ok, tAtIs (c := 41) M.len hz (v 1) (dLen (n := z.length) M.len (v 0) (lenD_str hz)) (v 0) (v 1) dS, fun hb H2 t2 o2 => ?_, fun hb H2 t2 o2 => ?_⟩
  · have h41 := of_decide_eq_true hb
    have hlt : a' < (tl z).length := (List.getElem?_eq_some_iff.mp h41).1
    have y2 := y1.on t2 o2
    have sk2 := sk1.on t2
    obtain ⟨q, qs'', rfl⟩ : ∃ q qs'', qs' = q :: qs'' := by
      have := sk2.len
      cases qs' with
      | nil => cases this
      | cons q r => exact ⟨q, r, rfl⟩
    refine ssC (sPopT 2 3 y2 nd sk2 M.tuple fun B3 σ3 H3 sm3 y3 sk3 => ?_)
    refine ssC (sAug 1 y3 nd dI fun B4 σ4 H4 t4 y4 => ?_)
    have sk4 := sk3.on t4
    have y4' : Sy K none B0 H0 B4 H4 σ4 [.dat (.str z), .dat (.int ((a' + 1 : Nat) : Int)), .raw (.ref p), .dat (.tuple x')] := by
      rw [show (((a' + 1 : Nat) : Int)) = (a' : Int) + 1 by omega]
      exact y4
    cases st' with
    | nil =>
      have eq : qs'' = [] := by
        have := sk4.len
        exact List.eq_nil_of_length_eq_zero this
      subst eq
      refine cWhenT (k := true) y4' (atNotO 2 y4' sk4.top) (fun _ H5 t5 y5 => ?_) (fun hb => nomatch hb)
      have sk5 := sk4.on t5
      refine ss1 (sRet0 y5.sl y5.ok (dTup (aC (v 1) (aC (v 3) aN))) fun v' t' B' H' tr' ok' hd' e' => ?_)
      have e1 : rdClose (tl z) a x st = (a' + 1, [], some (.tuple x')) := by rw [← he, rdClose, if_pos h41]
      rw [e1] at ret
      rw [show t' = _ from e'] at hd'
      exact ret v' B' H' [] (y5.tr.trans tr') (sm.trans (sm3.trans (t4.kb.trans tr'.kb))) ok' (sk5.on tr') hd'
    | cons u r =>
      obtain ⟨q2, r2, rfl⟩ : ∃ q r, qs'' = q :: r := by
        have := sk4.len
        cases qs'' with
        | nil => cases this
        | cons q r => exact ⟨q, r, rfl⟩
      refine cWhenT (k := false) y4' (AtT.to (atNotO 2 y4' sk4.top) (by rintro _ rfl; simp)) (fun hb => nomatch hb) (fun _ H5 t5 y5 => ?_)
      have sk5 := sk4.on t5
      have hul : u.length ≤ a' := hb1 u (List.mem_cons_of_mem _ (List.mem_cons_self ..))
      refine ss1 (sAppTop 2 y5 sk5 (dNeg dI) (v 3) (fun B6 H6 sm6 y6 sk6 => ⟨(a' + 1, u ++ [.tuple x'], r), B6, ?_, ?_⟩) (by omega))
      · show z.length - (a' + 1) < z.length - a'
        omega
      · refine ⟨_, sm.trans (sm3.trans (t4.kb.trans sm6)), y6.fo 3, sk6, by show a' + 1 ≤ z.length; omega, fun w hw => ?_, ?_⟩
        · rcases List.mem_cons.mp hw with rfl | hw
          · rw [List.length_append]; exact Nat.add_le_add hul (Nat.le_refl _)
          · exact Nat.le_succ_of_le (hb1 w (List.mem_cons_of_mem _ (List.mem_cons_of_mem _ hw)))
        · rw [← he]
          show _ = rdClose (tl z) a' x' (u :: r)
          rw [rdClose, if_pos h41]
  · have h41 := of_decide_eq_false hb
    have y2 := y1.on t2 o2
    have sk2 := sk1.on t2
    refine ss1 (sRet0 y2.sl y2.ok (dTup (aC (v 1) (aC dN aN))) fun v' t' B' H' tr' ok' hd' e' => ?_)
    have e1 : rdClose (tl z) a x st = (a', x' :: st', none) := by
      rw [← he]
      cases st' with
      | nil => rw [rdClose, if_neg h41]
      | cons u r => rw [rdClose, if_neg h41]
    rw [e1] at ret
    rw [show t' = _ from e'] at hd'
    exact ret v' B' H' qs' (y2.tr.trans tr') (sm.trans tr'.kb) ok' (sk2.on tr') hd'
end K20
set_option maxHeartbeats 4000000
/-! read_data. -/
namespace K20
open PySem PySem.Spec L2 TL
open PyProof.Rows hiding St
variable {P : Program} {w : World} {K : Fg} {mg : Str → Option Value} {base : Heap}
/-- a call of a def that raises nothing -/
theorem wCallW {X : Cx} {sp : Sp} {k j : Nat} {x : Str} {e : Expr} {es : List Expr} {p pos : Pos} {ta : TA} {σ : St} {H : Hp} {Q : VK} (c : Cal X.prog X.w X.K X.mg X.base k x sp []) (hr : Room j X.A) (ha : PA X (e :: es) ta) (q : ta σ H fun vs H1 => sp vs H1 Q E0) (hk : k ≤ j := by decide) (hg : Gl X x := by rfl)
    (hdb : (x == ("__debug__" : Str)) = false := by decide) (he : starEach (e :: es) X.env = (false, eval e X.env) :: starEach es X.env := by rfl) (hpl : (backTo pos (starEach es X.env)).any (·.1) = false := by rfl) : wE X (.Call (.Name x p) (e :: es) [] pos) σ H Q := by
  obtain ⟨f, fd, ps, ds', F', hm, kp, b, dv⟩ := c.ex
  refine w_e (pe_call F' (hr.mono hk) hg hm kp b dv passL ha hdb he hpl) ?_
  have e2 : (fun (vs : List V) (H1 : Hp) => sp (vs ++ []) H1 Q E0) = fun vs H1 => sp vs H1 Q E0 := by
    funext vs H1
    rw [List.append_nil]
  show ta σ H (fun vs H1 => sp (vs ++ []) H1 Q E0)
  rw [e2]
  exact q
theorem pa_v {X : Cx} {x : Str} {pos : Pos} (i : Nat) (hN : X.N[i]? = some x := by rfl) (hv : Vis X.env.scope x := by first | exact Or.inl rfl | exact Or.inr (Or.inl rfl) | exact Or.inr (Or.inr rfl)) (hd : (x == ("__debug__" : Str)) = false := by decide) (hcd : (x == ("__classdict__" : Str)) = false := by decide) : PE X (.Name x pos) (tVar i) := pe_var hN hv hd hcd
theorem rdClose_tup {L : List Nat} : ∀ (st : List (List PyData)) (a : Nat) (x : List PyData) {a' : Nat} {st' : List (List PyData)} {t : PyData}, rdClose L a x st = (a', st', some t) → ∃ ys, t = .tuple ys
  | [], a, x, _, _, _, h => by
    rw [rdClose] at h
    split at h
    · cases h; exact ⟨_, rfl⟩
    · cases h
  | y :: r, a, x, _, _, _, h => by
    rw [rdClose] at h
    split at h
    · exact rdClose_tup r _ _ h
    · cases h
theorem rdClose_le {L : List Nat} : ∀ (st : List (List PyData)) (a : Nat) (x : List PyData) {a' : Nat} {st' : List (List PyData)} {o : Option PyData}, a ≤ L.length → (∀ u ∈ x :: st, u.length ≤ a) → rdClose L a x st = (a', st', o) → a ≤ a' ∧ a' ≤ L.length ∧ (∀ u ∈ st', u.length ≤ a') ∧ (o = none → st' ≠ [])
  | [], a, x, _, _, _, ha, hb, h => by
    rw [rdClose] at h
    split at h
    · rename_i h41
      have := (List.getElem?_eq_some_iff.mp h41).1
      cases h
      exact ⟨by omega, by omega, fun u hu => (nomatch hu), fun z => (nomatch z)⟩
    · cases h
      exact ⟨Nat.le_refl _, ha, hb, fun _ z => (nomatch z)⟩
  | y :: r, a, x, _, _, _, ha, hb, h => by
    rw [rdClose] at h
    split at h
    · rename_i h41
      have h1 := (List.getElem?_eq_some_iff.mp h41).1
      obtain ⟨h2, h3, h4, h5⟩ := rdClose_le r (a + 1) (y ++ [.tuple x]) (by omega) (fun u hu => by
        rcases List.mem_cons.mp hu with rfl | hu
        · rw [List.length_append]
          exact Nat.add_le_add (hb y (List.mem_cons_of_mem _ (List.mem_cons_self ..))) (Nat.le_refl _)
        · exact Nat.le_succ_of_le (hb u (List.mem_cons_of_mem _ (List.mem_cons_of_mem _ hu)))) h
      exact ⟨by omega, h3, h4, h5⟩
    · cases h
      exact ⟨Nat.le_refl _, ha, hb, fun _ z => (nomatch z)⟩
theorem rdLeaf_ne {L : List Nat} {a e : Nat} {x : PyData} (h : rdLeaf L a = some (x, e)) : L[a]? ≠ some 40 ∧ a < e ∧ e ≤ L.length := by
  unfold rdLeaf at h
  cases hc : L[a]? with
  | none => rw [hc] at h; cases h
  | some c =>
    rw [hc] at h
    simp only at h
    have hal := (List.getElem?_eq_some_iff.mp hc).1
    have hd : L.drop a = c :: L.drop (a + 1) := by
      rw [List.drop_eq_getElem_cons hal]
      rw [List.getElem?_eq_getElem hal] at hc
      rw [Option.some.inj hc]
    cases h1 : isLet c with
    | true =>
      rw [h1, if_pos rfl] at h
      cases h
      have := of_decide_eq_true h1
      have hw := wEnd_le hal
      have : 0 < runL isLet 12 (L.drop a) := (runL_at (j := 0) (Nat.zero_le _)).mp ⟨by decide, c, by rw [hd]; rfl, h1⟩
      refine ⟨fun z => by cases z; omega, ?_, hw.2⟩
      unfold wEnd
      omega
    | false =>
      cases h2 : isFig c with
      | true =>
        rw [h1, if_neg Bool.false_ne_true, h2, if_pos rfl] at h
        cases h
        have := of_decide_eq_true h2
        have hw := nEnd_le hal
        refine ⟨fun z => by cases z; omega, ?_, hw.2.2.1⟩
        unfold nEnd
        split
        · omega
        · have : 0 < runL isFig 400 (L.drop a) := (runL_at (j := 0) (Nat.zero_le _)).mp ⟨by decide, c, by rw [hd]; rfl, h2⟩
          omega
      | false =>
        rw [h1, if_neg Bool.false_ne_true, h2, if_neg Bool.false_ne_true] at h
        cases h
/-- an item begins here -/
theorem Rd.start {L : List Nat} {a : Nat} {st : List (List PyData)} {R : Except Nat PyData} (h : Rd L false a st R) :
    (L[a]? = some 40 ∧ st.length < 20 ∧ ((L[a + 1]? ≠ some 41 ∧ Rd L false (a + 1) ([] :: st) R) ∨ (L[a + 1]? = some 41 ∧ Rd L true (a + 1) ([] :: st) R))) ∨ ∃ e x y r, st = y :: r ∧ rdLeaf L a = some (x, e) ∧ L[a]? ≠ some 40 ∧ Rd L true e ((y ++ [x]) :: r) R := by
  cases h with
  | opn h hs g k => exact .inl ⟨h, hs, .inl ⟨g, k⟩⟩
  | emp h hs g k => exact .inl ⟨h, hs, .inr ⟨g, k⟩⟩
  | leaf h k => exact .inr ⟨_, _, _, _, rfl, h, (rdLeaf_ne h).1, k⟩
/-- behind an item -/
theorem Rd.behind {L : List Nat} {a : Nat} {x : List PyData} {st : List (List PyData)} {R : Except Nat PyData} (h : Rd L true a (x :: st) R) : ∃ a' st' o, rdClose L a x st = (a', st', o) ∧
    ((o = none ∧ L[a']? = some 32 ∧ Rd L false (a' + 1) st' R) ∨ (∃ t, o = some t ∧ R = if a' = L.length then .ok t else .error a') ∨ (o = none ∧ L[a']? ≠ some 32 ∧ R = .error a')) := by
  cases h with
  | sep h g k => exact ⟨_, _, _, h, .inl ⟨rfl, g, k⟩⟩
  | fin h => exact ⟨_, _, _, h, .inr (.inl ⟨_, rfl, rfl⟩)⟩
  | bad h g => exact ⟨_, _, _, h, .inr (.inr ⟨rfl, g, rfl⟩)⟩
def txtE (k : Nat) : Er := ("BadText", [.int k])
def fRead (ts : List PyData) (S : PyData → Prop) (T : Er → Prop) : Prop := ∃ (z : Str) (R : Except Nat PyData), ts = [.str z] ∧ z.length ≤ 100000 ∧ Rd (tl z) false 0 [] R ∧ S = (fun t => R = .ok t) ∧ T = fun er => ∃ k, R = .error k ∧ er = txtE k
abbrev nRd : List Str := ["text", "opened", "at", "whole", "leaf"]
theorem scRd : FnScope nRd ["text"] (defScope (top 27)) := ⟨rfl, rfl, rfl, by decide +kernel, rfl, by decide +kernel, by decide +kernel⟩
/-- the loop's word: running, or the whole is read -/
def RdI (K : Fg) (B H : Hp) (z : Str) (p : Addr) (R : Except Nat PyData) (α : Nat × List (List PyData) × Option PyData) (B' : Hp) (σ' : St) (H' : Hp) : Prop :=
  ∃ qs, Same B B' ∧ Sy K none B H B' H' σ' [.dat (.str z), .raw (.ref p), .dat (.int α.1), .dat (α.2.2.getD .none), .any] ∧ Stk K H B' H' p qs α.2.1 ∧ α.1 ≤ z.length ∧ (∀ u ∈ α.2.1, u.length ≤ α.1) ∧
    ((α.2.2 = none ∧ Rd (tl z) false α.1 α.2.1 R) ∨ ∃ t, α.2.2 = some t ∧ isNon t = false ∧ R = if α.1 = z.length then .ok t else .error α.1)
def RdM (z : Str) (α : Nat × List (List PyData) × Option PyData) : Nat := match α.2.2 with
  | none => z.length - α.1 + 1
  | some _ => 0
theorem ok_read {xc : Str → Addr} (M : Me K mg) (Z : Xs P w K mg base xc) : Cal P w K mg base 4 "read_data" (FnX xc K fRead) [] := by
  refine mkX (M.df 27 (by decide)) scRd (fun _ _ _ _ _ _ us hl => match us, hl with | [_], _ => rfl) (fun vs H Q E h => ?_) fun f cdv A outer s H vs Q E hr h tk => ?_
  · obtain ⟨B, ts, S, T, ok, hv, ⟨z, R, rfl, _⟩, _⟩ := h
    exact hv.len
  obtain ⟨B, ts, S, T, ok, hv, ⟨z, R, rfl, hz, hrd, rfl, rfl⟩, ret, retX⟩ := h
  have y := Sy.ini (N := nRd) ok hv
  have nd := scRd.nd
  have hzl := len_tl z
  refine cWhen1 y (k := false) (tNot' (dVal (k := true) (dIsi (T := "str") M.isinstance M.str (by decide +kernel) (v 0) (isStrD_kit (.str z))))) (fun hb => nomatch hb) fun _ H1 t1 y1 => ?_
  refine ssC (sNew 1 y1 ok nd fun p σ2 hp y2 m2 => ?_)
  have sk2 : Stk K H B (upd H1 p (.lst [])) p [] [] := ⟨m2, by simp, .nil⟩
  refine ssC (sSet1 2 y2 nd dI fun B3 σ3 H3 t3 y3 => ?_)
  refine ssC (sSet1 3 y3 nd dN fun B4 σ4 H4 t4 y4 => ?_)
  have sk4 := (sk2.on t3).on t4
  refine ssC (sWhile (d := none) (B := B4) (RdI K B H z p R) (RdM z) (0, [], none) (passes_of rfl) ⟨[], t3.kb.trans t4.kb, y4, sk4, Nat.zero_le _, fun u hu => (nomatch hu), .inl ⟨rfl, hrd⟩⟩ ?_)
  rintro ⟨a, st, o⟩ B5 σ5 H5 ⟨qs, sm, y5, sk5, ha, hbd, hst⟩
  dsimp only at y5 sk5 ha hbd hst
  refine ⟨_, isNon (o.getD .none), y5.sl, y5.ok, tIs (v 3) dN, fun hb H6 t6 o6 => ?_, fun hb H6 t6 o6 => ?_⟩
  · -- running
    have y6 := y5.on t6 o6
    have sk6 := sk5.on t6
    obtain ⟨rfl, hrd⟩ : o = none ∧ Rd (tl z) false a st R := by
      rcases hst with h | ⟨t, rfl, h, _⟩
      · exact h
      · rw [show (some t).getD PyData.none = t from rfl, h] at hb
        cases hb
    refine ssCut (fun σ' H' => ∃ (B' : Hp) (qs' : List Addr) (a' : Nat) (x : List PyData) (st' : List (List PyData)), Same B B' ∧ Sy K none B H B' H' σ' [.dat (.str z), .raw (.ref p), .dat (.int a'), .dat .none, .any] ∧ Stk K H B' H' p qs' (x :: st') ∧ a < a' ∧ a' ≤ z.length ∧ (∀ u ∈ x :: st', u.length ≤ a') ∧ Rd (tl z) true a' (x :: st') R)
      (sIf1 y6 (tAtIs (c := 40) M.len hz (v 2) (dLen (n := z.length) M.len (v 0) (lenD_str hz)) (v 0) (v 2) dS) (fun hc H7 t7 y7 => ?_) fun hc H7 t7 y7 => ?_) fun σ7 H7 h7 => ?_
    · -- a tuple is opened
      have hc := of_decide_eq_true hc
      have hal : a < (tl z).length := (List.getElem?_eq_some_iff.mp hc).1
      have sk7 := sk6.on t7
      obtain ⟨_, h20, hnext⟩ : (tl z)[a]? = some 40 ∧ st.length < 20 ∧ (((tl z)[a + 1]? ≠ some 41 ∧ Rd (tl z) false (a + 1) ([] :: st) R) ∨ ((tl z)[a + 1]? = some 41 ∧ Rd (tl z) true (a + 1) ([] :: st) R)) := by
        rcases hrd.start with h | ⟨_, _, _, _, _, _, h, _⟩
        · exact h
        · exact absurd hc h
      have hql := sk7.len
      refine cWhenT (k := false) y7 (AtT.to (atLenEq 1 y7 sk7.top M.len (dGI M.cDEEPEST)) (by
        rintro _ rfl
        rw [List.length_map, List.length_reverse]
        exact decide_eq_false (by omega))) (fun hb => nomatch hb) fun _ H8 t8 y8 => ?_
      refine ssC (sPush 1 y8 ok (sk7.on t8) (by omega) fun q H9 y9 sk9 => ?_)
      refine ssC (sAug 2 y9 nd dI fun Ba σa Ha ta ya => ?_)
      have ya' : Sy K none B H Ba Ha σa [.dat (.str z), .raw (.ref p), .dat (.int ((a + 1 : Nat) : Int)), .dat .none, .any] := by
        rw [show (((a + 1 : Nat) : Int)) = (a : Int) + 1 by omega]
        exact ya
      have ska := sk9.on ta
      have hbd' : ∀ u ∈ [] :: st, u.length ≤ a + 1 := fun u hu => by
        rcases List.mem_cons.mp hu with rfl | hu
        · exact Nat.zero_le _
        · exact Nat.le_succ_of_le (hbd u hu)
      refine ss1 (sIf1 ya' (tAtNot (a := a + 1) (c := 41) hr hz (by omega) (v 2) (dLen (n := z.length) M.len (v 0) (lenD_str hz)) (v 0) (v 2) dS) (fun hn Hb tb yb => ?_) fun hn Hb tb yb => ?_)
      · have hn' : (tl z)[a + 1]? ≠ some 41 := of_decide_eq_false (by simpa using hn)
        have hk : Rd (tl z) false (a + 1) ([] :: st) R := by
          rcases hnext with ⟨_, h⟩ | ⟨h, _⟩
          · exact h
          · exact absurd h hn'
        refine ss1 (w_s ps_continue ⟨(a + 1, [] :: st, none), Ba, ?_, _, sm.trans (t6.kb.trans (t7.kb.trans (t8.kb.trans ta.kb))), yb, ska.on tb, by show a + 1 ≤ z.length; omega, hbd', .inl ⟨rfl, hk⟩⟩)
        show z.length - (a + 1) + 1 < z.length - a + 1
        omega
      · have hn' : (tl z)[a + 1]? = some 41 := of_decide_eq_true (by simpa using hn)
        have hk : Rd (tl z) true (a + 1) ([] :: st) R := by
          rcases hnext with ⟨h, _⟩ | ⟨_, h⟩
          · exact absurd hn' h
          · exact h
        exact ssN ⟨Ba, _, a + 1, [], st, sm.trans (t6.kb.trans (t7.kb.trans (t8.kb.trans ta.kb))), yb, ska.on tb, by omega, by omega, hbd', hk⟩
    · -- a leaf
      have hc := of_decide_eq_false hc
      have sk7 := sk6.on t7
      obtain ⟨e, x, u, r, rfl, hlf, _, hk⟩ : ∃ e x y r, st = y :: r ∧ rdLeaf (tl z) a = some (x, e) ∧ (tl z)[a]? ≠ some 40 ∧ Rd (tl z) true e ((y ++ [x]) :: r) R := by
        rcases hrd.start with ⟨h, _⟩ | h
        · exact absurd h hc
        · exact h
      obtain ⟨_, hae, hel⟩ := rdLeaf_ne hlf
      obtain ⟨q, qs', rfl⟩ : ∃ q r, qs = q :: r := by
        have := sk7.len
        cases qs with
        | nil => cases this
        | cons q r => exact ⟨q, r, rfl⟩
      refine ssC (sUnp2 4 2 y7 rfl nd (dCall1 (S := (· = .tuple [x, .int e])) (ok_leaf M) hr (aC (v 0) (aC (v 2) aN)) ⟨z, a, e, x, rfl, hz, hlf, rfl⟩) (by rintro _ rfl; exact ⟨_, _, rfl⟩) fun t1 t2 B8 σ8 H8 he t8 y8 => ?_)
      injection he with he
      injection he with he1 he2
      injection he2 with he2 _
      subst he1 he2
      have sk8 := sk7.on t8
      refine cWhenT (k := false) y8 (AtT.to (atNotO 1 y8 sk8.top) (by rintro _ rfl; simp)) (fun hb => nomatch hb) fun _ H9 t9 y9 => ?_
      have hul : u.length ≤ a := hbd u (List.mem_cons_self ..)
      refine ss1 (sAppTop 1 y9 (sk8.on t9) (dNeg dI) (v 4) (fun Ba Ha sma ya ska => ⟨Ba, _, e, u ++ [t1], r, sm.trans (t6.kb.trans (t7.kb.trans (t8.kb.trans (t9.kb.trans sma)))), ya.fo 4, ska, hae, by omega, fun u' hu' => ?_, hk⟩) (by omega))
      rcases List.mem_cons.mp hu' with rfl | hu'
      · rw [List.length_append]
        show u.length + 1 ≤ e
        omega
      · exact Nat.le_trans (hbd u' (List.mem_cons_of_mem _ hu')) (Nat.le_of_lt hae)
    · -- behind an item
      obtain ⟨B7, qs7, a7, x7, st7, sm7, y7, sk7, haa, ha7, hb7, hk7⟩ := h7
      obtain ⟨a', st', o', hcl, hcases⟩ := hk7.behind
      obtain ⟨l1, l2, l3, l4⟩ := rdClose_le st7 a7 x7 (by omega) hb7 hcl
      refine ssC (sUnp2W 2 3 (t1 := .int a') (t2 := o'.getD .none) (R := fun B1 H1 => ∃ qs', Tr none B H B1 H1 ∧ Same B7 B1 ∧ Ok none B1 H1 ∧ Stk K H B1 H1 p qs' st') rfl nd (fun Q' hq => ?_) fun v1 v2 B8 H8 h8 d1 d2 => ?_)
      · refine wCallW (ok_close M) hr (pa_cons (pa_v 0) (pa_cons (pa_v 2) (pa_cons (pa_v 1) pa_nil (by rfl)) (by rfl)) (by rfl)) ?_
        obtain ⟨w0, hw0, dw0⟩ := y7.sl.dat (i := 0) rfl
        obtain ⟨w2, hw2, dw2⟩ := y7.sl.dat (i := 2) rfl
        obtain rfl := dw0.str_inv
        obtain rfl := dw2.int_inv
        refine ⟨_, hw0, _, hw2, _, y7.sl.raw (i := 1) rfl, z, a7, p, qs7, x7, st7, B, H, B7, rfl, hz, ha7, y7.tr, y7.ok, sk7, hb7, fun v' B' H' qs' tr' sm' ok' sk' hd' => ?_⟩
        rw [hcl] at sk' hd'
        exact hq v' B' H' ok'.kh hd' ⟨qs', tr', sm', ok', sk'⟩
      · obtain ⟨qs8, tr8, sm8, ok8, sk8⟩ := h8
        have y8 : Sy K none B H B8 H8 ((σ7.set 2 (some v1)).set 3 (some v2)) [.dat (.str z), .raw (.ref p), .dat (.int a'), .dat (o'.getD .none), .any] := ⟨tr8, ok8, ((y7.sl.up sm8).put 2 (x := .dat (.int a')) ⟨_, rfl, d1⟩).put 3 (x := .dat (o'.getD .none)) ⟨_, rfl, d2⟩⟩
        refine (show wSs _ _ _ ((σ7.set 2 (some v1)).set 3 (some v2)) H8 from ?_)
        generalize (σ7.set 2 (some v1)).set 3 (some v2) = σ8 at y8 ⊢
        have sm78 := sm7.trans sm8
        refine ss1 (sIf1 y8 (tIs (v 3) dN) (fun hn H9 t9 y9 => ?_) fun hn H9 t9 y9 => ?_)
        · have ho : o' = none := by
            cases o' with
            | none => rfl
            | some t =>
              obtain ⟨ys, rfl⟩ := rdClose_tup _ _ _ hcl
              cases hn
          subst ho
          refine cWhen1 y9 (tAtNot (a := a') (c := 32) hr hz (by omega) (v 2) (dLen (n := z.length) M.len (v 0) (lenD_str hz)) (v 0) (v 2) dS) (fun hs Ha ta ya => ?_) fun hs Ha ta ya => ?_
          · have hs' : (tl z)[a']? ≠ some 32 := of_decide_eq_false (by simpa using hs)
            refine ss1 (sRaise Z.txt hr rfl tk ya (aC (v 2) aN) rfl rfl ?_ retX)
            rcases hcases with ⟨_, h, _⟩ | ⟨_, h, _⟩ | ⟨_, _, h⟩
            · exact absurd h hs'
            · cases h
            · exact ⟨a', h, rfl⟩
          · have hs' : (tl z)[a']? = some 32 := of_decide_eq_true (by simpa using hs)
            have hlt : a' < (tl z).length := (List.getElem?_eq_some_iff.mp hs').1
            have hk : Rd (tl z) false (a' + 1) st' R := by
              rcases hcases with ⟨_, _, h⟩ | ⟨_, h, _⟩ | ⟨_, h, _⟩
              · exact h
              · cases h
              · exact absurd hs' h
            refine ss1 (sAug 2 ya nd dI fun Bb σb Hb tb yb => ⟨(a' + 1, st', none), Bb, ?_, _, sm78.trans (t9.kb.trans (ta.kb.trans tb.kb)), ?_, ((sk8.on t9).on ta).on tb, by show a' + 1 ≤ z.length; omega, fun u hu => Nat.le_succ_of_le (l3 u hu), .inl ⟨rfl, hk⟩⟩)
            · show z.length - (a' + 1) + 1 < z.length - a + 1
              omega
            · have yb' := yb
              rw [show ((a' : Int) + 1) = ((a' + 1 : Nat) : Int) by omega] at yb'
              exact yb'
        · obtain ⟨t, rfl⟩ : ∃ t, o' = some t := by
            cases o' with
            | none => cases hn
            | some t => exact ⟨t, rfl⟩
          have hR : R = if a' = (tl z).length then .ok t else .error a' := by
            rcases hcases with ⟨h, _⟩ | ⟨t', h, h2⟩ | ⟨h, _⟩
            · cases h
            · cases h; exact h2
            · cases h
          rw [← hzl] at hR
          refine ssN ⟨(a', st', some t), B8, ?_, qs8, sm78, y9, sk8.on t9, by show a' ≤ z.length; omega, l3, .inr ⟨t, rfl, hn, hR⟩⟩
          show 0 < z.length - a + 1
          omega
  · -- the whole is read
    have y6 := y5.on t6 o6
    obtain ⟨t, rfl, hnt, hR⟩ : ∃ t, o = some t ∧ isNon t = false ∧ R = if a = z.length then .ok t else .error a := by
      rcases hst with ⟨rfl, _⟩ | h
      · cases hb
      · exact h
    refine cWhen1 y6 (k := !decide (a = z.length)) (tTo (tNe (t := .int a) (u := .int z.length) hr (v 2) (dLen (n := z.length) M.len (v 0) (lenD_str hz)) rfl rfl) (by rintro _ rfl; rw [eqv_int]; exact congrArg Bool.not (decide_eq_decide.mpr (by omega)))) (fun hs H7 t7 y7 => ?_) fun hs H7 t7 y7 => ?_
    · have hs' : ¬ a = z.length := of_decide_eq_false (by simpa using hs)
      rw [if_neg hs'] at hR
      exact ss1 (sRaise Z.txt hr rfl tk y7 (aC (v 2) aN) rfl rfl ⟨a, hR, rfl⟩ retX)
    · have hs' : a = z.length := of_decide_eq_true (by simpa using hs)
      rw [if_pos hs'] at hR
      exact ss1 (sRet y7 (v 3) fun v' t' B' H' tr' ok' hd' e' => ret v' t' B' H' tr' ok' hd' (by rw [hR, show t' = _ from e']; rfl))
end K20
set_option maxHeartbeats 4000000
/-! Layer: try with several clauses, each with a name. -/
namespace K20
open PySem PySem.Spec L2 TL
open PyProof.Rows hiding St
abbrev ClT := Value × Nat × (Addr → Value → Option Addr → TS)
/-- the clauses, one behind another; what none of them takes is not told -/
def wClA (K : Fg) (D : Ends) : List ClT → WX
  | [] => fun _ _ _ _ => False
  | t :: r => wAs K t.1 t.2.1 t.2.2 (wClA K D r) D
inductive HdA (X : Cx) : List ExceptHandler → List ClT → Prop
  | none : HdA X [] []
  | more {x n : Str} {c : Value} {i : Nat} {ts : Addr → Value → Option Addr → TS} {b0 : Stmt} {bs : List Stmt} {p1 p2 : Pos} {hds : List ExceptHandler} {l : List ClT} (hc : Names X x c) (hi : X.N[i]? = some n) (hl : X.env.kindOf n = some .local)
      (hs : ∀ (a : Addr) (oe : Obj) (cls : Value) (d : Option Addr) (pn : List (Addr × Obj)), Zc cls d oe → (∃ vs, oe.data = .fields vs) → PSs (X.suite a ((a, oe) :: pn)) (b0 :: bs) (ts a cls d)) (r : HdA X hds l) :
      HdA X (.ExceptHandler (some (.Name x p1)) (some n) (b0 :: bs) p2 :: hds) ((c, i, ts) :: l)
section
variable {X : Cx} {pins : List (Addr × Obj)} {σ : St} {H : Hp} {D : Ends} {a : Addr} {B : Heap} {sI s : Shared} {cls : Value} {d : Option Addr}
theorem hdA_run (ok : X.Ok) (nd : X.N.Nodup) (J : Inv X pins σ H sI) (nb : ∀ b o, sI.heap.get? b = some o → b ∉ frs X.stack → B.get? b = some o) (hs : X.stack = X.env :: X.outer) (hf : X.env.frame = some X.env.locals) (up : sI.heap.UpToSlots s.heap) (eo : s.os = sI.os) (ag : AllBare s.gens) (na : H a = none)
    (fl : PX.FlyingZ B (X.env :: X.outer) a (Zc cls d) s.heap) {hds : List ExceptHandler} {l : List ClT} (hk : HdA X hds l) : wClA X.K D l cls d σ H → wpAny (model X.prog X.w) X.A (handleBy (.ref a) X.env hds) (SP X pins D) X.xe s := by
  have Js : Inv X pins σ H s := J.landed nb fl.1 up eo ag
  obtain ⟨oe, us, ge, ze, de⟩ := fl.there
  have off : a ∉ frs (X.env :: X.outer) := fun z => by
    obtain ⟨_, o2, g2, n2⟩ := fl.2.2.1.mem z
    rw [ge] at g2
    cases g2
    exact n2 _ de
  have offL : a ≠ X.env.locals := fun z => off (List.mem_filterMap.mpr ⟨X.env, List.mem_cons_self, by rw [hf, z]⟩)
  have offF : a ∉ X.fs := fun z => by
    obtain ⟨e2, he2, q2⟩ := List.mem_filterMap.mp z
    exact off (List.mem_filterMap.mpr ⟨e2, List.mem_cons_of_mem _ he2, q2⟩)
  have Ss := Js.suite ge de na offL offF
  have see : ∀ {x : Str} {c : Value} {p : Pos}, Names X x c → ∀ {Q' : Value → Shared → Prop} {E' : Value → Shared → Prop}, Q' c s → wpAny (model X.prog X.w) (X.A.mark (some (.ref a))) (eval (.Name x p) X.env) Q' E' s := fun {x c p} hc {Q' E'} q => by
    rcases hc with ⟨g1, g2, g3 | ⟨g3, g4, g5⟩⟩
    · exact ld_glob (X := X.suite a ((a, oe) :: (X.pn ++ pins))) Ss g1 g3 q g2
    · exact ld_blt (X := X.suite a ((a, oe) :: (X.pn ++ pins))) Ss g1 g3 g4 q g5 g2
  induction hk with
  | none => exact fun z => z.elim
  | @more x n c i ts b0 bs p1 p2 hds l hc hi hl hsu r ih =>
    rintro ⟨b, hb, yes, no⟩
    cases b with
    | false => exact PX.clause_passZ Js.kIn (fun o h => h.1) fl hb (see hc) (ih (no rfl))
    | true =>
      refine PX.clause_asZ Js.kIn (fun o h => h.1) fl hb (see hc) fun h2 fl2 up2 => ?_
      have J2 : Inv X pins σ H { s with heap := h2 } := J.landed nb fl2.1 (up.trans up2) eo ag
      obtain ⟨o2, u2, g2, z2, d2⟩ := fl2.there
      refine store_ok (X := X.suite a ((a, o2) :: (X.pn ++ pins))) (v := .ref a) (J2.suite g2 d2 na offL offF) nd hi (.inl hl) rfl (fun s3 S3 => ?_) (.inr hl)
      refine wpAny_mono ((hsu a o2 cls d (X.pn ++ pins) z2 ⟨_, d2⟩).run [] s3 _ H _ S3 (yes rfl a na)) (fun fw s4 h4 => ?_) fun _ _ z => z.elim
      cases fw with
      | ret w =>
        obtain ⟨v4, σ4, H4, S4, r4, q4⟩ := h4
        exact gone_ok (S4.unsuite ok) nd hi hl fun s5 J5 => ⟨v4, _, H4, J5, r4, q4⟩
      | next =>
        obtain ⟨σ4, H4, S4, q4⟩ := h4
        exact gone_ok (S4.unsuite ok) nd hi hl fun s5 J5 => ⟨_, H4, J5, q4⟩
      | brk =>
        obtain ⟨σ4, H4, S4, q4⟩ := h4
        exact gone_ok (S4.unsuite ok) nd hi hl fun s5 J5 => ⟨_, H4, J5, q4⟩
      | cont =>
        obtain ⟨σ4, H4, S4, q4⟩ := h4
        exact gone_ok (S4.unsuite ok) nd hi hl fun s5 J5 => ⟨_, H4, J5, q4⟩
end
theorem ps_tryA {X : Cx} {body : List Stmt} {h0 : ExceptHandler} {hds : List ExceptHandler} {l : List ClT} {pos : Pos} {tb : WX → TS} (hs : X.stack = X.env :: X.outer) (hf : X.env.frame = some X.env.locals) (nd : X.N.Nodup)
    (hb : ∀ (W : WX) (pn : List (Addr × Obj)) (xe : Value → Shared → Prop), Takes (X.tr pn xe) W → PSs (X.tr pn xe) body (tb W)) (hk : HdA X (h0 :: hds) l) : PS X (.Try body (h0 :: hds) [] [] pos) (fun D σ H => tb (wClA X.K D l) D σ H) := by
  refine ⟨fun pins s σ H D I h => ?_⟩
  have ok := I.ok
  refine wpAny_Try_except (wpAny_mono ((hb (wClA X.K D l) (X.pn ++ pins) _ ?_).run [] s σ H D (I.toTry _) h) (fun fw s1 h1 => ?_) fun _ _ z => z)
  · rintro u s1 ⟨a, B, sI, pins1, σ1, H1, cls, d, rfl, J0, nb, up, sky, na, eo, ag, w⟩
    have J : Inv X pins σ1 H1 sI := J0.ofTry ok
    have air : PX.AirZ B (X.env :: X.outer) a (Zc cls d) X.env.locals s1.heap := by rw [← hs]; exact sky
    refine PX.AirZ.land (fun o v x => ⟨PX.steady_cls (c := cls) o v x.1, PX.steady_dict (d := d) o v x.2⟩) (by rw [ok.frames, hs]) hf air fun h2 fl2 up2 => ?_
    exact hdA_run (s := { s1 with heap := h2 }) ok nd J nb hs hf (up.trans up2) eo ag na fl2 hk w
  · cases fw with
    | ret w =>
      obtain ⟨v2, σ2, H2, J2, r2, q2⟩ := h1
      exact ⟨v2, σ2, H2, J2.ofTry ok, r2, q2⟩
    | next =>
      obtain ⟨σ2, H2, J2, q2⟩ := h1
      exact wpAny_execs_nil ⟨σ2, H2, J2.ofTry ok, q2⟩
    | brk =>
      obtain ⟨σ2, H2, J2, q2⟩ := h1
      exact ⟨σ2, H2, J2.ofTry ok, q2⟩
    | cont =>
      obtain ⟨σ2, H2, J2, q2⟩ := h1
      exact ⟨σ2, H2, J2.ofTry ok, q2⟩
end K20
set_option maxHeartbeats 4000000
/-! read_letter, _law_refusal. -/
namespace K20
open PySem PySem.Spec L2 TL
open PyProof.Rows hiding St
variable {P : Program} {w : World} {K : Fg} {mg : Str → Option Value} {base : Heap}
/-- x, x' = e, two things in a tuple -/
theorem sUnpG {X : Cx} {d : Dr} {ds : List Sd} {B0 H0 B H : Hp} {σ : St} {D : Ends} {e : Expr} {x x' : Str} {p1 p' pt pos : Pos} (i j : Nat) {kt : Nat} {R : Hp → V → Prop} {G : Hp → V → V → Prop} (y : Sy X.K d B0 H0 B H σ ds) (hc : X.calm = true) (nd : X.N.Nodup) (h : GL X d e σ B H R) (hR : ∀ B v, R B v → ∃ a v1 v2, v = .ref a ∧ SqT X.K B a [v1, v2] ∧ G B v1 v2)
    (k : ∀ v1 v2 B1 σ1 H1, G B1 v1 v2 → Tr d B H B1 H1 → Sy X.K d B0 H0 B1 H1 σ1 ((ds.set i (.raw v1)).set j (.raw v2)) → D.nx σ1 H1)
    (hi : X.N[i]? = some x := by rfl) (hj : X.N[j]? = some x' := by rfl) (hx : Loc X.env.scope x := by first | exact Or.inl rfl | exact Or.inr rfl) (hx' : Loc X.env.scope x' := by first | exact Or.inl rfl | exact Or.inr rfl)
    (hf : X.fn x = true ∨ X.env.scope.names.lookup x = some .local := by first | exact .inl rfl | exact .inr rfl) (hf' : X.fn x' = true ∨ X.env.scope.names.lookup x' = some .local := by first | exact .inl rfl | exact .inr rfl)
    (hs : swapsWithSole [.Tuple [.Name x p1, .Name x' p'] kt pt] e pos.line X.env = pure false := by rfl) (hw : swappedStores [.Tuple [.Name x p1, .Name x' p'] kt pt] e X.env = pure none := by rfl) (h1 : (assignEach [.Tuple [.Name x p1, .Name x' p'] kt pt] X.env).map (·.2) = [assign (.Tuple [.Name x p1, .Name x' p'] kt pt) X.env] := by rfl)
    (hn : (assignEach [.Name x p1, .Name x' p'] X.env).length = 2 := by rfl) (hst : (assignEach [.Name x p1, .Name x' p'] X.env).findIdx? (·.1) = none := by rfl)
    (he1 : (assignEach [.Name x p1, .Name x' p'] X.env).map (·.2) = assign (.Name x p1) X.env :: (assignEach [.Name x' p'] X.env).map (·.2) := by rfl) (he2 : (assignEach [.Name x' p'] X.env).map (·.2) = assign (.Name x' p') X.env :: (assignEach [] X.env).map (·.2) := by rfl) :
    wS X (.Assign [.Tuple [.Name x p1, .Name x' p'] kt pt] e pos) D σ H := by
  refine w_s (ps_asg pe_w (pg_tup (n := 2) hc (pgs_cons (pg_name nd hi hx hf) (pgs_cons (pg_name nd hj hx' hf') pgs_nil he2) he1) hn hst) hs hw h1) (h B H .refl y.ok _ fun v B1 H1 tr ok hr => ?_)
  obtain ⟨a, v1, v2, rfl, hq, hG⟩ := hR B1 v hr
  exact ⟨a, _, rfl, sqT_mono ok.kh hq, rfl, _, _, rfl, _, _, rfl, rfl, k v1 v2 B1 _ H1 hG tr (((y.on tr ok).put i (x := .raw v1) rfl).put j (x := .raw v2) rfl)⟩
/-! ### read_letter -/
def fRl (ts : List PyData) (S : PyData → Prop) (T : Er → Prop) : Prop := ∃ (z : Str) (R : Except Nat PyData), ts = [.str z] ∧ z.length ≤ 100000 ∧ Rd (tl z) false 0 [] R ∧ (∀ t, R = .ok t → pParts t) ∧ S = (fun u => ∃ t y, R = .ok t ∧ chkParts t = .ok y ∧ u = .tuple [toldOf y.1, y.2]) ∧ T = fun er => (∃ k, R = .error k ∧ er = txtE k) ∨ ∃ t, R = .ok t ∧ chkParts t = .error er
abbrev nRl : List Str := ["text", "facts", "view"]
theorem scRl : FnScope nRl ["text"] (defScope (top 53)) := ⟨rfl, rfl, rfl, by decide +kernel, rfl, by decide +kernel, by decide +kernel⟩
theorem ok_readLetter {xc : Str → Addr} {CV CF : Addr} (M : Me K mg) (Z : Xs P w K mg base xc) (DV : VwD K mg CV) (D : FaD K mg CF) : Cal P w K mg base 13 "read_letter" (FnX xc K fRl) [] := by
  refine mkX (M.df 53 (by decide)) scRl (fun _ _ _ _ _ _ us hl => match us, hl with | [_], _ => rfl) (fun vs H Q E h => ?_) fun f cdv A outer s H vs Q E hr h tk => ?_
  · obtain ⟨B, ts, S, T, ok, hv, ⟨z, R, rfl, _⟩, _⟩ := h
    exact hv.len
  obtain ⟨B, ts, S, T, ok, hv, ⟨z, R, rfl, hz, hrd, hp, rfl, rfl⟩, ret, retX⟩ := h
  have y := Sy.ini (N := nRl) ok hv
  have nd := scRl.nd
  refine ssC (sUnpG (R := fun B v => ∃ t y, R = .ok t ∧ chkParts t = .ok y ∧ PaR K CV CF y B v) (G := fun B v1 v2 => ∃ t y, R = .ok t ∧ chkParts t = .ok y ∧ FaR K CF y.1 B v1 ∧ ViR K CV y.2 B v2) 1 2 y rfl nd (glCall (l := [DaR K (fun t => R = .ok t)]) (ok_parts M Z DV D) hr tk (glC (LtE.g (ltCall (S := fun t => R = .ok t) (ok_read M Z) hr tk (ltC (ltE (v 0) y.sl) ltN) (retX.after y.tr) ?_)) DaR.upR glN) (retX.after y.tr) ?_) ?_ fun v1 v2 B2 σ2 H2 hG t2 y2 => ?_)
  · intro ts0 hts0
    obtain rfl := argsEq (l := [.str z]) hts0
    exact ⟨_, _, ⟨z, R, rfl, hz, hrd, rfl, rfl⟩, fun _ h => h, fun er h => .inl h⟩
  · rintro B1 vs e ⟨v1, us, rfl, ⟨t, hd, hR⟩, rfl⟩
    exact ⟨t, ⟨v1, rfl, hd, hp t hR⟩, fun B2 v _ ⟨c, hc, h⟩ => ⟨t, c, hR, hc, h⟩, fun er her => .inr ⟨t, hR, her⟩⟩
  · rintro B v ⟨t, y, h1, h2, a, ws, rfl, hq, v1, us, rfl, h3, v2, us2, rfl, h4, rfl⟩
    exact ⟨a, v1, v2, rfl, hq, t, y, h1, h2, h3, h4⟩
  · obtain ⟨t, ⟨x, c⟩, hR, hc, hF, hV⟩ := hG
    refine ss1 (sRetG y2 (glCall (l := [ViR K CV c, FaR K CF x]) (R := DaR K (· = .tuple [toldOf x, c])) (xc := xc) (T := fun _ => False) (ok_letterOf M DV D) hr tk (glC (gV 2 y2.sl hV InD.upR) InD.upR (glC (gV 1 y2.sl hF InD.upR) InD.upR glN)) (fun er _ _ _ _ _ z _ => z.elim) ?_) fun v' B' H' tr' ok' ⟨t', hd', e'⟩ => ret v' t' B' H' tr' ok' hd' ⟨t, (x, c), hR, hc, e'⟩)
    rintro B1 vs e ⟨w1, us, rfl, h1, w2, us2, rfl, h2, rfl⟩
    exact ⟨(c, x), ⟨w1, w2, rfl, h1, h2⟩, fun B2 v _ h => h, fun er her => her⟩
/-! ### what an exception tells -/
def codeD (er : Er) : PyData := match er.2 with
  | [a] => if er.1 = "WrongLetter" then .tuple [.str "letter", a] else if er.1 = "BadFacts" then .tuple [.str "facts", a] else .tuple [.str "text", a]
  | [a, b, c] => .tuple [.str "view", a, b, c]
  | _ => .none
def ErOk (er : Er) : Prop := (∃ s, er = letE s) ∨ (∃ s, er = facE s) ∨ (∃ s lv n, er = vwE s lv n) ∨ ∃ k, er = txtE k
def refD {α : Type} : Except Er α → PyData
  | .ok _ => .none
  | .error er => codeD er
theorem chkFacts_er {m l w h s : PyData} {er : Er} (hc : chkFacts m l w h s = .error er) : ∃ s, er = facE s := by
  unfold chkFacts at hc
  repeat' split at hc
  all_goals first | exact ⟨_, (Except.error.inj hc).symm⟩ | cases hc
theorem chkTold_er {t : PyData} {er : Er} (hc : chkTold t = .error er) : ∃ s, er = facE s := by
  have key : ∀ {m l w h s : PyData}, finF m l w h s = .error er → ∃ s, er = facE s := fun {m l w h s} hf => by
    unfold finF at hf
    split at hf
    · cases hf
    · rename_i e h2
      cases hf
      exact chkFacts_er h2
  unfold chkTold at hc
  split at hc
  · split at hc
    · exact key hc
    · split at hc
      · exact ⟨_, (Except.error.inj hc).symm⟩
      · exact key hc
  · exact ⟨_, (Except.error.inj hc).symm⟩
abbrev VE (er : Er) : Prop := ∃ s lv n, er = vwE s lv n
theorem strsH_er {lv nd : Int} : ∀ {xs : List PyData} {er : Er}, strsH lv nd xs = .error er → VE er
  | [], _, h => by cases h
  | x :: xs, er, h => by
    unfold strsH at h
    split at h
    · split at h
      · exact ⟨_, _, _, (Except.error.inj h).symm⟩
      · split at h
        · rename_i e h2
          cases h
          exact strsH_er h2
        · cases h
    · cases h
theorem chkHeard_er {t : PyData} {b lv nd : Int} {er : Er} (h : chkHeard t b lv nd = .error er) : VE er := by
  unfold chkHeard at h
  split at h
  · exact ⟨_, _, _, (Except.error.inj h).symm⟩
  · split at h
    · split at h
      · rename_i e h2
        cases h
        exact strsH_er h2
      · cases h
    · exact ⟨_, _, _, (Except.error.inj h).symm⟩
theorem chkNode_er {t : PyData} {b lv nd : Int} {er : Er} (h : chkNode t b lv nd = .error er) : VE er := by
  unfold chkNode at h
  split at h
  · split at h
    · split at h
      · rename_i e h2
        cases h
        exact chkHeard_er h2
      · cases h
    · exact ⟨_, _, _, (Except.error.inj h).symm⟩
  · exact ⟨_, _, _, (Except.error.inj h).symm⟩
theorem chkItem_er {x : PyData} {b lv : Int} {n : Nat} {er : Er} (h : chkItem b lv n x = .error er) : VE er := by
  unfold chkItem at h
  split at h
  · exact chkNode_er h
  · split at h
    · split at h
      · cases h
      · exact ⟨_, _, _, (Except.error.inj h).symm⟩
    · exact ⟨_, _, _, (Except.error.inj h).symm⟩
theorem mapE_er {α β : Type} {f : α → β} {x : Except Er α} {er : Er} (h : mapE f x = .error er) : x = .error er := by
  cases x with
  | ok a => cases h
  | error e => cases h; rfl
theorem goLv_er {b lv : Int} : ∀ {xs : List PyData} {n : Nat} {p : Option PyData} {er : Er}, goLv b lv n p xs = .error er → VE er
  | [], _, _, _, h => by cases h
  | x :: xs, n, p, er, h => by
    unfold goLv at h
    split at h
    · rename_i e h2
      cases h
      exact chkItem_er h2
    · split at h
      · exact goLv_er (mapE_er h)
      · exact ⟨_, _, _, (Except.error.inj h).symm⟩
theorem chkLevel_er {t : PyData} {b lv : Int} {er : Er} (h : chkLevel t b lv = .error er) : VE er := by
  unfold chkLevel at h
  split at h
  · exact ⟨_, _, _, (Except.error.inj h).symm⟩
  · split at h
    · exact goLv_er (mapE_er h)
    · exact ⟨_, _, _, (Except.error.inj h).symm⟩
theorem goLvs_er : ∀ {ts : List PyData} {lv b : Nat} {er : Er}, goLvs lv b ts = .error er → VE er
  | [], _, _, _, h => by cases h
  | t :: ts, lv, b, er, h => by
    unfold goLvs at h
    split at h
    · rename_i e h2
      cases h
      exact chkLevel_er h2
    · exact goLvs_er (mapE_er h)
theorem loose_er : ∀ {cs : List PyData} {lv : Nat} {er : Er}, loose lv cs = some er → VE er
  | [], _, _, h => by cases h
  | [c], _, _, h => by cases h
  | c :: c' :: r, lv, er, h => by
    unfold loose at h
    split at h
    · cases h; exact ⟨_, _, _, rfl⟩
    · exact loose_er h
theorem chkLevels_er {t : PyData} {er : Er} (h : chkLevels t = .error er) : VE er := by
  unfold chkLevels at h
  split at h
  · cases h; exact ⟨_, _, _, rfl⟩
  · split at h
    · split at h
      · rename_i e h2
        cases h
        exact goLvs_er h2
      · split at h
        · cases h; exact ⟨_, _, _, rfl⟩
        · split at h
          · rename_i e h2
            cases h
            exact loose_er h2
          · cases h
    · cases h; exact ⟨_, _, _, rfl⟩
theorem chkParts_er {t : PyData} {er : Er} (h : chkParts t = .error er) : ErOk er := by
  unfold chkParts at h
  split at h
  · split at h
    · rename_i e h2
      cases h
      exact .inr (.inl (chkTold_er h2))
    · split at h
      · rename_i e h2
        cases h
        exact .inr (.inr (.inl (chkLevels_er h2)))
      · split at h
        · cases h; exact .inl ⟨_, rfl⟩
        · split at h
          · cases h; exact .inl ⟨_, rfl⟩
          · cases h
  · cases h; exact .inl ⟨_, rfl⟩
end K20
set_option maxHeartbeats 4000000
/-! _law_refusal. -/
namespace K20
open PySem PySem.Spec L2 TL
open PyProof.Rows hiding St
variable {P : Program} {w : World} {K : Fg} {mg : Str → Option Value} {base : Heap}
/-- the body of a try, the suite of a clause -/
structure wTry (X : Cx) (body : List Stmt) (W : WX) (D : Ends) (σ : St) (H : Hp) : Prop where
  at_ : ∀ pn xe, Takes (X.tr pn xe) W → wSs (X.tr pn xe) body D σ H
structure wSu (X : Cx) (bs : List Stmt) (a : Addr) (cls : Value) (d : Option Addr) (D : Ends) (σ : St) (H : Hp) : Prop where
  at_ : ∀ (oe : Obj) (pn : List (Addr × Obj)), Zc cls d oe → (∃ vs, oe.data = .fields vs) → wSs (X.suite a ((a, oe) :: pn)) bs D σ H
theorem sTryA {X : Cx} {body : List Stmt} {h0 : ExceptHandler} {hds : List ExceptHandler} {l : List ClT} {pos : Pos} {D : Ends} {σ : St} {H : Hp} (hk : HdA X (h0 :: hds) l) (nd : X.N.Nodup) (q : wTry X body (wClA X.K D l) D σ H) (hs : X.stack = X.env :: X.outer := by rfl) (hf : X.env.frame = some X.env.locals := by rfl) : wS X (.Try body (h0 :: hds) [] [] pos) D σ H :=
  w_s (ps_tryA (tb := wTry X body) hs hf nd (fun W pn xe tk => ⟨fun pins s σ H D I h => (h.at_ pn xe tk).run pins s I⟩) hk) q
theorem pss_su {X : Cx} {bs : List Stmt} {a : Addr} {cls : Value} {d : Option Addr} {oe : Obj} {pn : List (Addr × Obj)} (hz : Zc cls d oe) (hf : ∃ vs, oe.data = .fields vs) : PSs (X.suite a ((a, oe) :: pn)) bs (wSu X bs a cls d) := ⟨fun pins s σ H D I h => (h.at_ oe pn hz hf).run pins s I⟩
/-- a wish that asks just for slots enough -/
theorem takes_len {X : Cx} {W : WX} {E : XK} (tk : Takes X W) (h : ∀ cls d σ H, σ.length = X.N.length → E cls d H → W cls d σ H) : Takes X (fun cls d _ H => E cls d H) := fun u s' ⟨a, B, sI, pins, σ, H, cls, d, e, I, nb, up, sky, na, os, ag, w⟩ =>
  tk u s' ⟨a, B, sI, pins, σ, H, cls, d, e, I, nb, up, sky, na, os, ag, h cls d σ H I.len w⟩
theorem tr_split {X : Cx} {W : WX} {body : List Stmt} {D : Ends} {σ : St} {H : Hp} (G : XK → Prop) (h1 : G (fun cls d H => ∀ σ : St, σ.length = X.N.length → W cls d σ H)) (h2 : ∀ pn xe (E : XK), Takes (X.tr pn xe) (fun cls d _ H => E cls d H) → G E → wSs (X.tr pn xe) body D σ H) : wTry X body W D σ H :=
  ⟨fun pn xe tk => h2 pn xe _ (takes_len tk fun cls d σ H hl h => h σ hl) h1⟩
theorem atomV_dp {K : Fg} {B : Hp} {t : PyData} (h : atom t = true) (hb : t ≠ .none → True) : Dp K B (atomV t) t := by
  cases t with
  | none => exact .non
  | bool b => exact .bl b
  | int i => exact .int i
  | str x => exact .str x
  | list _ => cases h
  | tuple _ => cases h
  | dict _ => cases h
/-- e.f of a caught exception -/
theorem ltXf {X : Cx} {a C dd : Addr} {oe : Obj} {pn : List (Addr × Obj)} {σ : St} {B H : Hp} {f : Str} {t : PyData} {fs : List (Str × V)} {x : Str} {p pos : Pos} (i : Nat) (T : XfC X.K C) (no : PySem.W.findIn X.K (.ref C) f = some none) (hz : Zc (.ref C) (some dd) oe) (hf : ∃ vs, oe.data = .fields vs) (hσ : σ[i]? = some (some (.ref a)))
    (hdd : H dd = some (.xd fs)) (hl : fs.lookup f = some (atomV t)) (ht : atom t = true) (hN : X.N[i]? = some x := by rfl) (hv : Vis X.env.scope x := by first | exact Or.inl rfl | exact Or.inr (Or.inl rfl) | exact Or.inr (Or.inr rfl)) (hd : (x == ("__debug__" : Str)) = false := by decide) (hcd : (x == ("__classdict__" : Str)) = false := by decide)
    (hb : attributeBase (.Name x p) f X.env (eval (.Name x p) X.env) = eval (.Name x p) X.env := by rfl) : LtE (X.suite a ((a, oe) :: pn)) none (.Attribute (.Name x p) f pos) σ B H (· = t) := fun B1 H1 tr ok Q r =>
  w_e (pe_xf T no hz hf (pe_var (X := X.suite a ((a, oe) :: pn)) hN hv hd hcd) hb) ⟨_, hσ, rfl, rfl, dd, fs, _, rfl, tr.all _ _ hdd, hl, r _ t B1 H1 .refl ok (atomV_dp ht fun _ => trivial) rfl⟩
theorem glIf {X : Cx} {d : Dr} {ds : List Sd} {B H : Hp} {σ : St} {R : Hp → V → Prop} {c a b : Expr} {pos : Pos} {k : Bool} (sl : Sl X.K B σ ds) (hc : DT X d c ds B (· = k)) (h1 : k = true → GL X d a σ B H R) (h2 : k = false → GL X d b σ B H R) : GL X d (.IfExp c a b pos) σ B H R := fun B1 H1 tr ok Q r =>
  w_e (pe_ifExp pt_w pe_w pe_w) (hc B1 σ H1 tr.kb (sl.up tr.kb) ok _ fun b H2 tr2 ok2 e => by
    have e : b = k := e
    subst e
    have tr3 : Tr d B H B1 H2 := tr.trans tr2
    cases b with
    | true => exact iteT (h1 rfl B1 H2 tr3 ok2 Q fun v B' H' tr' ok' hr => r v B' H' (tr2.trans tr') ok' hr)
    | false => exact iteF (h2 rfl B1 H2 tr3 ok2 Q fun v B' H' tr' ok' hr => r v B' H' (tr2.trans tr') ok' hr))
/-- the exceptions' classes, caught -/
structure Xw (K : Fg) (xc : Str → Addr) : Prop where
  ex : ∀ x ∈ four, ∀ y ∈ four, PySem.W.exmOne K (.ref (xc x)) (.ref (xc y)) = some (decide (x = y))
  xf : ∀ x ∈ four, XfC K (xc x)
  no : ∀ x ∈ four, ∀ f ∈ fieldsOf x, PySem.W.findIn K (.ref (xc x)) f = some none
def refusal (t : PyData) (b : Bool) (Vl : PyData) : Prop := (b = false ∧ pParts t ∧ Vl = refD (chkParts t)) ∨
  (b = true ∧ ∃ (z : Str) (R : Except Nat PyData), t = .str z ∧ z.length ≤ 100000 ∧ Rd (tl z) false 0 [] R ∧ (∀ t, R = .ok t → pParts t) ∧ Vl = match R with
    | .ok t => refD (chkParts t)
    | .error k => codeD (txtE k))
def fRef (ts : List PyData) (S : PyData → Prop) : Prop := ∃ t b Vl, ts = [t, .bool b] ∧ refusal t b Vl ∧ S = (· = Vl)
abbrev nRf : List Str := ["_law_thing", "_law_by_text", "_law_found", "e"]
theorem scRf : FnScope nRf ["_law_thing", "_law_by_text"] (defScope (top 77)) := ⟨rfl, rfl, rfl, by decide +kernel, rfl, by decide +kernel, by decide +kernel⟩
theorem sl_any {K : Fg} {B : Hp} {σ : St} {n : Nat} (h : σ.length = n) : Sl K B σ (List.replicate n .any) := ⟨fun i x hx => by
  rw [List.getElem?_replicate] at hx
  split at hx
  · cases hx
    rename_i hi
    exact ⟨_, List.getElem?_eq_getElem (by omega), trivial⟩
  · cases hx⟩
theorem ok_refusal {xc : Str → Addr} {CV CF : Addr} (M : Me K mg) (Z : Xs P w K mg base xc) (Y : Xw K xc) (DV : VwD K mg CV) (DF : FaD K mg CF) : Cal P w K mg base 14 "_law_refusal" (Fn K fRef) [] := by
  refine mkCal (M.df 77 (by decide)) scRf (fun _ _ _ _ _ _ us hl => match us, hl with | [_, _], _ => rfl) (fun vs H Q E h => ?_) fun f cdv A outer s H vs Q E hr h => ?_
  · obtain ⟨B, ts, S, ok, hv, ⟨t, b, Vl, rfl, _⟩, _⟩ := h
    exact hv.len
  obtain ⟨B, ts, S, ok, hv, ⟨t, b, Vl, rfl, hR, rfl⟩, ret⟩ := h
  have y := Sy.ini (N := nRf) ok hv
  have nd := scRf.nd
  refine ssC (sTryA (.more (c := .ref (xc "WrongLetter")) (i := 3) ⟨rfl, by decide, .inl Z.let_.gC⟩ rfl rfl (fun a oe cls d pn hz hf => pss_su hz hf) (.more (c := .ref (xc "BadFacts")) (i := 3) ⟨rfl, by decide, .inl Z.fac.gC⟩ rfl rfl (fun a oe cls d pn hz hf => pss_su hz hf)
    (.more (c := .ref (xc "BadView")) (i := 3) ⟨rfl, by decide, .inl Z.vw.gC⟩ rfl rfl (fun a oe cls d pn hz hf => pss_su hz hf) (.more (c := .ref (xc "BadText")) (i := 3) ⟨rfl, by decide, .inl Z.txt.gC⟩ rfl rfl (fun a oe cls d pn hz hf => pss_su hz hf) .none)))) nd ?_)
  refine tr_split (fun E' => RetX xc none B H (fun er => ErOk er ∧ Vl = codeD er) E') ?_ fun pn xe E' tk' retX => ?_
  · intro er dd B' H' tr ok' hT hdd σ hσ
    obtain ⟨hT, hV⟩ := hT
    have hσ : σ.length = 4 := hσ
    have hT' : ∀ x ∈ four, PySem.W.exmOne K (.ref (xc x)) (.ref (xc x)) = some true := fun x hx => by rw [Y.ex x hx x hx, decide_eq_true rfl]
    have hF' : ∀ x ∈ four, ∀ y ∈ four, x ≠ y → PySem.W.exmOne K (.ref (xc x)) (.ref (xc y)) = some false := fun x hx y hy hne => by rw [Y.ex x hx y hy, decide_eq_false hne]
    have yS : ∀ a, Sy K none B H B' H' (σ.set 3 (some (.ref a))) [.any, .any, .any, .raw (.ref a)] := fun a => Sy.put (x := .raw (.ref a)) (ds := [.any, .any, .any, .any]) ⟨tr, ok', sl_any hσ⟩ 3 rfl
    have e3 : ∀ a, (σ.set 3 (some (V.ref a)))[3]? = some (some (.ref a)) := fun a => List.getElem?_set_self (by omega)
    rcases hT with ⟨s, rfl⟩ | ⟨s, rfl⟩ | ⟨s, lv, n, rfl⟩ | ⟨k, rfl⟩
    · refine ⟨true, hT' "WrongLetter" (by decide), fun _ a ha => ⟨fun oe pn hz hf => ?_⟩, fun z => (nomatch z)⟩
      refine ss1 (sRetA (yS a) ((ltTup (ltC (ltE dS (yS a).sl) (ltC (ltXf (t := .str s) 3 (Y.xf "WrongLetter" (by decide)) (Y.no "WrongLetter" (by decide) "what" (by decide)) hz hf (e3 a) hdd rfl rfl) ltN))).now ok') ?_)
      rintro v t' B3 H3 tr3 ok3 hd3 ⟨ts', rfl, h⟩
      obtain rfl := argsEq (l := [.str "letter", .str s]) h
      exact ret v _ B3 H3 tr3 ok3 hd3 hV.symm
    · refine ⟨false, hF' "BadFacts" (by decide) "WrongLetter" (by decide) (by decide), fun z => (nomatch z), fun _ => ⟨true, hT' "BadFacts" (by decide), fun _ a ha => ⟨fun oe pn hz hf => ?_⟩, fun z => (nomatch z)⟩⟩
      refine ss1 (sRetA (yS a) ((ltTup (ltC (ltE dS (yS a).sl) (ltC (ltXf (t := .str s) 3 (Y.xf "BadFacts" (by decide)) (Y.no "BadFacts" (by decide) "what" (by decide)) hz hf (e3 a) hdd rfl rfl) ltN))).now ok') ?_)
      rintro v t' B3 H3 tr3 ok3 hd3 ⟨ts', rfl, h⟩
      obtain rfl := argsEq (l := [.str "facts", .str s]) h
      exact ret v _ B3 H3 tr3 ok3 hd3 hV.symm
    · refine ⟨false, hF' "BadView" (by decide) "WrongLetter" (by decide) (by decide), fun z => (nomatch z), fun _ => ⟨false, hF' "BadView" (by decide) "BadFacts" (by decide) (by decide), fun z => (nomatch z), fun _ => ⟨true, hT' "BadView" (by decide), fun _ a ha => ⟨fun oe pn hz hf => ?_⟩, fun z => (nomatch z)⟩⟩⟩
      refine ss1 (sRetA (yS a) ((ltTup (ltC (ltE dS (yS a).sl) (ltC (ltXf (t := .str s) 3 (Y.xf "BadView" (by decide)) (Y.no "BadView" (by decide) "what" (by decide)) hz hf (e3 a) hdd rfl rfl) (ltC (ltXf (t := .int lv) 3 (Y.xf "BadView" (by decide)) (Y.no "BadView" (by decide) "level" (by decide)) hz hf (e3 a) hdd rfl rfl) (ltC (ltXf (t := .int n) 3 (Y.xf "BadView" (by decide)) (Y.no "BadView" (by decide) "node" (by decide)) hz hf (e3 a) hdd rfl rfl) ltN))))).now ok') ?_)
      rintro v t' B3 H3 tr3 ok3 hd3 ⟨ts', rfl, h⟩
      obtain rfl := argsEq (l := [.str "view", .str s, .int lv, .int n]) h
      exact ret v _ B3 H3 tr3 ok3 hd3 hV.symm
    · refine ⟨false, hF' "BadText" (by decide) "WrongLetter" (by decide) (by decide), fun z => (nomatch z), fun _ => ⟨false, hF' "BadText" (by decide) "BadFacts" (by decide) (by decide), fun z => (nomatch z), fun _ => ⟨false, hF' "BadText" (by decide) "BadView" (by decide) (by decide), fun z => (nomatch z), fun _ => ⟨true, hT' "BadText" (by decide), fun _ a ha => ⟨fun oe pn hz hf => ?_⟩, fun z => (nomatch z)⟩⟩⟩⟩
      refine ss1 (sRetA (yS a) ((ltTup (ltC (ltE dS (yS a).sl) (ltC (ltXf (t := .int k) 3 (Y.xf "BadText" (by decide)) (Y.no "BadText" (by decide) "place" (by decide)) hz hf (e3 a) hdd rfl rfl) ltN))).now ok') ?_)
      rintro v t' B3 H3 tr3 ok3 hd3 ⟨ts', rfl, h⟩
      obtain rfl := argsEq (l := [.str "text", .int k]) h
      exact ret v _ B3 H3 tr3 ok3 hd3 hV.symm
  refine ss1 (sSetG (R := fun _ _ => Vl = .none) 2 y nd (glIf (k := b) y.sl (dVal (v 1)) (fun hb => ?_) (fun hb => ?_)) fun v1 B1 σ1 H1 hVl t1 y1 => ?_)
  · obtain ⟨z, R, rfl, hz, hrd, hp, hV⟩ : ∃ (z : Str) (R : Except Nat PyData), t = .str z ∧ z.length ≤ 100000 ∧ Rd (tl z) false 0 [] R ∧ (∀ t, R = .ok t → pParts t) ∧ Vl = match R with
        | .ok t => refD (chkParts t)
        | .error k => codeD (txtE k) := by
      rcases hR with ⟨h, _⟩ | ⟨_, h⟩
      · rw [hb] at h; cases h
      · exact h
    refine GL.to (LtE.g (ltCall (S := fun _ => Vl = .none) (ok_readLetter M Z DV DF) hr tk' (ltC (ltE (v 0) y.sl) ltN) retX ?_)) fun B v ⟨_, _, h⟩ => h
    intro ts0 hts0
    obtain rfl := argsEq (l := [.str z]) hts0
    refine ⟨_, _, ⟨z, R, rfl, hz, hrd, hp, rfl, rfl⟩, ?_, ?_⟩
    · rintro u ⟨t, y, rfl, hy, _⟩
      rw [hV]
      show refD (chkParts t) = _
      rw [hy]
      rfl
    · rintro er (⟨k, rfl, rfl⟩ | ⟨t, rfl, he⟩)
      · exact ⟨.inr (.inr (.inr ⟨k, rfl⟩)), hV⟩
      · refine ⟨chkParts_er he, ?_⟩
        rw [hV]
        show refD (chkParts t) = _
        rw [he]
        rfl
  · obtain ⟨hp, hV⟩ : pParts t ∧ Vl = refD (chkParts t) := by
      rcases hR with ⟨_, h⟩ | ⟨h, _⟩
      · exact h
      · rw [hb] at h; cases h
    refine glCall (l := [DaR K (· = t)]) (ok_checkLetter M Z DV DF) hr tk' (glC (dG (v 0) y.sl) DaR.upR glN) retX ?_
    rintro B1 vs e ⟨v1, us, rfl, ⟨t', hd', e'⟩, rfl⟩
    refine ⟨t, ⟨v1, rfl, by rw [← e']; exact hd', hp⟩, ?_, fun er her => ?_⟩
    · rintro B2 v _ ⟨c, hc, _⟩
      rw [hV]
      unfold chkLetter at hc
      cases h : chkParts t with
      | ok y => rfl
      | error e => rw [h] at hc; cases hc
    · have her : chkLetter t = .error er := her
      unfold chkLetter at her
      cases h : chkParts t with
      | ok y => rw [h] at her; cases her
      | error e =>
        rw [h] at her
        cases her
        refine ⟨chkParts_er h, ?_⟩
        rw [hV, h]
        rfl
  · exact ss1 (sRet y1 dN fun v t B' H' tr ok' hd e => ret v t B' H' tr ok' hd (by rw [show t = _ from e, hVl]))
end K20
set_option maxHeartbeats 4000000
/-! _law_open, _law_told. -/
namespace K20
open PySem PySem.Spec L2 TL
open PyProof.Rows hiding St
variable {P : Program} {w : World} {K : Fg} {mg : Str → Option Value} {base : Heap}
section
variable {X : Cx} {d : Dr} {ds : List Sd} {B0 H0 B H : Hp} {σ : St} {D : Ends} {S Sa Sb S1 S2 : PyData → Prop} {e e1 e2 : Expr} {es : List Expr} {p p' pt pt2 pos : Pos} {x x' : Str}
/-- x, x' = e1, e2 -/
theorem sParS (i j : Nat) {kt k2} (y : Sy X.K d B0 H0 B H σ ds) (hc : X.calm = true) (nd : X.N.Nodup) (hij : i ≠ j) (h1 : DE X d e1 ds B S1) (h2 : DE X d e2 ds B S2) (k : ∀ t u B1 σ1 H1, S1 t → S2 u → Tr d B H B1 H1 → Sy X.K d B0 H0 B1 H1 σ1 ((ds.set i (.dat t)).set j (.dat u)) → D.nx σ1 H1)
    (hi : X.N[i]? = some x := by rfl) (hj : X.N[j]? = some x' := by rfl) (hx : X.env.scope.names.lookup x = some .local := by rfl) (hy : X.env.scope.names.lookup x' = some .local := by rfl)
    (hw : swappedStores [.Tuple [.Name x p, .Name x' p'] kt pt] (.Tuple [e1, e2] k2 pt2) X.env = pure (some [x, x']) := by rfl) (hs : swapsWithSole [.Tuple [.Name x p, .Name x' p'] kt pt] (.Tuple [e1, e2] k2 pt2) pos.line X.env = pure false := by rfl)
    (hst : starEach [e1, e2] X.env = (false, eval e1 X.env) :: starEach [e2] X.env := by rfl) (hst2 : starEach [e2] X.env = (false, eval e2 X.env) :: starEach [] X.env := by rfl) :
    wS X (.Assign [.Tuple [.Name x p, .Name x' p'] kt pt] (.Tuple [e1, e2] k2 pt2) pos) D σ H :=
  w_s (ps_par hc nd hi hj hij hx hy (pa_cons pe_w (pa_cons pe_w pa_nil hst2) hst) hw hs) (h1 B σ H (Same.refl B) y.sl y.ok _ fun v t1 B1 H1 tr ok hd g1 => h2 B1 σ H1 tr.kb (y.sl.up tr.kb) ok _ fun w u1 B2 H2 tr2 ok2 hd2 g2 =>
    ⟨v, w, rfl, k t1 u1 B2 _ H2 g1 g2 (tr.trans tr2) ((((y.on tr ok).on tr2 ok2).put i (x := .dat t1) ⟨v, rfl, hd.up tr2.kb⟩).put j (x := .dat u1) ⟨w, rfl, hd2⟩)⟩)
/-- one more than a drawn one -/
def Below1 (k : Nat) : PyData → Prop := fun t => ∃ n : Nat, n < k ∧ t = .int ((1 + n : Nat) : Int)
theorem dOne1 {k : Nat} (h1 : DE X d e1 ds B (· = .int 1)) (h2 : DE X d e2 ds B (Below k)) : DE X d (.BinOp e1 .Add e2 pos) ds B (Below1 k) := dBin op_add h1 h2 (rv_i0S (g' := fun i j => .int (i + j)) (fun _ _ _ => .int _) (by
  rintro _ _ rfl ⟨n, hn, rfl⟩
  exact ⟨1, n, rfl, rfl, n, hn, by rw [Int.natCast_add]; rfl⟩))
theorem dAddB {i : Int} {k : Nat} (h1 : DE X d e1 ds B (· = .int i)) (h2 : DE X d e2 ds B (Below k)) : DE X d (.BinOp e1 .Add e2 pos) ds B (fun t => ∃ n : Nat, n < k ∧ t = .int (i + n)) := dBin op_add h1 h2 (rv_i0S (g' := fun i j => .int (i + j)) (fun _ _ _ => .int _) (by
  rintro _ _ rfl ⟨n, hn, rfl⟩
  exact ⟨i, n, rfl, rfl, n, hn, rfl⟩))
theorem dMin (hc : X.calm = true) (hm : X.mg "min" = none) (ha : DA X d [e1, e2] ds B (Args [S1, S2])) (k : ∀ t u, S1 t → S2 u → ∃ i j : Int, t = .int i ∧ u = .int j ∧ S (.int (if j < i then j else i))) (hg : Gl X "min" := by rfl) (he : starEach [e1, e2] X.env = (false, eval e1 X.env) :: starEach [e2] X.env := by rfl)
    (hpl : (backTo pos (starEach [e2] X.env)).any (·.1) = false := by rfl) : DE X d (.Call (.Name "min" p) [e1, e2] [] pos) ds B S := dCB (call_min2 hc) hm (by decide +kernel) ha (by
  rintro B1 H vs ts e ok g ⟨t, h1, _, ⟨u, h2, _, rfl, rfl⟩, rfl⟩ Q r
  obtain ⟨i, j, rfl, rfl, hs⟩ := k t u h1 h2
  obtain ⟨v1, v2, rfl, d1, d2⟩ := g.two
  exact ⟨i, j, by rw [d1.int_inv, d2.int_inv], r _ _ B1 H .refl ok (.int _) hs⟩) hg (by decide) (by decide) he hpl
theorem dMax (hc : X.calm = true) (hm : X.mg "max" = none) (ha : DA X d [e1, e2] ds B (Args [S1, S2])) (k : ∀ t u, S1 t → S2 u → ∃ i j : Int, t = .int i ∧ u = .int j ∧ S (.int (if j > i then j else i))) (hg : Gl X "max" := by rfl) (he : starEach [e1, e2] X.env = (false, eval e1 X.env) :: starEach [e2] X.env := by rfl)
    (hpl : (backTo pos (starEach [e2] X.env)).any (·.1) = false := by rfl) : DE X d (.Call (.Name "max" p) [e1, e2] [] pos) ds B S := dCB (call_max2 hc) hm (by decide +kernel) ha (by
  rintro B1 H vs ts e ok g ⟨t, h1, _, ⟨u, h2, _, rfl, rfl⟩, rfl⟩ Q r
  obtain ⟨i, j, rfl, rfl, hs⟩ := k t u h1 h2
  obtain ⟨v1, v2, rfl, d1, d2⟩ := g.two
  exact ⟨i, j, by rw [d1.int_inv, d2.int_inv], r _ _ B1 H .refl ok (.int _) hs⟩) hg (by decide) (by decide) he hpl
end
/-! ### _law_open -/
/-- a new state of the draws -/
def SpOpen (K : Fg) : Sp := fun vs H Q _ => ∃ (B : Hp) (w1 : V) (xs : List Int), vs = [w1] ∧ Ok none B H ∧ Dp K B w1 (.list (xs.map .int)) ∧ ∀ a c H', Tr none B H B H' → Ok none B H' → H a = none → H c = none → DS H' a c → Q (.ref a) H'
abbrev nOp : List Str := ["_law_script"]
theorem scOp : FnScope nOp nOp (defScope (top 55)) := ⟨rfl, rfl, rfl, by decide +kernel, rfl, by decide +kernel, by decide +kernel⟩
theorem ints_v {B : Hp} : ∀ {bs : List Int} {vs : List V}, DpAll K B vs (bs.map .int) → vs = bs.map V.int
  | [], _, h => by cases h; rfl
  | b :: bs, _, h => by
    cases h with
    | cons h1 h2 =>
      cases h1
      rw [ints_v h2]
      rfl
theorem pa_int {X : Cx} {i : Int} {j} {pos : Pos} : PE X (.Constant (.int i) j pos) (tC (.int i)) := pe_int
theorem ok_open (M : Me K mg) : Cal P w K mg base 1 "_law_open" (SpOpen K) [] := by
  refine mkCal (M.df 55 (by decide)) scOp (fun _ _ _ _ _ _ us hl => match us, hl with | [_], _ => rfl) (fun vs H Q E h => ?_) fun f cdv A outer s H vs Q E hr h => ?_
  · obtain ⟨B, w1, xs, rfl, _⟩ := h
    rfl
  obtain ⟨B, w1, xs, rfl, ok, hd, ret⟩ := h
  have y := Sy.ini1 (N := nOp) ok hd
  refine ss1 (w_s (ps_ret (pe_lst (pa_cons (pe_callTy call_list_of (by rfl) M.list (by decide +kernel) (pa_cons pe_w pa_nil (by rfl)) (by decide) (by decide) (by rfl) (by rfl)) (pa_cons pa_int (pa_cons pa_int (pa_cons pa_int (pa_cons pa_int pa_nil (by rfl)) (by rfl)) (by rfl)) (by rfl)) (by rfl)))) ?_)
  refine goE (v 0) y.sl y.ok fun v1 t1 B1 H1 tr ok1 hd1 e1 => ?_
  rw [show t1 = _ from e1] at hd1
  obtain ⟨q, us, rfl, hq, hv⟩ := hd1.lst_inv
  obtain rfl := ints_v hv
  refine ⟨q, _, rfl, .inl (ok1.kh.seq hq), fun c hc => ?_⟩
  refine ⟨show 5 ≤ sizeLine by decide, fun a ha => ?_⟩
  have hne : c ≠ a := fun z => by rw [z, upd_same] at ha; cases ha
  have ha1 : H1 a = none := by rw [upd_ne (Ne.symm hne)] at ha; exact ha
  have t2 : Tr none B1 H1 B1 (upd H1 c (.lst (xs.map V.int))) := .lay0 hc
  have t3 : Tr none B1 H1 B1 (upd (upd H1 c (.lst (xs.map V.int))) a (.lst [.ref c, .int 0, .int 0, .int 1, .int 0])) := t2.trans (.lay0 ha)
  have o3 : Ok none B1 (upd (upd H1 c (.lst (xs.map V.int))) a (.lst [.ref c, .int 0, .int 0, .int 1, .int 0])) := (ok1.lay0 hc).lay0 ha
  have tt := tr.trans t3
  exact ret a c _ tt.back (ok.back tt o3) (tr.dom a ha1) (tr.dom c hc) ⟨xs, 0, 0, 1, 0, upd_same, hne, by rw [upd_ne hne, upd_same], Nat.zero_le _⟩
/-! ### _law_told -/
def toldD (m l w : Int) (h : Str) (s : Int) : PyData := .tuple [.int m, .int l, .int w, .str h, .int s]
def ToldP (n : Nat) (w : Int) (h : Str) (s : Int) : PyData → Prop := fun t => ∃ m : Nat, (m = 0 ∨ (n ≤ m ∧ m ≤ 12)) ∧ t = toldD m 1 w h s
def fTold : List PyData → (PyData → Prop) → Prop := fun ts S => ∃ (n : Nat) (w s : Int) (h : Str), ts = [.int n, .int w, .str h, .int s] ∧ n ≤ 12 ∧ S = ToldP n w h s
abbrev nTd : List Str := ["_law_d", "_law_n", "_law_words", "_law_hearing", "_law_stretch"]
theorem scTd : FnScope nTd nTd (defScope (top 75)) := ⟨rfl, rfl, rfl, by decide +kernel, rfl, by decide +kernel, by decide +kernel⟩
theorem ok_told (M : Me K mg) : Cal P w K mg base 3 "_law_told" (FnD K fTold) [] := by
  refine mkCal (M.df 75 (by decide)) scTd (fun _ _ _ _ _ _ us hl => match us, hl with | [_, _, _, _, _], _ => rfl) (fun vs H Q E h => ?_) fun f cdv A outer s H vs Q E hr h => ?_
  · obtain ⟨a, c, ws, B, ts, S, rfl, ok, hv, ⟨n, w, s, h, rfl, _⟩, _⟩ := h
    exact congrArg Nat.succ hv.len
  obtain ⟨a, c, ws, B, ts, S, rfl, ok, hv, ⟨n, wo, st, hr', rfl, hn, rfl⟩, ret⟩ := h
  have y := Sy.iniD (N := nTd) ok hv
  refine ss1 (sRet y (DE.to (dTupP (aP (dCallD (S := fun t => ∃ m : Nat, (m = 0 ∨ (n ≤ m ∧ m ≤ 12)) ∧ t = .int m) 0 (ok_pick M.toMd) hr (aP (dLstP (aP dI (aP (v 1) (aP (dMin (S := fun t => ∃ m : Nat, n ≤ m ∧ m ≤ 12 ∧ t = .int m) rfl M.min (aP dI (aP (dAddB (dAdd (v 1) dI) (dCallD1 0 (ok_draw M.toMd) hr (aC dI aN) ⟨9, rfl, by decide, by decide, rfl⟩)) aZ)) ?_) aZ)))) aZ) ?_) (aP dI (aP (v 2) (aP (v 3) (aP (v 4) aZ)))))) ?_) ret)
  · rintro _ _ rfl ⟨j, hj, rfl⟩
    refine ⟨12, _, rfl, rfl, ?_⟩
    by_cases h : (n : Int) + 1 + j < 12
    · rw [if_pos h]
      exact ⟨n + 1 + j, by omega, by omega, by simp only [Int.natCast_add]; rfl⟩
    · rw [if_neg h]
      exact ⟨12, hn, by decide, rfl⟩
  · rintro _ ⟨_, ⟨_, rfl, _, rfl, _, ⟨_, rfl, _, ⟨_, ⟨m, h1, h2, rfl⟩, _, rfl, rfl⟩, rfl⟩, rfl⟩, _, rfl, rfl⟩
    refine ⟨_, ⟨_, rfl, by simp, by simp, rfl⟩, fun t ht => ?_⟩
    rcases List.mem_cons.mp ht with rfl | ht
    · exact ⟨0, .inl rfl, rfl⟩
    · rcases List.mem_cons.mp ht with rfl | ht
      · exact ⟨n, .inr ⟨Nat.le_refl _, hn⟩, rfl⟩
      · rw [List.mem_singleton.mp ht]
        exact ⟨m, .inr ⟨h1, h2⟩, rfl⟩
  · rintro _ ⟨_, rfl, _, ⟨m, hm, rfl⟩, _, ⟨_, rfl, _, ⟨_, rfl, _, ⟨_, rfl, _, ⟨_, rfl, _, rfl, rfl⟩, rfl⟩, rfl⟩, rfl⟩, rfl⟩
    exact ⟨m, hm, rfl⟩
end K20
set_option maxHeartbeats 4000000
/-! Plain: lists in the place of tuples are checked alike. -/
namespace K20
open PySem PySem.Spec L2 TL
open PyProof.Rows hiding St
def Lk (x y : PyData) : Prop := ∃ n, y = listsN n x
abbrev LkS (xs ys : List PyData) : Prop := Paired Lk xs ys
theorem lk_map (n : Nat) : ∀ xs : List PyData, LkS xs (xs.map (listsN n))
  | [] => .nil
  | x :: r => .cons ⟨n, rfl⟩ (lk_map n r)
theorem lk_self : ∀ xs : List PyData, LkS xs xs
  | [] => .nil
  | x :: r => .cons ⟨0, rfl⟩ (lk_self r)
theorem lk_refl (x : PyData) : Lk x x := ⟨0, rfl⟩
/-- a thing, with lists in the place of tuples -/
theorem Lk.cases {x y : PyData} (h : Lk x y) : (seqOf x = none ∧ y = x) ∨ ∃ xs ys, seqOf x = some xs ∧ seqOf y = some ys ∧ LkS xs ys := by
  obtain ⟨n, rfl⟩ := h
  cases n with
  | zero =>
    cases e : seqOf x with
    | none => exact .inl ⟨rfl, rfl⟩
    | some xs => exact .inr ⟨xs, xs, rfl, e, lk_self xs⟩
  | succ n =>
    cases x with
    | tuple xs => exact .inr ⟨xs, _, rfl, rfl, lk_map n xs⟩
    | list xs => exact .inr ⟨xs, xs, rfl, rfl, lk_self xs⟩
    | _ => exact .inl ⟨rfl, rfl⟩
theorem Lk.seq {x y : PyData} {xs : List PyData} (h : Lk x y) (e : seqOf x = some xs) : ∃ ys, seqOf y = some ys ∧ LkS xs ys := by
  rcases h.cases with ⟨h1, _⟩ | ⟨a, b, h1, h2, h3⟩
  · rw [e] at h1; cases h1
  · rw [e] at h1; cases h1; exact ⟨b, h2, h3⟩
theorem Lk.non {x y : PyData} (h : Lk x y) (e : seqOf x = none) : y = x := by
  rcases h.cases with ⟨_, h2⟩ | ⟨a, b, h1, h2, h3⟩
  · exact h2
  · rw [e] at h1; cases h1
theorem LkS.length {xs ys : List PyData} (h : LkS xs ys) : ys.length = xs.length := (Paired.length h).symm
/-- a question about a thing that no list and no tuple fulfils -/
theorem lk_ask {α : Type} {f : PyData → α} {c : α} (hf : ∀ t, (seqOf t).isSome = true → f t = c) {x y : PyData} (h : Lk x y) : f y = f x := by
  rcases h.cases with ⟨_, h2⟩ | ⟨a, b, h1, h2, h3⟩
  · rw [h2]
  · rw [hf x (by rw [h1]; rfl), hf y (by rw [h2]; rfl)]
theorem lk_whole {x y : PyData} (lo hi : Int) (h : Lk x y) : isWhole y lo hi = isWhole x lo hi := lk_ask (f := fun t => isWhole t lo hi) (c := false) (fun t h => by cases t <;> first | rfl | cases h) h
theorem lk_isN {x y : PyData} (h : Lk x y) : isNon y = isNon x := lk_ask (f := isNon) (c := false) (fun t h => by cases t <;> first | rfl | cases h) h
theorem lk_hi {x y : PyData} (h : Lk x y) : hiOf y = hiOf x := lk_ask (f := hiOf) (c := 12) (fun t h => by cases t <;> first | rfl | cases h) h
theorem lk_isW {x y : PyData} (h : Lk x y) : isW "sums" "which" y = isW "sums" "which" x := lk_ask (f := isW "sums" "which") (c := false) (fun t h => by cases t <;> first | rfl | cases h) h
theorem lk_int {x y : PyData} {i : Int} (h : Lk x y) : y = .int i ↔ x = .int i := by
  rcases h.cases with ⟨_, h2⟩ | ⟨a, b, h1, h2, h3⟩
  · rw [h2]
  · constructor
    · rintro rfl; cases h2
    · rintro rfl; cases h1
theorem lk_atom {x y : PyData} (h : Lk x y) (ha : atom x = true) : y = x := h.non (by cases x <;> first | rfl | cases ha)
/-! strengths -/
def isI : PyData → Option Int
  | .int i => some i
  | _ => none
theorem lk_isI {x y : PyData} (h : Lk x y) : isI y = isI x := lk_ask (f := isI) (c := none) (fun t h => by cases t <;> first | rfl | cases h) h
theorem chkStr_eq (t : PyData) : chkStr t = match seqOf t with
    | some [a, b] => (match isI a, isI b with
      | some i, some j => if i < 1 ∨ j < 1 then .error (er1 "BadStrength" "sign") else if Nat.gcd i.natAbs j.natAbs ≠ 1 then .error (er1 "BadStrength" "lowest") else .ok (.tuple [.int i, .int j])
      | _, _ => .error (er1 "BadStrength" "whole"))
    | _ => .error (er1 "BadStrength" "shape") := by
  unfold chkStr
  cases h : seqOf t with
  | none => rfl
  | some xs =>
    match xs with
    | [] => rfl
    | [a] => cases a <;> rfl
    | [a, b] => cases a <;> cases b <;> rfl
    | a :: b :: c :: r => cases a <;> cases b <;> rfl
theorem lk_str {x y : PyData} (h : Lk x y) : chkStr y = chkStr x := by
  rw [chkStr_eq, chkStr_eq]
  rcases h.cases with ⟨_, h2⟩ | ⟨xs, ys, h1, h2, h3⟩
  · rw [h2]
  · rw [h1, h2]
    match xs, ys, h3 with
    | [], _, .nil => rfl
    | [a], _, .cons ha .nil => rfl
    | [a, b], _, .cons ha (.cons hb .nil) => simp only [lk_isI ha, lk_isI hb]
    | a :: b :: c :: r, _, .cons ha (.cons hb (.cons hc hr)) => rfl
/-! levels -/
theorem scan_eq (b least : Int) (x : PyData) (xs : List PyData) : scanH b least (x :: xs) = match seqOf x with
    | some [a, _] => (match isI a with
      | some i => if least ≤ i ∧ i ≤ b - 1 then scanH b (i + 1) xs else false
      | none => false)
    | _ => false := by
  rw [scanH]
  cases h : seqOf x with
  | none => rfl
  | some us =>
    match us with
    | [] => rfl
    | [a] => cases a <;> rfl
    | [a, c] => cases a <;> rfl
    | a :: c :: e :: r => cases a <;> rfl
theorem lk_scan {b : Int} : ∀ {xs ys : List PyData} {least : Int}, LkS xs ys → scanH b least ys = scanH b least xs
  | _, _, _, .nil => rfl
  | _, _, least, .cons (b := y) (a := x) h t => by
    rw [scan_eq, scan_eq]
    rcases h.cases with ⟨h1, h2⟩ | ⟨us, ws, h1, h2, h3⟩
    · rw [h2, h1]
    · rw [h1, h2]
      match us, ws, h3 with
      | [], _, .nil => rfl
      | [a], _, .cons ha .nil => rfl
      | [a, c], _, .cons ha (.cons hc .nil) =>
        simp only [lk_isI ha]
        cases isI a with
        | none => rfl
        | some i => simp only [lk_scan (b := b) (least := i + 1) t]
      | a :: c :: e :: r, _, .cons ha (.cons hc (.cons he hr)) => rfl
/-- the numbers of scanned entries are whole -/
theorem scan_int {b : Int} : ∀ {xs : List PyData} {least : Int}, scanH b least xs = true → ∀ x ∈ xs, ∃ i s, seqOf x = some [.int i, s]
  | [], _, _, x, hx => nomatch hx
  | y :: xs, least, h, x, hx => by
    unfold scanH at h
    split at h
    · rename_i i s e
      split at h
      · rcases List.mem_cons.mp hx with rfl | hx
        · exact ⟨i, s, e⟩
        · exact scan_int h x hx
      · cases h
    · cases h
theorem lk_strs {lv nd : Int} : ∀ {xs ys : List PyData}, LkS xs ys → (∀ x ∈ xs, ∃ i s, seqOf x = some [.int i, s]) → strsH lv nd ys = strsH lv nd xs
  | _, _, .nil, _ => rfl
  | _, _, .cons (b := y) (a := x) h t, hx => by
    obtain ⟨i, s, e⟩ := hx x (List.mem_cons_self ..)
    obtain ⟨ws, e2, h3⟩ := h.seq e
    have ih := lk_strs (lv := lv) (nd := nd) t fun z hz => hx z (List.mem_cons_of_mem _ hz)
    match ws, h3 with
    | [a', s'], .cons ha (.cons hs .nil) =>
      obtain rfl := (lk_int ha).mpr rfl
      unfold strsH
      rw [e, e2]
      simp only [lk_str hs, ih]
theorem lk_heard {x y : PyData} (b lv nd : Int) (h : Lk x y) : chkHeard y b lv nd = chkHeard x b lv nd := by
  unfold chkHeard
  rcases h.cases with ⟨_, h2⟩ | ⟨xs, ys, h1, h2, h3⟩
  · rw [h2]
  · rw [h1, h2]
    simp only [lk_scan h3]
    cases hs : scanH b 0 xs with
    | false => rfl
    | true => simp only [if_true, lk_strs h3 (scan_int hs)]
theorem lk_node {x y : PyData} (b lv nd : Int) (h : Lk x y) : chkNode y b lv nd = chkNode x b lv nd := by
  unfold chkNode
  rcases h.cases with ⟨_, h2⟩ | ⟨xs, ys, h1, h2, h3⟩
  · rw [h2]
  · rw [h1, h2]
    match xs, ys, h3 with
    | [], _, .nil => rfl
    | [a], _, .cons ha .nil => rfl
    | [a, c], _, .cons (b := a') ha (.cons (b := c') hc .nil) =>
      simp only [lk_whole 0 (b - 1) ha, lk_heard b lv nd hc]
      cases hw : isWhole a 0 (b - 1) with
      | false => rfl
      | true =>
        obtain ⟨i, rfl⟩ : ∃ i, a = .int i := by cases a <;> first | exact ⟨_, rfl⟩ | cases hw
        obtain rfl := (lk_int ha).mpr rfl
        rfl
    | a :: c :: e :: r, _, .cons ha (.cons hc (.cons he hr)) => rfl
theorem lk_start {x y : PyData} (h : Lk x y) : isStart y = isStart x := by
  unfold isStart
  rcases h.cases with ⟨_, h2⟩ | ⟨xs, ys, h1, h2, h3⟩
  · rw [h2]
  · rw [h1, h2]
    match xs, ys, h3 with
    | [], _, .nil => rfl
    | [a], _, .cons ha .nil => rfl
    | [a, c], _, .cons ha (.cons hc .nil) => simp only [lk_whole _ _ ha, lk_whole _ _ hc]
    | a :: c :: e :: r, _, .cons ha (.cons hc (.cons he hr)) => rfl
theorem lk_item {x y : PyData} (b lv : Int) (n : Nat) (h : Lk x y) : chkItem b lv n y = chkItem b lv n x := by
  unfold chkItem
  rw [lk_node b lv n h, lk_start h]
  split
  · rfl
  · cases hs : isStart x with
    | false => rfl
    | true =>
      unfold isStart at hs
      split at hs
      · rename_i a c e
        obtain ⟨ws, e2, h3⟩ := h.seq e
        match ws, h3 with
        | [a', c'], .cons ha (.cons hc .nil) =>
          obtain ⟨h1, h2⟩ := Bool.and_eq_true_iff.mp hs
          obtain ⟨i, rfl⟩ : ∃ i, a = .int i := by cases a <;> first | exact ⟨_, rfl⟩ | cases h1
          obtain ⟨j, rfl⟩ : ∃ i, c = .int i := by cases c <;> first | exact ⟨_, rfl⟩ | cases h2
          obtain rfl := (lk_int ha).mpr rfl
          obtain rfl := (lk_int hc).mpr rfl
          first | rw [e, e2] | rw [e2]
      · cases hs
theorem lk_goLv {b lv : Int} : ∀ {xs ys : List PyData} {n : Nat} {p : Option PyData}, LkS xs ys → goLv b lv n p ys = goLv b lv n p xs
  | _, _, _, _, .nil => rfl
  | _, _, n, p, .cons (b := y) (a := x) h t => by
    rw [goLv, goLv, lk_item b lv n h]
    cases chkItem b lv n x with
    | error e => rfl
    | ok c => simp only [lk_goLv (n := n + 1) (p := some c) t]
theorem lk_level {x y : PyData} (b lv : Int) (h : Lk x y) : chkLevel y b lv = chkLevel x b lv := by
  unfold chkLevel
  rcases h.cases with ⟨_, h2⟩ | ⟨xs, ys, h1, h2, h3⟩
  · rw [h2]
  · rw [h1, h2]
    simp only [h3.length, lk_goLv h3]
theorem lk_goLvs : ∀ {xs ys : List PyData} {lv b : Nat}, LkS xs ys → goLvs lv b ys = goLvs lv b xs
  | _, _, _, _, .nil => rfl
  | _, _, lv, b, .cons (b := y) (a := x) h t => by
    rw [goLvs, goLvs, lk_level _ _ h]
    cases chkLevel x b lv with
    | error e => rfl
    | ok c => simp only [lk_goLvs (lv := lv + 1) (b := lenT c) t]
theorem lk_levels {x y : PyData} (h : Lk x y) : chkLevels y = chkLevels x := by
  unfold chkLevels
  rcases h.cases with ⟨_, h2⟩ | ⟨xs, ys, h1, h2, h3⟩
  · rw [h2]
  · rw [h1, h2]
    simp only [h3.length, lk_goLvs h3]
/-! facts -/
theorem lk_facts {m l w h s m' l' w' h' s' : PyData} (hm : Lk m m') (hl : Lk l l') (hw : Lk w w') (hh : Lk h h') (hs : Lk s s') : finF m' l' w' h' s' = finF m l w h s := by
  have e1 : mostOk m' = mostOk m := by unfold mostOk; rw [lk_isN hm, lk_whole _ _ hm]
  unfold finF chkFacts
  rw [e1, lk_whole _ _ hl, lk_hi hm, lk_whole _ _ hw, lk_isW hh, lk_whole _ _ hs]
  by_cases c1 : mostOk m = false
  · simp only [if_pos c1]
  by_cases c2 : isWhole l 0 (hiOf m) = false
  · simp only [if_neg c1, if_pos c2]
  by_cases c3 : isWhole w 1 4 = false
  · simp only [if_neg c1, if_neg c2, if_pos c3]
  by_cases c4 : isW "sums" "which" h = false
  · simp only [if_neg c1, if_neg c2, if_neg c3, if_pos c4]
  by_cases c5 : isWhole s 1 12 = false
  · simp only [if_neg c1, if_neg c2, if_neg c3, if_neg c4, if_pos c5]
  simp only [if_neg c1, if_neg c2, if_neg c3, if_neg c4, if_neg c5]
  have a1 : m' = m := lk_atom hm (by cases m <;> first | rfl | exact absurd rfl c1)
  have a2 : l' = l := lk_atom hl (by cases l <;> first | rfl | exact absurd rfl c2)
  have a3 : w' = w := lk_atom hw (by cases w <;> first | rfl | exact absurd rfl c3)
  have a4 : h' = h := lk_atom hh (by cases h <;> first | rfl | exact absurd rfl c4)
  have a5 : s' = s := lk_atom hs (by cases s <;> first | rfl | exact absurd rfl c5)
  rw [a1, a2, a3, a4, a5]
theorem lk_told {x y : PyData} (h : Lk x y) : chkTold y = chkTold x := by
  unfold chkTold
  rcases h.cases with ⟨_, h2⟩ | ⟨xs, ys, h1, h2, h3⟩
  · rw [h2]
  · rw [h1, h2]
    match xs, ys, h3 with
    | [], _, .nil => rfl
    | [a], _, .cons _ .nil => rfl
    | [a, b], _, .cons _ (.cons _ .nil) => rfl
    | [a, b, c], _, .cons _ (.cons _ (.cons _ .nil)) => rfl
    | [a, b, c, d], _, .cons _ (.cons _ (.cons _ (.cons _ .nil))) => rfl
    | [a, b, c, d, e], _, .cons ha (.cons hb (.cons hc (.cons hd (.cons he .nil)))) =>
      simp only [lk_whole 0 0 ha, lk_isN ha, lk_facts (lk_refl .none) hb hc hd he, lk_facts ha hb hc hd he]
    | a :: b :: c :: d :: e :: f :: r, _, .cons _ (.cons _ (.cons _ (.cons _ (.cons _ (.cons _ _))))) => rfl
theorem lk_parts {x y : PyData} (h : Lk x y) : chkParts y = chkParts x := by
  unfold chkParts
  rcases h.cases with ⟨_, h2⟩ | ⟨xs, ys, h1, h2, h3⟩
  · rw [h2]
  · rw [h1, h2]
    match xs, ys, h3 with
    | [], _, .nil => rfl
    | [a], _, .cons _ .nil => rfl
    | [a, b], _, .cons ha (.cons hb .nil) => simp only [lk_told ha, lk_levels hb]
    | a :: b :: c :: r, _, .cons _ (.cons _ (.cons _ _)) => rfl
theorem lk_mem {xs ys : List PyData} (h : LkS xs ys) : ∀ y ∈ ys, ∃ x ∈ xs, Lk x y := by
  induction h with
  | nil => intro y hy; cases hy
  | cons h1 h2 ih =>
    intro y hy
    rcases List.mem_cons.mp hy with rfl | hy
    · exact ⟨_, List.mem_cons_self .., h1⟩
    · obtain ⟨x, hx, h⟩ := ih y hy
      exact ⟨x, List.mem_cons_of_mem _ hx, h⟩
theorem lk_sm {A A' : PyData → Prop} (hA : ∀ t, A t ↔ ∀ xs, seqOf t = some xs → xs.length ≤ 1000 ∧ ∀ x ∈ xs, A' x) (ih : ∀ {x y : PyData}, Lk x y → A' x → A' y) {x y : PyData} (h : Lk x y) (a : A x) : A y := by
  rw [hA] at a ⊢
  intro ys e
  rcases h.cases with ⟨h1, h2⟩ | ⟨xs, ys', h1, h2, h3⟩
  · rw [h2, h1] at e; cases e
  · rw [h2] at e
    cases e
    obtain ⟨a1, a2⟩ := a xs h1
    refine ⟨by rw [h3.length]; exact a1, fun z hz => ?_⟩
    obtain ⟨x, hx, hk⟩ := lk_mem h3 z hz
    exact ih hk (a2 x hx)
theorem lk_sm1 {x y : PyData} (h : Lk x y) (a : Sm1 x) : Sm1 y := lk_sm (A' := fun _ => True) (fun t => ⟨fun h xs e => ⟨h xs e, fun _ _ => trivial⟩, fun h xs e => (h xs e).1⟩) (fun _ _ => trivial) h a
theorem lk_sm4 {x y : PyData} (h : Lk x y) (a : Sm4 x) : Sm4 y := lk_sm (fun _ => Iff.rfl) (fun {_ _} => lk_sm (fun _ => Iff.rfl) (fun {_ _} => lk_sm (fun _ => Iff.rfl) (fun {_ _} => lk_sm1))) h a
theorem lk_pp {x y : PyData} (h : Lk x y) (a : pParts x) : pParts y := by
  intro c b e
  rcases h.cases with ⟨h1, h2⟩ | ⟨xs, ys, h1, h2, h3⟩
  · rw [h2, h1] at e; cases e
  · rw [h2] at e
    cases e
    match xs, h1, h3 with
    | [c0, b0], h1, .cons hc (.cons hb .nil) =>
      obtain ⟨p1, p2⟩ := a c0 b0 h1
      refine ⟨fun a1 l w hh s e => ?_, lk_sm4 hb p2⟩
      rcases hc.cases with ⟨g1, g2⟩ | ⟨us, ws, g1, g2, g3⟩
      · rw [g2, g1] at e; cases e
      · rw [g2] at e
        cases e
        match us, g1, g3 with
        | [u1, u2, u3, u4, u5], g1, .cons _ (.cons _ (.cons _ (.cons h4 (.cons _ .nil)))) =>
          have ha := p1 _ _ _ _ _ g1
          rw [lk_atom h4 ha]
          exact ha
end K20
set_option maxHeartbeats 4000000
/-! Plain: right levels are taken; spoiled ones are refused at the place. -/
namespace K20
open PySem PySem.Spec L2 TL
open PyProof.Rows hiding St
open PySem.W (dataLt dataLe alike alikeAll)
theorem str_pair {k a b : Nat} (h : SB k a b) : chkStr (pairD a b) = .ok (pairD a b) := by
  have h1 := h.a1
  have h2 := h.b1
  have h3 := h.co
  show (if ((a : Int) < 1 ∨ (b : Int) < 1) then _ else if Nat.gcd (a : Int).natAbs (b : Int).natAbs ≠ 1 then _ else _) = _
  rw [if_neg (by omega), if_neg (by rw [Int.natAbs_natCast, Int.natAbs_natCast, h3]; exact fun z => z rfl)]
  rfl
theorem strs_ents {lv nd : Int} : ∀ {es : List Ent}, (∀ e ∈ es, ∃ k, SB k e.2.1 e.2.2) → strsH lv nd (es.map entD) = .ok (es.map entD)
  | [], _ => rfl
  | e :: es, h => by
    obtain ⟨k, hk⟩ := h e (List.mem_cons_self ..)
    have ih := strs_ents (lv := lv) (nd := nd) (es := es) fun x hx => h x (List.mem_cons_of_mem _ hx)
    rw [List.map_cons]
    show (match chkStr (pairD e.2.1 e.2.2) with
      | .error _ => _
      | .ok s' => _) = _
    rw [str_pair hk]
    show (match strsH lv nd (es.map entD) with
      | .error e => _
      | .ok r => _) = _
    rw [ih]
    rfl
theorem scan_ents {b : Nat} : ∀ {es : List Ent} {least : Int}, es.Pairwise (fun a b => a.1 < b.1) → (∀ e ∈ es, e.1 < b ∧ least ≤ (e.1 : Int)) → scanH (b : Int) least (es.map entD) = true
  | [], _, _, _ => rfl
  | e :: es, least, hp, h => by
    obtain ⟨h1, h2⟩ := List.pairwise_cons.mp hp
    obtain ⟨g1, g2⟩ := h e (List.mem_cons_self ..)
    rw [List.map_cons, scan_eq]
    show (if least ≤ (e.1 : Int) ∧ (e.1 : Int) ≤ (b : Int) - 1 then scanH (b : Int) ((e.1 : Int) + 1) (es.map entD) else false) = true
    rw [if_pos (by omega)]
    exact scan_ents h2 fun x hx => ⟨(h x (List.mem_cons_of_mem _ hx)).1, by have := h1 x hx; omega⟩
theorem node_taken {b : Nat} {wh : Bool} {x : Nd} (lv nd : Int) (h : NodeOk b wh x) : chkNode (nodeD x) b lv nd = .ok (nodeD x) := by
  have h1 := h.lt
  have hw : isWhole (.int x.1) 0 ((b : Int) - 1) = true := by
    show (decide ((0 : Int) ≤ (x.1 : Int)) && decide ((x.1 : Int) ≤ (b : Int) - 1)) = true
    rw [decide_eq_true (show (0 : Int) ≤ (x.1 : Int) by omega), decide_eq_true (show (x.1 : Int) ≤ (b : Int) - 1 by omega)]
    rfl
  have hs : scanH (b : Int) 0 (x.2.map entD) = true := scan_ents h.asc fun e he => ⟨(h.en e he).1, by omega⟩
  have hst : strsH lv nd (x.2.map entD) = .ok (x.2.map entD) := strs_ents fun e he => ⟨_, (h.en e he).2.1⟩
  show (if isWhole (.int x.1) 0 ((b : Int) - 1) = true then (match chkHeard (.tuple (x.2.map entD)) (b : Int) lv nd with
      | .error e => _
      | .ok r => _) else _) = _
  rw [if_pos hw]
  have : chkHeard (.tuple (x.2.map entD)) (b : Int) lv nd = .ok (.tuple (x.2.map entD)) := by
    show (if scanH (b : Int) 0 (x.2.map entD) = true then (match strsH lv nd (x.2.map entD) with
      | .error e => _
      | .ok r => _) else _) = _
    rw [if_pos hs, hst]
  rw [this]
  rfl
/-- items that are taken as they are -/
structure ItOk (b lv : Int) (xs : List PyData) : Prop where
  it : ∀ x ∈ xs, ∀ n, chkItem b lv n x = .ok x
  lt : Ltd xs
theorem goLv_ok {b lv : Int} : ∀ {xs : List PyData} {n : Nat} {p : Option PyData}, ItOk b lv xs → (∀ q, p = some q → ∀ x ∈ xs, dataLt q x = true) → goLv b lv n p xs = .ok xs
  | [], _, _, _, _ => rfl
  | x :: xs, n, p, h, hp => by
    obtain ⟨h1, h2⟩ := List.pairwise_cons.mp h.lt
    have ho : ordOk p x = true := by
      cases p with
      | none => rfl
      | some q => exact hp q rfl x (List.mem_cons_self ..)
    rw [goLv, h.it x (List.mem_cons_self ..) n]
    simp only
    rw [if_pos ho, goLv_ok ⟨fun y hy => h.it y (List.mem_cons_of_mem _ hy), h2⟩ (by rintro q ⟨⟩ y hy; exact h1 y hy)]
    rfl
theorem goLv_bad {b lv : Int} {bad : PyData} {post : List PyData} {e : Er} : ∀ {xs : List PyData} {n : Nat} {p : Option PyData}, ItOk b lv xs → (∀ q, p = some q → ∀ x ∈ xs, dataLt q x = true) → chkItem b lv (n + xs.length) bad = .error e → goLv b lv n p (xs ++ bad :: post) = .error e
  | [], n, p, _, _, hb => by
    rw [List.nil_append, goLv]
    rw [show n + ([] : List PyData).length = n from rfl] at hb
    rw [hb]
  | x :: xs, n, p, h, hp, hb => by
    obtain ⟨h1, h2⟩ := List.pairwise_cons.mp h.lt
    have ho : ordOk p x = true := by
      cases p with
      | none => rfl
      | some q => exact hp q rfl x (List.mem_cons_self ..)
    rw [List.cons_append, goLv, h.it x (List.mem_cons_self ..) n]
    simp only
    rw [if_pos ho, goLv_bad (n := n + 1) ⟨fun y hy => h.it y (List.mem_cons_of_mem _ hy), h2⟩ (by rintro q ⟨⟩ y hy; exact h1 y hy) (by rw [show n + 1 + xs.length = n + (x :: xs).length by rw [List.length_cons]; omega]; exact hb)]
    rfl
theorem level_taken {b lv : Int} {xs : List PyData} (h : ItOk b lv xs) (h1 : 1 ≤ xs.length) (h2 : xs.length ≤ 12) : chkLevel (.tuple xs) b lv = .ok (.tuple xs) := by
  show (if 1 ≤ xs.length ∧ xs.length ≤ 12 then mapE PyData.tuple (goLv b lv 0 none xs) else _) = _
  rw [if_pos ⟨h1, h2⟩, goLv_ok (p := none) h (fun q z => (nomatch z))]
  rfl
theorem level_empty (b lv : Int) : chkLevel (.tuple []) b lv = .error (vwE "level" lv 0) := rfl
theorem level_bad {b lv : Int} {xs : List PyData} {bad : PyData} {e : Er} {k : Nat} (h : ItOk b lv xs) (hk : k < xs.length) (h2 : xs.length ≤ 12) (hb : chkItem b lv k bad = .error e) : chkLevel (.tuple (xs.take k ++ bad :: xs.drop (k + 1))) b lv = .error e := by
  have hl : (xs.take k ++ bad :: xs.drop (k + 1)).length = xs.length := by
    rw [List.length_append, List.length_cons, List.length_take, List.length_drop]
    omega
  show (if 1 ≤ (xs.take k ++ bad :: xs.drop (k + 1)).length ∧ (xs.take k ++ bad :: xs.drop (k + 1)).length ≤ 12 then mapE PyData.tuple (goLv b lv 0 none (xs.take k ++ bad :: xs.drop (k + 1))) else _) = _
  rw [if_pos (by rw [hl]; omega), goLv_bad (p := none) ⟨fun x hx => h.it x (List.mem_of_mem_take hx), h.lt.sublist (List.take_sublist _ _)⟩ (fun q z => (nomatch z)) (by rw [List.length_take, Nat.zero_add, Nat.min_eq_left (Nat.le_of_lt hk)]; exact hb)]
  rfl
theorem level_twice {b lv : Int} {x : PyData} (h : ∀ n, chkItem b lv n x = .ok x) : chkLevel (.tuple [x, x]) b lv = .error (vwE "order" lv 1) := by
  show mapE PyData.tuple (goLv b lv 0 none [x, x]) = _
  rw [goLv, h 0]
  simp only
  rw [show ordOk none x = true from rfl, if_pos rfl, goLv, h 1]
  simp only
  rw [if_neg (by show ¬ dataLt x x = true; rw [dlt_irrefl]; exact Bool.false_ne_true)]
  rfl
/-- levels that are taken as they are -/
def goOk : Nat → Nat → List PyData → Prop
  | _, _, [] => True
  | lv, b, c :: r => chkLevel c (b : Int) (lv : Int) = .ok c ∧ goOk (lv + 1) (lenT c) r
/-- how many nodes stand below the k-th level -/
def lenAt (b : Nat) (cs : List PyData) : Nat → Nat
  | 0 => b
  | k + 1 => match cs[k]? with
    | some c => lenT c
    | none => 0
theorem goLvs_ok : ∀ {cs : List PyData} {lv b : Nat}, goOk lv b cs → goLvs lv b cs = .ok cs
  | [], _, _, _ => rfl
  | c :: r, lv, b, ⟨h1, h2⟩ => by
    rw [goLvs, h1]
    simp only
    rw [goLvs_ok h2]
    rfl
theorem goLvs_bad {bad : PyData} {post : List PyData} {e : Er} : ∀ {cs : List PyData} {lv b k : Nat}, goOk lv b cs → k < cs.length → chkLevel bad (lenAt b cs k : Nat) ((lv + k : Nat) : Int) = .error e → goLvs lv b (cs.take k ++ bad :: post) = .error e
  | c :: r, lv, b, 0, _, _, hb => by
    rw [List.take_zero, List.nil_append, goLvs]
    have hb' : chkLevel bad (b : Int) (lv : Int) = .error e := hb
    rw [hb']
  | c :: r, lv, b, k + 1, ⟨h1, h2⟩, hk, hb => by
    rw [List.take_succ_cons, List.cons_append, goLvs, h1]
    simp only
    rw [goLvs_bad (k := k) h2 (by rw [List.length_cons] at hk; omega) (by
      rw [show lv + 1 + k = lv + (k + 1) by omega]
      have e2 : lenAt (lenT c) r k = lenAt b (c :: r) (k + 1) := by
        cases k with
        | zero => rfl
        | succ k => rfl
      rw [e2]
      exact hb)]
    rfl
theorem goOk_at : ∀ {cs : List PyData} {lv b k : Nat} {c : PyData}, goOk lv b cs → cs[k]? = some c → chkLevel c (lenAt b cs k : Nat) ((lv + k : Nat) : Int) = .ok c
  | c :: r, lv, b, 0, _, h, e => by cases e; exact h.1
  | c :: r, lv, b, k + 1, _, h, e => by
    have := goOk_at (k := k) h.2 e
    rw [show lv + 1 + k = lv + (k + 1) by omega] at this
    have e2 : lenAt (lenT c) r k = lenAt b (c :: r) (k + 1) := by
      cases k with
      | zero => rfl
      | succ k => rfl
    rw [e2] at this
    exact this
/-- spoiled at one level -/
theorem levels_bad {cs : List PyData} {bad : PyData} {e : Er} {k : Nat} (h : goOk 0 0 cs) (hl : cs.length ≤ 37) (hk : k < cs.length) (hb : chkLevel bad (lenAt 0 cs k : Nat) (k : Int) = .error e) : chkLevels (.tuple (cs.take k ++ bad :: cs.drop (k + 1))) = .error e := by
  have hlen : (cs.take k ++ bad :: cs.drop (k + 1)).length = cs.length := by
    rw [List.length_append, List.length_cons, List.length_take, List.length_drop]
    omega
  have hg : goLvs 0 0 (cs.take k ++ bad :: cs.drop (k + 1)) = .error e := goLvs_bad h hk (by rw [Nat.zero_add]; exact hb)
  show (if 1 ≤ (cs.take k ++ bad :: cs.drop (k + 1)).length ∧ (cs.take k ++ bad :: cs.drop (k + 1)).length ≤ 37 then (match goLvs 0 0 (cs.take k ++ bad :: cs.drop (k + 1)) with
      | .error e => _
      | .ok cs => _) else _) = _
  rw [if_pos (by rw [hlen]; omega), hg]
/-! ### a right view's levels -/
structure StOk (p : Nat × Nat) : Prop where
  a : p.1 ≤ 1
  b : p.2 ≤ 3
theorem start_taken {p : Nat × Nat} (h : StOk p) (b : Int) (n : Nat) : chkItem b 0 n (startD p) = .ok (startD p) := by
  have h1 := h.a
  have h2 := h.b
  have hs : isStart (startD p) = true := by
    show (isWhole (.int p.1) 0 1 && isWhole (.int p.2) 0 3) = true
    show ((decide ((0 : Int) ≤ (p.1 : Int)) && decide ((p.1 : Int) ≤ 1)) && (decide ((0 : Int) ≤ (p.2 : Int)) && decide ((p.2 : Int) ≤ 3))) = true
    rw [decide_eq_true (by omega), decide_eq_true (by omega), decide_eq_true (by omega), decide_eq_true (by omega)]
    rfl
  show (if (0 : Int) < 0 then _ else if isStart (startD p) = true then _ else _) = _
  rw [if_neg (by decide), if_pos hs]
  rfl
theorem starts_it {st : List (Nat × Nat)} (h : ∀ s ∈ st, StOk s) (hl : Ltd (st.map startD)) (b : Int) : ItOk b 0 (st.map startD) := ⟨fun x hx n => by
  obtain ⟨s, hs, rfl⟩ := List.mem_map.mp hx
  exact start_taken (h s hs) b n, hl⟩
theorem nodes_it {b : Nat} {wh : Bool} {ns : List Nd} {lv : Nat} (h : ∀ x ∈ ns, NodeOk b wh x) (hl : Ltd (ns.map nodeD)) (hlv : 0 < lv) : ItOk (b : Int) (lv : Int) (ns.map nodeD) := ⟨fun x hx n => by
  obtain ⟨s, hs, rfl⟩ := List.mem_map.mp hx
  unfold chkItem
  rw [if_pos (by omega)]
  exact node_taken _ _ (h s hs), hl⟩
theorem wfN_ok {n : Nat} {wh : Bool} (hn : n ≤ 12) : ∀ {nds : List (List Nd)} {b lv : Nat}, WfN n wh b nds → 0 < lv → goOk lv b (nds.map nodesD)
  | [], _, _, _, _ => trivial
  | ns :: r, b, lv, ⟨h1, h2, h3, h4, h5, h6⟩, hlv => by
    have hlen : 1 ≤ ns.length := List.length_pos_iff.mpr h1
    refine ⟨level_taken (nodes_it h4 h3 hlv) (by rw [List.length_map]; exact hlen) (by rw [List.length_map]; omega), ?_⟩
    show goOk (lv + 1) (ns.map nodeD).length (r.map nodesD)
    rw [List.length_map]
    exact wfN_ok hn h6 (Nat.succ_pos _)
theorem refT_nodes {ns : List Nd} {j : Nat} (h : ∃ x ∈ ns, x.1 = j ∨ ∃ e ∈ x.2, e.1 = j) : (j : Int) ∈ refT (nodesD ns) := by
  obtain ⟨x, hx, h⟩ := h
  show (j : Int) ∈ (ns.map nodeD).flatMap refN
  rw [List.mem_flatMap]
  refine ⟨nodeD x, List.mem_map_of_mem hx, ?_⟩
  show (j : Int) ∈ ((x.1 : Nat) : Int) :: (x.2.map entD).map (fun e => match e with
    | .tuple (.int j :: _) => j
    | _ => -1)
  rcases h with rfl | ⟨e, he, rfl⟩
  · exact List.mem_cons_self ..
  · exact List.mem_cons_of_mem _ (List.mem_map.mpr ⟨entD e, List.mem_map_of_mem he, rfl⟩)
theorem wfN_loose {n : Nat} {wh : Bool} : ∀ {nds : List (List Nd)} {c : PyData} {lv : Nat}, WfN n wh (lenT c) nds → loose lv (c :: nds.map nodesD) = none ∧ topLen (c :: nds.map nodesD) = 1
  | [], c, _, h => ⟨rfl, h⟩
  | ns :: r, c, lv, ⟨h1, h2, h3, h4, h5, h6⟩ => by
    have hl : looseIn c (nodesD ns) = none := by
      unfold looseIn
      rw [List.find?_eq_none]
      intro j hj
      have := refT_nodes (h5 j (List.mem_range.mp hj))
      rw [decide_eq_true this]
      exact Bool.false_ne_true
    have h6' : WfN n wh (lenT (nodesD ns)) r := by
      show WfN n wh (ns.map nodeD).length r
      rw [List.length_map]
      exact h6
    obtain ⟨i1, i2⟩ := wfN_loose (c := nodesD ns) (lv := lv + 1) h6'
    constructor
    · rw [List.map_cons, loose, hl]
      exact i1
    · unfold topLen at i2 ⊢
      rw [List.map_cons, List.getLast?_cons_cons]
      exact i2
/-- what is known of a view's levels -/
structure VOk (n : Nat) (wh : Bool) (v : Vw) : Prop where
  wf : ∃ ss, WfV n wh ss v
  st : ∀ s ∈ v.st, StOk s
  n4 : n ≤ 4
  r4 : v.nds.length ≤ 4
def lvls (v : Vw) : List PyData := .tuple (v.st.map startD) :: v.nds.map nodesD
theorem levelsD_eq (v : Vw) : levelsD v = .tuple (lvls v) := rfl
theorem VOk.go {n : Nat} {wh : Bool} {v : Vw} (h : VOk n wh v) : goOk 0 0 (lvls v) := by
  obtain ⟨ss, w⟩ := h.wf
  have h4 := h.n4
  have hl := w.le
  have hlen : 1 ≤ v.st.length := List.length_pos_iff.mpr w.ne
  refine ⟨level_taken (starts_it h.st w.asc _) (by rw [List.length_map]; exact hlen) (by rw [List.length_map]; omega), ?_⟩
  show goOk 1 (v.st.map startD).length (v.nds.map nodesD)
  rw [List.length_map]
  exact wfN_ok (by omega) w.nds (Nat.succ_pos _)
theorem VOk.len {n : Nat} {wh : Bool} {v : Vw} (h : VOk n wh v) : 1 ≤ (lvls v).length ∧ (lvls v).length ≤ 5 := by
  have := h.r4
  unfold lvls
  rw [List.length_cons, List.length_map]
  omega
theorem VOk.taken {n : Nat} {wh : Bool} {v : Vw} (h : VOk n wh v) : chkLevels (levelsD v) = .ok (levelsD v) := by
  obtain ⟨ss, w⟩ := h.wf
  obtain ⟨l1, l2⟩ := h.len
  obtain ⟨i1, i2⟩ := wfN_loose (n := n) (wh := wh) (c := .tuple (v.st.map startD)) (lv := 0) (nds := v.nds) (by
    show WfN n wh (v.st.map startD).length v.nds
    rw [List.length_map]
    exact w.nds)
  show (if 1 ≤ (lvls v).length ∧ (lvls v).length ≤ 37 then (match goLvs 0 0 (lvls v) with
      | .error e => _
      | .ok cs => _) else _) = _
  rw [if_pos (by omega), goLvs_ok h.go]
  show (if 1 < topLen (lvls v) then _ else _) = _
  rw [if_neg (by rw [show topLen (lvls v) = 1 from i2]; decide)]
  show (match loose 0 (lvls v) with
    | some e => _
    | none => _) = _
  rw [show loose 0 (lvls v) = none from i1]
  rfl
end K20
set_option maxHeartbeats 4000000
/-! Plain: right letters. -/
namespace K20
open PySem PySem.Spec L2 TL
open PyProof.Rows hiding St
/-! ### data, bounded -/
theorem word_lay {z : Str} (h : wordOk z) : PyData.canLay0 (.str z) = true := by
  simp only [PyData.canLay0]
  show z.cps.all (fun c => decide (c < 0x110000)) = true
  rw [Array.all_eq_true]
  intro i hi
  have := h.2.2 z.cps[i] (by rw [tl]; exact Array.getElem_mem_toList hi)
  exact decide_eq_true (by omega)
theorem leaf_lay {t : PyData} (h : Leaf t) : PyData.canLay0 t = true ∧ t.depth ≤ 1 := by
  rcases h with ⟨k, hk, rfl⟩ | ⟨z, hz, rfl⟩
  · exact ⟨by simp [PyData.canLay0], by simp [PyData.depth]⟩
  · exact ⟨word_lay hz, by simp [PyData.depth]⟩
theorem WD.lay : ∀ {n : Nat} {t : PyData}, WD n t → PyData.canLay0 t = true ∧ t.depth ≤ n + 1
  | 0, t, h => leaf_lay h
  | n + 1, t, h => by
    rcases h with h | ⟨xs, h1, h2, rfl⟩
    · have := leaf_lay h
      exact ⟨this.1, by omega⟩
    · have key : ∀ xs : List PyData, (∀ x ∈ xs, WD n x) → PyData.canLayAll0 xs = true ∧ PyData.depthAll xs ≤ n + 1 := by
        intro xs
        induction xs with
        | nil => intro _; exact ⟨by simp [PyData.canLayAll0], by simp [PyData.depthAll]⟩
        | cons x xs ih =>
          intro h
          obtain ⟨a, b⟩ := WD.lay (h x (List.mem_cons_self ..))
          obtain ⟨c, e⟩ := ih fun y hy => h y (List.mem_cons_of_mem _ hy)
          refine ⟨by simp only [PyData.canLayAll0]; rw [a, c]; rfl, ?_⟩
          simp only [PyData.depthAll]
          omega
      obtain ⟨a, b⟩ := key xs h2
      refine ⟨by simp only [PyData.canLay0]; exact a, ?_⟩
      simp only [PyData.depth]
      omega
theorem WD.shaped {n : Nat} {t : PyData} (h : WD n t) (hn : n ≤ 60) : SeqAt.shaped t = true := shaped_of h.lay.1 (by have := h.lay.2; omega)
theorem leaf_wt {t : PyData} (h : Leaf t) : ∀ n, WT n t
  | 0 => by rcases h with ⟨k, hk, rfl⟩ | ⟨z, hz, rfl⟩ <;> rfl
  | n + 1 => by rcases h with ⟨k, hk, rfl⟩ | ⟨z, hz, rfl⟩ <;> exact fun xs e => nomatch e
theorem WD.wt : ∀ {n : Nat} {t : PyData}, WD n t → WT n t
  | 0, t, h => leaf_wt h 0
  | n + 1, t, h => by
    rcases h with h | ⟨xs, h1, h2, rfl⟩
    · exact leaf_wt h _
    · intro ys e
      cases e
      exact ⟨h1, fun x hx => (h2 x hx).wt⟩
theorem WD.seq {n : Nat} {t : PyData} {xs : List PyData} (h : WD (n + 1) t) (e : seqOf t = some xs) : xs.length ≤ 1000 ∧ ∀ x ∈ xs, WD n x := by
  rcases h with (⟨k, hk, rfl⟩ | ⟨z, hz, rfl⟩) | ⟨ys, h1, h2, rfl⟩
  · cases e
  · cases e
  · cases e; exact ⟨h1, h2⟩
theorem WD.sm4 {n : Nat} {t : PyData} (h : WD (n + 4) t) : Sm4 t := fun xs e =>
  ⟨(h.seq e).1, fun x hx ys e2 => ⟨(((h.seq e).2 x hx).seq (n := n + 2) e2).1, fun y hy zs e3 => ⟨((((h.seq e).2 x hx).seq (n := n + 2) e2).2 y hy |>.seq (n := n + 1) e3).1, fun z hz us e4 => (((((h.seq e).2 x hx).seq (n := n + 2) e2).2 y hy |>.seq (n := n + 1) e3).2 z hz |>.seq (n := n) e4).1⟩⟩⟩
theorem wd_nat {k : Nat} (h : k < 10 ^ 91) : Leaf (.int k) := .inl ⟨k, Nat.lt_of_lt_of_le h (by decide +kernel), rfl⟩
theorem tx_nat {k : Nat} (h : k < 10 ^ 91) : (tx (.int k)).length ≤ 91 := by
  rw [tx_int]
  exact numL_len (by decide) h
/-! ### the levels -/
theorem asc_ent {es : List Ent} {b : Nat} (hp : es.Pairwise (fun a b => a.1 < b.1)) (h : ∀ e ∈ es, e.1 < b) : es.length ≤ b := by
  have := asc_len (bl := es.map (·.1)) (m := b) (List.pairwise_map.mpr hp) fun x hx => by
    obtain ⟨e, he, rfl⟩ := List.mem_map.mp hx
    exact h e he
  rwa [List.length_map] at this
theorem sb_small {a b : Nat} (h : SB 60 a b) : a < 10 ^ 91 ∧ b < 10 ^ 91 := by
  obtain ⟨h1, h2⟩ := h.small (by decide)
  exact ⟨Nat.lt_of_lt_of_le h1 (by decide +kernel), Nat.lt_of_lt_of_le h2 (by decide +kernel)⟩
theorem wd_tup {n : Nat} {xs : List PyData} (hl : xs.length ≤ 1000) (h : ∀ x ∈ xs, WD n x) : WD (n + 1) (.tuple xs) := .inr ⟨xs, hl, h, rfl⟩
theorem two_mem {P : PyData → Prop} {a b : PyData} (ha : P a) (hb : P b) : ∀ x ∈ [a, b], P x := fun x hx => by
  rcases List.mem_cons.mp hx with rfl | hx
  · exact ha
  · rw [List.mem_singleton.mp hx]; exact hb
theorem pair_wd {a b : Nat} (h : SB 60 a b) : WD 1 (pairD a b) ∧ (tx (pairD a b)).length ≤ 186 := by
  obtain ⟨h1, h2⟩ := sb_small h
  exact ⟨wd_tup (n := 0) (xs := [.int a, .int b]) (by simp) (two_mem (wd_nat h1) (wd_nat h2)), tx_len 186 (xs := [.int a, .int b]) (k := 2) (m := 91) (by simp) (two_mem (tx_nat h1) (tx_nat h2)) (by decide)⟩
theorem small4 {j : Nat} (h : j < 1000) : j < 10 ^ 91 := Nat.lt_of_lt_of_le h (by decide +kernel)
theorem ent_wd {e : Ent} (h1 : e.1 < 1000) (h2 : SB 60 e.2.1 e.2.2) : WD 2 (entD e) ∧ (tx (entD e)).length ≤ 376 := by
  obtain ⟨w1, w2⟩ := pair_wd h2
  exact ⟨wd_tup (n := 1) (xs := [.int e.1, pairD e.2.1 e.2.2]) (by simp) (two_mem (WD.leaf (wd_nat (small4 h1)) 1) w1), tx_len 376 (xs := [.int e.1, pairD e.2.1 e.2.2]) (k := 2) (m := 186) (by simp) (two_mem (Nat.le_trans (tx_nat (small4 h1)) (by decide)) w2) (by decide)⟩
theorem node_wd {b : Nat} {wh : Bool} {x : Nd} (hb : b ≤ 4) (h : NodeOk b wh x) : WD 4 (nodeD x) ∧ (tx (nodeD x)).length ≤ 3024 := by
  have h1 := h.lt
  have hes : ∀ e ∈ x.2.map entD, WD 2 e ∧ (tx e).length ≤ 376 := fun e he => by
    obtain ⟨e0, he0, rfl⟩ := List.mem_map.mp he
    have := h.en e0 he0
    exact ent_wd (by omega) this.2.1
  have hl : (x.2.map entD).length ≤ 4 := by
    rw [List.length_map]
    exact Nat.le_trans (asc_ent h.asc fun e he => (h.en e he).1) hb
  have w3 : WD 3 (.tuple (x.2.map entD)) := wd_tup (by omega) fun e he => (hes e he).1
  have l3 : (tx (.tuple (x.2.map entD))).length ≤ 1510 := tx_len 1510 (k := 4) (m := 376) hl (fun e he => (hes e he).2) (by decide)
  exact ⟨wd_tup (n := 3) (xs := [.int x.1, .tuple (x.2.map entD)]) (by simp) (two_mem (WD.leaf (wd_nat (small4 (by omega))) 3) w3), tx_len 3024 (xs := [.int x.1, .tuple (x.2.map entD)]) (k := 2) (m := 1510) (by simp) (two_mem (Nat.le_trans (tx_nat (small4 (by omega))) (by decide)) l3) (by decide)⟩
theorem nds_wd {n : Nat} {wh : Bool} (hn : n ≤ 4) : ∀ {nds : List (List Nd)} {b : Nat}, b ≤ 4 → WfN n wh b nds → ∀ c ∈ nds.map nodesD, WD 5 c ∧ (tx c).length ≤ 12102
  | [], _, _, _, c, hc => nomatch hc
  | ns :: r, b, hb, ⟨h1, h2, h3, h4, h5, h6⟩, c, hc => by
    rcases List.mem_cons.mp hc with rfl | hc
    · have hx : ∀ x ∈ ns.map nodeD, WD 4 x ∧ (tx x).length ≤ 3024 := fun x hx => by
        obtain ⟨y, hy, rfl⟩ := List.mem_map.mp hx
        exact node_wd hb (h4 y hy)
      exact ⟨wd_tup (by rw [List.length_map]; omega) fun x h => (hx x h).1, tx_len 12102 (k := 4) (m := 3024) (by rw [List.length_map]; omega) (fun x h => (hx x h).2) (by decide)⟩
    · exact nds_wd hn (by omega) h6 c hc
theorem VOk.wd {n : Nat} {wh : Bool} {v : Vw} (h : VOk n wh v) : WD 6 (levelsD v) ∧ (tx (levelsD v)).length ≤ 60517 := by
  obtain ⟨ss, w⟩ := h.wf
  have h4 := h.n4
  have hl := w.le
  have hs : ∀ s ∈ v.st.map startD, WD 4 s ∧ (tx s).length ≤ 3024 := fun s hs => by
    obtain ⟨p, hp, rfl⟩ := List.mem_map.mp hs
    have h1 := (h.st p hp).a
    have h2 := (h.st p hp).b
    exact ⟨wd_tup (n := 3) (xs := [.int p.1, .int p.2]) (by simp) (two_mem (WD.leaf (wd_nat (small4 (by omega))) 3) (WD.leaf (wd_nat (small4 (by omega))) 3)), tx_len 3024 (xs := [.int p.1, .int p.2]) (k := 2) (m := 91) (by simp) (two_mem (tx_nat (small4 (by omega))) (tx_nat (small4 (by omega)))) (by decide)⟩
  have hc : ∀ c ∈ lvls v, WD 5 c ∧ (tx c).length ≤ 12102 := fun c hc => by
    rcases List.mem_cons.mp hc with rfl | hc
    · exact ⟨wd_tup (by rw [List.length_map]; omega) fun x h => (hs x h).1, tx_len 12102 (k := 4) (m := 3024) (by rw [List.length_map]; omega) (fun x h => (hs x h).2) (by decide)⟩
    · exact nds_wd h4 (by omega) w.nds c hc
  have h5 := h.len
  exact ⟨wd_tup (xs := lvls v) (by omega) fun c h => (hc c h).1, tx_len 60517 (xs := lvls v) (k := 5) (m := 12102) h5.2 (fun c h => (hc c h).2) (by decide)⟩
/-! ### facts -/
/-- facts that may be told: m 0 for no bound -/
structure TOk (m l w : Int) (h : Str) (s : Int) : Prop where
  l0 : 0 ≤ l ∧ l ≤ 12
  m : m = 0 ∨ (1 ≤ m ∧ m ≤ 12 ∧ l ≤ m)
  w : 1 ≤ w ∧ w ≤ 4
  h : h = "sums" ∨ h = "which"
  s : 1 ≤ s ∧ s ≤ 12
theorem whole_in {i lo hi : Int} (h1 : lo ≤ i) (h2 : i ≤ hi) : isWhole (.int i) lo hi = true := by
  show (decide (lo ≤ i) && decide (i ≤ hi)) = true
  rw [decide_eq_true h1, decide_eq_true h2]
  rfl
theorem isW_ok {h : Str} (e : h = "sums" ∨ h = "which") : isW "sums" "which" (.str h) = true := by
  rcases e with rfl | rfl <;> decide +kernel
abbrev fdOf (m l w : Int) (h : Str) (s : Int) : FD := (mOf m, .int l, .int w, .str h, .int s)
theorem TOk.fin {m l w : Int} {h : Str} {s : Int} (t : TOk m l w h s) : finF (mOf m) (.int l) (.int w) (.str h) (.int s) = .ok (fdOf m l w h s) := by
  have e1 : mostOk (mOf m) = true ∧ l ≤ hiOf (mOf m) := by
    unfold mOf
    rcases t.m with h0 | ⟨h1, h2, h3⟩
    · rw [h0]
      exact ⟨rfl, t.l0.2⟩
    · rw [if_pos (by omega)]
      refine ⟨?_, h3⟩
      show (false || isWhole (.int m) 1 12) = true
      rw [whole_in h1 h2]
      rfl
  unfold finF chkFacts
  rw [if_neg (by rw [e1.1]; exact fun z => nomatch z), if_neg (by rw [whole_in t.l0.1 e1.2]; exact fun z => nomatch z), if_neg (by rw [whole_in t.w.1 t.w.2]; exact fun z => nomatch z), if_neg (by rw [isW_ok t.h]; exact fun z => nomatch z), if_neg (by rw [whole_in t.s.1 t.s.2]; exact fun z => nomatch z)]
theorem TOk.law {m l w : Int} {h : Str} {s : Int} (t : TOk m l w h s) : lawFd (toldD m l w h s) = .ok (fdOf m l w h s) := t.fin
theorem TOk.told {m l w : Int} {h : Str} {s : Int} (t : TOk m l w h s) : chkTold (toldD m l w h s) = .ok (fdOf m l w h s) := by
  show (if isWhole (.int m) 0 0 = true then finF .none (.int l) (.int w) (.str h) (.int s) else if isNon (.int m) = true then _ else finF (.int m) (.int l) (.int w) (.str h) (.int s)) = _
  have hf := t.fin
  rcases t.m with h0 | ⟨h1, h2, h3⟩
  · subst h0
    rw [if_pos (show isWhole (.int 0) 0 0 = true from rfl)]
    exact hf
  · have e : isWhole (.int m) 0 0 = false := by
      show (decide ((0 : Int) ≤ m) && decide (m ≤ 0)) = false
      rw [decide_eq_false (show ¬ m ≤ 0 by omega), Bool.and_false]
    rw [if_neg (by rw [e]; exact Bool.false_ne_true), if_neg (by exact Bool.false_ne_true)]
    have e2 : mOf m = .int m := by unfold mOf; rw [if_pos (by omega)]
    unfold fdOf at hf ⊢
    rw [e2] at hf ⊢
    exact hf
theorem TOk.back {m l w : Int} {h : Str} {s : Int} (t : TOk m l w h s) : toldOf (fdOf m l w h s) = toldD m l w h s := by
  have : m0 (mOf m) = .int m := by
    unfold mOf
    rcases t.m with h0 | ⟨h1, h2, h3⟩
    · subst h0; rfl
    · rw [if_pos (by omega)]; rfl
  unfold toldOf toldD
  simp only [this]
theorem TOk.wd {m l w : Int} {h : Str} {s : Int} (t : TOk m l w h s) : WD 1 (toldD m l w h s) ∧ (tx (toldD m l w h s)).length ≤ 462 := by
  obtain ⟨⟨a1, a2⟩, a3, ⟨a4, a5⟩, a6, ⟨a7, a8⟩⟩ := t
  have nat : ∀ i : Int, 0 ≤ i → i ≤ 12 → Leaf (.int i) ∧ (tx (.int i)).length ≤ 91 := fun i h1 h2 => by
    obtain ⟨k, rfl⟩ := Int.eq_ofNat_of_zero_le h1
    have hk : k < 10 ^ 91 := small4 (by omega)
    exact ⟨wd_nat hk, tx_nat hk⟩
  have hw : Leaf (.str h) ∧ (tx (.str h)).length ≤ 91 := by
    rw [tx_str]
    rcases a6 with rfl | rfl
    · exact ⟨.inr ⟨_, ⟨by decide, by decide, by decide⟩, rfl⟩, by decide⟩
    · exact ⟨.inr ⟨_, ⟨by decide, by decide, by decide⟩, rfl⟩, by decide⟩
  have all : ∀ x ∈ [PyData.int m, .int l, .int w, .str h, .int s], Leaf x ∧ (tx x).length ≤ 91 := by
    intro x hx
    simp only [List.mem_cons, List.not_mem_nil, or_false] at hx
    rcases hx with rfl | rfl | rfl | rfl | rfl
    · exact nat _ (by omega) (by omega)
    · exact nat _ a1 a2
    · exact nat _ (by omega) (by omega)
    · exact hw
    · exact nat _ (by omega) a8
  exact ⟨wd_tup (n := 0) (by simp) fun x hx => (all x hx).1, tx_len 462 (k := 5) (m := 91) (by simp) (fun x hx => (all x hx).2) (by decide)⟩
/-! ### letters -/
theorem fits_alike {xs : List PyData} {m l w : Int} (h : m = 0 ∨ 1 ≤ m) : startsFit xs (mOf m) l w = lawFits xs m l w := by
  have e1 : (!(xs.filter fun x => decide (w ≤ sSnd x)).isEmpty) = xs.any fun x => decide (w ≤ sSnd x) := by
    induction xs with
    | nil => rfl
    | cons x xs ih =>
      rw [List.any_cons, List.filter_cons]
      by_cases c : w ≤ sSnd x
      · rw [decide_eq_true c, if_pos rfl]; rfl
      · rw [decide_eq_false c, if_neg Bool.false_ne_true, ih]; rfl
  have e2 : (isNon (mOf m) || decide (((xs.length : Nat) : Int) - (litN xs : Nat) + l ≤ hiOf (mOf m))) = (decide (m = 0) || decide (((xs.length : Nat) : Int) - (litN xs : Nat) + l ≤ m)) := by
    rcases h with rfl | h
    · rfl
    · have e3 : mOf m = .int m := by unfold mOf; rw [if_pos (by omega)]
      rw [e3, decide_eq_false (show ¬ m = 0 by omega)]
      rfl
  unfold startsFit lawFits
  rw [e1, e2]
theorem letter_chk {n : Nat} {wh : Bool} {v : Vw} {m l w : Int} {h : Str} {s : Int} (hv : VOk n wh v) (t : TOk m l w h s) :
    chkParts (.tuple [toldD m l w h s, levelsD v]) = if lawFits (v.st.map startD) m l w = false then .error (letE "start") else if (isWhich (.str h) && hasSums (lvls v)) = true then .error (letE "strength") else .ok (fdOf m l w h s, levelsD v) := by
  show (match chkTold (toldD m l w h s) with
    | .error e => _
    | .ok x => _) = _
  rw [t.told]
  show (match chkLevels (levelsD v) with
      | .error e => _
      | .ok c => _) = _
  rw [hv.taken]
  show (if startsFit (firstOf (levelsD v)) (mOf m) (intOf (.int l)) (intOf (.int w)) = false then _ else if (isWhich (.str h) && hasSums (itemsT (levelsD v))) = true then _ else _) = _
  rw [show firstOf (levelsD v) = v.st.map startD from rfl, show intOf (.int l) = l from rfl, show intOf (.int w) = w from rfl, fits_alike (by rcases t.m with h | h; exact .inl h; exact .inr h.1)]
  rfl
theorem letter_pp {n : Nat} {wh : Bool} {v : Vw} {m l w : Int} {h : Str} {s : Int} (hv : VOk n wh v) : pParts (.tuple [toldD m l w h s, levelsD v]) := by
  intro a b e
  cases e
  refine ⟨fun a l w h s e => ?_, hv.wd.1.sm4 (n := 2)⟩
  cases e
  rfl
theorem letter_wd {n : Nat} {wh : Bool} {v : Vw} {m l w : Int} {h : Str} {s : Int} (hv : VOk n wh v) (t : TOk m l w h s) : (∀ x ∈ [toldD m l w h s, levelsD v], WD 6 x) ∧ (tx (.tuple [toldD m l w h s, levelsD v])).length ≤ 61000 := by
  obtain ⟨w1, l1⟩ := t.wd
  obtain ⟨w2, l2⟩ := hv.wd
  refine ⟨two_mem (w1.to 5) w2, ?_⟩
  rw [tx_tup]
  show (40 :: ((tx (toldD m l w h s) ++ ([32] ++ tx (levelsD v))) ++ [41])).length ≤ 61000
  simp only [List.length_cons, List.length_append, List.length_nil]
  omega
end K20
set_option maxHeartbeats 4000000
/-! _law_bad_told. -/
namespace K20
open PySem PySem.Spec L2 TL
open PyProof.Rows hiding St
variable {P : Program} {w : World} {K : Fg} {mg : Str → Option Value} {base : Heap}
/-- tuples alone, bounded -/
def BT : Nat → PyData → Prop
  | 0, t => atom t = true
  | n + 1, t => atom t = true ∨ ∃ xs, xs.length ≤ 1000 ∧ (∀ x ∈ xs, BT n x) ∧ t = .tuple xs
theorem BT.atom {t : PyData} (h : atom t = true) : ∀ n, BT n t
  | 0 => h
  | _ + 1 => .inl h
theorem BT.up : ∀ {n : Nat} {t : PyData}, BT n t → BT (n + 1) t
  | 0, _, h => .inl h
  | n + 1, t, h => by
    rcases h with h | ⟨xs, h1, h2, h3⟩
    · exact .inl h
    · exact .inr ⟨xs, h1, fun x hx => BT.up (h2 x hx), h3⟩
theorem BT.to {n : Nat} {t : PyData} (h : BT n t) : ∀ k, BT (n + k) t
  | 0 => h
  | k + 1 => (BT.to h k).up
theorem BT.tup {n : Nat} {xs : List PyData} (hl : xs.length ≤ 1000) (h : ∀ x ∈ xs, BT n x) : BT (n + 1) (.tuple xs) := .inr ⟨xs, hl, h, rfl⟩
theorem leaf_atom {t : PyData} (h : Leaf t) : atom t = true := by rcases h with ⟨k, hk, rfl⟩ | ⟨z, hz, rfl⟩ <;> rfl
theorem WD.bt : ∀ {n : Nat} {t : PyData}, WD n t → BT n t
  | 0, t, h => leaf_atom h
  | n + 1, t, h => by
    rcases h with h | ⟨xs, h1, h2, rfl⟩
    · exact .inl (leaf_atom h)
    · exact BT.tup h1 fun x hx => (h2 x hx).bt
theorem atom_tup {t : PyData} (h : atom t = true) : isTupD t = false ∧ seqOf t = none := by cases t <;> first | exact ⟨rfl, rfl⟩ | cases h
theorem BT.wt : ∀ {n : Nat} {t : PyData}, BT n t → WT n t
  | 0, t, h => (atom_tup h).1
  | n + 1, t, h => by
    rcases h with h | ⟨xs, h1, h2, rfl⟩
    · intro xs e
      subst e
      cases h
    · intro ys e
      cases e
      exact ⟨h1, fun x hx => (h2 x hx).wt⟩
theorem BT.seq {n : Nat} {t : PyData} {xs : List PyData} (h : BT (n + 1) t) (e : seqOf t = some xs) : xs.length ≤ 1000 ∧ ∀ x ∈ xs, BT n x := by
  rcases h with h | ⟨ys, h1, h2, rfl⟩
  · rw [(atom_tup h).2] at e; cases e
  · cases e; exact ⟨h1, h2⟩
theorem BT.sm4 {n : Nat} {t : PyData} (h : BT (n + 4) t) : Sm4 t := fun xs e =>
  ⟨(h.seq e).1, fun x hx ys e2 => ⟨(((h.seq e).2 x hx).seq (n := n + 2) e2).1, fun y hy zs e3 => ⟨((((h.seq e).2 x hx).seq (n := n + 2) e2).2 y hy |>.seq (n := n + 1) e3).1, fun z hz us e4 => (((((h.seq e).2 x hx).seq (n := n + 2) e2).2 y hy |>.seq (n := n + 1) e3).2 z hz |>.seq (n := n) e4).1⟩⟩⟩
/-! ### spoiled facts -/
structure BadTo (b : PyData) (s : Str) : Prop where
  bt : BT 1 b
  pt : pTold b
  ck : chkTold b = .error (facE s)
  sh : SeqAt.shaped (codeD (facE s)) = true
def badRows : List (List PyData) := [[.int 13, .int (-1), .none, .bool true], [.int 13, .int (-1), .str "a"], [.int 0, .int 5, .bool true], [.str "sum", .int 0], [.int 0, .int 13, .int (-2)]]
def badNames : List Str := ["most", "lamps", "words", "hearing", "stretch"]
theorem flat_bt {xs : List PyData} (hl : xs.length ≤ 1000) (h : ∀ x ∈ xs, atom x = true) : BT 1 (.tuple xs) := BT.tup (n := 0) hl h
theorem flat_pt {xs : List PyData} (h : ∀ x ∈ xs, atom x = true) : pTold (.tuple xs) := by
  intro a l w hh s e
  cases e
  exact h _ (by simp)
theorem five_at {a b c d e : PyData} (h : atom a = true ∧ atom b = true ∧ atom c = true ∧ atom d = true ∧ atom e = true) : ∀ x ∈ [a, b, c, d, e], atom x = true := by
  obtain ⟨h1, h2, h3, h4, h5⟩ := h
  intro x hx
  simp only [List.mem_cons, List.not_mem_nil, or_false] at hx
  rcases hx with rfl | rfl | rfl | rfl | rfl <;> assumption
theorem told_len {m l w : Int} {h : Str} {s : Int} {b : PyData} (hb : b = .tuple [.int m, .int l, .int w, .str h] ∨ b = .tuple [.int m, .int l, .int w, .str h, .int s, .int 1] ∨ b = .tuple [] ∨ b = .int 7) : BadTo b "told" := by
  rcases hb with rfl | rfl | rfl | rfl
  · exact ⟨flat_bt (by simp) (by simp [atom]), flat_pt (by simp [atom]), rfl, by decide +kernel⟩
  · exact ⟨flat_bt (by simp) (by simp [atom]), flat_pt (by simp [atom]), rfl, by decide +kernel⟩
  · exact ⟨flat_bt (by simp) (by simp), flat_pt (by simp), rfl, by decide +kernel⟩
  · exact ⟨.inl rfl, (fun _ _ _ _ _ e => nomatch e), rfl, by decide +kernel⟩
/-- facts of which one is wrong -/
theorem told_five {a l w h s : PyData} {x : Str} (ha : atom a = true ∧ atom l = true ∧ atom w = true ∧ atom h = true ∧ atom s = true) (hs : SeqAt.shaped (codeD (facE x)) = true) (hc : (if isWhole a 0 0 = true then finF .none l w h s else if isNon a = true then .error (facE "most") else finF a l w h s) = .error (facE x)) : BadTo (.tuple [a, l, w, h, s]) x :=
  ⟨flat_bt (by simp) (five_at ha), flat_pt (five_at ha), hc, hs⟩
theorem bad_told {m w s : Int} {h : Str} (t : TOk m 1 w h s) {n : Nat} {row : List PyData} {nm : Str} {x : PyData} (hr : badRows[n]? = some row) (hn : badNames[n]? = some nm) (hx : x ∈ row) : BadTo (.tuple ([PyData.int m, .int 1, .int w, .str h, .int s].take n ++ x :: [PyData.int m, .int 1, .int w, .str h, .int s].drop (n + 1))) nm := by
  have hf := t.m
  have most : ∀ {l w h s : PyData} {e : Er}, finF (mOf m) l w h s = .error e → (if isWhole (.int m) 0 0 = true then finF .none l w h s else if isNon (.int m) = true then .error (facE "most") else finF (.int m) l w h s) = .error e := fun {l w h s e} he => by
    rcases hf with h0 | ⟨h1, h2, h3⟩
    · subst h0
      rw [if_pos (show isWhole (.int 0) 0 0 = true from rfl)]
      exact he
    · have e1 : isWhole (.int m) 0 0 = false := by
        show (decide ((0 : Int) ≤ m) && decide (m ≤ 0)) = false
        rw [decide_eq_false (show ¬ m ≤ 0 by omega), Bool.and_false]
      rw [if_neg (by rw [e1]; exact Bool.false_ne_true), if_neg (by exact Bool.false_ne_true)]
      have e2 : mOf m = .int m := by unfold mOf; rw [if_pos (by omega)]
      rw [e2] at he
      exact he
  have o1 : mostOk (mOf m) = true ∧ hiOf (mOf m) ≤ 12 ∧ 1 ≤ hiOf (mOf m) := by
    unfold mOf
    rcases hf with h0 | ⟨h1, h2, h3⟩
    · rw [h0]; exact ⟨rfl, by decide, by decide⟩
    · rw [if_pos (by omega)]
      refine ⟨?_, h2, h1⟩
      show (false || isWhole (.int m) 1 12) = true
      rw [whole_in h1 h2]; rfl
  have c1 : ¬ mostOk (mOf m) = false := by rw [o1.1]; exact fun z => nomatch z
  have c2 : ¬ isWhole (.int 1) 0 (hiOf (mOf m)) = false := by rw [whole_in (by decide) o1.2.2]; exact fun z => nomatch z
  have c3 : ¬ isWhole (.int w) 1 4 = false := by rw [whole_in t.w.1 t.w.2]; exact fun z => nomatch z
  have c4 : ¬ isW "sums" "which" (.str h) = false := by rw [isW_ok t.h]; exact fun z => nomatch z
  have fE : ∀ {m l w h s : PyData} {e : Er}, chkFacts m l w h s = .error e → finF m l w h s = .error e := fun {m l w h s e} he => by unfold finF; rw [he]
  match n, hr, hn with
  | 0, hr, hn =>
    cases hr
    cases hn
    simp only [List.mem_cons, List.not_mem_nil, or_false] at hx
    rcases hx with rfl | rfl | rfl | rfl
    all_goals exact told_five ⟨rfl, rfl, rfl, rfl, rfl⟩ (by decide +kernel) rfl
  | 1, hr, hn =>
    cases hr
    cases hn
    simp only [List.mem_cons, List.not_mem_nil, or_false] at hx
    have key : ∀ x, isWhole x 0 (hiOf (mOf m)) = false → atom x = true → BadTo (.tuple [.int m, x, .int w, .str h, .int s]) "lamps" := fun x h1 h2 =>
      told_five ⟨rfl, h2, rfl, rfl, rfl⟩ (by decide +kernel) (most (fE (by unfold chkFacts; rw [if_neg c1, if_pos h1])))
    rcases hx with rfl | rfl | rfl
    · refine key _ ?_ rfl
      show (decide ((0 : Int) ≤ 13) && decide ((13 : Int) ≤ hiOf (mOf m))) = false
      rw [decide_eq_false (show ¬ (13 : Int) ≤ hiOf (mOf m) by have := o1.2.1; omega), Bool.and_false]
    · exact key _ rfl rfl
    · exact key _ rfl rfl
  | 2, hr, hn =>
    cases hr
    cases hn
    simp only [List.mem_cons, List.not_mem_nil, or_false] at hx
    have key : ∀ x, isWhole x 1 4 = false → atom x = true → BadTo (.tuple [.int m, .int 1, x, .str h, .int s]) "words" := fun x h1 h2 =>
      told_five ⟨rfl, rfl, h2, rfl, rfl⟩ (by decide +kernel) (most (fE (by unfold chkFacts; rw [if_neg c1, if_neg c2, if_pos h1])))
    rcases hx with rfl | rfl | rfl <;> exact key _ rfl rfl
  | 3, hr, hn =>
    cases hr
    cases hn
    simp only [List.mem_cons, List.not_mem_nil, or_false] at hx
    have key : ∀ x, isW "sums" "which" x = false → atom x = true → BadTo (.tuple [.int m, .int 1, .int w, x, .int s]) "hearing" := fun x h1 h2 =>
      told_five ⟨rfl, rfl, rfl, h2, rfl⟩ (by decide +kernel) (most (fE (by unfold chkFacts; rw [if_neg c1, if_neg c2, if_neg c3, if_pos h1])))
    rcases hx with rfl | rfl
    · exact key _ (by decide +kernel) rfl
    · exact key _ rfl rfl
  | 4, hr, hn =>
    cases hr
    cases hn
    simp only [List.mem_cons, List.not_mem_nil, or_false] at hx
    have key : ∀ x, isWhole x 1 12 = false → atom x = true → BadTo (.tuple [.int m, .int 1, .int w, .str h, x]) "stretch" := fun x h1 h2 =>
      told_five ⟨rfl, rfl, rfl, rfl, h2⟩ (by decide +kernel) (most (fE (by unfold chkFacts; rw [if_neg c1, if_neg c2, if_neg c3, if_neg c4, if_pos h1])))
    rcases hx with rfl | rfl | rfl <;> exact key _ rfl rfl
  | n + 5, hr, hn => simp [badRows] at hr
def fBadTold : List PyData → (PyData → Prop) → Prop := fun ts S => ∃ (m w s : Int) (h : Str), ts = [toldD m 1 w h s] ∧ TOk m 1 w h s ∧ S = fun t => ∃ b x, t = .tuple [b, codeD (facE x)] ∧ BadTo b x
abbrev nBt : List Str := ["_law_d", "_law_told_here", "_law_at", "_law_bad", "_law_name"]
theorem scBt : FnScope nBt ["_law_d", "_law_told_here"] (defScope (top 80)) := ⟨rfl, rfl, rfl, by decide +kernel, rfl, by decide +kernel, by decide +kernel⟩
theorem ok_badTold (M : Me K mg) : Cal P w K mg base 3 "_law_bad_told" (FnD K fBadTold) [] := by
  refine mkCal (M.df 80 (by decide)) scBt (fun _ _ _ _ _ _ us hl => match us, hl with | [_, _], _ => rfl) (fun vs H Q E h => ?_) fun f cdv A outer s H vs Q E hr h => ?_
  · obtain ⟨a, c, ws, B, ts, S, rfl, ok, hv, ⟨m, w, s, h, rfl, _⟩, _⟩ := h
    exact congrArg Nat.succ hv.len
  obtain ⟨a, c, ws, B, ts, S, rfl, ok, hv, ⟨m, wo, st, he, rfl, ht, rfl⟩, ret⟩ := h
  have y := Sy.iniD (N := nBt) ok hv
  have nd := scBt.nd
  refine ssC (sSet 2 y nd (dCallD1 0 (ok_draw M.toMd) hr (aC dI aN) ⟨6, rfl, by decide, by decide, rfl⟩) fun t B1 σ1 H1 hn t1 y1 => ?_)
  obtain ⟨n, hn, rfl⟩ := hn
  refine cWhen1 y1 (tTo (tEq (t := .int n) (u := .int 5) hr (v 2) dI rfl rfl) (by rintro _ rfl; exact eqv_int _ _)) (fun hb H2 t2 y2 => ?_) fun hb H2 t2 y2 => ?_
  · refine ss1 (sRet y2 (DE.to (dTupP (aP (dCallD1 0 (ok_pick M.toMd) hr (aC (dLst (aC (dSlT (k := 4) (xs := [PyData.int m, .int 1, .int wo, .str he, .int st]) (v 1) dI (by simp) (by simp)) (aC (dCatT (xs := [PyData.int m, .int 1, .int wo, .str he, .int st]) (v 1) (dTup (aC dI aN)) (by simp)) (aC (dTup aN) (aC dI aN))))) aN) ⟨_, rfl, by simp, by simp, rfl⟩) (aP (dTup (aC dS (aC dS aN))) aZ))) ?_) ret)
    rintro _ ⟨_, rfl, b, hb, _, ⟨_, rfl, _, rfl, rfl⟩, rfl⟩
    refine ⟨b, "told", rfl, told_len (m := m) (l := 1) (w := wo) (h := he) (s := st) ?_⟩
    simp only [List.mem_cons, List.not_mem_nil, or_false] at hb
    exact hb
  have h5 : n < 5 := by have := of_decide_eq_false hb; omega
  obtain ⟨row, hrow⟩ : ∃ row, badRows[n]? = some row := ⟨_, List.getElem?_eq_getElem (show n < badRows.length from h5)⟩
  obtain ⟨nm, hnm⟩ : ∃ nm, badNames[n]? = some nm := ⟨_, List.getElem?_eq_getElem (show n < badNames.length from h5)⟩
  have hlen : 1 ≤ row.length ∧ row.length ≤ 1000 := by
    match n, hrow with
    | 0, h => cases h; exact ⟨by decide, by decide⟩
    | 1, h => cases h; exact ⟨by decide, by decide⟩
    | 2, h => cases h; exact ⟨by decide, by decide⟩
    | 3, h => cases h; exact ⟨by decide, by decide⟩
    | 4, h => cases h; exact ⟨by decide, by decide⟩
    | n + 5, h => simp [badRows] at h
  refine ssC (sSet 3 y2 nd (dCallD1 0 (ok_pick M.toMd) hr (aC (dIx (t := .list (badRows.map .list)) (u := .list row) (dLst (aC (dLst (aC dI (aC (dNeg dI) (aC dN (aC dB aN))))) (aC (dLst (aC dI (aC (dNeg dI) (aC dS aN)))) (aC (dLst (aC dI (aC dI (aC dB aN)))) (aC (dLst (aC dS (aC dI aN))) (aC (dLst (aC dI (aC dI (aC (dNeg dI) aN)))) aN)))))) (v 2) rfl (atI_nat (by rw [List.getElem?_map, hrow]; rfl))) aN) ⟨row, rfl, hlen.1, hlen.2, rfl⟩) fun x B3 σ3 H3 hx t3 y3 => ?_)
  refine ssC (sSet1 (t := .str nm) 4 y3 nd (dIx (t := .list (badNames.map .str)) (dLst (aC dS (aC dS (aC dS (aC dS (aC dS aN)))))) (v 2) rfl (atI_nat (by rw [List.getElem?_map, hnm]; rfl))) fun B4 σ4 H4 t4 y4 => ?_)
  refine ss1 (sRet y4 (dTup (aC (dCatT (dCatT (dSlT (k := n) (xs := [PyData.int m, .int 1, .int wo, .str he, .int st]) (v 1) (v 2) (by simp; omega) (by simp)) (dTup (aC (v 3) aN)) (by simp; omega)) (dSlF (k := n + 1) (xs := [PyData.int m, .int 1, .int wo, .str he, .int st]) (v 1) (DE.to (dAdd (v 2) dI) (by rintro _ rfl; rfl)) (by simp; omega) (by simp)) (by simp; omega)) (aC (dTup (aC dS (aC (v 4) aN))) aN))) fun v' t' B' H' tr' ok' hd' e' => ret v' t' B' H' tr' ok' hd' ⟨_, nm, ?_, bad_told ht hrow hnm hx⟩)
  rw [show t' = _ from e', List.append_assoc]
  rfl
end K20
set_option maxHeartbeats 4000000
/-! _law_bad_levels. -/
namespace K20
open PySem PySem.Spec L2 TL
open PyProof.Rows hiding St
open PySem.W (dataLt dataLe alike alikeAll)
variable {P : Program} {w : World} {K : Fg} {mg : Str → Option Value} {base : Heap}
structure BadLv (b : PyData) (er : Er) : Prop where
  bt : BT 6 b
  ck : chkLevels b = .error er
  sh : SeqAt.shaped (codeD er) = true
theorem lenAt_up {c : PyData} {r : List PyData} {b k : Nat} : lenAt (lenT c) r k = lenAt b (c :: r) (k + 1) := by
  cases k with
  | zero => rfl
  | succ k => rfl
/-- a level of nodes -/
structure NLv (n : Nat) (wh : Bool) (b : Nat) (ns : List Nd) : Prop where
  nd : ∀ x ∈ ns, NodeOk b wh x
  lt : Ltd (ns.map nodeD)
  l1 : 1 ≤ ns.length
  l2 : ns.length ≤ n
theorem wfN_at {n : Nat} {wh : Bool} : ∀ {nds : List (List Nd)} {b k : Nat} {ns : List Nd}, WfN n wh b nds → nds[k]? = some ns → NLv n wh (lenAt b (nds.map nodesD) k) ns
  | ns :: r, b, 0, _, ⟨h1, h2, h3, h4, h5, h6⟩, e => by
    cases e
    exact ⟨h4, h3, List.length_pos_iff.mpr h1, h2⟩
  | ns :: r, b, k + 1, ns', ⟨h1, h2, h3, h4, h5, h6⟩, e => by
    have := wfN_at (k := k) h6 e
    have e2 : lenAt b ((ns :: r).map nodesD) (k + 1) = lenAt ns.length (r.map nodesD) k := by
      have := (lenAt_up (c := nodesD ns) (r := r.map nodesD) (b := b) (k := k)).symm
      have e3 : lenT (nodesD ns) = ns.length := List.length_map _
      rw [e3] at this
      exact this
    rw [e2]
    exact this
/-- the k-th level of a right view -/
theorem VOk.at {n : Nat} {wh : Bool} {v : Vw} (h : VOk n wh v) {k : Nat} (hk : k < (lvls v).length) : ∃ xs, (lvls v)[k]? = some (.tuple xs) ∧ 1 ≤ xs.length ∧ xs.length ≤ 4 ∧ ItOk (lenAt 0 (lvls v) k : Nat) (k : Int) xs ∧ (∀ x ∈ xs, BT 4 x) ∧ (∀ j < xs.length, ∃ a b, xs[j]? = some (.tuple [a, b]) ∧ BT 3 b ∧ (k = 0 → atom a = true ∧ atom b = true)) := by
  obtain ⟨ss, w⟩ := h.wf
  have h4 := h.n4
  have hl := w.le
  cases k with
  | zero =>
    refine ⟨v.st.map startD, rfl, ?_, by rw [List.length_map]; omega, starts_it h.st w.asc _, fun x hx => ?_, fun j hj => ?_⟩
    · rw [List.length_map]; exact List.length_pos_iff.mpr w.ne
    · obtain ⟨p, hp, rfl⟩ := List.mem_map.mp hx
      exact BT.tup (n := 3) (xs := [.int p.1, .int p.2]) (by simp) (two_mem (BT.atom rfl 3) (BT.atom rfl 3))
    · rw [List.length_map] at hj
      exact ⟨.int (v.st[j]).1, .int (v.st[j]).2, by rw [List.getElem?_map, List.getElem?_eq_getElem hj]; rfl, BT.atom rfl 3, fun _ => ⟨rfl, rfl⟩⟩
  | succ k =>
    have hk' : k < v.nds.length := by
      unfold lvls at hk
      rw [List.length_cons, List.length_map] at hk
      omega
    have hat : v.nds[k]? = some v.nds[k] := List.getElem?_eq_getElem hk'
    have hN := wfN_at w.nds hat
    have e1 : lenAt v.st.length (v.nds.map nodesD) k = lenAt 0 (lvls v) (k + 1) := by
      have := lenAt_up (c := .tuple (v.st.map startD)) (r := v.nds.map nodesD) (b := 0) (k := k)
      have e3 : lenT (.tuple (v.st.map startD)) = v.st.length := List.length_map _
      rw [e3] at this
      exact this
    rw [e1] at hN
    have hb : lenAt 0 (lvls v) (k + 1) ≤ 4 := by
      rw [← e1]
      cases k with
      | zero => exact Nat.le_trans hl h4
      | succ k =>
        have hk2 : k < v.nds.length := by omega
        have hN2 := wfN_at w.nds (List.getElem?_eq_getElem hk2)
        have : lenAt v.st.length (v.nds.map nodesD) (k + 1) = (v.nds[k]).length := by
          show (match (v.nds.map nodesD)[k]? with
            | some c => lenT c
            | none => 0) = _
          rw [List.getElem?_map, List.getElem?_eq_getElem hk2]
          exact List.length_map _
        rw [this]
        exact Nat.le_trans hN2.l2 h4
    refine ⟨(v.nds[k]).map nodeD, ?_, ?_, ?_, nodes_it hN.nd hN.lt (Nat.succ_pos k), fun x hx => ?_, fun j hj => ?_⟩
    · show (v.nds.map nodesD)[k]? = _
      rw [List.getElem?_map, hat]
      rfl
    · rw [List.length_map]; exact hN.l1
    · rw [List.length_map]; exact Nat.le_trans hN.l2 h4
    · obtain ⟨y, hy, rfl⟩ := List.mem_map.mp hx
      exact (node_wd hb (hN.nd y hy)).1.bt
    · rw [List.length_map] at hj
      have hy : v.nds[k][j] ∈ v.nds[k] := List.getElem_mem hj
      refine ⟨.int (v.nds[k][j]).1, .tuple ((v.nds[k][j]).2.map entD), by rw [List.getElem?_map, List.getElem?_eq_getElem hj]; rfl, ?_, fun z => nomatch z⟩
      have := (node_wd hb (hN.nd _ hy)).1.bt.seq (n := 3) (xs := [.int (v.nds[k][j]).1, .tuple ((v.nds[k][j]).2.map entD)]) rfl
      exact this.2 _ (List.mem_cons_of_mem _ (List.mem_cons_self ..))
theorem VOk.lvl_bt {n : Nat} {wh : Bool} {v : Vw} (h : VOk n wh v) : ∀ c ∈ lvls v, BT 5 c := (h.wd.1.bt.seq (n := 5) (xs := lvls v) rfl).2
/-- one level exchanged -/
theorem lv_put {n : Nat} {wh : Bool} {v : Vw} (h : VOk n wh v) {k : Nat} (hk : k < (lvls v).length) {bad : PyData} {er : Er} (hb : BT 5 bad) (hc : chkLevel bad (lenAt 0 (lvls v) k : Nat) (k : Int) = .error er) (hs : SeqAt.shaped (codeD er) = true) : BadLv (.tuple ((lvls v).take k ++ bad :: (lvls v).drop (k + 1))) er := by
  have hl := h.len
  refine ⟨BT.tup ?_ fun x hx => ?_, levels_bad h.go (by omega) hk hc, hs⟩
  · rw [List.length_append, List.length_cons, List.length_take, List.length_drop]
    omega
  · rcases List.mem_append.mp hx with hx | hx
    · exact h.lvl_bt x (List.mem_of_mem_take hx)
    · rcases List.mem_cons.mp hx with rfl | hx
      · exact hb
      · exact h.lvl_bt x (List.mem_of_mem_drop hx)
theorem put_bt {n k : Nat} {xs : List PyData} {bad : PyData} (h : ∀ x ∈ xs, BT n x) (hl : xs.length ≤ 4) (hb : BT n bad) : BT (n + 1) (.tuple (xs.take k ++ bad :: xs.drop (k + 1))) := by
  refine BT.tup ?_ fun x hx => ?_
  · rw [List.length_append, List.length_cons, List.length_take, List.length_drop]
    omega
  · rcases List.mem_append.mp hx with hx | hx
    · exact h x (List.mem_of_mem_take hx)
    · rcases List.mem_cons.mp hx with rfl | hx
      · exact hb
      · exact h x (List.mem_of_mem_drop hx)
theorem vw_sh {s : Str} {lv nd : Int} (h : PyData.canLay0 (.str s) = true) : SeqAt.shaped (codeD (vwE s lv nd)) = true := by
  refine shaped_of (d := .tuple [.str "view", .str s, .int lv, .int nd]) ?_ ?_
  · simp only [PyData.canLay0, PyData.canLayAll0] at h ⊢
    rw [h]
    decide +kernel
  · simp [PyData.depth, PyData.depthAll]
theorem start_bad {b : Int} {n : Nat} {bad : PyData} (h : isStart bad = false) : chkItem b 0 n bad = .error (vwE "node" 0 n) := by
  unfold chkItem
  rw [if_neg (by decide), if_neg (by rw [h]; exact Bool.false_ne_true)]
theorem parent_bad {b lv : Int} {n : Nat} {p q : PyData} (hlv : 0 < lv) (h : isWhole p 0 (b - 1) = false) : chkItem b lv n (.tuple [p, q]) = .error (vwE "parent" lv n) := by
  unfold chkItem
  rw [if_pos hlv]
  show (if isWhole p 0 (b - 1) = true then _ else _) = _
  rw [if_neg (by rw [h]; exact Bool.false_ne_true)]
theorem two_whole (a b : PyData) : isStart (.tuple [a, b]) = (isWhole a 0 1 && isWhole b 0 3) := rfl
def fBadLv : List PyData → (PyData → Prop) → Prop := fun ts S => ∃ (n : Nat) (wh : Bool) (v : Vw), ts = [levelsD v] ∧ VOk n wh v ∧ S = fun t => ∃ b x lv nd, t = .tuple [b, codeD (vwE x lv nd)] ∧ BadLv b (vwE x lv nd)
abbrev nBl : List Str := ["_law_d", "_law_levels_here", "_law_kind", "_law_at", "_law_last", "_law_node_here", "_law_bad", "_law_spoiled_here"]
theorem scBl : FnScope nBl ["_law_d", "_law_levels_here"] (defScope (top 81)) := ⟨rfl, rfl, rfl, by decide +kernel, rfl, by decide +kernel, by decide +kernel⟩
theorem ok_badLv (M : Me K mg) : Cal P w K mg base 3 "_law_bad_levels" (FnD K fBadLv) [] := by
  refine mkCal (M.df 81 (by decide)) scBl (fun _ _ _ _ _ _ us hl => match us, hl with | [_, _], _ => rfl) (fun vs H Q E h => ?_) fun f cdv A outer s H vs Q E hr h => ?_
  · obtain ⟨a, c, ws, B, ts, S, rfl, ok, hv, ⟨n, wh, v, rfl, _⟩, _⟩ := h
    exact congrArg Nat.succ hv.len
  obtain ⟨a, c, ws, B, ts, S, rfl, ok, hv, ⟨n, wh, vv, rfl, hV, rfl⟩, ret⟩ := h
  have y := Sy.iniD (N := nBl) ok hv
  have nd := scBl.nd
  obtain ⟨hl1, hl2⟩ := hV.len
  refine ssC (sParS 2 3 y rfl nd (by decide) (dCallD1 0 (ok_draw M.toMd) hr (aC dI aN) ⟨4, rfl, by decide, by decide, rfl⟩) (dCallD1 0 (ok_draw M.toMd) hr (aC (dLen (t := levelsD vv) (n := (lvls vv).length) M.len (v 1)) aN) ⟨(lvls vv).length, rfl, hl1, by omega, rfl⟩) fun t u B1 σ1 H1 hk hat t1 y1 => ?_)
  obtain ⟨k, hk, rfl⟩ := hk
  obtain ⟨at_, hat, rfl⟩ := hat
  refine ssC (sSet1 (t := .int ((lvls vv).length - 1 : Nat)) 4 y1 nd (DE.to (dSub (dLen (t := levelsD vv) (n := (lvls vv).length) M.len (v 1)) dI) (by rintro _ rfl; congr 1; omega)) fun B2 σ2 H2 t2 y2 => ?_)
  refine cWhen1 y2 (tTo (tEq (t := .int k) (u := .int 0) hr (v 2) dI rfl rfl) (by rintro _ rfl; exact eqv_int _ _)) (fun hb H3 t3 y3 => ?_) fun hb H3 t3 y3 => ?_
  · refine ss1 (sRet y3 (dTup (aC (dTup aN) (aC (dTup (aC dS (aC dS (aC dI (aC dI aN))))) aN))) fun v' t' B' H' tr' ok' hd' e' => ret v' t' B' H' tr' ok' hd' ⟨.tuple [], "levels", 0, 0, e', BT.tup (n := 5) (by simp) (fun x hx => nomatch hx), rfl, vw_sh (by decide +kernel)⟩)
  have app : ∀ {α : Type} (l r : List α) (x : α), l ++ [x] ++ r = l ++ x :: r := fun l r x => by rw [List.append_assoc]; rfl
  refine cWhen1 y3 (tTo (tEq (t := .int k) (u := .int 1) hr (v 2) dI rfl rfl) (by rintro _ rfl; exact eqv_int _ _)) (fun hb H4 t4 y4 => ?_) fun hb H4 t4 y4 => ?_
  · refine ss1 (sRet y4 (dTup (aC (dCatT (dCatT (dSlT (k := at_) (xs := lvls vv) (v 1) (v 3) (by omega) (by omega)) (dTup (aC (dTup aN) aN)) (by simp; omega)) (dSlF (k := at_ + 1) (xs := lvls vv) (v 1) (DE.to (dAdd (v 3) dI) (by rintro _ rfl; rfl)) (by omega) (by omega)) (by simp; omega)) (aC (dTup (aC dS (aC dS (aC (v 3) (aC dI aN))))) aN))) fun v' t' B' H' tr' ok' hd' e' => ret v' t' B' H' tr' ok' hd' ⟨.tuple ((lvls vv).take at_ ++ .tuple [] :: (lvls vv).drop (at_ + 1)), "level", at_, 0, ?_, lv_put hV hat (BT.tup (n := 4) (by simp) (fun x hx => nomatch hx)) (level_empty _ _) (vw_sh (by decide +kernel))⟩)
    rw [show t' = _ from e', app]
    rfl
  refine cWhen1 y4 (tTo (tEq (t := .int k) (u := .int 2) hr (v 2) dI rfl rfl) (by rintro _ rfl; exact eqv_int _ _)) (fun hb H5 t5 y5 => ?_) fun hb H5 t5 y5 => ?_
  · have hlast : (lvls vv).length - 1 < (lvls vv).length := by omega
    obtain ⟨xs, hx, x1, x2, hit, hbt, _⟩ := hV.at hlast
    obtain ⟨x, hx0⟩ : ∃ x, xs[0]? = some x := ⟨_, List.getElem?_eq_getElem (show 0 < xs.length by omega)⟩
    have hxm : x ∈ xs := List.mem_of_getElem? hx0
    refine ss1 (sRet y5 (dTup (aC (dCatT (dSlT (k := (lvls vv).length - 1) (xs := lvls vv) (v 1) (v 4) (by omega) (by omega)) (dTup (aC (dTup (aC (dIx (u := x) (dIx (t := levelsD vv) (u := .tuple xs) (v 1) (v 4) rfl (atI_nat hx)) dI rfl (atI_nat (j := 0) hx0)) (aC (dIx (u := x) (dIx (t := levelsD vv) (u := .tuple xs) (v 1) (v 4) rfl (atI_nat hx)) dI rfl (atI_nat (j := 0) hx0)) aN))) aN)) (by simp; omega)) (aC (dTup (aC dS (aC dS (aC (v 4) (aC dI aN))))) aN))) fun v' t' B' H' tr' ok' hd' e' => ret v' t' B' H' tr' ok' hd' ⟨.tuple ((lvls vv).take ((lvls vv).length - 1) ++ .tuple [x, x] :: (lvls vv).drop ((lvls vv).length - 1 + 1)), "order", ((lvls vv).length - 1 : Nat), 1, ?_, lv_put hV hlast (BT.tup (n := 4) (xs := [x, x]) (by simp) (two_mem (hbt x hxm) (hbt x hxm))) (level_twice fun n => hit.it x hxm n) (vw_sh (by decide +kernel))⟩)
    rw [show t' = _ from e', List.drop_eq_nil_of_le (show (lvls vv).length ≤ (lvls vv).length - 1 + 1 by omega)]
    rfl
  obtain ⟨xs, hx, x1, x2, hit, hbt, hpr⟩ := hV.at hat
  refine ssC (sSet 5 y5 nd (dCallD1 0 (ok_draw M.toMd) hr (aC (dLen (n := xs.length) M.len (dIx (t := levelsD vv) (u := .tuple xs) (v 1) (v 3) rfl (atI_nat hx))) aN) ⟨xs.length, rfl, x1, by omega, rfl⟩) fun t B6 σ6 H6 hj t6 y6 => ?_)
  obtain ⟨j, hj, rfl⟩ := hj
  obtain ⟨p, q, hpq, hbq, h00⟩ := hpr j hj
  refine cWhen1 y6 (tTo (tEq (t := .int at_) (u := .int 0) hr (v 3) dI rfl rfl) (by rintro _ rfl; exact eqv_int _ _)) (fun hb H7 t7 y7 => ?_) fun hb H7 t7 y7 => ?_
  · have h0 : at_ = 0 := by have := of_decide_eq_true hb; omega
    subst h0
    obtain ⟨ap, aq⟩ := h00 rfl
    refine ssC (sSet 6 y7 nd (dCallD1 0 (ok_pick M.toMd) hr (aC (dLst (aC (dTup (aC dI (aC (dIx (t := .tuple [p, q]) (u := q) (dIx (t := .tuple xs) (u := .tuple [p, q]) (dIx (t := levelsD vv) (u := .tuple xs) (v 1) dI rfl (atI_nat (j := 0) hx)) (v 5) rfl (atI_nat hpq)) dI) aN))) (aC (dTup (aC (dIx (t := .tuple [p, q]) (u := p) (dIx (t := .tuple xs) (u := .tuple [p, q]) (dIx (t := levelsD vv) (u := .tuple xs) (v 1) dI rfl (atI_nat (j := 0) hx)) (v 5) rfl (atI_nat hpq)) dI) (aC dI aN))) (aC (dTup (aC dB (aC dI aN))) (aC (dTup (aC dI aN)) (aC dI aN)))))) aN) ⟨_, rfl, by simp, by simp, rfl⟩) fun bad B8 σ8 H8 hbad t8 y8 => ?_)
    have hbs : isStart bad = false ∧ BT 3 bad := by
      simp only [List.mem_cons, List.not_mem_nil, or_false] at hbad
      rcases hbad with rfl | rfl | rfl | rfl | rfl
      · exact ⟨rfl, BT.tup (n := 2) (by simp) (two_mem (BT.atom rfl 2) (BT.atom aq 2))⟩
      · refine ⟨?_, BT.tup (n := 2) (by simp) (two_mem (BT.atom ap 2) (BT.atom rfl 2))⟩
        rw [two_whole, show isWhole (.int 4) 0 3 = false from rfl, Bool.and_false]
      · exact ⟨rfl, BT.tup (n := 2) (by simp) (two_mem (BT.atom rfl 2) (BT.atom rfl 2))⟩
      · exact ⟨rfl, BT.tup (n := 2) (by simp) (fun x hx => by rw [List.mem_singleton.mp hx]; exact BT.atom rfl 2)⟩
      · exact ⟨rfl, BT.atom rfl 3⟩
    refine ss1 (sRet y8 (dTup (aC (dCatT (dTup (aC (dCatT (dCatT (dSlT (k := j) (xs := xs) (dIx (t := levelsD vv) (u := .tuple xs) (v 1) dI rfl (atI_nat (j := 0) hx)) (v 5) (by omega) (by omega)) (dTup (aC (v 6) aN)) (by simp; omega)) (dSlF (k := j + 1) (xs := xs) (dIx (t := levelsD vv) (u := .tuple xs) (v 1) dI rfl (atI_nat (j := 0) hx)) (DE.to (dAdd (v 5) dI) (by rintro _ rfl; rfl)) (by omega) (by omega)) (by simp; omega)) aN)) (dSlF (k := 1) (xs := lvls vv) (v 1) dI (by omega) (by omega)) (by simp; omega)) (aC (dTup (aC dS (aC dS (aC dI (aC (v 5) aN))))) aN))) fun v' t' B' H' tr' ok' hd' e' => ret v' t' B' H' tr' ok' hd' ⟨.tuple ((lvls vv).take 0 ++ .tuple (xs.take j ++ bad :: xs.drop (j + 1)) :: (lvls vv).drop (0 + 1)), "node", 0, j, ?_, lv_put hV hat (put_bt (fun x hx => hbt x hx) x2 hbs.2.up) (level_bad hit hj (by omega) (start_bad hbs.1)) (vw_sh (by decide +kernel))⟩)
    rw [show t' = _ from e', app]
    rfl
  have h0 : 0 < at_ := by
    have := of_decide_eq_false hb
    omega
  obtain ⟨xs', hx', _, _, _, _, _⟩ := hV.at (k := at_ - 1) (by omega)
  have hlen : lenAt 0 (lvls vv) at_ = xs'.length := by
    obtain ⟨m, rfl⟩ : ∃ m, at_ = m + 1 := ⟨at_ - 1, by omega⟩
    show (match (lvls vv)[m]? with
      | some c => lenT c
      | none => 0) = _
    rw [Nat.add_sub_cancel] at hx'
    rw [hx']
    rfl
  refine ssC (sSet 6 y7 nd (dTupP (aP (dCallD1 0 (ok_pick M.toMd) hr (aC (dLst (aC (dLen (n := xs'.length) M.len (dIx (t := levelsD vv) (u := .tuple xs') (i := ((at_ - 1 : Nat) : Int)) (v 1) (DE.to (dSub (v 3) dI) (by rintro _ rfl; congr 1; omega)) rfl (atI_nat hx'))) (aC (dNeg dI) (aC dB aN)))) aN) ⟨_, rfl, by simp, by simp, rfl⟩) (aP (dIx (t := .tuple [p, q]) (u := q) (dIx (t := .tuple xs) (u := .tuple [p, q]) (dIx (t := levelsD vv) (u := .tuple xs) (v 1) (v 3) rfl (atI_nat hx)) (v 5) rfl (atI_nat hpq)) dI) aZ))) fun bad B8 σ8 H8 hbad t8 y8 => ?_)
  obtain ⟨_, rfl, pb, hpb, _, ⟨q', hq', _, rfl, rfl⟩, rfl⟩ := hbad
  have hq2 : q = q' := hq'.symm
  subst hq2
  have hpb' : isWhole pb 0 (((lenAt 0 (lvls vv) at_ : Nat) : Int) - 1) = false ∧ atom pb = true := by
    rw [hlen]
    simp only [List.mem_cons, List.not_mem_nil, or_false] at hpb
    rcases hpb with rfl | rfl | rfl
    · refine ⟨?_, rfl⟩
      show (decide ((0 : Int) ≤ (xs'.length : Int)) && decide ((xs'.length : Int) ≤ (xs'.length : Int) - 1)) = false
      rw [decide_eq_false (show ¬ (xs'.length : Int) ≤ (xs'.length : Int) - 1 by omega), Bool.and_false]
    · exact ⟨rfl, rfl⟩
    · exact ⟨rfl, rfl⟩
  refine ssC (sSet1 (t := .tuple (xs.take j ++ [.tuple [pb, q]] ++ xs.drop (j + 1))) 7 y8 nd (dCatT (dCatT (dSlT (k := j) (xs := xs) (dIx (t := levelsD vv) (u := .tuple xs) (v 1) (v 3) rfl (atI_nat hx)) (v 5) (by omega) (by omega)) (dTup (aC (v 6) aN)) (by simp; omega)) (dSlF (k := j + 1) (xs := xs) (dIx (t := levelsD vv) (u := .tuple xs) (v 1) (v 3) rfl (atI_nat hx)) (DE.to (dAdd (v 5) dI) (by rintro _ rfl; rfl)) (by omega) (by omega)) (by simp; omega)) fun B9 σ9 H9 t9 y9 => ?_)
  refine ss1 (sRet y9 (dTup (aC (dCatT (dCatT (dSlT (k := at_) (xs := lvls vv) (v 1) (v 3) (by omega) (by omega)) (dTup (aC (v 7) aN)) (by simp; omega)) (dSlF (k := at_ + 1) (xs := lvls vv) (v 1) (DE.to (dAdd (v 3) dI) (by rintro _ rfl; rfl)) (by omega) (by omega)) (by simp; omega)) (aC (dTup (aC dS (aC dS (aC (v 3) (aC (v 5) aN))))) aN))) fun v' t' B' H' tr' ok' hd' e' => ret v' t' B' H' tr' ok' hd' ⟨.tuple ((lvls vv).take at_ ++ .tuple (xs.take j ++ .tuple [pb, q] :: xs.drop (j + 1)) :: (lvls vv).drop (at_ + 1)), "parent", at_, j, ?_, lv_put hV hat (put_bt (fun x hx => hbt x hx) x2 (BT.tup (n := 3) (by simp) (two_mem (BT.atom hpb'.2 3) hbq))) (level_bad hit hj (by omega) (parent_bad (by omega) hpb'.1)) (vw_sh (by decide +kernel))⟩)
  rw [show t' = _ from e', app, app]
  rfl
end K20
set_option maxHeartbeats 4000000
/-! _law_spoiled. -/
namespace K20
open PySem PySem.Spec L2 TL
open PyProof.Rows hiding St
variable {P : Program} {w : World} {K : Fg} {mg : Str → Option Value} {base : Heap}
structure Spoil (v : Vw) (L due : PyData) : Prop where
  bt : BT 8 L
  pp : pParts L
  ck : refD (chkParts L) = due
  sh : SeqAt.shaped due = true
  no : due = .none → ∃ m l w h s, L = .tuple [toldD m l w h s, levelsD v] ∧ TOk m l w h s ∧ chkParts L = .ok (fdOf m l w h s, levelsD v)
  tx : (due = dueL "start" ∨ due = dueL "strength") → ∃ m l w h s, L = .tuple [toldD m l w h s, levelsD v] ∧ TOk m l w h s
theorem due_ne {a b : Str} {l : List PyData} (h : a ≠ b) : PyData.tuple (.str a :: l) ≠ .tuple (.str b :: l) := fun e => by
  injection e with e
  injection e with e _
  injection e with e
  exact h e
theorem due_first {a : Str} {l : List PyData} (h : a ≠ "letter") {s : Str} : PyData.tuple (.str a :: l) ≠ dueL s := fun e => by
  injection e with e
  injection e with e _
  injection e with e
  exact h e
theorem due_word {a b : Str} (h : a ≠ b) : dueL a ≠ dueL b := fun e => by
  injection e with e
  injection e with _ e
  injection e with e _
  injection e with e
  exact h e
theorem spoil_shape {v : Vw} {L : PyData} (hb : BT 8 L) (h : chkParts L = .error (letE "shape")) (hp : pParts L) : Spoil v L (dueL "shape") :=
  ⟨hb, hp, by rw [h]; rfl, by decide +kernel, fun e => (nomatch e), fun e => by
    rcases e with e | e
    · exact absurd e (due_word (by decide))
    · exact absurd e (due_word (by decide))⟩
theorem told_bt {m l w : Int} {h : Str} {s : Int} (t : TOk m l w h s) : BT 7 (toldD m l w h s) := t.wd.1.bt.to 6
theorem told_pt {m l w : Int} {h : Str} {s : Int} : pTold (toldD m l w h s) := fun a l w h s e => by cases e; rfl
theorem spoil_facts {v : Vw} {b x : PyData} {s : Str} (h : BadTo b s) (hx : BT 6 x) : Spoil v (.tuple [b, x]) (codeD (facE s)) := by
  have hc : chkParts (.tuple [b, x]) = .error (facE s) := by
    show (match chkTold b with
      | .error e => _
      | .ok x => _) = _
    rw [h.ck]
  refine ⟨BT.tup (n := 7) (by simp) (two_mem (h.bt.to 6) (hx.to 1)), fun a b e => ?_, by rw [hc]; rfl, h.sh, fun e => (nomatch e), fun e => ?_⟩
  · cases e
    exact ⟨h.pt, hx.sm4 (n := 2)⟩
  · rcases e with e | e
    · exact absurd e (due_first (by decide))
    · exact absurd e (due_first (by decide))
theorem spoil_levels {v : Vw} {m l w : Int} {h : Str} {s : Int} {b : PyData} {x : Str} {lv nd : Int} (t : TOk m l w h s) (hb : BadLv b (vwE x lv nd)) : Spoil v (.tuple [toldD m l w h s, b]) (codeD (vwE x lv nd)) := by
  have hc : chkParts (.tuple [toldD m l w h s, b]) = .error (vwE x lv nd) := by
    show (match chkTold (toldD m l w h s) with
      | .error e => _
      | .ok x => _) = _
    rw [t.told]
    show (match chkLevels b with
      | .error e => _
      | .ok c => _) = _
    rw [hb.ck]
  refine ⟨BT.tup (n := 7) (by simp) (two_mem (told_bt t) (hb.bt.to 1)), fun a b' e => ?_, by rw [hc]; rfl, hb.sh, fun e => (nomatch e), fun e => ?_⟩
  · cases e
    exact ⟨told_pt, hb.bt.sm4 (n := 2)⟩
  · rcases e with e | e
    · exact absurd e (due_first (by decide))
    · exact absurd e (due_first (by decide))
theorem spoil_other {n : Nat} {wh : Bool} {v : Vw} {m l w : Int} {h : Str} {s : Int} (hv : VOk n wh v) (t : TOk m l w h s) : Spoil v (.tuple [toldD m l w h s, levelsD v]) (firstFault (v.st.map startD) (lvls v) m l w (.str h)) := by
  have hc := letter_chk hv t
  unfold firstFault
  refine ⟨BT.tup (n := 7) (by simp) (two_mem (told_bt t) (hv.wd.1.bt.to 1)), letter_pp hv, ?_, ?_, fun e => ⟨m, l, w, h, s, rfl, t, ?_⟩, fun _ => ⟨m, l, w, h, s, rfl, t⟩⟩
  · rw [hc]
    split
    · rfl
    · split <;> rfl
  · split
    · decide +kernel
    · split <;> decide +kernel
  · rw [hc]
    split at e
    · cases e
    · split at e
      · cases e
      · rename_i h1 h2
        rw [if_neg h1, if_neg h2]
def fSpoiled : List PyData → (PyData → Prop) → Prop := fun ts S => ∃ (n : Nat) (wh : Bool) (vv : Vw) (m w s : Int) (h : Str), ts = [toldD m 1 w h s, levelsD vv] ∧ TOk m 1 w h s ∧ VOk n wh vv ∧ S = fun t => ∃ L due, t = .tuple [L, due] ∧ Spoil vv L due
abbrev nSp : List Str := ["_law_d", "_law_told_here", "_law_levels_here", "_law_kind", "_law_bad", "_law_due", "_law_lamps", "_law_words", "_law_most", "_law_other"]
theorem scSp : FnScope nSp ["_law_d", "_law_told_here", "_law_levels_here"] (defScope (top 82)) := ⟨rfl, rfl, rfl, by decide +kernel, rfl, by decide +kernel, by decide +kernel⟩
theorem ok_spoiled (M : Me K mg) : Cal P w K mg base 4 "_law_spoiled" (FnD K fSpoiled) [] := by
  refine mkCal (M.df 82 (by decide)) scSp (fun _ _ _ _ _ _ us hl => match us, hl with | [_, _, _], _ => rfl) (fun vs H Q E h => ?_) fun f cdv A outer s H vs Q E hr h => ?_
  · obtain ⟨a, c, ws, B, ts, S, rfl, ok, hv, ⟨n, wh, vv, m, w, s, h, rfl, _⟩, _⟩ := h
    exact congrArg Nat.succ hv.len
  obtain ⟨a, c, ws, B, ts, S, rfl, ok, hv, ⟨n, wh, vv, m, wo, st, he, rfl, ht, hV, rfl⟩, ret⟩ := h
  have y := Sy.iniD (N := nSp) ok hv
  have nd := scSp.nd
  refine ssC (sSet 3 y nd (dCallD1 0 (ok_draw M.toMd) hr (aC dI aN) ⟨6, rfl, by decide, by decide, rfl⟩) fun t B1 σ1 H1 hk t1 y1 => ?_)
  obtain ⟨k, hk, rfl⟩ := hk
  have bL : BT 7 (levelsD vv) := hV.wd.1.bt.to 1
  refine cWhen1 y1 (tTo (tEq (t := .int k) (u := .int 0) hr (v 3) dI rfl rfl) (by rintro _ rfl; exact eqv_int _ _)) (fun hb H2 t2 y2 => ?_) fun hb H2 t2 y2 => ?_
  · refine ss1 (sRet y2 (DE.to (dTupP (aP (dCallD1 0 (ok_pick M.toMd) hr (aC (dLst (aC dN (aC dI (aC (dTup aN) (aC (dTup (aC (v 1) aN)) (aC (dTup (aC (v 1) (aC (v 2) (aC dI aN)))) (aC dS aN))))))) aN) ⟨_, rfl, by simp, by simp, rfl⟩) (aP (dTup (aC dS (aC dS aN))) aZ))) ?_) ret)
    rintro _ ⟨_, rfl, L, hL, _, ⟨_, rfl, _, rfl, rfl⟩, rfl⟩
    refine ⟨L, dueL "shape", rfl, ?_⟩
    simp only [List.mem_cons, List.not_mem_nil, or_false] at hL
    have none_pp : ∀ {t : PyData}, (∀ a b, seqOf t ≠ some [a, b]) → pParts t := fun h a b e => absurd e (h a b)
    rcases hL with rfl | rfl | rfl | rfl | rfl | rfl
    · exact spoil_shape (BT.atom rfl 8) rfl (none_pp fun a b e => nomatch e)
    · exact spoil_shape (BT.atom rfl 8) rfl (none_pp fun a b e => nomatch e)
    · exact spoil_shape (BT.tup (n := 7) (by simp) (fun x hx => nomatch hx)) rfl (none_pp fun a b e => nomatch e)
    · exact spoil_shape (BT.tup (n := 7) (by simp) (fun x hx => by rw [List.mem_singleton.mp hx]; exact told_bt ht)) rfl (none_pp fun a b e => nomatch e)
    · refine spoil_shape (BT.tup (n := 7) (by simp) (fun x hx => ?_)) rfl (none_pp fun a b e => nomatch e)
      simp only [List.mem_cons, List.not_mem_nil, or_false] at hx
      rcases hx with rfl | rfl | rfl
      · exact told_bt ht
      · exact bL
      · exact BT.atom rfl 7
    · exact spoil_shape (BT.atom rfl 8) rfl (none_pp fun a b e => nomatch e)
  refine cWhen1 y2 (tTo (tEq (t := .int k) (u := .int 1) hr (v 3) dI rfl rfl) (by rintro _ rfl; exact eqv_int _ _)) (fun hb H3 t3 y3 => ?_) fun hb H3 t3 y3 => ?_
  · refine ssC (sUnp2 4 5 y3 rfl nd (dCallD1 0 (ok_badTold M) hr (aC (v 1) aN) ⟨m, wo, st, he, rfl, ht, rfl⟩) (by rintro _ ⟨b, x, rfl, _⟩; exact ⟨_, _, rfl⟩) fun b due B4 σ4 H4 hS t4 y4 => ?_)
    obtain ⟨b', x, e1, hB⟩ := hS
    injection e1 with e1
    injection e1 with e1 e2
    injection e2 with e2 _
    subst e1 e2
    refine ss1 (sRet y4 (DE.to (dTupP (aP (dTupP (aP (v 4) (aP (dCallD1 0 (ok_pick M.toMd) hr (aC (dLst (aC (v 2) (aC (dTup aN) aN))) aN) ⟨_, rfl, by simp, by simp, rfl⟩) aZ))) (aP (v 5) aZ))) ?_) ret)
    rintro _ ⟨_, rfl, _, ⟨_, rfl, _, rfl, _, ⟨x2, hx2, _, rfl, rfl⟩, rfl⟩, _, ⟨_, rfl, _, rfl, rfl⟩, rfl⟩
    refine ⟨_, _, rfl, spoil_facts hB ?_⟩
    simp only [List.mem_cons, List.not_mem_nil, or_false] at hx2
    rcases hx2 with rfl | rfl
    · exact hV.wd.1.bt
    · exact BT.tup (n := 5) (by simp) (fun x hx => nomatch hx)
  refine cWhen1 y3 (tTo (tEq (t := .int k) (u := .int 2) hr (v 3) dI rfl rfl) (by rintro _ rfl; exact eqv_int _ _)) (fun hb H4 t4 y4 => ?_) fun hb H4 t4 y4 => ?_
  · refine ssC (sUnp2 4 5 y4 rfl nd (dCallD1 0 (ok_badLv M) hr (aC (v 2) aN) ⟨n, wh, vv, rfl, hV, rfl⟩) (by rintro _ ⟨b, x, lv, n', rfl, _⟩; exact ⟨_, _, rfl⟩) fun b due B5 σ5 H5 hS t5 y5 => ?_)
    obtain ⟨b', x, lv, n', e1, hB⟩ := hS
    injection e1 with e1
    injection e1 with e1 e2
    injection e2 with e2 _
    subst e1 e2
    exact ss1 (sRet y5 (dTup (aC (dTup (aC (v 1) (aC (v 4) aN))) (aC (v 5) aN))) fun v' t' B' H' tr' ok' hd' e' => ret v' t' B' H' tr' ok' hd' ⟨_, _, e', spoil_levels ht hB⟩)
  refine ssC (sParS 6 7 y4 rfl nd (by decide) (dCallD1 0 (ok_pick M.toMd) hr (aC (dLst (aC dI (aC dI (aC dI (aC dI aN))))) aN) ⟨_, rfl, by simp, by simp, rfl⟩) (dOne1 dI (dCallD1 0 (ok_draw M.toMd) hr (aC dI aN) ⟨4, rfl, by decide, by decide, rfl⟩)) fun t u B5 σ5 H5 hla hwo t5 y5 => ?_)
  obtain ⟨l, hl, rfl⟩ : ∃ l : Nat, l ≤ 3 ∧ t = .int l := by
    simp only [List.mem_cons, List.not_mem_nil, or_false] at hla
    rcases hla with rfl | rfl | rfl | rfl
    · exact ⟨1, by decide, rfl⟩
    · exact ⟨0, by decide, rfl⟩
    · exact ⟨2, by decide, rfl⟩
    · exact ⟨3, by decide, rfl⟩
  obtain ⟨wd, hwd, rfl⟩ := hwo
  refine ssC (sSet 8 y5 nd (dCallD (S := fun t => ∃ m' : Nat, (m' = 0 ∨ (1 ≤ m' ∧ m' ≤ 12 ∧ l ≤ m')) ∧ t = .int m') 0 (ok_pick M.toMd) hr (aP (dLstP (aP dI (aP (dMax (S := fun t => ∃ m' : Nat, 1 ≤ m' ∧ m' ≤ 12 ∧ l ≤ m' ∧ t = .int m') rfl M.max (aP dI (aP (v 6) aZ)) ?_) (aP (dAdd (v 6) dI) (aP (dAdd (v 6) dI) aZ))))) aZ) ?_) fun t B6 σ6 H6 hm t6 y6 => ?_)
  · rintro _ _ rfl rfl
    refine ⟨1, l, rfl, rfl, ?_⟩
    by_cases h : (l : Int) > 1
    · rw [if_pos h]; exact ⟨l, by omega, by omega, Nat.le_refl _, rfl⟩
    · rw [if_neg h]; exact ⟨1, by omega, by omega, by omega, rfl⟩
  · rintro _ ⟨_, ⟨_, rfl, _, rfl, _, ⟨_, ⟨m', h1, h2, h3, rfl⟩, _, ⟨_, rfl, _, ⟨_, rfl, _, rfl, rfl⟩, rfl⟩, rfl⟩, rfl⟩, _, rfl, rfl⟩
    refine ⟨_, ⟨_, rfl, by simp, by simp, rfl⟩, fun t ht => ?_⟩
    simp only [List.mem_cons, List.not_mem_nil, or_false] at ht
    rcases ht with rfl | rfl | rfl | rfl
    · exact ⟨0, .inl rfl, rfl⟩
    · exact ⟨m', .inr ⟨h1, h2, h3⟩, rfl⟩
    · exact ⟨l + 1, .inr ⟨by omega, by omega, by omega⟩, rfl⟩
    · exact ⟨l + 2, .inr ⟨by omega, by omega, by omega⟩, rfl⟩
  obtain ⟨m', hm', rfl⟩ := hm
  refine ssC (sSet 9 y6 nd (dTupP (aP (v 8) (aP (v 6) (aP (v 7) (aP (dCallD1 0 (ok_pick M.toMd) hr (aC (dLst (aC dS (aC dS aN))) aN) ⟨_, rfl, by simp, by simp, rfl⟩) (aP (dIx (t := toldD m 1 wo he st) (v 1) dI) aZ)))))) fun t B7 σ7 H7 ho t7 y7 => ?_)
  obtain ⟨_, rfl, _, rfl, _, ⟨_, rfl, _, ⟨_, rfl, _, ⟨hh, hhm, _, ⟨_, rfl, _, rfl, rfl⟩, rfl⟩, rfl⟩, rfl⟩, rfl⟩ := ho
  obtain ⟨h', hh', rfl⟩ : ∃ h' : Str, (h' = "sums" ∨ h' = "which") ∧ hh = .str h' := by
    simp only [List.mem_cons, List.not_mem_nil, or_false] at hhm
    rcases hhm with rfl | rfl
    · exact ⟨_, .inl rfl, rfl⟩
    · exact ⟨_, .inr rfl, rfl⟩
  have tk : TOk m' l ((1 + wd : Nat) : Int) h' st := ⟨by omega, by omega, by omega, hh', ht.s⟩
  obtain ⟨cs, e1, c1, c2, c3, ns, n0, n1, n2⟩ := levels_ok hV.taken
  have e1 : cs = lvls vv := by injection e1 with e1; exact e1.symm
  subst e1
  have e2 : ns = vv.st.map startD := by
    have : (lvls vv)[0]? = some (.tuple (vv.st.map startD)) := rfl
    rw [this] at n0
    injection n0 with n0
    injection n0 with n0
    exact n0.symm
  subst e2
  refine ss1 (sRet y7 (DE.to (dTupP (aP (dTup (aC (v 9) (aC (v 2) aN))) (aP (dCall1 (ok_first M) hr (aC (v 9) (aC (v 2) aN)) ⟨lvls vv, vv.st.map startD, m', l, ((1 + wd : Nat) : Int), .str h', .int st, rfl, by rcases hh' with rfl | rfl; exact .inl rfl; exact .inr rfl, n0, n2, by omega, c1, by omega, c3, rfl⟩) aZ))) ?_) ret)
  rintro _ ⟨_, rfl, _, rfl, _, ⟨_, rfl, _, rfl, rfl⟩, rfl⟩
  exact ⟨_, _, rfl, spoil_other hV tk⟩
end K20
set_option maxHeartbeats 4000000
/-! _law_right. -/
namespace K20
open PySem PySem.Spec L2 TL
open PyProof.Rows hiding St
variable {P : Program} {w : World} {K : Fg} {mg : Str → Option Value} {base : Heap}
/-- what isinstance asks of a class -/
structure Vq (K : Fg) (C : Addr) : Prop where
  a : PySem.W.findIn K (.ref C) "__class__" = some (some (.builtin "object.__class__"))
  n : PySem.W.specialIn K (.builtin "object.__class__") "__get__" = some (some (.builtin "getset_descriptor.__get__"))
  t : PySem.W.takesIn K (.builtin "object.__class__") = some true
  m : PySem.W.mroIn K C (.type "object") = some true
theorem dIsO {X : Cx} {d : Dr} {ds : List Sd} {B : Hp} {C : Addr} {u : V} {fl : List (Str × PyData)} {x xv : Str} {p pv pa pos : Pos} (i : Nat) (hI : InD X.K C fl B u) (c : Cls X.K C) (q : Vq X.K C) (hm : X.mg "isinstance" = none) (hC : X.mg x = some (.ref C)) (hi : ds[i]? = some (.raw u) := by rfl) (hN : X.N[i]? = some xv := by rfl)
    (hv : Vis X.env.scope xv := by first | exact Or.inl rfl | exact Or.inr (Or.inl rfl) | exact Or.inr (Or.inr rfl)) (hd : (xv == ("__debug__" : Str)) = false := by decide) (hcd : (xv == ("__classdict__" : Str)) = false := by decide) (hg : Gl X "isinstance" := by rfl) (hgC : Gl X x := by rfl) (hdC : (x == ("__debug__" : Str)) = false := by decide)
    (he : starEach [.Name xv pv, .Name x pa] X.env = (false, eval (.Name xv pv) X.env) :: starEach [.Name x pa] X.env := by rfl) (he2 : starEach [.Name x pa] X.env = (false, eval (.Name x pa) X.env) :: starEach [] X.env := by rfl) (hpl : (backTo pos (starEach [.Name x pa] X.env)).any (·.1) = false := by rfl) :
    DE X d (.Call (.Name "isinstance" p) [.Name xv pv, .Name x pa] [] pos) ds B (· = .bool true) :=
  de_of (pe_callB call_isi hg hm boot_isinstance (pa_cons (pe_var hN hv hd hcd) (pa_cons (pe_glob (v := .ref C) hgC hC rfl hdC) pa_nil he2) he) (by decide) (by decide) he hpl) fun B1 σ H e sl ok Q r => by
    obtain ⟨a, dx, fs, rfl, h2, h3⟩ := hI
    refine ⟨_, sl.raw hi, .ref a, .ref C, .ref C, .ref C, true, rfl, .own C, .base (.ins (ok.kh _ _ (e _ _ h2)) c q.a q.n q.t q.m), ?_, r (.bl true) (.bool true) B1 H .refl ok (.bl true) rfl⟩
    unfold PySem.W.kitOne
    rw [if_pos (beq_self_eq_true _)]
def fRight : List PyData → (PyData → Prop) → Prop := fun ts S => ∃ (n : Nat) (wh : Bool) (vv : Vw) (L : PyData) (m l w s : Int) (h : Str), ts = [L, toldD m l w h s, levelsD vv] ∧ TOk m l w h s ∧ VOk n wh vv ∧ pParts L ∧ chkParts L = .ok (fdOf m l w h s, levelsD vv) ∧ chkParts (.tuple [toldD m l w h s, levelsD vv]) = .ok (fdOf m l w h s, levelsD vv) ∧ S = (· = .bool true)
abbrev nRg : List Str := ["_law_letter", "_law_told_here", "_law_levels_here", "_law_view_here", "_law_text"]
theorem scRg : FnScope nRg ["_law_letter", "_law_told_here", "_law_levels_here"] (defScope (top 83)) := ⟨rfl, rfl, rfl, by decide +kernel, rfl, by decide +kernel, by decide +kernel⟩
theorem ok_right {xc : Str → Addr} {CV CF : Addr} (M : Me K mg) (Z : Xs P w K mg base xc) (Y : Xw K xc) (DV : VwD K mg CV) (DF : FaD K mg CF) (W : Vq K CV) : Cal P w K mg base 15 "_law_right" (Fn K fRight) [] := by
  refine mkX (M.df 83 (by decide)) scRg (fun _ _ _ _ _ _ us hl => match us, hl with | [_, _, _], _ => rfl) (fun vs H Q E h => ?_) fun f cdv A outer s H vs Q E hr h tk => ?_
  · obtain ⟨B, ts, S, ok, hv, ⟨n, wh, vv, L, m, l, w, s, h, rfl, _⟩, _⟩ := h
    exact hv.len
  obtain ⟨B, ts, S, ok, hv, ⟨n, wh, vv, L, m, l, wo, st, he, rfl, ht, hV, hp, hc, hc2, rfl⟩, ret⟩ := h
  have y := Sy.ini (N := nRg) ok hv
  have nd := scRg.nd
  obtain ⟨hw6, hlen⟩ := letter_wd hV ht
  have hw7 : WD 7 (.tuple [toldD m l wo he st, levelsD vv]) := wd_tup (by simp) hw6
  have hsh := hw7.shaped (by decide)
  have hshL := hV.wd.1.shaped (by decide)
  have rflT : PyData.eqv (.tuple [toldD m l wo he st, levelsD vv]) (.tuple [toldD m l wo he st, levelsD vv]) = true := SeqAt.eqv_refl _ hw7.lay.1
  have rflL : PyData.eqv (levelsD vv) (levelsD vv) = true := SeqAt.eqv_refl _ hV.wd.1.lay.1
  have noX : ∀ {B1 H1 : Hp}, RetX xc none B1 H1 (fun _ => False) E := fun er _ _ _ _ _ z _ => z.elim
  refine ssC (sSetG (R := ViR K CV (levelsD vv)) 3 y nd (glCall (l := [DaR K (· = L)]) (ok_checkLetter M Z DV DF) hr tk (glC (dG (v 0) y.sl) DaR.upR glN) noX ?_) fun u B1 σ1 H1 hVw t1 y1 => ?_)
  · rintro B1 vs e ⟨v1, us, rfl, ⟨t', hd', e'⟩, rfl⟩
    refine ⟨L, ⟨v1, rfl, by rw [← e']; exact hd', hp⟩, ?_, fun er her => ?_⟩
    · rintro B2 v _ ⟨c, hc', h⟩
      unfold chkLetter at hc'
      rw [hc] at hc'
      cases hc'
      exact h
    · have her : chkLetter L = .error er := her
      unfold chkLetter at her
      rw [hc] at her
      cases her
  refine cWhen1 y1 (k := false) (tTo (tW (wOr (tNot' (dVal (dIsO 3 hVw DV.cls W M.isinstance DV.gC))) (fun _ => wOr (tNe (t := levelsD vv) (u := levelsD vv) hr (dFld 3 hVw DV.cls (DV.no _ (by simp))) (v 2) hshL hshL) (fun _ => wOr1 (tNe (t := .int (((lvls vv).length : Int) - 1)) (u := .int (((lvls vv).length : Int) - 1)) hr (dFld 3 hVw DV.cls (DV.no _ (by simp))) (dSub (dLen (t := levelsD vv) (n := (lvls vv).length) M.len (v 2)) dI) rfl rfl))))) (by
    rintro _ rfl
    rw [rflL, eqv_int, decide_eq_true rfl]
    rfl)) (fun hb _ _ _ => nomatch hb) fun _ H2 t2 y2 => ?_
  refine cWhen1 y2 (k := false) (tTo (tNe (t := .tuple [toldD m l wo he st, levelsD vv]) (u := .tuple [toldD m l wo he st, levelsD vv]) hr (DE.ofGL fun B4 σ4 H4 e4 sl4 ok4 => glCall (l := [ViR K CV (levelsD vv), FaR K CF (fdOf m l wo he st)]) (ok_letterOf M DV DF) hr tk (glC (gV 3 sl4 (InD.upR _ _ _ e4 hVw) InD.upR) InD.upR (glC (glCall (l := [DaR K (· = toldD m l wo he st)]) (ok_lawFacts M Z DF) hr tk (glC (dG (v 1) sl4) DaR.upR glN) noX ?_) InD.upR glN)) noX ?_) (dTup (aC (v 1) (aC (v 2) aN))) hsh hsh) (by
    rintro _ rfl
    rw [rflT]
    rfl)) (fun hb _ _ _ => nomatch hb) fun _ H3 t3 y3 => ?_
  · rintro B1 vs e ⟨v1, us, rfl, ⟨t', hd', e'⟩, rfl⟩
    refine ⟨toldD m l wo he st, ⟨v1, rfl, by rw [← e']; exact hd', m, _, _, _, _, rfl, rfl⟩, ?_, fun er her => ?_⟩
    · rintro B2 v _ ⟨c, hc', h⟩
      rw [ht.law] at hc'
      cases hc'
      exact h
    · have her : lawFd (toldD m l wo he st) = .error er := her
      rw [ht.law] at her
      cases her
  · rintro B1 vs e ⟨w1, us, rfl, h1, w2, us2, rfl, h2, rfl⟩
    refine ⟨(levelsD vv, fdOf m l wo he st), ⟨w1, w2, rfl, h1, h2⟩, ?_, fun er her => her⟩
    rintro B2 v _ ⟨t', hd', e'⟩
    exact ⟨t', hd', by rw [show t' = _ from e', ht.back]⟩
  refine ssC (sSet1 (t := .str (txS (.tuple [toldD m l wo he st, levelsD vv]))) 4 y3 nd (dCall1 (ok_data M 7) hr (aC (dTup (aC (v 1) (aC (v 2) aN))) aN) ⟨_, rfl, hw7, by omega, rfl⟩) fun B4 σ4 H4 t4 y4 => ?_)
  have hzl : (txS (.tuple [toldD m l wo he st, levelsD vv])).length ≤ 61000 := by rw [len_txS]; exact hlen
  have hread := read_ok hw6 (by decide) (by simp)
  refine cWhen1 y4 (k := false) (tTo (tW (wOr (tNeStr (dCall1 (S := (· = .str (txS (.tuple [toldD m l wo he st, levelsD vv])))) (ok_letterText M) hr (aC (dTup (aC (v 1) (aC (v 2) aN))) aN) ⟨_, rfl, hw7.up, by omega, rfl⟩) (v 4)) (fun _ => wOr1 (tNe (t := .tuple [toldD m l wo he st, levelsD vv]) (u := .tuple [toldD m l wo he st, levelsD vv]) hr (DE.ofGL fun B5 σ5 H5 e5 sl5 ok5 => LtE.g (ltCall (ok_readLetter M Z DV DF) hr tk (ltC (ltE (v 4) sl5) ltN) noX ?_)) (dTup (aC (v 1) (aC (v 2) aN))) hsh hsh)))) (by
    rintro _ rfl
    rw [decide_eq_true rfl, rflT]
    rfl)) (fun hb _ _ _ => nomatch hb) fun _ H5 t5 y5 => ?_
  · intro ts0 hts0
    obtain rfl := argsEq (l := [.str (txS (.tuple [toldD m l wo he st, levelsD vv]))]) hts0
    refine ⟨_, _, ⟨_, .ok (.tuple [toldD m l wo he st, levelsD vv]), rfl, by omega, hread, (by rintro _ ⟨⟩; exact letter_pp hV), rfl, rfl⟩, ?_, ?_⟩
    · rintro _ ⟨t, y, ⟨⟩, h2, rfl⟩
      rw [hc2] at h2
      cases h2
      show PyData.tuple [toldOf (fdOf m l wo he st), levelsD vv] = _
      rw [ht.back]
    · rintro er (⟨k, h, _⟩ | ⟨t, ⟨⟩, h2⟩)
      · cases h
      · rw [hc2] at h2
        cases h2
  have lenE : ∀ {ds : List Sd} {B : Hp}, True := fun {_ _} => trivial
  obtain ⟨N, hN⟩ : ∃ N, (tx (.tuple [toldD m l wo he st, levelsD vv])).length = N := ⟨_, rfl⟩
  have hNl : (txS (.tuple [toldD m l wo he st, levelsD vv])).length = N := by rw [len_txS, hN]
  have hN1 : 1 ≤ N := by
    rw [← hN, tx_tup, List.length_cons]
    omega
  have dl : lenD (.str (txS (.tuple [toldD m l wo he st, levelsD vv]))) = some N := by rw [lenD_str (by omega), hNl]
  have shE : ∀ k : Nat, SeqAt.shaped (.tuple [.str "text", .int k]) = true := fun k => shaped_of (by simp only [PyData.canLay0, PyData.canLayAll0]; decide +kernel) (by simp [PyData.depth, PyData.depthAll])
  have rfE : ∀ k : Nat, PyData.eqv (.tuple [.str "text", .int k]) (.tuple [.str "text", .int k]) = true := fun k => SeqAt.eqv_refl _ (by simp only [PyData.canLay0, PyData.canLayAll0]; decide +kernel)
  have shortT : tl (cutS (txS (.tuple [toldD m l wo he st, levelsD vv])) none (some ((N - 1 : Nat) : Int))) = (tx (.tuple [toldD m l wo he st, levelsD vv])).take ((tx (.tuple [toldD m l wo he st, levelsD vv])).length - 1) := by rw [tl_cutT (by omega), hN]; rfl
  refine cWhen1 y5 (k := false) (tTo (tNe (t := .tuple [.str "text", .int (N - 1 : Nat)]) (u := .tuple [.str "text", .int (N - 1 : Nat)]) hr (dCall1 (ok_refusal M Z Y DV DF) hr (aC (dCutT (m := N - 1) (v 4) (DE.to (dSub (dLen (n := N) M.len (v 4) dl) dI) (by rintro _ rfl; congr 1; omega)) (by omega)) (aC dB aN)) ⟨_, true, .tuple [.str "text", .int (N - 1 : Nat)], rfl, .inr ⟨rfl, _, .error (N - 1), rfl, ?_, ?_, (fun t h => nomatch h), rfl⟩, rfl⟩) (dTup (aC dS (aC (DE.to (dSub (dLen (n := N) M.len (v 4) dl) dI) (by rintro _ rfl; congr 1; omega)) aN))) (shE _) (shE _)) (by rintro _ rfl; rw [rfE]; rfl)) (fun hb _ _ _ => nomatch hb) fun _ H6 t6 y6 => ?_
  · rw [len_tl, shortT, List.length_take]
    omega
  · rw [shortT]
    have := read_short hw6 (by decide) (by simp)
    rw [show N - 1 = (tx (.tuple [toldD m l wo he st, levelsD vv])).length - 1 by rw [hN]]
    exact this
  have longT : ∀ (z : Str) (c : Nat), tl z = [c] → tl (txS (.tuple [toldD m l wo he st, levelsD vv]) ++ z) = tx (.tuple [toldD m l wo he st, levelsD vv]) ++ [c] := fun z c h => by rw [tl_append, h]; rfl
  have long : ∀ (z : Str) (c : Nat), tl z = [c] → refusal (.str (txS (.tuple [toldD m l wo he st, levelsD vv]) ++ z)) true (.tuple [.str "text", .int (N : Nat)]) := fun z c h => by
    refine .inr ⟨rfl, _, .error N, rfl, ?_, ?_, (fun t h => nomatch h), rfl⟩
    · rw [len_tl, longT z c h, List.length_append, hN]
      simp only [List.length_cons, List.length_nil]
      omega
    · rw [longT z c h, ← hN]
      exact read_long c hw6 (by decide) (by simp)
  have one : ∀ z : Str, z.length = 1 → (txS (.tuple [toldD m l wo he st, levelsD vv])).length + z.length ≤ 1000000 := fun z h => by omega
  refine ss1 (sRet y6 (DE.to (dAnd (k := true) (l := true) (DE.to (dEq (t := .tuple [.str "text", .int (N : Nat)]) (u := .tuple [.str "text", .int (N : Nat)]) hr (dCall1 (ok_refusal M Z Y DV DF) hr (aC (dCatStr (v 4) dS (one _ rfl)) (aC dB aN)) ⟨_, true, _, rfl, long _ 32 rfl, rfl⟩) (dTup (aC dS (aC (dLen (n := N) M.len (v 4) dl) aN))) (shE _) (shE _)) (by rintro _ rfl; rw [rfE])) (fun _ => dOne (DE.to (dEq (t := .tuple [.str "text", .int (N : Nat)]) (u := .tuple [.str "text", .int (N : Nat)]) hr (dCall1 (ok_refusal M Z Y DV DF) hr (aC (dCatStr (v 4) dS (one _ rfl)) (aC dB aN)) ⟨_, true, _, rfl, long _ 48 rfl, rfl⟩) (dTup (aC dS (aC (dLen (n := N) M.len (v 4) dl) aN))) (shE _) (shE _)) (by rintro _ rfl; rw [rfE])))) (by rintro _ rfl; rfl)) ret)
end K20
set_option maxHeartbeats 4000000
/-! x in a tuple of data; plain: what the law asks of its views. -/
namespace K20
open PySem PySem.Spec L2 TL
open PyProof.Rows hiding St
def rInT (K : Fg) : R2 := fun x y H Q => ∃ t ts, Dp K H x t ∧ Dp K H y (.tuple ts) ∧ SeqAt.shaped t = true ∧ SeqAt.shaped (.tuple ts) = true ∧ Q (.bl (ts.any fun z => PyData.eqv z t)) H
theorem op_inT {X : Cx} (hu : X.A.units + 65 < cLine) : OpR X (compareOp .In) (rInT X.K) := by
  intro pn s σ H x y u1 u2 Q I rx ry hh
  obtain ⟨t, ts, d1, d2, s1, s2, q⟩ := hh
  obtain ⟨_, r1⟩ := Dp.reads I t x u1 d1 rx
  obtain ⟨_, r2⟩ := Dp.reads I (.tuple ts) y u2 d2 ry
  have l2 : PyData.canLayAll0 ts = true := SeqAt.canLay_of_shaped s2
  exact SeqAt.in_tuple_reads r2 r1 l2 (SeqAt.canLay_of_shaped s1) (room_in_shaped s1 hu) ⟨.bl _, H, I, rfl, q⟩
theorem tInT {X : Cx} {d : Dr} {ds : List Sd} {B : Hp} {a b : Expr} {pos : Pos} {k : Nat} {t : PyData} {ts : List PyData} (hr : Room k X.A) (ha : DE X d a ds B (· = t)) (hb : DE X d b ds B (· = .tuple ts)) (h1 : SeqAt.shaped t = true) (h2 : SeqAt.shaped (.tuple ts) = true) (hm : behindInMarks .In b = false := by rfl) : DT X d (.Compare a [.In] [b] pos) ds B (· = ts.any fun z => PyData.eqv z t) :=
  cmpT (op_inT (room65 hr)) ha hb (fun B1 H x y ta tb e ok g1 g2 e1 e2 Q r => by
    subst e1 e2
    exact ⟨_, _, g1.up ok.kh, g2.up ok.kh, h1, h2, r _ _ B1 H .refl ok (.bl _) rfl⟩) hm
/-! ### == of words -/
theorem eqv_strL {a : Str} {u : PyData} (h : PyData.eqv (.str a) u = true) : u = .str a := by
  cases u <;> first | (simp [PyData.eqv] at h; done) | skip
  rw [eqv_str] at h
  rw [of_decide_eq_true h]
theorem eqv_two {a b : Str} {u : PyData} (h : PyData.eqv (.tuple [.str a, .str b]) u = true) : u = .tuple [.str a, .str b] := by
  cases u with
  | tuple ys =>
    match ys with
    | [] => cases h
    | [x] =>
      have h : (PyData.eqv (.str a) x && false) = true := h
      rw [Bool.and_false] at h
      cases h
    | [x, y] =>
      have h : (PyData.eqv (.str a) x && (PyData.eqv (.str b) y && true)) = true := h
      rw [Bool.and_true, Bool.and_eq_true] at h
      rw [eqv_strL h.1, eqv_strL h.2]
    | x :: y :: z :: r =>
      have h : (PyData.eqv (.str a) x && (PyData.eqv (.str b) y && false)) = true := h
      rw [Bool.and_false, Bool.and_false] at h
      cases h
  | _ => simp [PyData.eqv] at h
/-- the dues -/
theorem due_of {α : Type} {x : Except Er α} {due : PyData} (hx : ∀ er, x = .error er → ErOk er) (h : refD x = due) : due = .none ∨ (∃ s, due = dueL s) ∨ (∃ s, due = codeD (facE s)) ∨ (∃ s lv n, due = codeD (vwE s lv n)) ∨ ∃ k, due = codeD (txtE k) := by
  cases x with
  | ok a => exact .inl h.symm
  | error er =>
    rcases hx er rfl with ⟨s, rfl⟩ | ⟨s, rfl⟩ | ⟨s, lv, n, rfl⟩ | ⟨k, rfl⟩
    · exact .inr (.inl ⟨s, h.symm⟩)
    · exact .inr (.inr (.inl ⟨s, h.symm⟩))
    · exact .inr (.inr (.inr (.inl ⟨s, lv, n, h.symm⟩)))
    · exact .inr (.inr (.inr (.inr ⟨k, h.symm⟩)))
theorem eqv_str_r {a : Str} {u : PyData} (h : PyData.eqv u (.str a) = true) : u = .str a := by
  cases u <;> first | (simp [PyData.eqv] at h; done) | skip
  rw [eqv_str] at h
  rw [of_decide_eq_true h]
theorem due_hearing {due : PyData} (h : PyData.eqv due (.tuple [.str "facts", .str "hearing"]) = true) : due = codeD (facE "hearing") := by
  cases due with
  | tuple ys =>
    match ys with
    | [] => cases h
    | [x] =>
      have h : (PyData.eqv x (.str "facts") && false) = true := h
      rw [Bool.and_false] at h
      cases h
    | [x, y] =>
      have h : (PyData.eqv x (.str "facts") && (PyData.eqv y (.str "hearing") && true)) = true := h
      rw [Bool.and_true, Bool.and_eq_true] at h
      rw [eqv_str_r h.1, eqv_str_r h.2]
      rfl
    | x :: y :: z :: r =>
      have h : (PyData.eqv x (.str "facts") && (PyData.eqv y (.str "hearing") && false)) = true := h
      rw [Bool.and_false, Bool.and_false] at h
      cases h
  | _ => simp [PyData.eqv] at h
theorem due_levels {α : Type} {x : Except Er α} {due : PyData} (hx : ∀ er, x = .error er → ErOk er) (h : refD x = due) (g : PyData.eqv due (.tuple [.str "view", .str "levels", .int 0, .int 0]) = true) : due = codeD (vwE "levels" 0 0) := by
  rcases due_of hx h with rfl | ⟨s, rfl⟩ | ⟨s, rfl⟩ | ⟨s, lv, n, rfl⟩ | ⟨k, rfl⟩
  · simp [PyData.eqv] at g
  · simp [PyData.eqv, PyData.eqvAll, dueL] at g
  · have g : PyData.eqv (.tuple [.str "facts", .str s]) (.tuple [.str "view", .str "levels", .int 0, .int 0]) = true := g
    simp [PyData.eqv, PyData.eqvAll] at g
  · have g : PyData.eqv (.tuple [.str "view", .str s, .int lv, .int n]) (.tuple [.str "view", .str "levels", .int 0, .int 0]) = true := g
    simp only [PyData.eqv, PyData.eqvAll, Bool.and_eq_true, Bool.and_true, beq_iff_eq] at g
    obtain ⟨_, rfl, rfl, rfl⟩ := g
    rfl
  · have g : PyData.eqv (.tuple [.str "text", .int k]) (.tuple [.str "view", .str "levels", .int 0, .int 0]) = true := g
    simp [PyData.eqv, PyData.eqvAll] at g
/-! ### the views that are drawn -/
theorem nodup_sub {α : Type} [DecidableEq α] : ∀ {l m : List α}, l.Nodup → (∀ x ∈ l, x ∈ m) → l.length ≤ m.length
  | [], _, _, _ => Nat.zero_le _
  | x :: l, m, hn, h => by
    obtain ⟨h1, h2⟩ := List.nodup_cons.mp hn
    have hx := h x (List.mem_cons_self ..)
    have ih := nodup_sub (l := l) (m := m.erase x) h2 fun y hy => (List.mem_erase_of_ne fun e => h1 (by rw [← e]; exact hy)).mpr (h y (List.mem_cons_of_mem _ hy))
    rw [List.length_erase_of_mem hx] at ih
    have := List.length_pos_of_mem hx
    rw [List.length_cons]
    omega
theorem ltd_nodup {st : List (Nat × Nat)} (h : Ltd (st.map startD)) : st.Nodup := by
  have h2 := List.pairwise_map.mp h
  refine List.Pairwise.imp ?_ h2
  rintro a b hab rfl
  rw [dlt_irrefl] at hab
  cases hab
theorem fits_here {n words : Nat} {wh : Bool} {ss : List (Nat × Nat)} {v : Vw} {m : Nat} (w : WfV n wh ss v) (hs : StartsOk n words ss) (hm : m = 0 ∨ n ≤ m) : lawFits (v.st.map startD) m 1 words = true := by
  obtain ⟨l, hl, hlamp⟩ := hs.lamp
  have nd := ltd_nodup w.asc
  have hf : ((v.st.map startD).filter fun x => decide ((words : Int) ≤ sSnd x)) = [] := by
    rw [List.filter_eq_nil_iff]
    intro x hx
    obtain ⟨s, hs', rfl⟩ := List.mem_map.mp hx
    have := hs.wd s (w.mem s hs')
    have e : sSnd (startD s) = (s.2 : Int) := rfl
    rw [e]
    simp only [decide_eq_true_eq]
    omega
  have lit : ∀ s ∈ v.st, s.1 = 1 → ss[l]? = some s := fun s hs' h1 => by
    obtain ⟨i, hi⟩ := List.getElem?_of_mem (w.mem s hs')
    have := hlamp i s hi
    by_cases e : i = l
    · rw [← e]; exact hi
    · rw [if_neg e] at this; omega
  have hll : l < ss.length := by rw [hs.len]; exact hl
  obtain ⟨s0, hs0⟩ : ∃ s, ss[l]? = some s := ⟨_, List.getElem?_eq_getElem hll⟩
  have h01 : s0.1 = 1 := by rw [hlamp l s0 hs0, if_pos rfl]
  have elit : litN (v.st.map startD) = (v.st.filter fun s => decide (s.1 = 1)).length := by
    unfold litN
    rw [List.filter_map, List.length_map]
    congr 1
    refine List.filter_congr fun s _ => ?_
    show decide (((s.1 : Nat) : Int) = 1) = decide (s.1 = 1)
    exact decide_eq_decide.mpr (by omega)
  have key : litN (v.st.map startD) ≤ 1 ∧ v.st.length + 1 ≤ n + litN (v.st.map startD) := by
    rw [elit]
    have sub : ∀ s ∈ v.st.filter (fun s => decide (s.1 = 1)), s ∈ [s0] := fun s hs' => by
      obtain ⟨h1, h2⟩ := List.mem_filter.mp hs'
      have := lit s h1 (of_decide_eq_true h2)
      rw [hs0] at this
      rw [Option.some.inj this]
      exact List.mem_singleton.mpr rfl
    have l1 := nodup_sub (nd.filter _) sub
    refine ⟨l1, ?_⟩
    by_cases h0 : s0 ∈ v.st
    · have : 1 ≤ (v.st.filter fun s => decide (s.1 = 1)).length := List.length_pos_of_mem (List.mem_filter.mpr ⟨h0, decide_eq_true h01⟩)
      have := w.le
      omega
    · have := nodup_sub (l := s0 :: v.st) (m := ss) (List.nodup_cons.mpr ⟨h0, nd⟩) fun x hx => by
        rcases List.mem_cons.mp hx with rfl | hx
        · exact List.mem_of_getElem? hs0
        · exact w.mem x hx
      rw [List.length_cons, hs.len] at this
      omega
  unfold lawFits
  rw [hf]
  have hlt : ¬ ((1 : Int) < (litN (v.st.map startD) : Nat)) := by omega
  rw [if_neg (by rw [decide_eq_false hlt]; exact Bool.false_ne_true)]
  rw [List.length_map]
  rcases hm with rfl | hm
  · rfl
  · rw [Bool.or_eq_true]
    exact .inr (decide_eq_true (by omega))
theorem sums_nodes {n : Nat} : ∀ {nds : List (List Nd)} {b : Nat}, WfN n true b nds → ∀ c ∈ nds.map nodesD, sumC c = false
  | [], _, _, c, hc => nomatch hc
  | ns :: r, b, ⟨h1, h2, h3, h4, h5, h6⟩, c, hc => by
    rcases List.mem_cons.mp hc with rfl | hc
    · show (ns.map nodeD).any sumN = false
      rw [List.any_eq_false]
      intro x hx
      obtain ⟨y, hy, rfl⟩ := List.mem_map.mp hx
      have : sumN (nodeD y) = false := by
        show (y.2.map entD).any _ = false
        rw [List.any_eq_false]
        intro e he
        obtain ⟨e0, he0, rfl⟩ := List.mem_map.mp he
        have h11 := ((h4 y hy).en e0 he0).2.2 rfl
        have : strOf (entD e0) = oneOne := by
          show pairD e0.2.1 e0.2.2 = _
          rw [h11]
          rfl
        rw [this]
        decide
      rw [this]
      exact Bool.false_ne_true
    · exact sums_nodes h6 c hc
theorem right_here {n words : Nat} {wh : Bool} {ss : List (Nat × Nat)} {v : Vw} {m : Nat} {s : Int} (hv : VOk n wh v) (w : WfV n wh ss v) (hs : StartsOk n words ss) (hm : m = 0 ∨ n ≤ m) (t : TOk m 1 words (whS wh) s) :
    chkParts (.tuple [toldD m 1 words (whS wh) s, levelsD v]) = .ok (fdOf m 1 words (whS wh) s, levelsD v) := by
  rw [letter_chk hv t, fits_here w hs hm, if_neg (fun z => nomatch z)]
  have : (isWhich (.str (whS wh)) && hasSums (lvls v)) = false := by
    cases wh with
    | false => rfl
    | true =>
      have : hasSums (lvls v) = false := by
        show (v.nds.map nodesD).any sumC = false
        rw [List.any_eq_false]
        intro c hc
        rw [sums_nodes w.nds c hc]
        exact Bool.false_ne_true
      rw [this, Bool.and_false]
  rw [this, if_neg Bool.false_ne_true]
end K20
set_option maxHeartbeats 8000000
/-! The law's walk. -/
namespace K20
open PySem PySem.Spec L2 TL
open PyProof.Rows hiding St
variable {P : Program} {w : World} {K : Fg} {mg : Str → Option Value} {base : Heap}
theorem Tr.join {B B2 H H1 H2 : Hp} {a c : Addr} (t : Tr none B H B H1) (ha : H a = none) (t2 : Tr (some (a, c)) B H1 B2 H2) : Tr none B H B2 H2 :=
  ⟨t2.kb, fun x o h _ => t2.old x o (t.all x o h) (fun c' e => by
    injection e with e
    injection e with e _
    rw [← e, ha] at h
    cases h), fun x h => t.dom x (t2.dom x h), fun x h n => t2.new x (fun z => h (t.dom x z)) n⟩
/-- a letter's text, read -/
theorem ref_text {a c : PyData} (wa : WD 6 a) (wc : WD 6 c) (la : (tx a).length ≤ 500) (lc : (tx c).length ≤ 60517) (pp : pParts (.tuple [a, c])) {due : PyData} (h : refD (chkParts (.tuple [a, c])) = due) :
    refusal (.str (txS (.tuple [a, c]))) true due ∧ WD 7 (.tuple [a, c]) ∧ (tx (.tuple [a, c])).length ≤ 100000 := by
  have hl : (tx (.tuple [a, c])).length ≤ 100000 := by
    rw [tx_tup]
    show (40 :: ((tx a ++ ([32] ++ tx c)) ++ [41])).length ≤ 100000
    simp only [List.length_cons, List.length_append, List.length_nil]
    omega
  refine ⟨.inr ⟨rfl, _, .ok (.tuple [a, c]), rfl, by rw [len_txS]; exact hl, read_ok (two_mem wa wc) (by decide) (by simp), ?_, h.symm⟩, wd_tup (by simp) (two_mem wa wc), hl⟩
  rintro _ ⟨⟩
  exact pp
def sumT : PyData := .tuple [.int 1, .int 1, .int 1, .str "sum", .int 1]
theorem sumT_wd : WD 1 sumT ∧ (tx sumT).length ≤ 500 := by
  have one : Leaf (.int 1) ∧ (tx (.int 1)).length ≤ 91 := ⟨wd_nat (k := 1) (small4 (by decide)), tx_nat (k := 1) (small4 (by decide))⟩
  have wd : Leaf (.str "sum") ∧ (tx (.str "sum")).length ≤ 91 := ⟨.inr ⟨_, ⟨by decide, by decide, by decide⟩, rfl⟩, by rw [tx_str]; decide⟩
  have all : ∀ x ∈ [PyData.int 1, .int 1, .int 1, .str "sum", .int 1], Leaf x ∧ (tx x).length ≤ 91 := by
    intro x hx
    simp only [List.mem_cons, List.not_mem_nil, or_false] at hx
    rcases hx with rfl | rfl | rfl | rfl | rfl
    · exact one
    · exact one
    · exact one
    · exact wd
    · exact one
  exact ⟨wd_tup (n := 0) (by simp) fun x hx => (all x hx).1, tx_len 500 (k := 5) (m := 91) (by simp) (fun x hx => (all x hx).2) (by decide)⟩
def fLaw : List PyData → (PyData → Prop) → Prop := fun ts S => ∃ xs : List Int, ts = [.list (xs.map .int)] ∧ S = (· = .bool true)
abbrev nLaw : List Str := ["_law_script", "_law_d", "_law_n", "_law_words", "_law_hearing", "_law_rounds", "_law_starts_here", "_law_views_here", "_law_told_here", "_law_k", "_law_levels_here", "_law_letter", "_law_due", "_law_thing"]
theorem scLaw : FnScope nLaw ["_law_script"] (defScope (top 84)) := ⟨rfl, rfl, rfl, by decide +kernel, rfl, by decide +kernel, by decide +kernel⟩
theorem ok_law {xc : Str → Addr} {CV CF f : Addr} {fd : FuncData} (F : FunD K "law" "law" (defArgs (top 84)) (defBody (top 84)) (defScope (top 84)) [] [] f fd) (M : Me K mg) (Z : Xs P w K mg base xc) (Y : Xw K xc) (DV : VwD K mg CV) (DF : FaD K mg CF) (W : Vq K CV) : FnOk P w K mg base (L2.CX P w) 16 f fd ["_law_script"] (Fn K fLaw) := by
  refine F.ok scLaw (fun vs H Q E h => ?_) fun cdv A outer s H vs Q E hr h => ⟨_, pss_w, ?_⟩
  · obtain ⟨B, ts, S, ok, hv, ⟨xs, rfl, _⟩, _⟩ := h
    exact hv.len
  obtain ⟨B, ts, S, ok, hv, ⟨xs, rfl, rfl⟩, ret⟩ := h
  have y := Sy.ini (N := nLaw) ok hv
  have nd := scLaw.nd
  obtain ⟨w0, rfl, hd0⟩ := hv.one
  refine ssC (w_s (ps_set nd (i := 1) rfl (Or.inl rfl) pe_w rfl (.inr rfl)) ?_)
  refine wCallW (ok_open M) hr (pa_cons (pa_v 0) pa_nil (by rfl)) ?_
  refine ⟨w0, rfl, B, w0, xs, rfl, ok, hd0, fun a c H1 tr1 ok1 ha hc0 hds => ?_⟩
  have okd : Ok (some (a, c)) B H1 := ⟨ok1.kh, fun a' c' e => by
    injection e with e
    injection e with e1 e2
    subst e1 e2
    exact ⟨ok.free ha, hds⟩⟩
  have y1 : Sy K (some (a, c)) B H1 B H1 ((L2.start nLaw [w0]).set 1 (some (.ref a))) [.dat (.list (xs.map .int)), .raw (.ref a), .any, .any, .any, .any, .any, .any, .any, .any, .any, .any, .any, .any] := ⟨.refl, okd, y.sl.put 1 (x := .raw (.ref a)) rfl⟩
  have ret1 : Ret K (some (a, c)) B H1 (· = .bool true) Q := fun v t B2 H2 tr2 ok2 hd2 hs2 => ret v t B2 H2 (tr1.join ha tr2) ok2.pure hd2 hs2
  refine (show wSs _ _ _ ((L2.start nLaw [w0]).set 1 (some (.ref a))) H1 from ?_)
  generalize (L2.start nLaw [w0]).set 1 (some (.ref a)) = σ1 at y1 ⊢
  clear y
  refine ssC (sParS 2 3 y1 rfl nd (by decide) (dCallD1 1 (ok_pick M.toMd) hr (aC (dLst (aC dI (aC dI (aC dI (aC dI aN))))) aN) ⟨_, rfl, by simp, by simp, rfl⟩) (dOne1 dI (dCallD1 1 (ok_draw M.toMd) hr (aC dI aN) ⟨4, rfl, by decide, by decide, rfl⟩)) fun t u B2 σ2 H2 hn hw t2 y2 => ?_)
  obtain ⟨n, hn1, hn4, rfl⟩ : ∃ n : Nat, 1 ≤ n ∧ n ≤ 4 ∧ t = .int n := by
    simp only [List.mem_cons, List.not_mem_nil, or_false] at hn
    rcases hn with rfl | rfl | rfl | rfl
    · exact ⟨3, by decide, by decide, rfl⟩
    · exact ⟨2, by decide, by decide, rfl⟩
    · exact ⟨4, by decide, by decide, rfl⟩
    · exact ⟨1, by decide, by decide, rfl⟩
  obtain ⟨wd, hwd, rfl⟩ := hw
  refine ssC (sParS 4 5 y2 rfl nd (by decide) (dCallD1 1 (ok_pick M.toMd) hr (aC (dLst (aC dS (aC dS aN))) aN) ⟨_, rfl, by simp, by simp, rfl⟩) (dCallD1 1 (ok_draw M.toMd) hr (aC dI aN) ⟨5, rfl, by decide, by decide, rfl⟩) fun t u B3 σ3 H3 hh hr5 t3 y3 => ?_)
  obtain ⟨wh, rfl⟩ : ∃ wh : Bool, t = .str (whS wh) := by
    simp only [List.mem_cons, List.not_mem_nil, or_false] at hh
    rcases hh with rfl | rfl
    · exact ⟨false, rfl⟩
    · exact ⟨true, rfl⟩
  obtain ⟨r, hr5, rfl⟩ := hr5
  refine ssC (sSet 6 y3 nd (dCallD1 1 (ok_starts M.toMd) hr (aC (v 2) (aC (v 3) aN)) ⟨n, 1 + wd, rfl, hn1, hn4, by omega, by omega, rfl⟩) fun t B4 σ4 H4 hss t4 y4 => ?_)
  obtain ⟨ss, rfl, hss⟩ := hss
  refine ssC (sSet 7 y4 nd (dCall (S := ViewsD n r wh ss) (Ss := Args [(· = .list (ss.map startD)), CourseD n r, (· = .str (whS wh))]) (ok_views M.toMd) hr (aP (v 6) (aP (dCallD1 1 (ok_course M.toMd) hr (aC (v 2) (aC (v 5) (aC dB aN))) ⟨n, r, rfl, hn1, hn4, by omega, rfl⟩) (aP (v 4) aZ))) ?_) fun tV B5 σ5 H5 hvs t5 y5 => ?_)
  · rintro _ ⟨_, rfl, _, ⟨tc, hc, _, ⟨_, rfl, _, rfl, rfl⟩, rfl⟩, rfl⟩
    exact ⟨_, ⟨n, r, wh, ss, tc, rfl, hss.len, hc, hn1, hn4, by omega, rfl⟩, fun _ h => h⟩
  refine ssC (sSet 8 y5 nd (dCallD (S := fun t => ∃ st : Nat, st < 12 ∧ ToldP n ((1 + wd : Nat) : Int) (whS wh) ((1 + st : Nat) : Int) t) 1 (ok_told M) hr (aP (v 2) (aP (v 3) (aP (v 4) (aP (dOne1 dI (dCallD1 1 (ok_draw M.toMd) hr (aC dI aN) ⟨12, rfl, by decide, by decide, rfl⟩)) aZ)))) ?_) fun t B6 σ6 H6 htd t6 y6 => ?_)
  · rintro _ ⟨_, rfl, _, ⟨_, rfl, _, ⟨_, rfl, _, ⟨_, ⟨st, hst, rfl⟩, _, rfl, rfl⟩, rfl⟩, rfl⟩, rfl⟩
    exact ⟨_, ⟨n, _, _, _, rfl, by omega, rfl⟩, fun t h => ⟨st, hst, h⟩⟩
  obtain ⟨st, hst, m, hm, rfl⟩ := htd
  have tk : TOk m 1 ((1 + wd : Nat) : Int) (whS wh) ((1 + st : Nat) : Int) := ⟨⟨by decide, by decide⟩, by rcases hm with rfl | ⟨h1, h2⟩; exact .inl rfl; exact .inr ⟨by omega, by omega, by omega⟩, ⟨by omega, by omega⟩, by cases wh; exact .inl rfl; exact .inr rfl, ⟨by omega, by omega⟩⟩
  have hm' : m = 0 ∨ n ≤ m := by rcases hm with h | h; exact .inl h; exact .inr h.1
  obtain ⟨rows, rfl, hrl, hrows⟩ := hvs
  refine ssC (sForR (n := 3) (g := gName 9) y6.sl y6.ok (passes_of rfl) rfl M.range dI (by decide) (by decide) (pg_name nd (by rfl) (by first | exact Or.inl rfl | exact Or.inr rfl)) fun B7 H7 t7 ok7 => ?_)
  refine ⟨fun i σ' H' => ∃ B', Sy K (some (a, c)) B H1 B' H' σ' [.dat (.list (xs.map .int)), .raw (.ref a), .dat (.int n), .dat (.int ((1 + wd : Nat) : Int)), .dat (.str (whS wh)), .dat (.int r), .dat (.list (ss.map startD)), .dat (.list rows), .dat (toldD m 1 ((1 + wd : Nat) : Int) (whS wh) ((1 + st : Nat) : Int)), .any, .any, .any, .any, .any], ⟨B7, y6.on t7 ok7⟩, fun i σ' H' hi ⟨B', yl⟩ => ?_, fun σ' H' ⟨B', yl⟩ => ss1 (sRet yl dB ret1)⟩
  have y8 := yl.put 9 (s := some (.int (i : Int))) (x := .any) trivial
  refine (show wSs _ _ _ (σ'.set 9 (some (.int (i : Int)))) H' from ?_)
  generalize σ'.set 9 (some (V.int (i : Int))) = σ8 at y8 ⊢
  clear yl
  refine ssC (sSet 10 y8 nd (dIxS (S := ViewP n r wh ss) (Sa := fun t => ∃ vs, t = .list vs ∧ vs.length = n ∧ ∀ x ∈ vs, ViewP n r wh ss x) (dIxS (v 7) (dCallD1 1 (ok_draw M.toMd) hr (aC (dAdd (v 5) dI) aN) ⟨r + 1, rfl, by omega, Nat.lt_of_lt_of_le (show r + 1 < 2 ^ 10 by omega) (by decide), rfl⟩) ?_) (dCallD1 1 (ok_draw M.toMd) hr (aC (v 2) aN) ⟨n, rfl, hn1, Nat.lt_of_lt_of_le (show n < 2 ^ 10 by omega) (by decide), rfl⟩) ?_) fun t B9 σ9 H9 hvw t9 y9 => ?_)
  · rintro _ _ rfl ⟨j, hj, rfl⟩
    have hjl : j < rows.length := by omega
    obtain ⟨vs, hvs1, hvs2, hvs3⟩ := hrows rows[j] (List.getElem_mem hjl)
    exact ⟨rows, j, rows[j], rfl, rfl, atI_nat (List.getElem?_eq_getElem hjl), vs, hvs1, hvs2, hvs3⟩
  · rintro _ _ ⟨vs, rfl, hvl, hvs3⟩ ⟨j, hj, rfl⟩
    have hjl : j < vs.length := by omega
    exact ⟨vs, j, vs[j], rfl, rfl, atI_nat (List.getElem?_eq_getElem hjl), hvs3 _ (List.getElem_mem hjl)⟩
  obtain ⟨vv, rfl, hwf, hrl4⟩ := hvw
  have hV : VOk n wh vv := ⟨⟨ss, hwf⟩, fun s hs => by
    have hs' := hwf.mem s hs
    have h2 := hss.wd s hs'
    obtain ⟨l, hl, hlamp⟩ := hss.lamp
    obtain ⟨k, hk⟩ := List.getElem?_of_mem hs'
    have h1 := hlamp k s hk
    refine ⟨?_, by omega⟩
    by_cases e : k = l
    · rw [if_pos e] at h1; omega
    · rw [if_neg e] at h1; omega, hn4, by omega⟩
  have hck := right_here hV hwf hss hm' tk
  obtain ⟨hw6, hlen⟩ := letter_wd hV tk
  have hL7 : BT 7 (.tuple [toldD m 1 ((1 + wd : Nat) : Int) (whS wh) ((1 + st : Nat) : Int), levelsD vv]) := BT.tup (n := 6) (by simp) (two_mem (hw6 _ (by simp)).bt (hw6 _ (by simp)).bt)
  have pp := letter_pp (m := m) (l := 1) (w := ((1 + wd : Nat) : Int)) (h := whS wh) (s := ((1 + st : Nat) : Int)) hV
  refine cWhen1 y9 (tNot' (dVal (k := true) (dCall1 (ok_right M Z Y DV DF W) hr (aC (dTup (aC (v 8) (aC (v 10) aN))) (aC (v 8) (aC (v 10) aN))) ⟨n, wh, vv, _, m, 1, _, _, _, rfl, tk, hV, pp, hck, hck, rfl⟩))) (fun hb => by cases hb) fun _ H10 t10 y10 => ?_
  refine cWhen1 y10 (tNot' (dVal (k := true) (dCall1 (ok_right M Z Y DV DF W) hr (aC (dCall1 (ok_lists M.toMd 7) hr (aC (dTup (aC (v 8) (aC (v 10) aN))) aN) ⟨_, rfl, hL7.wt, rfl⟩) (aC (v 8) (aC (v 10) aN))) ⟨n, wh, vv, _, m, 1, _, _, _, rfl, tk, hV, lk_pp ⟨7, rfl⟩ pp, (lk_parts ⟨7, rfl⟩).trans hck, hck, rfl⟩))) (fun hb => by cases hb) fun _ H11 t11 y11 => ?_
  refine ssC (sUnp2 11 12 y11 rfl nd (dCallD1 1 (ok_spoiled M) hr (aC (v 8) (aC (v 10) aN)) ⟨n, wh, vv, m, _, _, _, rfl, tk, hV, rfl⟩) (by rintro _ ⟨L, due, rfl, _⟩; exact ⟨_, _, rfl⟩) fun L due B12 σ12 H12 hS t12 y12 => ?_)
  obtain ⟨L', due', e1, sp⟩ := hS
  injection e1 with e1
  injection e1 with e1 e2
  injection e2 with e2 _
  subst e1 e2
  have due_self : PyData.eqv due due = true := SeqAt.eqv_refl _ (SeqAt.canLay_of_shaped sp.sh)
  have er_ok : ∀ er, chkParts L = .error er → ErOk er := fun er h => chkParts_er h
  refine ssC (sFor (t := .list [L, listsN 8 L]) (g := gName 13) y12.sl y12.ok (passes_of rfl) rfl (dLst (aC (v 11) (aC (dCall1 (S := (· = listsN 8 L)) (ok_lists M.toMd 8) hr (aC (v 11) aN) ⟨L, rfl, sp.bt.wt, rfl⟩) aN))) rfl (pg_name nd (by rfl) (by first | exact Or.inl rfl | exact Or.inr rfl)) fun w13 B13 H13 t13 o13 hd13 => ?_)
  refine ⟨fun i B' σ' H' => Sy K (some (a, c)) B H1 B' H' σ' [.dat (.list (xs.map .int)), .raw (.ref a), .dat (.int n), .dat (.int ((1 + wd : Nat) : Int)), .dat (.str (whS wh)), .dat (.int r), .dat (.list (ss.map startD)), .dat (.list rows), .dat (toldD m 1 ((1 + wd : Nat) : Int) (whS wh) ((1 + st : Nat) : Int)), .any, .dat (levelsD vv), .dat L, .dat due, .any], y12.on t13 o13, fun i B' σ' H' y3 => y3.same, ?_, ?_⟩
  · rintro i x wx B' σ' H' hx eB y14 hdx
    have hxx : pParts x ∧ refD (chkParts x) = due := by
      match i, hx with
      | 0, hx => cases hx; exact ⟨sp.pp, sp.ck⟩
      | 1, hx => cases hx; exact ⟨lk_pp ⟨8, rfl⟩ sp.pp, by rw [lk_parts ⟨8, rfl⟩]; exact sp.ck⟩
      | i + 2, hx => simp at hx
    have y15 := y14.put 13 (x := .dat x) ⟨_, rfl, hdx⟩
    refine (show wSs _ _ _ (σ'.set 13 (some wx)) H' from ?_)
    generalize σ'.set 13 (some wx) = σ15 at y15 ⊢
    refine ss1 (sIf1 y15 (k := false) (tTo (tNe (t := due) (u := due) hr (dCall1 (ok_refusal M Z Y DV DF) hr (aC (v 13) (aC dB aN)) ⟨x, false, due, rfl, .inl ⟨rfl, hxx.1, hxx.2.symm⟩, rfl⟩) (v 12) sp.sh sp.sh) (by rintro _ rfl; rw [due_self]; rfl)) (fun hb => by cases hb) fun _ H16 t16 y16 => ssN ⟨B', eB, y16.fo 13⟩)
  rintro B' σ' H' eB y16
  refine cWhen1 y16 (k := false) (tTo (tW (wAnd (k := isNon due) (l := false) (tIs (v 12) dN) (fun h => ?_))) (by rintro _ rfl; rw [Bool.and_false])) (fun hb => by cases hb) fun _ H17 t17 y17 => ?_
  · have hn : due = .none := by cases due <;> first | rfl | cases h
    obtain ⟨m2, l2, w2, h2, s2, rfl, tk2, hc2⟩ := sp.no hn
    exact wAnd1 (tTo (tNot' (dVal (k := true) (dCall1 (ok_right M Z Y DV DF W) hr (aC (v 11) (aC (dIx (v 11) dI) (aC (dIx (v 11) dI) aN))) ⟨n, wh, vv, _, m2, l2, w2, s2, h2, rfl, tk2, hV, sp.pp, hc2, hc2, rfl⟩))) (by rintro _ rfl; rfl))
  refine cWhen1 y17 (k := false) (tTo (tW (wAnd (k := [dueL "start", dueL "strength"].any fun z => PyData.eqv z due) (l := false) (tInT hr (v 12) (dTup (aC (dTup (aC dS (aC dS aN))) (aC (dTup (aC dS (aC dS aN))) aN))) sp.sh (by decide +kernel)) (fun h => ?_))) (by rintro _ rfl; rw [Bool.and_false])) (fun hb => by cases hb) fun _ H18 t18 y18 => ?_
  · have hd : due = dueL "start" ∨ due = dueL "strength" := by
      rw [List.any_cons, List.any_cons, List.any_nil, Bool.or_false, Bool.or_eq_true] at h
      rcases h with h | h
      · exact .inl (eqv_two h)
      · exact .inr (eqv_two h)
    obtain ⟨m2, l2, w2, h2, s2, rfl, tk2⟩ := sp.tx hd
    obtain ⟨q1, q2, q3⟩ := ref_text (tk2.wd.1.to 5) hV.wd.1 (Nat.le_trans tk2.wd.2 (by decide)) hV.wd.2 sp.pp sp.ck
    exact wAnd1 (tTo (tNe (t := due) (u := due) hr (dCall1 (ok_refusal M Z Y DV DF) hr (aC (dCall1 (ok_data M 7) hr (aC (v 11) aN) ⟨_, rfl, q2, q3, rfl⟩) (aC dB aN)) ⟨_, true, due, rfl, q1, rfl⟩) (v 12) sp.sh sp.sh) (by rintro _ rfl; rw [due_self]; rfl))
  refine cWhen1 y18 (k := false) (tTo (tW (wAnd (k := PyData.eqv due (.tuple [.str "facts", .str "hearing"])) (l := false) (tEq (t := due) (u := .tuple [.str "facts", .str "hearing"]) hr (v 12) (dTup (aC dS (aC dS aN))) sp.sh (by decide +kernel)) (fun h => ?_))) (by rintro _ rfl; rw [Bool.and_false])) (fun hb => by cases hb) fun _ H19 t19 y19 => ?_
  · have hd := due_hearing h
    subst hd
    obtain ⟨q1, q2, q3⟩ := ref_text (a := sumT) (c := levelsD vv) (due := codeD (facE "hearing")) (sumT_wd.1.to 5) hV.wd.1 sumT_wd.2 hV.wd.2 (fun a b e => by
      cases e
      exact ⟨fun a l w h s e => by cases e; rfl, hV.wd.1.sm4 (n := 2)⟩) rfl
    exact wAnd1 (tTo (tNe (t := codeD (facE "hearing")) (u := codeD (facE "hearing")) hr (dCall1 (ok_refusal M Z Y DV DF) hr (aC (dCall1 (ok_data M 7) hr (aC (dTup (aC (dTup (aC dI (aC dI (aC dI (aC dS (aC dI aN)))))) (aC (v 10) aN))) aN) ⟨_, rfl, q2, q3, rfl⟩) (aC dB aN)) ⟨_, true, _, rfl, q1, rfl⟩) (v 12) sp.sh sp.sh) (by rintro _ rfl; rw [due_self]; rfl))
  refine ss1 (sIf1 y19 (k := false) (tTo (tW (wAnd (k := PyData.eqv due (.tuple [.str "view", .str "levels", .int 0, .int 0])) (l := false) (tEq (t := due) (u := .tuple [.str "view", .str "levels", .int 0, .int 0]) hr (v 12) (dTup (aC dS (aC dS (aC dI (aC dI aN))))) sp.sh (by decide +kernel)) (fun h => ?_))) (by rintro _ rfl; rw [Bool.and_false])) (fun hb => by cases hb) fun _ H20 t20 y20 => ssN ⟨B', (((y20.fo 10).fo 11).fo 12).fo 13⟩)
  have hd := due_levels er_ok sp.ck h
  subst hd
  obtain ⟨q1, q2, q3⟩ := ref_text (a := toldD m 1 ((1 + wd : Nat) : Int) (whS wh) ((1 + st : Nat) : Int)) (c := .tuple []) (due := codeD (vwE "levels" 0 0)) (tk.wd.1.to 5) (wd_tup (n := 5) (by simp) (fun x hx => nomatch hx)) (Nat.le_trans tk.wd.2 (by decide)) (by rw [tx_tup]; decide) (fun a b e => by
    cases e
    exact ⟨told_pt, fun xs e => by cases e; exact ⟨by simp, fun x hx => nomatch hx⟩⟩) (by
    show refD (match chkTold (toldD m 1 ((1 + wd : Nat) : Int) (whS wh) ((1 + st : Nat) : Int)) with
      | .error e => _
      | .ok x => _) = _
    rw [tk.told]
    rfl)
  exact wAnd1 (tTo (tNe (t := codeD (vwE "levels" 0 0)) (u := codeD (vwE "levels" 0 0)) hr (dCall1 (ok_refusal M Z Y DV DF) hr (aC (dCall1 (ok_data M 7) hr (aC (dTup (aC (v 8) (aC (dTup aN) aN))) aN) ⟨_, rfl, q2, q3, rfl⟩) (aC dB aN)) ⟨_, true, _, rfl, q1, rfl⟩) (v 12) sp.sh sp.sh) (by rintro _ rfl; rw [due_self]; rfl))
end K20
set_option maxHeartbeats 4000000
/-! What the head's tests say. -/
namespace K20
open PySem PySem.Spec PyProof.Rows L2
open PySem.W (nsIn findIn typeIn keepIn subIn mroIn exmOne)
theorem oexB_ok {K : Fg} {C : Addr} (h : oexB K C = true) : OexC K C := by
  obtain ⟨h1, h⟩ := He.ba h
  obtain ⟨h2, h⟩ := He.ba h
  obtain ⟨h3, h⟩ := He.ba h
  obtain ⟨h4, h5⟩ := He.ba h
  refine ⟨?_, He.eqO_ok h2, of_decide_eq_true h3, of_decide_eq_true h4, h5⟩
  split at h1
  · rename_i t dd cd sl lk
    obtain ⟨g1, g2⟩ := He.ba h1
    split at g2
    · rename_i C' bm k0 k1 k2 k3 n k5 em es
      obtain ⟨q1, g2⟩ := He.ba g2
      obtain ⟨q2, g2⟩ := He.ba g2
      obtain ⟨q3, g2⟩ := He.ba g2
      obtain ⟨q4, q5⟩ := He.ba g2
      have e1 := of_decide_eq_true q1
      have e2 := of_decide_eq_true q2
      have e3 := of_decide_eq_true g1
      subst e1 e2 e3
      obtain ⟨a1, a2, a3, a4, a5, a6, a7, a8, a9, a10, a11⟩ := cd
      dsimp only at em q3 q4
      have q4' : a11 = false := by cases a11 <;> first | rfl | cases q4
      subst em q3 q4'
      have e4 : sl = #[k0, k1, k2, k3, some (.builtin "ValueError.__new__"), k5] := by
        obtain ⟨l⟩ := sl
        exact congrArg Array.mk es
      subst e4
      exact ⟨_, _, _, _, _, _, _, _, _, _, _, _, _, _, _, lk, q5⟩
    · cases g2
  · cases h1
theorem vqB_ok {K : Fg} {C : Addr} (h : vqB K C = true) : Vq K C := by
  obtain ⟨h1, h⟩ := He.ba h
  obtain ⟨h2, h⟩ := He.ba h
  obtain ⟨h3, h4⟩ := He.ba h
  exact ⟨He.eqO_ok h1, of_decide_eq_true h2, of_decide_eq_true h3, of_decide_eq_true h4⟩
end K20
set_option maxHeartbeats 4000000
/-! What the head gives. -/
namespace K20
open PySem PySem.Spec L2
open PyProof.Rows hiding St
section
variable {P : Program} {w : World} {K : Fg} {mg : Str → Option Value} {h base : Heap}
theorem SaysF.fa (c : SaysF h K) {f : He.Fa} (m : f ∈ faAll) : f.ok K = true := c.2.1.facts m
theorem mA {f : He.Fa} (m : f ∈ faA) : f ∈ faAll := List.mem_append_left _ m
theorem mB {f : He.Fa} (m : f ∈ faB) : f ∈ faAll := List.mem_append_right _ (List.mem_append_left _ m)
theorem mC {f : He.Fa} (m : f ∈ faC) : f ∈ faAll := List.mem_append_right _ (List.mem_append_right _ (List.mem_append_left _ m))
theorem mD {f : He.Fa} (m : f ∈ faD) : f ∈ faAll := List.mem_append_right _ (List.mem_append_right _ (List.mem_append_right _ (List.mem_append_left _ m)))
theorem mE {f : He.Fa} (m : f ∈ faE) : f ∈ faAll := List.mem_append_right _ (List.mem_append_right _ (List.mem_append_right _ (List.mem_append_right _ (List.mem_append_left _ m))))
theorem mF {f : He.Fa} (m : f ∈ faF) : f ∈ faAll := List.mem_append_right _ (List.mem_append_right _ (List.mem_append_right _ (List.mem_append_right _ (List.mem_append_right _ (List.mem_append_left _ m)))))
theorem mG {f : He.Fa} (m : f ∈ faG) : f ∈ faAll := List.mem_append_right _ (List.mem_append_right _ (List.mem_append_right _ (List.mem_append_right _ (List.mem_append_right _ (List.mem_append_right _ m)))))
/-- a name of the module's -/
theorem SaysF.glo (c : SaysF h K) (X : K.In h) (G : h.Ns mainGlobals mg) {x : Str} (m : (.glo x : He.Fa) ∈ faB) : mg x = some (.ref (He.ga K x)) := He.glo_ok X G (c.fa (mB m))
theorem SaysF.free (c : SaysF h K) (X : K.In h) (G : h.Ns mainGlobals mg) {x : Str} (m : x ∈ freeNames) : mg x = none := He.free_ok X G (c.fa (mC (List.mem_map.mpr ⟨x, m, rfl⟩)))
theorem SaysF.int (c : SaysF h K) (X : K.In h) (G : h.Ns mainGlobals mg) {x : Str} {i : Int} (k : Nat) (m : faD[k]? = some (.int x i)) : ∃ t, mg x = some (.int i t) := He.int_ok X G (c.fa (mD (List.mem_of_getElem? m)))
theorem SaysF.str (c : SaysF h K) (X : K.In h) (G : h.Ns mainGlobals mg) {x z : Str} (k : Nat) (m : faD[k]? = some (.str x z)) : ∃ t, mg x = some (.str z t) := He.str_ok X G (c.fa (mD (List.mem_of_getElem? m)))
theorem SaysF.df (c : SaysF h K) (X : K.In h) (G : h.Ns mainGlobals mg) {i : Nat} (m : i ∈ defNos) : Df K mg (nm i) (top i) [] := by
  obtain ⟨fd, F⟩ := c.2.1.defs (d := dFn i (nm i) []) (List.mem_append_left _ (List.mem_map.mpr ⟨i, m, rfl⟩))
  exact ⟨_, fd, F, He.glo_ok X G (c.fa (mA (List.mem_map.mpr ⟨i, m, rfl⟩)))⟩
theorem SaysF.me (c : SaysF h K) (X : K.In h) (G : h.Ns mainGlobals mg) : Me K mg := by
  obtain ⟨g, _⟩ := He.ba (show (He.eqO (PySem.W.nsIn K mainGlobals "gcd") (some (some (.builtin "math.gcd"))) && _) = true from c.2.2)
  obtain ⟨fw, Fw⟩ := c.2.1.defs (d := dFn 12 "is_whole" [.non, .non]) (List.mem_append_right _ (List.mem_append_left _ (List.mem_cons_self ..)))
  obtain ⟨ft, Ft⟩ := c.2.1.defs (d := dFn 22 "data_text" [.int 0]) (List.mem_append_right _ (List.mem_append_left _ (List.mem_cons_of_mem _ (List.mem_cons_self ..))))
  refine { len := c.free X G (by decide), isinstance := c.free X G (by decide), int := c.free X G (by decide), bool := c.free X G (by decide), list := c.free X G (by decide), tuple := c.free X G (by decide), str := c.free X G (by decide),
           range := c.free X G (by decide), sorted := c.free X G (by decide), enumerate := c.free X G (by decide), all := c.free X G (by decide), any := c.free X G (by decide), min := c.free X G (by decide), max := c.free X G (by decide),
           gcd := PySem.W.mg_of X G (He.eqO_ok g),
           cMOST_WORDS := c.int X G 0 rfl, cLONGEST_WORD := c.int X G 1 rfl, cMOST_FIGURES := c.int X G 2 rfl, cDEEPEST := c.int X G 3 rfl, cBEYOND := c.int X G 4 rfl, cMOST_HEADS := c.int X G 5 rfl, cMOST_STRETCH := c.int X G 6 rfl, cMOST_LEVELS := c.int X G 7 rfl, cMOST_NODES := c.int X G 8 rfl,
           letters := c.str X G 9 rfl, figures := c.str X G 10 rfl, df := fun i m => c.df X G m,
           whole := ⟨_, fw, Fw, c.glo X G (List.mem_map.mpr ⟨"is_whole", by decide, rfl⟩)⟩, text := ⟨_, ft, Ft, c.glo X G (List.mem_map.mpr ⟨"data_text", by decide, rfl⟩)⟩ }
/-- what more is told -/
theorem SaysF.ex (c : SaysF h K) : (∀ e ∈ excL, exOne K e.2.1 = true) ∧ (∀ x ∈ four, ∀ y ∈ four, PySem.W.exmOne K (.ref (He.ga K x)) (.ref (He.ga K y)) = some (decide (x = y))) ∧ PySem.W.exmOne K (.ref (He.ga K "BadStrength")) (.ref (He.ga K "BadStrength")) = some true ∧ Vq K (He.ga K "View") := by
  obtain ⟨_, q⟩ := He.ba (show (He.eqO (PySem.W.nsIn K mainGlobals "gcd") (some (some (.builtin "math.gcd"))) && _) = true from c.2.2)
  obtain ⟨q1, q⟩ := He.ba q
  obtain ⟨q2, q⟩ := He.ba q
  obtain ⟨q3, q4⟩ := He.ba q
  exact ⟨fun e m => List.all_eq_true.mp q1 e m, fun x mx y my => of_decide_eq_true (List.all_eq_true.mp (List.all_eq_true.mp q2 x mx) y my), of_decide_eq_true q3, vqB_ok q4⟩
theorem exOne_ok {x : Str} (q : exOne K x = true) : OexC K (He.ga K x) ∧ XfC K (He.ga K x) ∧ PySem.W.findIn K (.ref (He.ga K x)) "__init__" = some (some (.ref (He.ma K (He.ga K x) "__init__"))) ∧ PySem.W.typeIn K (.ref (He.ma K (He.ga K x) "__init__")) = some (.type "function") ∧ ∀ f ∈ fieldsOf x, PySem.W.findIn K (.ref (He.ga K x)) f = some none := by
  obtain ⟨q1, q⟩ := He.ba q
  obtain ⟨q2, q⟩ := He.ba q
  obtain ⟨q3, q⟩ := He.ba q
  obtain ⟨q4, q5⟩ := He.ba q
  exact ⟨oexB_ok q1, xfB_ok q2, He.eqO_ok q3, of_decide_eq_true q4, fun f m => He.eqO_ok (List.all_eq_true.mp q5 f m)⟩
theorem SaysF.xcl (c : SaysF h K) (X : K.In h) (G : h.Ns mainGlobals mg) {i : Nat} {x q : Str} (m : (i, x, q) ∈ excL) (mx : (.glo x : He.Fa) ∈ faB) : XCl K mg (He.ga K x) x q (mtop i 0) := by
  obtain ⟨a1, a2, a3, a4, a5⟩ := exOne_ok (c.ex.1 _ m)
  obtain ⟨fd, F⟩ := c.2.1.defs (d := dIni i x q []) (List.mem_append_right _ (List.mem_append_right _ (List.mem_append_left _ (List.mem_map.mpr ⟨_, m, rfl⟩))))
  exact ⟨c.glo X G mx, a1, a2, ⟨_, fd, a3, a4, F⟩, a5⟩
theorem glo_mem {x : Str} (m : x ∈ ([("is_whole" : Str), "data_text", "View", "Facts", "BadStrength", "BadFacts", "BadText", "BadView", "WrongLetter"])) : (.glo x : He.Fa) ∈ faB := List.mem_map.mpr ⟨x, m, rfl⟩
theorem scI1 : FnScope ["self", "what"] ["self", "what"] (defScope (mtop 4 0)) := ⟨rfl, rfl, rfl, by decide +kernel, rfl, by decide +kernel, by decide +kernel⟩
theorem scI2 : FnScope ["self", "what"] ["self", "what"] (defScope (mtop 5 0)) := ⟨rfl, rfl, rfl, by decide +kernel, rfl, by decide +kernel, by decide +kernel⟩
theorem scI3 : FnScope ["self", "place"] ["self", "place"] (defScope (mtop 7 0)) := ⟨rfl, rfl, rfl, by decide +kernel, rfl, by decide +kernel, by decide +kernel⟩
theorem scI4 : FnScope nV3 nV3 (defScope (mtop 8 0)) := ⟨rfl, rfl, rfl, by decide +kernel, rfl, by decide +kernel, by decide +kernel⟩
theorem scI5 : FnScope ["self", "what"] ["self", "what"] (defScope (mtop 9 0)) := ⟨rfl, rfl, rfl, by decide +kernel, rfl, by decide +kernel, by decide +kernel⟩
theorem SaysF.xs (c : SaysF h K) (X : K.In h) (G : h.Ns mainGlobals mg) : Xs P w K mg base (fun x => He.ga K x) := by
  obtain ⟨v1, v2⟩ := ini3 (P := P) (w := w) (base := base) (c.xcl X G (i := 8) (q := "BadView.__init__") (by decide) (glo_mem (by decide))) scI4 (by decide +kernel) (fun _ _ _ _ _ _ us hl => match us, hl with | [_, _, _, _], _ => rfl) rfl (fun _ => rfl) (fun _ => rfl) (fun _ => rfl)
  refine { str := ?_, fac := ?_, txt := ?_, vw := v1, let_ := ?_, vwH := v2, exStr := c.ex.2.2.1 }
  · exact ini1 (c.xcl X G (i := 4) (q := "BadStrength.__init__") (by decide) (glo_mem (by decide))) rfl scI1 (fun _ _ _ _ _ _ us hl => match us, hl with | [_, _], _ => rfl) rfl (by decide) (by decide) (by rfl) (by rfl) (fun _ => rfl)
  · exact ini1 (c.xcl X G (i := 5) (q := "BadFacts.__init__") (by decide) (glo_mem (by decide))) rfl scI2 (fun _ _ _ _ _ _ us hl => match us, hl with | [_, _], _ => rfl) rfl (by decide) (by decide) (by rfl) (by rfl) (fun _ => rfl)
  · exact ini1 (c.xcl X G (i := 7) (q := "BadText.__init__") (by decide) (glo_mem (by decide))) rfl scI3 (fun _ _ _ _ _ _ us hl => match us, hl with | [_, _], _ => rfl) rfl (by decide) (by decide) (by rfl) (by rfl) (fun _ => rfl)
  · exact ini1 (c.xcl X G (i := 9) (q := "WrongLetter.__init__") (by decide) (glo_mem (by decide))) rfl scI5 (fun _ _ _ _ _ _ us hl => match us, hl with | [_, _], _ => rfl) rfl (by decide) (by decide) (by rfl) (by rfl) (fun _ => rfl)
theorem SaysF.xw (c : SaysF h K) : Xw K (fun x => He.ga K x) := by
  have a : ∀ x ∈ four, exOne K x = true := fun x m => by
    simp only [four, List.mem_cons, List.not_mem_nil, or_false] at m
    rcases m with rfl | rfl | rfl | rfl
    · exact c.ex.1 (9, "WrongLetter", "WrongLetter.__init__") (by decide)
    · exact c.ex.1 (5, "BadFacts", "BadFacts.__init__") (by decide)
    · exact c.ex.1 (8, "BadView", "BadView.__init__") (by decide)
    · exact c.ex.1 (7, "BadText", "BadText.__init__") (by decide)
  exact ⟨c.ex.2.1, fun x m => (exOne_ok (a x m)).2.1, fun x m => (exOne_ok (a x m)).2.2.2.2⟩
theorem SaysF.vwD (c : SaysF h K) (X : K.In h) (G : h.Ns mainGlobals mg) : VwD K mg (He.ga K "View") := by
  obtain ⟨fd, F⟩ := c.2.1.defs (d := dIni 45 "View" "View.__init__" []) (List.mem_append_right _ (List.mem_append_right _ (List.mem_append_right _ (List.mem_cons_self ..))))
  exact ⟨c.glo X G (glo_mem (by decide)), He.cls_ok (c.fa (mE (List.mem_of_getElem? (i := 0) rfl))), fun f m => He.noat_ok (c.fa (mF (List.mem_map.mpr ⟨f, m, rfl⟩))), ⟨_, fd, He.mkr_ok (c.fa (mE (List.mem_of_getElem? (i := 1) rfl))), F⟩⟩
theorem SaysF.faD (c : SaysF h K) (X : K.In h) (G : h.Ns mainGlobals mg) : FaD K mg (He.ga K "Facts") := by
  obtain ⟨fd, F⟩ := c.2.1.defs (d := dIni 31 "Facts" "Facts.__init__" [.non, .int 1, .int 1, .str "sums", .int 1]) (List.mem_append_right _ (List.mem_append_right _ (List.mem_append_right _ (List.mem_cons_of_mem _ (List.mem_cons_self ..)))))
  exact ⟨c.glo X G (glo_mem (by decide)), He.cls_ok (c.fa (mE (List.mem_of_getElem? (i := 2) rfl))), fun f m => He.noat_ok (c.fa (mG (List.mem_map.mpr ⟨f, m, rfl⟩))), ⟨_, fd, He.mkr_ok (c.fa (mE (List.mem_of_getElem? (i := 3) rfl))), F⟩⟩
/-- ints, as data -/
theorem ints_data {B : Hp} : ∀ ns : List Int, DpAll K B (ns.map V.int) (ns.map PyData.int)
  | [] => .nil
  | n :: ns => .cons (.int n) (ints_data ns)
/-- the law's promise, kept -/
theorem sp_law {H : Hp} {a : Addr} {ns : List Int} (hS : SqL K H a (ns.map V.int)) : Fn K fLaw [.ref a] H (fun v _ => v = .bl true) fun _ _ _ => False := ⟨H, [.list (ns.map .int)], (· = .bool true), ⟨Same.refl H, fun _ _ e => nomatch e⟩, .cons (.lst hS (ints_data ns)) .nil, ⟨ns, rfl, rfl⟩, fun v t B' H' _ _ hd hs => by
  have hs' : t = .bool true := hs
  subst hs'
  exact hd.bl_inv⟩
theorem facts {fa : Addr} (X : K.In h) (G : h.Ns mainGlobals mg) (hfa : mg "law" = some (.ref fa)) (c : SaysF h K) :
    ∃ fd : FuncData, (∀ (s : Shared) (v : Value), BindsTo s fd ⟨[v], []⟩ [("_law_script", v)]) ∧ ∀ base : Heap, FnOk P w K mg base (L2.CX P w) 16 fa fd ["_law_script"] (Fn K fLaw) := by
  obtain ⟨f, fd, F, hm⟩ := (c.df X G (i := 84) (by decide)).ex
  have e := hfa.symm.trans hm
  cases e
  have b := FunD.bindsA (ps := ["_law_script"]) F fun _ _ _ _ _ _ us hl => match us, hl with | [_], _ => rfl
  exact ⟨fd, fun s v => b s [v] rfl, fun base => ok_law F (c.me X G) (c.xs X G) c.xw (c.vwD X G) (c.faD X G) c.ex.2.2.2⟩
/-- nothing is let out -/
theorem none_out {P : Program} {H : Hp} {s : Shared} {e : Value} {s' : Shared} (z : L2.CX P w [] H s (fun _ _ _ => False) e s') : False := by
  obtain ⟨_, _, _, _, _, _, _, _, _, _, _, _, z⟩ := z
  exact z
end
end K20
set_option maxHeartbeats 0
/-! The law. -/
open PySem PySem.W PySem.Calls PyProof.Rows
theorem PySem.Challenge.cw_headsheard_k20_whole_letters_checked_and_holds : PySem.Challenge.rw_headsheard_k20_whole_letters_checked_and.Holds := by
  w_on; o_law
  refine HandSHeadRun.head_imp (r := OpenLaw.row PySem.Challenge.rw_headsheard_k20_whole_letters_checked_and) (q := view K20.R.prog [0, 84]) (H := K20.hk) (ob := K20.ob) (M := 20000) (loose := K20.looseN) (d := HandSHeadRun.topDef (OpenLaw.row PySem.Challenge.rw_headsheard_k20_whole_letters_checked_and).prog 84) (kwd := []) K20.ob_eq K20.run
    (by kernel_rfl) (by kernel_rfl) (by kernel_rfl) (by rfl) (by first | assumption | decide +kernel) (by decide +kernel) ⟨rfl, rfl, rfl, rfl, rfl, by decide +kernel⟩ ?hw ?hc
  case hw => w_witness2
  case hc =>
    refine Att.attach_call (l := PySem.Challenge.rw_headsheard_k20_whole_letters_checked_and) (n := 63) rfl (by kernel_rfl) fun w s₀ s₁ mg mb fa o pm cd doc a vs ns G Y ho hd hcd hmg0 hobj hints hlen hg => ?_
    obtain ⟨K, c⟩ := Y
    have hmg : mg ("law" : PySem.Str) = some (.ref fa) := by
      have e : (HandSHeadRun.topDef (OpenLaw.row PySem.Challenge.rw_headsheard_k20_whole_letters_checked_and).prog 84).name = ("law" : PySem.Str) := by kernel_rfl
      rw [← e]
      exact hmg0
    obtain ⟨fd, hb, hF⟩ := K20.facts (P := (PySem.Challenge.rw_headsheard_k20_whole_letters_checked_and).prog) c.1 G.T.g hmg c
    exact L2.law_call c.1 G.T.g G.T.b G.T.builtins G.T.nolimit hg hobj hints (Nat.le_trans hlen (by decide)) ⟨rfl, by decide, by decide⟩ (fun base _ _ => hF base) hb (fun H _ hS => K20.sp_law hS) fun H e s' => K20.none_out
