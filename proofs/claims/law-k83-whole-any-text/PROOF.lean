import PyProof.Rows.All
import Wide.All
import OpenK.AllK
import Wide.FinOn
import KE.KStateDown
import HandS.ForMost
import HandS.ForExc
import HandS.Walk
import HandS.Steps
import HandS.Evl
import HandS.IsInst
import HandS.ExcIs
import HandS.ExcValue
import HandS.More
import HandS.Defaults
import HandS.Deep
import HandS.Wide
import HandS.CallRecv
import PyProof.ReprRoads
import PyProof.SeqIndex
import HandS.HeadHook1
import HandS.HeadHook3
import HandS.Head0
import HandS.Head1
import HandS.Head2
import HandS.HeadEnd
import HandS.HeadHook2
import HandS.HeadHook4
import PySem.Str
import KE.IntTextLaws
import KE.DataCmp
import HandS.RaiseMore
import PyProof.StrLawsRepr
import HandS.Ends
import PySem.Challenge.RW_rootring_k83_whole_any_text
set_option Elab.async false
set_option linter.all false
section
set_option maxRecDepth 100000
set_option maxHeartbeats 0
/-! The head: the run of the top, by facts. -/
namespace K83
open PySem PySem.Spec PyProof.Rows L2
def top (i : Nat) : Stmt := PySem.Challenge.pw_rootring_k83_whole_any_text.main.body.getD i (.Pass ⟨0, 0, 0, 0⟩)
/-- the refusal's class -/
abbrev cBad (K : PySem.W.Frag) : Addr := He.ga K "BadText"
def dF (x : Str) (i : Nat) : He.DefD := ⟨(x, none), x, x, defArgs (top i), defBody (top i), defScope (top i), [], []⟩
def dM (m : Str) (q : Str) (j : Nat) : He.DefD := ⟨("Reader", some m), m, q, defArgs (inClass (top 38) j), defBody (inClass (top 38) j), defScope (inClass (top 38) j), [], []⟩
def fnl : List He.DefD := [dF "need" 18, dF "is_name" 19, dF "is_number" 20, dF "run_of" 21, dF "word_at" 22, dF "words_of" 23, dF "grown" 27,
  dM "__init__" "Reader.__init__" 0, dM "next_word" "Reader.next_word" 1, dM "take" "Reader.take" 2, dM "number" "Reader.number" 3, dM "with_minus" "Reader.with_minus" 4, dM "opened" "Reader.opened" 5,
  dM "root" "Reader.root" 6, dM "minus" "Reader.minus" 7, dM "operand" "Reader.operand" 8, dM "power" "Reader.power" 9, dM "done_down_to" "Reader.done_down_to" 10, dM "closed" "Reader.closed" 11, dM "behind" "Reader.behind" 12, dM "all_items" "Reader.all_items" 13,
  dF "expression" 39] ++ [
  dF "_law_mixed" 41, dF "_law_folded" 42, dF "_law_draw" 43, dF "_law_begun" 44, dF "_law_name" 45, dF "_law_leaf" 46, dF "_law_tree" 47, dF "_law_level" 48, dF "_law_gap" 49, dF "_law_plain_text" 50, dF "_law_written" 51,
  dF "_law_words" 52, dF "_law_are_words" 53, dF "_law_number_at" 54, dF "_law_root_at" 55, dF "_law_items" 56, dF "_law_is_text" 57, dF "_law_powers" 58, dF "_law_minuses" 59, dF "_law_flat" 60, dF "_law_deep" 61, dF "_law_read" 62,
  dF "_law_bent" 63, dF "_law_told" 64, dF "_law_word" 65, dF "law" 66]
def gloNames : List Str := ["RootError", "ByNought", "BadPrime", "BadText", "TooGreat", "BadRow", "NotReal", "NoName", "NoRoot", "TOLD", "PLAIN", "TWO", "LEVELS", "BINARY", "ROOTS", "Reader",
  "need", "is_name", "is_number", "run_of", "word_at", "words_of", "grown", "expression"]
def gloNames2 : List Str := ["_law_mixed", "_law_folded", "_law_draw", "_law_begun", "_law_name", "_law_leaf", "_law_tree", "_law_level", "_law_gap", "_law_plain_text", "_law_written", "_law_words", "_law_are_words", "_law_number_at", "_law_root_at", "_law_items", "_law_is_text",
  "_law_powers", "_law_minuses", "_law_flat", "_law_deep", "_law_read", "_law_bent", "_law_told", "_law_word", "law"]
def freeNames : List Str := ["len", "range", "enumerate", "isinstance", "str", "int", "abs", "min", "max", "tuple", "list", "repr", "all", "ValueError"]
def methNames : List Str := ["__init__", "next_word", "take", "number", "with_minus", "opened", "root", "minus", "operand", "power", "done_down_to", "closed", "behind", "all_items"]
def fldNames : List Str := ["words", "at", "told", "waiting", "deep", "minuses", "is_base"]
def fal : List He.Fa := gloNames.map .glo ++ gloNames2.map .glo ++ freeNames.map .free ++
  [.str "LETTERS" "abcdefghijklmnopqrstuvwxyz", .str "FIGURES" "0123456789", .str "SIGNS" "+-*/^()[],", .int "MOST_WORDS" 200, .int "MOST_LETTERS" 8, .int "MOST_FIGURES" 30,
   .int "MOST_NESTED" 20, .int "MOST_MINUS" 20, .int "MOST_POWER" 8, .int "MOST_NUMBERS" 17, .int "MOST_PLACE" 16, .str "OPEN" "(", .cls "Reader", .mkr "Reader", .exc "BadText", .exm "BadText" "RootError" true] ++
  methNames.map (.meth "Reader") ++ fldNames.map (.noat "Reader")
def tsl : List He.Tab := [(fun K => He.ga K "LEVELS", ["plus", "less", "times", "over", "minus"]), (fun K => He.ga K "BINARY", ["+", "-", "*", "/"])]
def isB (K : PySem.W.Frag) (c : Value) (b : Bool) : Bool := decide (PySem.W.kitOne K (.ref (cBad K)) c = some b)
def excB (K : PySem.W.Frag) (D : Addr) : Bool := He.eqO (PySem.W.findIn K (.ref D) "__getattribute__") (some (some (.builtin "BaseException.__getattribute__"))) && (He.eqO (PySem.W.findIn K (.ref D) "__getattr__") (some none) && (decide (PySem.W.subIn K (.ref D) (.type "BaseException") = some true) &&
  (PySem.W.hasDictIn K D && (He.eqO (PySem.W.findIn K (.ref D) "__class__") (some (some (.builtin "object.__class__"))) && (He.eqO (PySem.W.specialIn K (.builtin "object.__class__") "__get__") (some (some (.builtin "getset_descriptor.__get__"))) &&
  (decide (PySem.W.takesIn K (.builtin "object.__class__") = some true) && decide (PySem.W.mroIn K D (.type "object") = some true)))))))
theorem excB_ok {K : PySem.W.Frag} {D : Addr} (h : excB K D = true) : ExcC K D := by
  obtain ⟨h1, h⟩ := He.ba h
  obtain ⟨h2, h⟩ := He.ba h
  obtain ⟨h3, h⟩ := He.ba h
  obtain ⟨h4, h⟩ := He.ba h
  obtain ⟨h5, h⟩ := He.ba h
  obtain ⟨h6, h⟩ := He.ba h
  obtain ⟨h7, h8⟩ := He.ba h
  exact ⟨He.eqO_ok h1, He.eqO_ok h2, of_decide_eq_true h3, h4, He.eqO_ok h5, He.eqO_ok h6, of_decide_eq_true h7, of_decide_eq_true h8⟩
def levD : List (Str × He.Dv) := [("plus", .int 1), ("less", .int 1), ("times", .int 2), ("over", .int 2), ("minus", .int 3)]
def binD : List (Str × He.Dv) := [("+", .str "plus"), ("-", .str "less"), ("*", .str "times"), ("/", .str "over")]
def kinds9 (K : PySem.W.Frag) : List (Value × Bool) := [(.ref (He.ga K "BadRow"), false), (.ref (He.ga K "ByNought"), false), (.ref (He.ga K "BadPrime"), false), (.ref (He.ga K "BadText"), true), (.ref (He.ga K "TooGreat"), false), (.ref (He.ga K "NotReal"), false),
  (.ref (He.ga K "NoName"), false), (.ref (He.ga K "NoRoot"), false), (.type "ValueError", true)]
def exl (K : PySem.W.Frag) : Bool :=
  He.tupB K "TOLD" [.str "root", .str "sqrt", .str "cbrt"] && (He.tupB K "PLAIN" [.str "number", .str "name", .str "root"] && (He.tupB K "TWO" [.str "plus", .str "less", .str "times", .str "over"] && (He.tupB K "ROOTS" [.str "sqrt", .str "cbrt"] &&
  (He.valsB K (He.ga K "LEVELS") levD && (He.valsB K (He.ga K "BINARY") binD && (excB K (cBad K) && (kinds9 K).all fun q => isB K q.1 q.2))))))
abbrev Rw : PySem.W.OpenRow := PySem.W.OpenLaw.row PySem.Challenge.rw_rootring_k83_whole_any_text
abbrev hk : PySem.W.Hook := He.hookX 4 fal fnl tsl [] exl
def ob (s : PySem.W.SharedT) : He.AlX := He.obsX 4 fal fnl tsl [] exl (HandSHeadRun.getT s)
theorem ob_eq (s : PySem.W.SharedT) : ob s = hk.obs s.abs := He.obsX_eq (HandSHeadRun.getT_eq s)
def loose0 : List PySem.Str := ["RootError", "ByNought", "BadPrime", "BadText", "TooGreat", "BadRow", "NotReal", "NoName", "NoRoot", "LETTERS", "FIGURES", "SIGNS", "MOST_WORDS", "MOST_LETTERS", "MOST_FIGURES", "TOLD", "need", "is_name", "is_number", "run_of"]
def loose1 : List PySem.Str := ["word_at", "words_of", "PLAIN", "TWO", "grown", "MOST_NESTED", "MOST_MINUS", "MOST_POWER", "MOST_NUMBERS", "MOST_PLACE", "LEVELS", "BINARY", "ROOTS", "OPEN", "Reader", "expression", "_law_mixed", "_law_folded", "_law_draw", "_law_begun"]
def loose2 : List PySem.Str := ["_law_name", "_law_leaf", "_law_tree", "_law_level", "_law_gap", "_law_plain_text", "_law_written", "_law_words", "_law_are_words", "_law_number_at", "_law_root_at", "_law_items", "_law_is_text", "_law_powers", "_law_minuses", "_law_flat", "_law_deep", "_law_read", "_law_bent", "_law_told"]
def loose3 : List PySem.Str := ["_law_word"]
def loose : List PySem.Str := loose0 ++ loose1 ++ loose2 ++ loose3
theorem headF (w : World) : HandSHeadRun.RunEq Rw (PySem.W.view Rw.prog [66]) hk ob 30000 loose (w.withFollow "special-get-raises" false) := by
  intro os
  kernel_rfl
theorem headT (w : World) : HandSHeadRun.RunEq Rw (PySem.W.view Rw.prog [66]) hk ob 30000 loose (w.withFollow "special-get-raises" true) := by
  intro os
  kernel_rfl
theorem headRun (w : World) : HandSHeadRun.RunEq Rw (PySem.W.view Rw.prog [66]) hk ob 30000 loose w :=
  PySem.W.byRow2 "special-get-raises" (P := fun w => HandSHeadRun.RunEq Rw (PySem.W.view Rw.prog [66]) hk ob 30000 loose w) headF headT w
end K83
end
section
set_option autoImplicit false
/-! The plain law, part 1: tokens, items, both readers over tokens, and that they agree. No program in sight. -/
namespace K83
open PySem

inductive Op where
  | plus | less | times | over
  deriving DecidableEq
inductive Rt where
  | sqrt | cbrt
  deriving DecidableEq
/-- told expressions -/
inductive Xp where
  | num (n : Nat)
  | name (w : Str)
  | root (row : List Int) (k : Nat)
  | bin (o : Op) (a b : Xp)
  | neg (a : Xp)
  | pow (a : Xp) (k : Int)
  | rt (m : Rt) (a : Xp)
/-- words by what they are -/
inductive Tok where
  | num (n : Nat) | name (w : Str) | root | rt (m : Rt) | op (o : Op) | hat | lp | rp | lb | rb | comma
  deriving DecidableEq
/-- the law's items -/
inductive Item where
  | txt (t : Tok) | fig (n : Nat) | base (e : Xp) | part (e : Xp)

/-! ### a row's root, the same for both -/
def numAt : List Tok → Option (Int × List Tok)
  | .op .less :: .num n :: r => some (-(n : Int), r)
  | .num n :: r => some ((n : Int), r)
  | _ => none
theorem numAt_len {ts r : List Tok} {n : Int} (h : numAt ts = some (n, r)) : r.length < ts.length := by
  unfold numAt at h
  split at h <;> simp_all
  · obtain ⟨_, rfl⟩ := h
    omega
def rowRest (acc : List Int) (ts : List Tok) : Option (List Int × List Tok) :=
  match ts with
  | .comma :: r =>
    match h : numAt r with
    | none => none
    | some (n, r') => rowRest (acc ++ [n]) r'
  | _ => some (acc, ts)
termination_by ts.length
decreasing_by
  have := numAt_len h
  simp only [List.length_cons]
  omega
theorem rowRest_len {acc row : List Int} {ts r : List Tok} (h : rowRest acc ts = some (row, r)) : r.length ≤ ts.length := by
  induction acc, ts using rowRest.induct with
  | case1 acc r0 h1 =>
    rw [rowRest] at h
    split at h <;> simp_all
  | case2 acc r0 n r' h1 ih =>
    rw [rowRest] at h
    split at h
    · simp_all
    · rename_i n2 r2 h2
      rw [h1] at h2
      simp only [Option.some.injEq, Prod.mk.injEq] at h2
      obtain ⟨rfl, rfl⟩ := h2
      have := ih h
      have := numAt_len h1
      simp only [List.length_cons]
      omega
  | case3 acc ts h1 =>
    rw [rowRest] at h
    · simp_all
    · exact h1
/-- behind the word root: the row, its place, the words behind -/
def rootAt (ts : List Tok) : Option ((List Int × Nat) × List Tok) :=
  match ts with
  | .lp :: .lb :: r =>
    match numAt r with
    | none => none
    | some (n, r1) =>
      match rowRest [n] r1 with
      | none => none
      | some (row, r2) =>
        if row.length ≤ 17 ∧ row.getLast? ≠ some 0 then
          match r2 with
          | .rb :: .comma :: .num k :: .rp :: r3 => if 1 ≤ k ∧ k ≤ 16 then some ((row, k), r3) else none
          | _ => none
        else none
  | _ => none
theorem rootAt_len {ts r : List Tok} {x : List Int × Nat} (h : rootAt ts = some (x, r)) : r.length < ts.length := by
  unfold rootAt at h
  split at h
  · rename_i r0
    split at h
    · cases h
    · rename_i n r1 h1
      split at h
      · cases h
      · rename_i row r2 h2
        split at h
        · split at h
          · split at h
            · have a := numAt_len h1
              have b := rowRest_len h2
              simp only [Option.some.injEq, Prod.mk.injEq] at h
              obtain ⟨_, rfl⟩ := h
              simp only [List.length_cons] at *
              omega
            · cases h
          · cases h
        · cases h
  · cases h

/-! ### the law's reader -/
def itemsF : Nat → List Tok → Option (List Item)
  | 0, _ => some []
  | f + 1, ts =>
    match ts with
    | [] => some []
    | .root :: r =>
      match rootAt r with
      | none => none
      | some (x, r') => (itemsF f r').map (.base (.root x.1 x.2) :: ·)
    | .num n :: r => (itemsF f r).map (.fig n :: ·)
    | .name w :: r => (itemsF f r).map (.base (.name w) :: ·)
    | t :: r => (itemsF f r).map (.txt t :: ·)
def items (ts : List Tok) : Option (List Item) := itemsF ts.length ts

def Item.isTxt : Item → Bool
  | .txt _ => true
  | _ => false
def Item.ex : Item → Xp
  | .txt _ => .num 0
  | .fig n => .num n
  | .base e => e
  | .part e => e
/-- may a power come behind it -/
def Item.isBase : Item → Bool
  | .fig _ => true
  | .base _ => true
  | _ => false

/-- acc: what was found, the last one ahead -/
def powers : List Item → List Item → Option (List Item)
  | [], acc => some acc.reverse
  | .txt .hat :: .txt (.op .less) :: .fig n :: r, a :: acc => if a.isBase ∧ n ≤ 8 then powers r (.part (.pow a.ex (-(n : Int))) :: acc) else none
  | .txt .hat :: .fig n :: r, a :: acc => if a.isBase ∧ n ≤ 8 then powers r (.part (.pow a.ex (n : Int)) :: acc) else none
  | .txt .hat :: _, _ => none
  | x :: r, acc => powers r (x :: acc)

/-- from behind: what is found, and how many - stand right ahead; prev: a text (or nothing) stands ahead -/
def minuses : Bool → List Item → Option (List Item × Nat)
  | _, [] => some ([], 0)
  | prev, x :: xs =>
    match minuses x.isTxt xs with
    | none => none
    | some (ys, m) =>
      match x, prev, ys with
      | .txt (.op .less), true, y :: r => if y.isTxt then none else if m + 1 > 20 then none else some (.part (.neg y.ex) :: r, m + 1)
      | _, _, _ => some (x :: ys, 0)

/-- parts and marks by turns -/
def alt : List Item → Option (Xp × List (Op × Xp))
  | [.fig n] => some (.num n, [])
  | [.base e] => some (e, [])
  | [.part e] => some (e, [])
  | x :: .txt (.op o) :: r =>
    if x.isTxt then none else
    match alt r with
    | none => none
    | some (e, l) => some (x.ex, (o, e) :: l)
  | _ => none

def Op.isSum : Op → Bool
  | .plus => true
  | .less => true
  | _ => false
/-- total so far, the mark ahead of the whole, the whole so far -/
def sums : Option (Xp × Op) → Xp → List (Op × Xp) → Xp
  | none, w, [] => w
  | some (t, m), w, [] => .bin m t w
  | st, w, (o, e) :: r =>
    if o.isSum then sums (some ((match st with | none => w | some (t, m) => .bin m t w), o)) e r
    else sums st (.bin o w e) r
def flat (is : List Item) : Option Xp :=
  match powers is [] with
  | none => none
  | some ps =>
    match minuses true ps with
    | none => none
    | some (ys, _) =>
      match alt ys with
      | none => none
      | some (e, l) => some (sums none e l)

/-! ### brackets -/
def deepF : List Item → Nat → Nat → Option Nat
  | [], now, most => if now = 0 then some most else none
  | .txt .lp :: r, now, most => deepF r (now + 1) (max most (now + 1))
  | .txt .rp :: r, now, most => if now = 0 then none else deepF r (now - 1) most
  | _ :: r, now, most => deepF r now most
/-- up to the first ): what stands ahead of the last ( there, between, behind; a?: what stood ahead of it, from behind, seg: since then, from behind -/
def cutF : Option (List Item) → List Item → List Item → Option (List Item × List Item × List Item)
  | _, _, [] => none
  | a?, seg, .txt .rp :: post => a?.map fun a => (a.reverse, seg.reverse, post)
  | none, seg, .txt .lp :: r => cutF (some seg) [] r
  | some a, seg, .txt .lp :: r => cutF (some (seg ++ .txt .lp :: a)) [] r
  | a?, seg, x :: r => cutF a? (x :: seg) r
def cut (is : List Item) : Option (List Item × List Item × List Item) := cutF none [] is
def readF : Nat → List Item → Option Xp
  | 0, _ => none
  | f + 1, is =>
    match cut is with
    | none => flat is
    | some (a, seg, post) =>
      match flat seg with
      | none => none
      | some e =>
        match a.reverse with
        | .txt (.rt m) :: a' => readF f (a'.reverse ++ .base (.rt m e) :: post)
        | _ => readF f (a ++ .base e :: post)
def lawRead (ts : List Tok) : Option Xp :=
  match items ts with
  | none => none
  | some is =>
    match deepF is 0 0 with
    | none => none
    | some d => if d ≤ 20 then readF (is.length + 1) is else none

/-! ### the program's reader -/
inductive Mark where
  | bin (o : Op) | neg | opn (m : Option Rt)
  deriving DecidableEq
inductive Ins where
  | leaf (e : Xp) | pow (k : Int) | mk (m : Mark)
def Op.lev (o : Op) : Nat := if o.isSum then 1 else 2
def Mark.level : Mark → Nat
  | .bin o => o.lev
  | .neg => 3
  | .opn _ => 0
structure RS where
  ts : List Tok
  told : List Ins
  /-- the last one ahead -/
  waiting : List Mark
  deep : Nat
  minuses : Nat
  isBase : Bool
def done (l : Nat) : List Mark → List Ins → List Mark × List Ins
  | [], t => ([], t)
  | m :: w, t => if l ≤ m.level then done l w (t ++ [.mk m]) else (m :: w, t)
/-- whether a base is whole then -/
def operand (s : RS) : Option (RS × Bool) :=
  match s.ts with
  | .op .less :: r => if s.minuses + 1 ≤ 20 then some ({ s with ts := r, minuses := s.minuses + 1, waiting := .neg :: s.waiting }, false) else none
  | .lp :: r => if s.deep + 1 ≤ 20 then some ({ s with ts := r, minuses := 0, deep := s.deep + 1, waiting := .opn none :: s.waiting }, false) else none
  | .num n :: r => some ({ s with ts := r, minuses := 0, told := s.told ++ [.leaf (.num n)] }, true)
  | .rt m :: .lp :: r => if s.deep + 1 ≤ 20 then some ({ s with ts := r, minuses := 0, deep := s.deep + 1, waiting := .opn (some m) :: s.waiting }, false) else none
  | .root :: r =>
    match rootAt r with
    | none => none
    | some (x, r') => some ({ s with ts := r', minuses := 0, told := s.told ++ [.leaf (.root x.1 x.2)] }, true)
  | .name w :: r => some ({ s with ts := r, minuses := 0, told := s.told ++ [.leaf (.name w)] }, true)
  | _ => none
def closeIns : Option Rt → List Ins
  | none => []
  | some m => [.mk (.opn (some m))]
/-- whether another part has to come -/
def behind (s : RS) : Option (RS × Bool) :=
  match s.ts with
  | .hat :: r =>
    if s.isBase then
      match numAt r with
      | none => none
      | some (k, r') => if k.natAbs ≤ 8 then some ({ s with ts := r', told := s.told ++ [.pow k], isBase := false }, false) else none
    else none
  | .rp :: r =>
    match (done 1 s.waiting s.told).1 with
    | .opn m :: w => some ({ s with ts := r, waiting := w, told := (done 1 s.waiting s.told).2 ++ closeIns m, deep := s.deep - 1, isBase := true }, false)
    | _ => none
  | .op o :: r => some ({ s with ts := r, waiting := .bin o :: (done o.lev s.waiting s.told).1, told := (done o.lev s.waiting s.told).2 }, true)
  | _ => none
def progF : Nat → Bool → RS → Option (List Ins)
  | 0, _, _ => none
  | f + 1, true, s =>
    match operand s with
    | none => none
    | some (s', b) => progF f (!b) { s' with isBase := b }
  | f + 1, false, s =>
    if s.ts = [] then
      match (done 1 s.waiting s.told).1 with
      | [] => some (done 1 s.waiting s.told).2
      | _ => none
    else
      match behind s with
      | none => none
      | some (s', b) => progF f b s'
def prog (ts : List Tok) : Option (List Ins) := progF (ts.length + 1) true ⟨ts, [], [], 0, 0, false⟩
/-- the last one ahead -/
def exec : List Ins → List Xp → Option (List Xp)
  | [], s => some s
  | .leaf e :: r, s => exec r (e :: s)
  | .pow k :: r, a :: s => exec r (.pow a k :: s)
  | .mk (.bin o) :: r, b :: a :: s => exec r (.bin o a b :: s)
  | .mk .neg :: r, a :: s => exec r (.neg a :: s)
  | .mk (.opn (some m)) :: r, a :: s => exec r (.rt m a :: s)
  | _, _ => none
end K83
end
section
set_option autoImplicit false
namespace K83
open PySem

/-! ### the machine over signs -/
inductive Sym where
  | atom (e : Xp) | pw (k : Int) | op (o : Op) | opn (m : Option Rt) | cls
inductive Mode where
  | want (m : Nat) | base | part
structure MS where
  mode : Mode
  W : List Mark
  V : List Xp
def Mode.free : Mode → Bool
  | .want _ => false
  | _ => true
def applyM : Mark → List Xp → List Xp
  | .bin o, b :: a :: s => .bin o a b :: s
  | .neg, a :: s => .neg a :: s
  | .opn (some m), a :: s => .rt m a :: s
  | _, s => s
def red (l : Nat) : List Mark → List Xp → List Mark × List Xp
  | [], V => ([], V)
  | m :: w, V => if l ≤ m.level then red l w (applyM m V) else (m :: w, V)
def step (lim : Option Nat) (S : MS) : Sym → Option MS
  | .atom e => match S.mode with | .want _ => some ⟨.base, S.W, e :: S.V⟩ | _ => none
  | .opn x => match S.mode with | .want _ => some ⟨.want 0, .opn x :: S.W, S.V⟩ | _ => none
  | .pw k => match S.mode, S.V with | .base, e :: V => some ⟨.part, S.W, .pow e k :: V⟩ | _, _ => none
  | .cls => if S.mode.free then
      match (red 1 S.W S.V).1 with
      | .opn x :: w => some ⟨.base, w, applyM (.opn x) (red 1 S.W S.V).2⟩
      | _ => none
      else none
  | .op o =>
      match S.mode with
      | .want m => if o = .less then (if m + 1 ≤ 20 then some ⟨.want (m + 1), .neg :: S.W, S.V⟩ else none) else none
      | _ => some ⟨.want 0, .bin o :: (red o.lev S.W S.V).1, (red o.lev S.W S.V).2⟩
def opens (W : List Mark) : Nat := (W.filter fun m => match m with | .opn _ => true | _ => false).length
/-- with the limit of brackets -/
def stepD (S : MS) (y : Sym) : Option MS :=
  match y with
  | .opn x => if opens S.W + 1 ≤ 20 then step none S (.opn x) else none
  | y => step none S y
def run (S : MS) : List Sym → Option MS
  | [] => some S
  | y :: r => (step none S y).bind fun S' => run S' r
def runD (S : MS) : List Sym → Option MS
  | [] => some S
  | y :: r => (stepD S y).bind fun S' => runD S' r
def endV (S : MS) : Option (List Mark × List Xp) := if S.mode.free then some (red 1 S.W S.V) else none
def fin (S : MS) : Option Xp :=
  match endV S with
  | some ([], e :: _) => some e
  | _ => none
def S0 : MS := ⟨.want 0, [], []⟩
theorem run_append (S : MS) (a b : List Sym) : run S (a ++ b) = (run S a).bind fun S' => run S' b := by
  induction a generalizing S with
  | nil => rfl
  | cons y r ih =>
    show (step none S y).bind (fun S' => run S' (r ++ b)) = ((step none S y).bind fun S' => run S' r).bind fun S' => run S' b
    cases step none S y with
    | none => rfl
    | some S' => exact ih S'

def syms : List Item → Option (List Sym)
  | [] => some []
  | .txt .hat :: .txt (.op .less) :: .fig n :: r => if n ≤ 8 then (syms r).map (.pw (-(n : Int)) :: ·) else none
  | .txt .hat :: .fig n :: r => if n ≤ 8 then (syms r).map (.pw (n : Int) :: ·) else none
  | .txt (.rt m) :: .txt .lp :: r => (syms r).map (.opn (some m) :: ·)
  | .txt .lp :: r => (syms r).map (.opn none :: ·)
  | .txt .rp :: r => (syms r).map (.cls :: ·)
  | .txt (.op o) :: r => (syms r).map (.op o :: ·)
  | .txt _ :: _ => none
  | x :: r => (syms r).map (.atom x.ex :: ·)

theorem syms_rt (m : Rt) (r : List Item) (h : ∀ r', r ≠ .txt .lp :: r') : syms (.txt (.rt m) :: r) = none := by
  cases r with
  | nil => rfl
  | cons y r =>
    cases y with
    | txt t => cases t <;> first | rfl | exact (h _ rfl).elim
    | _ => rfl

/-! ### without brackets: powers -/
def step2 (S : MS) : Item → Option MS
  | .txt (.op o) => step none S (.op o)
  | .txt _ => none
  | .part e => (step none S (.atom e)).map fun S' => { S' with mode := .part }
  | .fig n => step none S (.atom (.num n))
  | .base e => step none S (.atom e)
def run2 (S : MS) : List Item → Option MS
  | [] => some S
  | y :: r => (step2 S y).bind fun S' => run2 S' r
theorem run2_append (S : MS) (a b : List Item) : run2 S (a ++ b) = (run2 S a).bind fun S' => run2 S' b := by
  induction a generalizing S with
  | nil => rfl
  | cons y r ih =>
    show (step2 S y).bind (fun S' => run2 S' (r ++ b)) = ((step2 S y).bind fun S' => run2 S' r).bind fun S' => run2 S' b
    cases step2 S y with
    | none => rfl
    | some S' => exact ih S'
def Item.brk : Item → Bool
  | .txt .lp => true
  | .txt .rp => true
  | .part _ => true
  | _ => false
theorem run2_snoc (S : MS) (acc : List Item) (x : Item) : run2 S (x :: acc).reverse = (run2 S acc.reverse).bind fun T => step2 T x := by
  rw [List.reverse_cons, run2_append]
  congr 1
  funext T
  show (step2 T x).bind (fun S' => some S') = step2 T x
  cases step2 T x <;> rfl
/-- the powers' reading of a run without brackets is the machine's -/
theorem powers_run (S : MS) (hS : S.mode.free = false) : ∀ (seg acc : List Item), (∀ x ∈ seg, x.brk = false) →
    ((syms seg).bind fun ss => (run2 S acc.reverse).bind fun T => run T ss) = (powers seg acc).bind fun ps => run2 S ps := by
  intro seg acc
  induction seg, acc using powers.induct with
  | case1 acc =>
    intro _
    rw [syms, powers]
    show ((run2 S acc.reverse).bind fun T => some T) = run2 S acc.reverse
    cases run2 S acc.reverse <;> rfl
  | case2 n r a acc h ih =>
    intro hb
    rw [syms, powers, if_pos h, if_pos h.2, ← ih (fun x hx => hb x (by simp [hx]))]
    rw [run2_snoc, run2_snoc]
    cases hs : syms r with
    | none => rfl
    | some ss =>
      show (((run2 S acc.reverse).bind fun T => step2 T a).bind fun T => run T (.pw (-(n : Int)) :: ss)) = ((run2 S acc.reverse).bind fun T => step2 T (.part (.pow a.ex (-(n : Int))))).bind fun T => run T ss
      cases run2 S acc.reverse with
      | none => rfl
      | some T =>
        show ((step2 T a).bind fun T => run T (.pw (-(n : Int)) :: ss)) = (step2 T (.part (.pow a.ex (-(n : Int))))).bind fun T => run T ss
        obtain ⟨mo, W, V⟩ := T
        cases a <;> simp [Item.isBase] at h <;> cases mo <;> rfl
  | case3 n r a acc h =>
    intro hb
    rw [syms, powers, if_neg h]
    split
    · rename_i hn
      rw [run2_snoc]
      have ha : a.isBase = false := by
        cases e : a.isBase with
        | false => rfl
        | true => exact absurd ⟨e, hn⟩ h
      cases hs : syms r with
      | none => rfl
      | some ss =>
        show (((run2 S acc.reverse).bind fun T => step2 T a).bind fun T => run T (.pw (-(n : Int)) :: ss)) = none
        cases run2 S acc.reverse with
        | none => rfl
        | some T =>
          show ((step2 T a).bind fun T => run T (.pw (-(n : Int)) :: ss)) = none
          obtain ⟨mo, W, V⟩ := T
          cases a with
          | fig n => simp [Item.isBase] at ha
          | base n => simp [Item.isBase] at ha
          | part e => cases mo <;> rfl
          | txt t =>
            cases t with
            | op o =>
              cases mo with
              | want m =>
                show ((if o = Op.less then (if m + 1 ≤ 20 then some (⟨.want (m + 1), .neg :: W, V⟩ : MS) else none) else none) : Option MS).bind _ = none
                split
                · split <;> rfl
                · rfl
              | base => rfl
              | part => rfl
            | _ => rfl
    · rfl
  | case4 n r a acc h ih =>
    intro hb
    rw [syms, powers, if_pos h, if_pos h.2, ← ih (fun x hx => hb x (by simp [hx]))]
    rw [run2_snoc, run2_snoc]
    cases hs : syms r with
    | none => rfl
    | some ss =>
      show (((run2 S acc.reverse).bind fun T => step2 T a).bind fun T => run T (.pw (n : Int) :: ss)) = ((run2 S acc.reverse).bind fun T => step2 T (.part (.pow a.ex (n : Int)))).bind fun T => run T ss
      cases run2 S acc.reverse with
      | none => rfl
      | some T =>
        show ((step2 T a).bind fun T => run T (.pw (n : Int) :: ss)) = (step2 T (.part (.pow a.ex (n : Int)))).bind fun T => run T ss
        obtain ⟨mo, W, V⟩ := T
        cases a <;> simp [Item.isBase] at h <;> cases mo <;> rfl
  | case5 n r a acc h =>
    intro hb
    rw [syms, powers, if_neg h]
    split
    · rename_i hn
      rw [run2_snoc]
      have ha : a.isBase = false := by
        cases e : a.isBase with
        | false => rfl
        | true => exact absurd ⟨e, hn⟩ h
      cases hs : syms r with
      | none => rfl
      | some ss =>
        show (((run2 S acc.reverse).bind fun T => step2 T a).bind fun T => run T (.pw (n : Int) :: ss)) = none
        cases run2 S acc.reverse with
        | none => rfl
        | some T =>
          show ((step2 T a).bind fun T => run T (.pw (n : Int) :: ss)) = none
          obtain ⟨mo, W, V⟩ := T
          cases a with
          | fig n => simp [Item.isBase] at ha
          | base n => simp [Item.isBase] at ha
          | part e => cases mo <;> rfl
          | txt t =>
            cases t with
            | op o =>
              cases mo with
              | want m =>
                show ((if o = Op.less then (if m + 1 ≤ 20 then some (⟨.want (m + 1), .neg :: W, V⟩ : MS) else none) else none) : Option MS).bind _ = none
                split
                · split <;> rfl
                · rfl
              | base => rfl
              | part => rfl
            | _ => rfl
    · rfl
  | case6 r acc h1 h2 =>
    intro hb
    have hp : powers (.txt .hat :: r) acc = none := by
      rw [powers]
      · exact fun n r a acc e1 e2 => h1 n r a acc e1 e2
      · exact fun n r a acc e1 e2 => h2 n r a acc e1 e2
    rw [hp]
    have hw : ∀ (k : Int) (ss : List Sym), acc = [] → ((run2 S acc.reverse).bind fun T => run T (.pw k :: ss)) = none := by
      rintro k ss rfl
      show run S (.pw k :: ss) = none
      obtain ⟨mo, W, V⟩ := S
      cases mo with
      | want m => rfl
      | base => cases hS
      | part => cases hS
    show _ = none
    unfold syms
    split
    · rename_i heq
      cases heq
    · rename_i heq
      obtain ⟨_, rfl⟩ := List.cons.inj heq
      cases acc with
      | cons a acc => exact (h1 _ _ _ _ rfl rfl).elim
      | nil =>
        split
        · rename_i n r0 _ _
          cases syms r0 with
          | none => rfl
          | some ss => exact hw _ ss rfl
        · rfl
    · rename_i heq
      obtain ⟨_, rfl⟩ := List.cons.inj heq
      cases acc with
      | cons a acc => exact (h2 _ _ _ _ rfl rfl).elim
      | nil =>
        split
        · rename_i n r0 _ _
          cases syms r0 with
          | none => rfl
          | some ss => exact hw _ ss rfl
        · rfl
    · rename_i heq
      cases heq
    · rename_i heq
      cases heq
    · rename_i heq
      cases heq
    · rename_i heq
      cases heq
    · rfl
    · rename_i h heq
      obtain ⟨e, _⟩ := List.cons.inj heq
      exact (h _ e.symm).elim
  | case7 x r acc h1 h2 h3 ih =>
    intro hb
    have hp : powers (x :: r) acc = powers r (x :: acc) := by
      rw [powers]
      · exact h3
      · exact fun n r a acc e1 e2 e3 => h1 n r a acc e1 e2 e3
      · exact fun n r a acc e1 e2 e3 => h2 n r a acc e1 e2 e3
    rw [hp, ← ih (fun y hy => hb y (List.mem_cons_of_mem _ hy)), run2_snoc]
    have go : ∀ (y : Sym), (∀ T, step2 T x = step none T y) → (((syms r).map (y :: ·)).bind fun ss => (run2 S acc.reverse).bind fun T => run T ss) = (syms r).bind fun ss => ((run2 S acc.reverse).bind fun T => step2 T x).bind fun T => run T ss := by
      intro y hy
      cases syms r with
      | none => rfl
      | some ss =>
        show ((run2 S acc.reverse).bind fun T => run T (y :: ss)) = ((run2 S acc.reverse).bind fun T => step2 T x).bind fun T => run T ss
        cases run2 S acc.reverse with
        | none => rfl
        | some T =>
          show (step none T y).bind _ = (step2 T x).bind _
          rw [hy]
    have bad : (∀ T, step2 T x = none) → (none : Option MS) = (syms r).bind fun ss => ((run2 S acc.reverse).bind fun T => step2 T x).bind fun T => run T ss := by
      intro hn
      cases syms r with
      | none => rfl
      | some ss =>
        show none = ((run2 S acc.reverse).bind fun T => step2 T x).bind fun T => run T ss
        cases run2 S acc.reverse with
        | none => rfl
        | some T =>
          show none = (step2 T x).bind _
          rw [hn]
          rfl
    have hx : x.brk = false := hb x (List.mem_cons_self ..)
    cases x with
    | fig n => exact go (.atom (.num n)) fun T => rfl
    | base e => exact go (.atom e) fun T => rfl
    | part e => cases hx
    | txt t =>
      cases t with
      | op o => exact go (.op o) fun T => rfl
      | hat => exact (h3 rfl).elim
      | lp => cases hx
      | rp => cases hx
      | rt m =>
        have e : syms (.txt (.rt m) :: r) = none := syms_rt m r fun r' e => by
          subst e
          cases hb (.txt .lp) (by simp)
        rw [e]
        exact bad fun T => rfl
      | _ => exact bad fun T => rfl

/-! ### minuses, sums -/
def parts : List Item → Option (Xp × List (Op × Xp) × Nat)
  | .txt (.op .less) :: r =>
    match parts r with
    | none => none
    | some (e, l, c) => if c < 20 then some (.neg e, l, c + 1) else none
  | [x] => if x.isTxt then none else some (x.ex, [], 0)
  | x :: .txt (.op o) :: r =>
    if x.isTxt then none else
    match parts r with
    | none => none
    | some (e, l, _) => some (x.ex, (o, e) :: l, 0)
  | _ => none
def toEnd (W : List Mark) (V : List Xp) (e : Xp) : List (Op × Xp) → List Mark × List Xp
  | [] => red 1 W (e :: V)
  | (o, e') :: r => toEnd (.bin o :: (red o.lev W (e :: V)).1) (red o.lev W (e :: V)).2 e' r
theorem lev_pos (o : Op) : 1 ≤ o.lev ∧ o.lev ≤ 2 := by cases o <;> decide
theorem toEnd_neg (W : List Mark) (V : List Xp) (e : Xp) (l : List (Op × Xp)) : toEnd (.neg :: W) V e l = toEnd W V (.neg e) l := by
  cases l with
  | nil => rfl
  | cons p r =>
    have := lev_pos p.1
    have h : red p.1.lev (.neg :: W) (e :: V) = red p.1.lev W (.neg e :: V) := by
      rw [red, if_pos (show p.1.lev ≤ Mark.neg.level from (by show p.1.lev ≤ 3; omega))]
      rfl
    obtain ⟨o, e'⟩ := p
    rw [toEnd, toEnd, h]
theorem atom_step2 (x : Item) (hx : x.isTxt = false) (m : Nat) (W : List Mark) (V : List Xp) : ∃ mo : Mode, mo.free = true ∧ step2 ⟨.want m, W, V⟩ x = some ⟨mo, W, x.ex :: V⟩ := by
  cases x with
  | txt t => cases hx
  | fig n => exact ⟨.base, rfl, rfl⟩
  | base e => exact ⟨.base, rfl, rfl⟩
  | part e => exact ⟨.part, rfl, rfl⟩
theorem free_step2 (x : Item) (mo : Mode) (hm : mo.free = true) (W : List Mark) (V : List Xp) : step2 ⟨mo, W, V⟩ x = match x with
    | .txt (.op o) => some ⟨.want 0, .bin o :: (red o.lev W V).1, (red o.lev W V).2⟩
    | _ => none := by
  cases mo with
  | want m => cases hm
  | base => cases x with
    | txt t => cases t <;> rfl
    | _ => rfl
  | part => cases x with
    | txt t => cases t <;> rfl
    | _ => rfl
theorem want_txt (x : Item) (hx : x.isTxt = true) (hn : x = .txt (.op .less) → False) (m : Nat) (W : List Mark) (V : List Xp) : step2 ⟨.want m, W, V⟩ x = none := by
  cases x with
  | txt t =>
    cases t with
    | op o =>
      cases o with
      | less => exact (hn rfl).elim
      | _ => rfl
    | _ => rfl
  | _ => cases hx
theorem parts_le : ∀ {xs : List Item} {e : Xp} {l : List (Op × Xp)} {c : Nat}, parts xs = some (e, l, c) → c ≤ 20 := by
  intro xs e l c h
  unfold parts at h
  split at h
  · split at h
    · cases h
    · split at h
      · simp only [Option.some.injEq, Prod.mk.injEq] at h
        omega
      · cases h
  · split at h
    · cases h
    · simp only [Option.some.injEq, Prod.mk.injEq] at h
      omega
  · split at h
    · cases h
    · split at h
      · cases h
      · simp only [Option.some.injEq, Prod.mk.injEq] at h
        omega
  · cases h
theorem run2_parts : ∀ (xs : List Item) (m : Nat) (W : List Mark) (V : List Xp), m ≤ 20 →
    ((run2 ⟨.want m, W, V⟩ xs).bind endV) = match parts xs with
      | none => none
      | some (e, l, c) => if m + c ≤ 20 then some (toEnd W V e l) else none := by
  intro xs
  induction xs using parts.induct with
  | case1 r h ih =>
    intro m W V hm
    rw [parts, h]
    show ((if m + 1 ≤ 20 then some (⟨.want (m + 1), .neg :: W, V⟩ : MS) else none).bind fun S' => run2 S' r).bind endV = none
    split
    · rename_i h1
      have := ih (m + 1) (.neg :: W) V h1
      rw [h] at this
      exact this
    · rfl
  | case2 r e l c h hc ih =>
    intro m W V hm
    rw [parts, h]
    simp only
    rw [if_pos hc]
    simp only
    show ((if m + 1 ≤ 20 then some (⟨.want (m + 1), .neg :: W, V⟩ : MS) else none).bind fun S' => run2 S' r).bind endV = _
    by_cases h1 : m + 1 ≤ 20
    · rw [if_pos h1]
      have := ih (m + 1) (.neg :: W) V h1
      rw [h] at this
      simp only at this
      show (run2 ⟨.want (m + 1), .neg :: W, V⟩ r).bind endV = _
      rw [this, toEnd_neg]
      have e1 : m + 1 + c = m + (c + 1) := by omega
      rw [e1]
    · rw [if_neg h1, if_neg (by omega)]
      rfl
  | case3 r e l c h hc ih =>
    intro m W V hm
    rw [parts, h]
    simp only
    rw [if_neg hc]
    show ((if m + 1 ≤ 20 then some (⟨.want (m + 1), .neg :: W, V⟩ : MS) else none).bind fun S' => run2 S' r).bind endV = none
    split
    · rename_i h1
      have := ih (m + 1) (.neg :: W) V h1
      rw [h] at this
      simp only at this
      rw [if_neg (by omega)] at this
      exact this
    · rfl
  | case4 x hn hx =>
    intro m W V hm
    rw [parts, if_pos hx]
    · show ((step2 _ x).bind _).bind _ = none
      rw [want_txt x hx hn]
      rfl
    · exact hn
  | case5 x hn hx =>
    intro m W V hm
    rw [parts, if_neg hx]
    · simp only
      obtain ⟨mo, h1, h2⟩ := atom_step2 x (by simpa using hx) m W V
      show ((step2 _ x).bind fun S' => some S').bind _ = _
      rw [h2, if_pos (show m + 0 ≤ 20 from hm)]
      show endV ⟨mo, W, x.ex :: V⟩ = _
      unfold endV
      rw [if_pos h1]
      rfl
    · exact hn
  | case6 x o r hn hx =>
    intro m W V hm
    rw [parts, if_pos hx]
    · show ((step2 _ x).bind _).bind _ = none
      rw [want_txt x hx hn]
      rfl
    · exact hn
  | case7 x o r hn hx h ih =>
    intro m W V hm
    rw [parts, if_neg hx, h]
    · obtain ⟨mo, h1, h2⟩ := atom_step2 x (by simpa using hx) m W V
      show ((step2 _ x).bind fun S' => (step2 S' (.txt (.op o))).bind fun S' => run2 S' r).bind _ = none
      rw [h2]
      show ((step2 ⟨mo, W, x.ex :: V⟩ (.txt (.op o))).bind fun S' => run2 S' r).bind _ = none
      rw [free_step2 _ _ h1]
      have := ih 0 (.bin o :: (red o.lev W (x.ex :: V)).1) (red o.lev W (x.ex :: V)).2 (by omega)
      rw [h] at this
      exact this
    · exact hn
  | case8 x o r hn hx e l c h ih =>
    intro m W V hm
    rw [parts, if_neg hx, h]
    · obtain ⟨mo, h1, h2⟩ := atom_step2 x (by simpa using hx) m W V
      show ((step2 _ x).bind fun S' => (step2 S' (.txt (.op o))).bind fun S' => run2 S' r).bind _ = _
      rw [h2]
      show ((step2 ⟨mo, W, x.ex :: V⟩ (.txt (.op o))).bind fun S' => run2 S' r).bind _ = _
      rw [free_step2 _ _ h1]
      have hc : c ≤ 20 := parts_le h
      have := ih 0 (.bin o :: (red o.lev W (x.ex :: V)).1) (red o.lev W (x.ex :: V)).2 (by omega)
      rw [h] at this
      simp only at this
      rw [if_pos (by omega)] at this
      simp only
      rw [if_pos (show m + 0 ≤ 20 from hm), toEnd]
      exact this
    · exact hn
  | case9 t h1 h2 h3 =>
    intro m W V hm
    have hp : parts t = none := by
      rw [parts]
      · exact h1
      · exact h2
      · exact h3
    rw [hp]
    cases t with
    | nil => rfl
    | cons x r =>
      show ((step2 _ x).bind fun S' => run2 S' r).bind _ = none
      cases hx : x.isTxt with
      | true =>
        rw [want_txt x hx fun e => h1 r (by rw [e])]
        rfl
      | false =>
        obtain ⟨mo, q1, q2⟩ := atom_step2 x hx m W V
        rw [q2]
        cases r with
        | nil => exact (h2 x rfl).elim
        | cons y r =>
          show ((step2 ⟨mo, W, x.ex :: V⟩ y).bind fun S' => run2 S' r).bind _ = none
          rw [free_step2 _ _ q1]
          cases y with
          | txt t =>
            cases t with
            | op o => exact (h3 x o r rfl).elim
            | _ => rfl
          | _ => rfl

/-! sums -/
def stops (W : List Mark) : Prop := ∀ l V, 1 ≤ l → red l W V = (W, V)
theorem stops_nil : stops [] := fun l V _ => rfl
theorem stops_opn (x : Option Rt) (W : List Mark) : stops (.opn x :: W) := fun l V h => by
  rw [red, if_neg (by show ¬ l ≤ 0; omega)]
/-- what waits for the next part -/
theorem toEnd_sums {W : List Mark} (hW : stops W) (V : List Xp) : ∀ (l : List (Op × Xp)) (e : Xp),
    toEnd W V e l = (W, sums none e l :: V) ∧
    (∀ t m, m.isSum = true → toEnd (.bin m :: W) (t :: V) e l = (W, sums (some (t, m)) e l :: V)) ∧
    (∀ o w, o.isSum = false → toEnd (.bin o :: W) (w :: V) e l = (W, sums none (.bin o w e) l :: V)) ∧
    (∀ o w t m, o.isSum = false → m.isSum = true → toEnd (.bin o :: .bin m :: W) (w :: t :: V) e l = (W, sums (some (t, m)) (.bin o w e) l :: V)) := by
  intro l
  induction l with
  | nil =>
    intro e
    refine ⟨?_, ?_, ?_, ?_⟩
    · rw [toEnd, hW _ _ (Nat.le_refl 1)]
      rfl
    · intro t m hm
      rw [toEnd, red, if_pos (show 1 ≤ (Mark.bin m).level from (lev_pos m).1)]
      show red 1 W (.bin m t e :: V) = _
      rw [hW _ _ (Nat.le_refl 1)]
      rfl
    · intro o w ho
      rw [toEnd, red, if_pos (show 1 ≤ (Mark.bin o).level from (lev_pos o).1)]
      show red 1 W (.bin o w e :: V) = _
      rw [hW _ _ (Nat.le_refl 1)]
      rfl
    · intro o w t m ho hm
      rw [toEnd, red, if_pos (show 1 ≤ (Mark.bin o).level from (lev_pos o).1)]
      show red 1 (.bin m :: W) (.bin o w e :: t :: V) = _
      rw [red, if_pos (show 1 ≤ (Mark.bin m).level from (lev_pos m).1)]
      show red 1 W (.bin m t (.bin o w e) :: V) = _
      rw [hW _ _ (Nat.le_refl 1)]
      rfl
  | cons p r ih =>
    obtain ⟨q, e'⟩ := p
    intro e
    obtain ⟨i1, i2, i3, i4⟩ := ih e'
    have hq := lev_pos q
    cases hs : q.isSum with
    | true =>
      have hl : q.lev = 1 := by unfold Op.lev; rw [hs] <;> rfl
      refine ⟨?_, ?_, ?_, ?_⟩
      · rw [toEnd, hW _ _ hq.1, sums, if_pos hs]
        exact i2 e q hs
      · intro t m hm
        rw [toEnd, hl, red, if_pos (show 1 ≤ (Mark.bin m).level from (lev_pos m).1)]
        show toEnd (.bin q :: (red 1 W (.bin m t e :: V)).1) (red 1 W (.bin m t e :: V)).2 e' r = _
        rw [hW _ _ (Nat.le_refl 1), sums, if_pos hs]
        exact i2 _ q hs
      · intro o w ho
        rw [toEnd, hl, red, if_pos (show 1 ≤ (Mark.bin o).level from (lev_pos o).1)]
        show toEnd (.bin q :: (red 1 W (.bin o w e :: V)).1) (red 1 W (.bin o w e :: V)).2 e' r = _
        rw [hW _ _ (Nat.le_refl 1), sums, if_pos hs]
        exact i2 _ q hs
      · intro o w t m ho hm
        rw [toEnd, hl, red, if_pos (show 1 ≤ (Mark.bin o).level from (lev_pos o).1)]
        show toEnd (.bin q :: (red 1 (.bin m :: W) (.bin o w e :: t :: V)).1) (red 1 (.bin m :: W) (.bin o w e :: t :: V)).2 e' r = _
        rw [red, if_pos (show 1 ≤ (Mark.bin m).level from (lev_pos m).1)]
        show toEnd (.bin q :: (red 1 W (.bin m t (.bin o w e) :: V)).1) (red 1 W (.bin m t (.bin o w e) :: V)).2 e' r = _
        rw [hW _ _ (Nat.le_refl 1), sums, if_pos hs]
        exact i2 _ q hs
    | false =>
      have hl : q.lev = 2 := by unfold Op.lev; rw [hs] <;> rfl
      have hm2 : ∀ m : Op, m.isSum = true → ¬ 2 ≤ (Mark.bin m).level := by
        intro m hm
        cases m <;> first | decide | cases hm
      have ho2 : ∀ o : Op, o.isSum = false → 2 ≤ (Mark.bin o).level := by
        intro m hm
        cases m <;> first | decide | cases hm
      refine ⟨?_, ?_, ?_, ?_⟩
      · rw [toEnd, hW _ _ hq.1, sums, if_neg (by rw [hs]; decide)]
        exact i3 q e hs
      · intro t m hm
        rw [toEnd, hl, red, if_neg (hm2 m hm), sums, if_neg (by rw [hs]; decide)]
        exact i4 q e t m hs hm
      · intro o w ho
        rw [toEnd, hl, red, if_pos (ho2 o ho)]
        show toEnd (.bin q :: (red 2 W (.bin o w e :: V)).1) (red 2 W (.bin o w e :: V)).2 e' r = _
        rw [hW _ _ (by decide), sums, if_neg (by rw [hs]; decide)]
        exact i3 q _ hs
      · intro o w t m ho hm
        rw [toEnd, hl, red, if_pos (ho2 o ho)]
        show toEnd (.bin q :: (red 2 (.bin m :: W) (.bin o w e :: t :: V)).1) (red 2 (.bin m :: W) (.bin o w e :: t :: V)).2 e' r = _
        rw [red, if_neg (hm2 m hm), sums, if_neg (by rw [hs]; decide)]
        exact i4 q _ t m hs hm
end K83
end
section
set_option autoImplicit false
namespace K83
open PySem

/-! ### the law's minuses and turns, as parts -/
def mAlt (xs : List Item) : Option (Xp × List (Op × Xp) × Nat) :=
  match minuses true xs with
  | none => none
  | some (ys, c) => (alt ys).map fun p => (p.1, p.2, c)
theorem alt_one (x : Item) (hx : x.isTxt = false) : alt [x] = some (x.ex, []) := by
  cases x <;> first | rfl | cases hx
theorem alt_txt (x : Item) (hx : x.isTxt = true) (r : List Item) : alt (x :: r) = none := by
  cases x with
  | txt t =>
    cases r with
    | nil => rfl
    | cons y r =>
      cases y with
      | txt u => cases u <;> rfl
      | _ => rfl
  | _ => cases hx
theorem alt_two (x : Item) (hx : x.isTxt = false) (o : Op) (r : List Item) : alt (x :: .txt (.op o) :: r) = (alt r).map fun p => (x.ex, (o, p.1) :: p.2) := by
  rw [alt, if_neg (by rw [hx]; decide)]
  cases alt r <;> rfl
theorem alt_no (x y : Item) (hy : ∀ o, y ≠ .txt (.op o)) (r : List Item) : alt (x :: y :: r) = none := by
  cases y with
  | txt t =>
    cases t with
    | op o => exact (hy o rfl).elim
    | _ => cases x <;> rfl
  | _ => cases x <;> rfl
theorem minuses_atom (prev : Bool) (x : Item) (hx : x.isTxt = false) (xs : List Item) : minuses prev (x :: xs) = (minuses false xs).map fun p => (x :: p.1, 0) := by
  rw [minuses, hx]
  cases h : minuses false xs with
  | none => rfl
  | some p =>
    obtain ⟨ys, m⟩ := p
    cases x with
    | txt t => cases hx
    | _ => rfl
theorem minuses_op (o : Op) (xs : List Item) : minuses false (.txt (.op o) :: xs) = (minuses true xs).map fun p => (.txt (.op o) :: p.1, 0) := by
  rw [minuses]
  show (match minuses true xs with | none => none | some (ys, m) => _) = _
  cases h : minuses true xs with
  | none => rfl
  | some p =>
    obtain ⟨ys, m⟩ := p
    cases o <;> rfl
theorem minuses_txt (prev : Bool) (t : Tok) (ht : t ≠ .op .less) (xs : List Item) : minuses prev (.txt t :: xs) = (minuses true xs).map fun p => (.txt t :: p.1, 0) := by
  rw [minuses]
  show (match minuses true xs with | none => none | some (ys, m) => _) = _
  cases h : minuses true xs with
  | none => rfl
  | some p =>
    obtain ⟨ys, m⟩ := p
    cases t with
    | op o =>
      cases o with
      | less => exact (ht rfl).elim
      | _ => rfl
    | _ => rfl
theorem mAlt_parts : ∀ xs : List Item, mAlt xs = parts xs := by
  intro xs
  have less : ∀ r : List Item, mAlt r = parts r → mAlt (.txt (.op .less) :: r) = parts (.txt (.op .less) :: r) := by
    intro r ih
    rw [parts, ← ih]
    unfold mAlt
    rw [minuses]
    show (match (match minuses true r with | none => none | some (ys, m) => _ : Option (List Item × Nat)) with | none => none | some (ys, c) => _) = _
    cases h : minuses true r with
    | none => rfl
    | some p =>
      obtain ⟨ys, c⟩ := p
      cases ys with
      | nil => rfl
      | cons y ys =>
        show (match (if y.isTxt then none else if c + 1 > 20 then none else some (.part (.neg y.ex) :: ys, c + 1) : Option (List Item × Nat)) with | none => none | some (ys, c) => (alt ys).map fun p => (p.1, p.2, c)) = (match ((alt (y :: ys)).map fun p => (p.1, p.2, c) : Option (Xp × List (Op × Xp) × Nat)) with | none => none | some (e, l, c) => if c < 20 then some (Xp.neg e, l, c + 1) else none)
        cases hy : y.isTxt with
        | true =>
          rw [alt_txt y hy]
          rfl
        | false =>
          rw [if_neg (by decide)]
          by_cases hc : c + 1 > 20
          · rw [if_pos hc]
            cases alt (y :: ys) with
            | none => rfl
            | some p =>
              show none = if c < 20 then _ else none
              rw [if_neg (by omega)]
          · rw [if_neg hc]
            show ((alt (.part (.neg y.ex) :: ys)).map fun p => (p.1, p.2, c + 1)) = _
            cases ys with
            | nil =>
              rw [alt_one y hy, alt_one _ rfl]
              show _ = if c < 20 then _ else none
              rw [if_pos (by omega)]
              rfl
            | cons z ys =>
              cases z with
              | txt t =>
                cases t with
                | op o =>
                  rw [alt_two y hy, alt_two _ rfl]
                  cases alt ys with
                  | none => rfl
                  | some p =>
                    show _ = if c < 20 then _ else none
                    rw [if_pos (by omega)]
                    rfl
                | _ => rw [alt_no y _ (by intro o; simp), alt_no _ _ (by intro o; simp)] <;> rfl
              | _ => rw [alt_no y _ (by intro o; simp), alt_no _ _ (by intro o; simp)] <;> rfl
  induction xs using parts.induct with
  | case1 r h ih => exact less r ih
  | case2 r e l c h hc ih => exact less r ih
  | case3 r e l c h hc ih => exact less r ih
  | case4 x hn hx =>
    rw [parts, if_pos hx]
    · unfold mAlt
      cases x with
      | txt t =>
        rw [minuses_txt _ _ fun e => hn (by rw [e])]
        show (alt [.txt t]).map _ = none
        rw [alt_txt _ hx]
        rfl
      | _ => cases hx
    · exact hn
  | case5 x hn hx =>
    have hx' : x.isTxt = false := by simpa using hx
    rw [parts, if_neg hx]
    · unfold mAlt
      rw [minuses_atom _ x hx']
      show (alt [x]).map _ = _
      rw [alt_one x hx']
      rfl
    · exact hn
  | case6 x o r hn hx =>
    rw [parts, if_pos hx]
    · unfold mAlt
      cases x with
      | txt t =>
        rw [minuses_txt _ _ fun e => hn (by rw [e])]
        cases minuses true (.txt (.op o) :: r) with
        | none => rfl
        | some p =>
          show (alt (.txt t :: p.1)).map _ = none
          rw [alt_txt _ hx]
          rfl
      | _ => cases hx
    · exact hn
  | case7 x o r hn hx h ih =>
    have hx' : x.isTxt = false := by simpa using hx
    rw [parts, if_neg hx, ← ih]
    · unfold mAlt
      rw [minuses_atom _ x hx', minuses_op]
      cases minuses true r with
      | none => rfl
      | some p =>
        show (alt (x :: .txt (.op o) :: p.1)).map _ = _
        rw [alt_two x hx']
        cases e : alt p.1 <;> simp [e]
    · exact hn
  | case8 x o r hn hx e l c h ih =>
    have hx' : x.isTxt = false := by simpa using hx
    rw [parts, if_neg hx, ← ih]
    · unfold mAlt
      rw [minuses_atom _ x hx', minuses_op]
      cases minuses true r with
      | none => rfl
      | some p =>
        show (alt (x :: .txt (.op o) :: p.1)).map _ = _
        rw [alt_two x hx']
        cases e : alt p.1 <;> simp [e]
    · exact hn
  | case9 t h1 h2 h3 =>
    have hp : parts t = none := by
      rw [parts]
      · exact h1
      · exact h2
      · exact h3
    rw [hp]
    cases t with
    | nil => rfl
    | cons x r =>
      unfold mAlt
      cases hx : x.isTxt with
      | true =>
        cases x with
        | txt t =>
          rw [minuses_txt _ _ fun e => h1 r (by rw [e])]
          cases minuses true r with
          | none => rfl
          | some p =>
            show (alt (.txt t :: p.1)).map _ = none
            rw [alt_txt _ hx]
            rfl
        | _ => cases hx
      | false =>
        rw [minuses_atom _ x hx]
        cases r with
        | nil => exact (h2 x rfl).elim
        | cons y r =>
          have key : ∀ q, minuses false (y :: r) = some q → ∃ ys, q.1 = y :: ys := by
            intro q hq
            cases hy : y.isTxt with
            | false =>
              rw [minuses_atom _ y hy] at hq
              obtain ⟨z, _, e⟩ := Option.map_eq_some_iff.mp hq
              exact ⟨z.1, by rw [← e]⟩
            | true =>
              cases y with
              | txt t =>
                by_cases ht : t = .op .less
                · subst ht
                  rw [minuses_op] at hq
                  obtain ⟨z, _, e⟩ := Option.map_eq_some_iff.mp hq
                  exact ⟨z.1, by rw [← e]⟩
                · rw [minuses_txt _ _ ht] at hq
                  obtain ⟨z, _, e⟩ := Option.map_eq_some_iff.mp hq
                  exact ⟨z.1, by rw [← e]⟩
              | _ => cases hy
          cases hm : minuses false (y :: r) with
          | none => rfl
          | some q =>
            obtain ⟨ys, e⟩ := key q hm
            show (alt (x :: q.1)).map _ = none
            rw [e, alt_no x y]
            · rfl
            · intro o e
              exact h3 x o r (by rw [e])
/-- a run without brackets: the law's reading is the machine's -/
theorem flat_run {W : List Mark} (hW : stops W) (V : List Xp) (seg : List Item) (hb : ∀ x ∈ seg, x.brk = false) :
    (((syms seg).bind fun ss => run ⟨.want 0, W, V⟩ ss).bind endV) = (flat seg).map fun e => (W, e :: V) := by
  have h1 := powers_run ⟨.want 0, W, V⟩ rfl seg [] hb
  have h2 : ((syms seg).bind fun ss => run ⟨.want 0, W, V⟩ ss) = (powers seg []).bind fun ps => run2 ⟨.want 0, W, V⟩ ps := h1
  rw [h2]
  unfold flat
  cases powers seg [] with
  | none => rfl
  | some ps =>
    show (run2 ⟨.want 0, W, V⟩ ps).bind endV = _
    rw [run2_parts ps 0 W V (by omega), ← mAlt_parts]
    show _ = Option.map _ (match minuses true ps with | none => none | some (ys, _) => match alt ys with | none => none | some (e, l) => some (sums none e l))
    unfold mAlt
    cases hm : minuses true ps with
    | none => rfl
    | some p =>
      obtain ⟨ys, c⟩ := p
      show (match (alt ys).map fun p => (p.1, p.2, c) with | none => none | some (e, l, c) => _) = Option.map _ (match alt ys with | none => none | some (e, l) => some (sums none e l))
      cases ha : alt ys with
      | none => rfl
      | some q =>
        obtain ⟨e, l⟩ := q
        have hc : c ≤ 20 := parts_le (xs := ps) (e := e) (l := l) (by
          rw [← mAlt_parts]
          unfold mAlt
          rw [hm]
          show (alt ys).map _ = _
          rw [ha]
          rfl)
        show (if 0 + c ≤ 20 then some (toEnd W V e l) else none) = some (W, sums none e l :: V)
        rw [if_pos (by omega), (toEnd_sums hW V l e).1]
end K83
end
section
set_option autoImplicit false
namespace K83
open PySem

/-! ### cutting the signs where a bracket or a base stands -/
def endsRt (a : List Item) : Prop := ∃ a' m, a = a' ++ [.txt (.rt m)]
theorem endsRt_cons {x : Item} {a : List Item} (h : endsRt a) : endsRt (x :: a) := by
  obtain ⟨a', m, rfl⟩ := h
  exact ⟨x :: a', m, rfl⟩
/-- what may stand behind a cut -/
structure Cuts (a c : List Item) : Prop where
  fig : ∀ n r, c ≠ .fig n :: r
  less : ∀ r, c ≠ .txt (.op .less) :: r
  lp : ∀ r, c = .txt .lp :: r → ¬ endsRt a
theorem sep (a c : List Item) (hc : Cuts a c) : syms (a ++ c) = (syms a).bind fun sa => (syms c).map fun sc => sa ++ sc := by
  have nil : ∀ s : Option (List Sym), s = (s.map fun sc => [] ++ sc) := by
    intro s
    cases s <;> rfl
  have one : ∀ (y : Sym) (s t : Option (List Sym)), ((s.bind fun sa => t.map fun sc => sa ++ sc).map (y :: ·)) = (s.map (y :: ·)).bind fun sa => t.map fun sc => sa ++ sc := by
    intro y s t
    cases s <;> cases t <;> rfl
  have hat : ∀ c : List Item, (∀ n r, c ≠ .fig n :: r) → (∀ r, c ≠ .txt (.op .less) :: r) → syms (.txt .hat :: c) = none := by
    intro c h1 h2
    cases c with
    | nil => rfl
    | cons y r =>
      cases y with
      | fig n => exact (h1 _ _ rfl).elim
      | txt t =>
        cases t with
        | op o =>
          cases o with
          | less => exact (h2 _ rfl).elim
          | _ => rfl
        | _ => rfl
      | _ => rfl
  have hatl : ∀ c : List Item, (∀ n r, c ≠ .fig n :: r) → syms (.txt .hat :: .txt (.op .less) :: c) = none := by
    intro c h1
    cases c with
    | nil => rfl
    | cons y r =>
      cases y with
      | fig n => exact (h1 _ _ rfl).elim
      | txt t => cases t <;> rfl
      | _ => rfl
  induction a using syms.induct with
  | case1 => exact nil _
  | case2 n r hn ih =>
    have ih := ih ⟨hc.fig, hc.less, fun r' e h => hc.lp r' e (endsRt_cons (endsRt_cons (endsRt_cons h)))⟩
    show syms (.txt .hat :: .txt (.op .less) :: .fig n :: (r ++ c)) = _
    rw [syms, if_pos hn, ih, one]
    rw [syms, if_pos hn]
  | case3 n r hn =>
    show syms (.txt .hat :: .txt (.op .less) :: .fig n :: (r ++ c)) = _
    rw [syms, if_neg hn]
    rw [syms, if_neg hn]
    rfl
  | case4 n r hn ih =>
    have ih := ih ⟨hc.fig, hc.less, fun r' e h => hc.lp r' e (endsRt_cons (endsRt_cons h))⟩
    show syms (.txt .hat :: .fig n :: (r ++ c)) = _
    rw [syms, if_pos hn, ih, one]
    rw [syms, if_pos hn]
  | case5 n r hn =>
    show syms (.txt .hat :: .fig n :: (r ++ c)) = _
    rw [syms, if_neg hn]
    rw [syms, if_neg hn]
    rfl
  | case6 m r ih =>
    have ih := ih ⟨hc.fig, hc.less, fun r' e h => hc.lp r' e (endsRt_cons (endsRt_cons h))⟩
    show syms (.txt (.rt m) :: .txt .lp :: (r ++ c)) = _
    rw [syms, ih, one]
    rw [syms]
  | case7 r ih =>
    have ih := ih ⟨hc.fig, hc.less, fun r' e h => hc.lp r' e (endsRt_cons h)⟩
    show syms (.txt .lp :: (r ++ c)) = _
    rw [syms, ih, one]
    rw [syms]
  | case8 r ih =>
    have ih := ih ⟨hc.fig, hc.less, fun r' e h => hc.lp r' e (endsRt_cons h)⟩
    show syms (.txt .rp :: (r ++ c)) = _
    rw [syms, ih, one]
    rw [syms]
  | case9 o r ih =>
    have ih := ih ⟨hc.fig, hc.less, fun r' e h => hc.lp r' e (endsRt_cons h)⟩
    show syms (.txt (.op o) :: (r ++ c)) = _
    rw [syms, ih, one]
    rw [syms]
  | case10 t r h1 h2 h3 h4 h5 h6 =>
    have z : syms (.txt t :: r) = none := by
      rw [syms] <;> assumption
    rw [z]
    show syms (.txt t :: (r ++ c)) = none
    cases t with
    | op o => exact (h6 o rfl).elim
    | lp => exact (h4 rfl).elim
    | rp => exact (h5 rfl).elim
    | rt m =>
      refine syms_rt m _ fun r' e => ?_
      cases r with
      | nil => exact hc.lp r' e ⟨[], m, rfl⟩
      | cons y r =>
        have : y = .txt .lp := (List.cons.inj e).1
        exact h3 m r (by rw [this]) rfl
    | hat =>
      cases r with
      | nil => exact hat c hc.fig hc.less
      | cons y r =>
        by_cases hy : y = .txt (.op .less)
        · subst hy
          refine hatl (r ++ c) fun n r' e => ?_
          cases r with
          | nil => exact hc.fig _ _ e
          | cons zz r =>
            have : zz = .fig n := (List.cons.inj e).1
            exact h1 n r (by rw [this]) rfl
        · refine hat _ (fun n r' e => ?_) (fun r' e => hy (List.cons.inj e).1)
          have : y = .fig n := (List.cons.inj e).1
          exact h2 n r (by rw [this]) rfl
    | _ => rfl
  | case11 x r h1 h2 h3 h4 h5 h6 h7 ih =>
    have ih := ih ⟨hc.fig, hc.less, fun r' e h => hc.lp r' e (endsRt_cons h)⟩
    cases x with
    | txt t => exact (h7 t rfl).elim
    | fig n =>
      show (syms (r ++ c)).map _ = ((syms r).map _).bind _
      rw [ih, one]
    | base n =>
      show (syms (r ++ c)).map _ = ((syms r).map _).bind _
      rw [ih, one]
    | part n =>
      show (syms (r ++ c)).map _ = ((syms r).map _).bind _
      rw [ih, one]

/-- all of a run's end, told by what stands at the end -/
def M (is : List Item) : Option Xp := (syms is).bind fun ss => (run S0 ss).bind fin
theorem fin_eq (S : MS) : fin S = (endV S).bind fun p => match p with | ([], e :: _) => some e | _ => none := by
  unfold fin
  cases endV S with
  | none => rfl
  | some p =>
    obtain ⟨W, V⟩ := p
    cases W <;> cases V <;> rfl
theorem M_flat (is : List Item) (hb : ∀ x ∈ is, x.brk = false) : M is = flat is := by
  have h := flat_run stops_nil [] is hb
  have e : M is = (((syms is).bind fun ss => run S0 ss).bind endV).bind fun p => match p with | ([], e :: _) => some e | _ => none := by
    unfold M
    cases syms is with
    | none => rfl
    | some ss =>
      show (run S0 ss).bind fin = ((run S0 ss).bind endV).bind _
      cases run S0 ss with
      | none => rfl
      | some S => exact fin_eq S
  rw [e]
  show ((((syms is).bind fun ss => run ⟨.want 0, [], []⟩ ss).bind endV).bind _) = _
  rw [h]
  cases flat is <;> rfl
def mark (m : Option Rt) (e : Xp) : Xp := match m with | none => e | some m => .rt m e
/-- a bracket's run, then ) -/
theorem bracket_run (x : Option Rt) (mo : Mode) (W : List Mark) (V : List Xp) (seg : List Item) (ss sp : List Sym) (hb : ∀ x ∈ seg, x.brk = false) (hs : syms seg = some ss) :
    run ⟨mo, W, V⟩ (.opn x :: ss ++ .cls :: sp) = (flat seg).bind fun e => run ⟨mo, W, V⟩ (.atom (mark x e) :: sp) := by
  cases mo with
  | base =>
    show none = _
    cases flat seg <;> rfl
  | part =>
    show none = _
    cases flat seg <;> rfl
  | want m =>
    have h := flat_run (stops_opn x W) V seg hb
    rw [hs] at h
    show run ⟨.want 0, .opn x :: W, V⟩ (ss ++ .cls :: sp) = _
    rw [run_append]
    have h' : (run ⟨.want 0, .opn x :: W, V⟩ ss).bind endV = (flat seg).map fun e => (.opn x :: W, e :: V) := h
    cases hr : run ⟨.want 0, .opn x :: W, V⟩ ss with
    | none =>
      rw [hr] at h'
      cases hf : flat seg with
      | none => rfl
      | some e =>
        rw [hf] at h'
        cases h'
    | some S =>
      rw [hr] at h'
      have h2 : endV S = (flat seg).map fun e => (.opn x :: W, e :: V) := h'
      unfold endV at h2
      show (step none S .cls).bind (fun S' => run S' sp) = _
      show (if S.mode.free then _ else none : Option MS).bind (fun S' => run S' sp) = _
      split
      · rename_i hm
        rw [if_pos hm] at h2
        cases hf : flat seg with
        | none =>
          rw [hf] at h2
          cases h2
        | some e =>
          rw [hf] at h2
          have h3 : red 1 S.W S.V = (.opn x :: W, e :: V) := Option.some.inj h2
          rw [h3]
          show run _ sp = run ⟨.base, W, mark x e :: V⟩ sp
          cases x <;> rfl
      · rename_i hm
        rw [if_neg hm] at h2
        cases hf : flat seg with
        | none => rfl
        | some e =>
          rw [hf] at h2
          cases h2
theorem syms_none_bind {sa : Option (List Sym)} : (sa.bind fun _ => (none : Option Xp)) = none := by cases sa <;> rfl
/-- one bracket taken out -/
theorem M_cut (a : List Item) (x : Option Rt) (seg post : List Item) (hb : ∀ y ∈ seg, y.brk = false) (hx : x = none → ¬ endsRt a) :
    M (a ++ (match x with | none => [] | some m => [.txt (.rt m)]) ++ .txt .lp :: seg ++ .txt .rp :: post) = (flat seg).bind fun e => M (a ++ .base (mark x e) :: post) := by
  -- the signs of the whole
  have e1 : syms (a ++ (match x with | none => [] | some m => [.txt (.rt m)]) ++ .txt .lp :: seg ++ .txt .rp :: post)
      = (syms a).bind fun sa => (syms seg).bind fun ss => (syms post).map fun sp => sa ++ (.opn x :: ss ++ .cls :: sp) := by
    have tail : syms (.txt .rp :: post) = (syms post).map (.cls :: ·) := by rw [syms]
    have s2 : syms (seg ++ .txt .rp :: post) = (syms seg).bind fun ss => (syms post).map fun sp => ss ++ .cls :: sp := by
      rw [sep seg _ ⟨by simp, by simp, by simp⟩, tail]
      cases syms seg <;> cases syms post <;> rfl
    cases x with
    | none =>
      show syms (a ++ [] ++ .txt .lp :: seg ++ .txt .rp :: post) = _
      rw [List.append_nil, List.append_assoc]
      show syms (a ++ (.txt .lp :: (seg ++ .txt .rp :: post))) = _
      rw [sep a _ ⟨by simp, by simp, fun _ _ => hx rfl⟩, syms, s2]
      cases syms a <;> cases syms seg <;> cases syms post <;> rfl
    | some m =>
      show syms (a ++ [.txt (.rt m)] ++ .txt .lp :: seg ++ .txt .rp :: post) = _
      rw [List.append_assoc, List.append_assoc]
      show syms (a ++ (.txt (.rt m) :: .txt .lp :: (seg ++ .txt .rp :: post))) = _
      rw [sep a _ ⟨by simp, by simp, by simp⟩, syms, s2]
      cases syms a <;> cases syms seg <;> cases syms post <;> rfl
  have e2 : ∀ e, syms (a ++ .base (mark x e) :: post) = (syms a).bind fun sa => (syms post).map fun sp => sa ++ .atom (mark x e) :: sp := by
    intro e
    rw [sep a _ ⟨by simp, by simp, by simp⟩]
    have : syms (.base (mark x e) :: post) = (syms post).map (.atom (mark x e) :: ·) := by rfl
    rw [this]
    cases syms a <;> cases syms post <;> rfl
  unfold M
  rw [e1]
  have e3 : ((flat seg).bind fun e => (syms (a ++ .base (mark x e) :: post)).bind fun ss => (run S0 ss).bind fin) = (flat seg).bind fun e => ((syms a).bind fun sa => (syms post).map fun sp => sa ++ .atom (mark x e) :: sp).bind fun ss => (run S0 ss).bind fin := by
    congr 1
    funext e
    rw [e2]
  rw [e3]
  cases ha : syms a with
  | none => cases flat seg <;> rfl
  | some sa =>
    cases hp : syms post with
    | none =>
      cases syms seg <;> cases flat seg <;> rfl
    | some sp =>
      cases hs : syms seg with
      | none =>
        have hf : flat seg = none := by
          have h := flat_run stops_nil [] seg hb
          rw [hs] at h
          cases hf : flat seg with
          | none => rfl
          | some e =>
            rw [hf] at h
            cases h
        rw [hf]
        rfl
      | some ss =>
        show (run S0 (sa ++ (.opn x :: ss ++ .cls :: sp))).bind fin = (flat seg).bind fun e => (run S0 (sa ++ .atom (mark x e) :: sp)).bind fin
        have e4 : ∀ e, run S0 (sa ++ .atom (mark x e) :: sp) = (run S0 sa).bind fun S => run S (.atom (mark x e) :: sp) := fun e => run_append _ _ _
        simp only [e4]
        rw [run_append]
        cases run S0 sa with
        | none => cases flat seg <;> rfl
        | some S =>
          obtain ⟨mo, W, V⟩ := S
          show (run ⟨mo, W, V⟩ (.opn x :: ss ++ .cls :: sp)).bind fin = (flat seg).bind fun e => (run ⟨mo, W, V⟩ (.atom (mark x e) :: sp)).bind fin
          rw [bracket_run x mo W V seg ss sp hb hs]
          cases flat seg <;> rfl
end K83
end
section
set_option autoImplicit false
namespace K83
open PySem

/-! ### the law's loop -/
def bal : List Item → Nat → Option Nat
  | [], n => some n
  | .txt .lp :: r, n => bal r (n + 1)
  | .txt .rp :: r, n => if n = 0 then none else bal r (n - 1)
  | _ :: r, n => bal r n
def Item.isLp : Item → Bool
  | .txt .lp => true
  | _ => false
def Item.isRp : Item → Bool
  | .txt .rp => true
  | _ => false
def Item.isPart : Item → Bool
  | .part _ => true
  | _ => false
theorem Item.brk_of {x : Item} (h1 : x.isLp = false) (h2 : x.isRp = false) (h3 : x.isPart = false) : x.brk = false := by
  cases x with
  | txt t => cases t <;> first | rfl | (cases h1; done) | (cases h2; done)
  | part e => cases h3
  | _ => rfl
theorem bal_other (x : Item) (h1 : x.isLp = false) (h2 : x.isRp = false) (r : List Item) (n : Nat) : bal (x :: r) n = bal r n := by
  cases x with
  | txt t => cases t <;> first | rfl | (cases h1; done) | (cases h2; done)
  | _ => rfl
theorem bal_append (a b : List Item) (n : Nat) : bal (a ++ b) n = (bal a n).bind fun k => bal b k := by
  induction a generalizing n with
  | nil => rfl
  | cons x r ih =>
    cases h1 : x.isLp with
    | true =>
      cases x with
      | txt t => cases t <;> first | exact ih _ | cases h1
      | _ => cases h1
    | false =>
      cases h2 : x.isRp with
      | true =>
        cases x with
        | txt t =>
          cases t <;> try (cases h2; done)
          show (if n = 0 then none else bal (r ++ b) (n - 1)) = (if n = 0 then none else bal r (n - 1)).bind _
          split
          · rfl
          · exact ih _
        | _ => cases h2
      | false =>
        show bal (x :: (r ++ b)) n = _
        rw [bal_other x h1 h2, bal_other x h1 h2]
        exact ih n
theorem bal_free (a : List Item) (n : Nat) (h1 : ∀ x ∈ a, x.isLp = false) (h2 : ∀ x ∈ a, x.isRp = false) : bal a n = some n := by
  induction a with
  | nil => rfl
  | cons x r ih =>
    rw [bal_other x (h1 x (by simp)) (h2 x (by simp))]
    exact ih (fun y hy => h1 y (by simp [hy])) (fun y hy => h2 y (by simp [hy]))
theorem deep_bal : ∀ (is : List Item) (n m d : Nat), deepF is n m = some d → bal is n = some 0 := by
  intro is
  induction is with
  | nil =>
    intro n m d h
    unfold deepF at h
    split at h
    · rename_i e
      rw [e]
      rfl
    · cases h
  | cons x r ih =>
    intro n m d h
    cases x with
    | txt t =>
      cases t with
      | lp => exact ih _ _ _ h
      | rp =>
        unfold deepF at h
        show (if n = 0 then none else bal r (n - 1)) = _
        split at h
        · cases h
        · rename_i e
          rw [if_neg e]
          exact ih _ _ _ h
      | _ => exact ih _ _ _ h
    | _ => exact ih _ _ _ h
/-- what the scan holds -/
def held (a? : Option (List Item)) (seg : List Item) : List Item :=
  match a? with
  | none => seg
  | some a => seg ++ .txt .lp :: a
theorem cutF_other (a? : Option (List Item)) (seg : List Item) (x : Item) (h1 : x.isLp = false) (h2 : x.isRp = false) (r : List Item) : cutF a? seg (x :: r) = cutF a? (x :: seg) r := by
  cases x with
  | txt t => cases t <;> first | (cases a? <;> rfl) | (cases h1; done) | (cases h2; done)
  | _ => cases a? <;> rfl
theorem cutF_lp (a? : Option (List Item)) (seg r : List Item) : cutF a? seg (.txt .lp :: r) = cutF (some (held a? seg)) [] r := by
  cases a? <;> rfl
theorem cutF_some : ∀ (is : List Item) (a? : Option (List Item)) (seg a s post : List Item), cutF a? seg is = some (a, s, post) → (∀ x ∈ seg, x.isLp = false) → (∀ x ∈ seg, x.isRp = false) →
    (held a? seg).reverse ++ is = a ++ .txt .lp :: s ++ .txt .rp :: post ∧ (∀ x ∈ s, x.isLp = false) ∧ (∀ x ∈ s, x.isRp = false) ∧ ((∀ x ∈ held a? seg, x.isRp = false) → ∀ x ∈ a, x.isRp = false) := by
  intro is
  induction is with
  | nil =>
    intro a? seg a s post h
    cases a? <;> cases h
  | cons x r ih =>
    intro a? seg a s post h n1 n2
    cases h1 : x.isLp with
    | true =>
      cases x with
      | txt t =>
        cases t <;> try (cases h1; done)
        rw [cutF_lp] at h
        have := ih _ _ _ _ _ h (by simp) (by simp)
        refine ⟨?_, this.2.1, this.2.2.1, fun hh => this.2.2.2 ?_⟩
        · rw [← this.1]
          show _ = ([] ++ Item.txt Tok.lp :: held a? seg).reverse ++ r
          simp
        · intro x hx
          have hx : x ∈ [] ++ Item.txt Tok.lp :: held a? seg := hx
          simp at hx
          rcases hx with rfl | hx
          · rfl
          · exact hh x hx
      | _ => cases h1
    | false =>
      cases h2 : x.isRp with
      | true =>
        cases x with
        | txt t =>
          cases t <;> try (cases h2; done)
          cases a? with
          | none => cases h
          | some a0 =>
            have e : (some (a0.reverse, seg.reverse, r) : Option (List Item × List Item × List Item)) = some (a, s, post) := h
            cases e
            refine ⟨?_, ?_, ?_, ?_⟩
            · show (seg ++ .txt .lp :: a0).reverse ++ _ = _
              simp
            · intro x hx
              exact n1 x (List.mem_reverse.mp hx)
            · intro x hx
              exact n2 x (List.mem_reverse.mp hx)
            · intro hh x hx
              exact hh x (List.mem_append_right _ (List.mem_cons_of_mem _ (List.mem_reverse.mp hx)))
        | _ => cases h2
      | false =>
        rw [cutF_other _ _ _ h1 h2] at h
        have := ih _ _ _ _ _ h (fun y hy => by
          rcases List.mem_cons.mp hy with rfl | hy
          · exact h1
          · exact n1 y hy) (fun y hy => by
          rcases List.mem_cons.mp hy with rfl | hy
          · exact h2
          · exact n2 y hy)
        refine ⟨?_, this.2.1, this.2.2.1, fun hh => this.2.2.2 ?_⟩
        · rw [← this.1]
          cases a? <;> simp [held]
        · intro y hy
          cases a? with
          | none =>
            rcases List.mem_cons.mp hy with rfl | hy
            · exact h2
            · exact hh y hy
          | some a0 =>
            have hy : y ∈ (x :: seg) ++ .txt .lp :: a0 := hy
            rcases List.mem_cons.mp hy with rfl | hy
            · exact h2
            · exact hh y hy
theorem cutF_none : ∀ (is : List Item) (a? : Option (List Item)) (seg : List Item), cutF a? seg is = none → (∀ x ∈ is, x.isRp = false) ∨ (a? = none ∧ bal is 0 = none) := by
  intro is
  induction is with
  | nil =>
    intro a? seg _
    exact .inl (by simp)
  | cons x r ih =>
    intro a? seg h
    cases h1 : x.isLp with
    | true =>
      cases x with
      | txt t =>
        cases t <;> try (cases h1; done)
        rw [cutF_lp] at h
        rcases ih _ _ h with q | q
        · refine .inl fun y hy => ?_
          rcases List.mem_cons.mp hy with rfl | hy
          · rfl
          · exact q y hy
        · cases q.1
      | _ => cases h1
    | false =>
      cases h2 : x.isRp with
      | true =>
        cases x with
        | txt t =>
          cases t <;> try (cases h2; done)
          cases a? with
          | none => exact .inr ⟨rfl, rfl⟩
          | some a0 => cases h
        | _ => cases h2
      | false =>
        rw [cutF_other _ _ _ h1 h2] at h
        rcases ih _ _ h with q | q
        · refine .inl fun y hy => ?_
          rcases List.mem_cons.mp hy with rfl | hy
          · exact h2
          · exact q y hy
        · exact .inr ⟨q.1, by rw [bal_other x h1 h2]; exact q.2⟩
theorem bal_le : ∀ (is : List Item) (n : Nat), (∀ x ∈ is, x.isRp = false) → ∃ k, bal is n = some k ∧ n ≤ k ∧ (k = n → ∀ x ∈ is, x.isLp = false) := by
  intro is
  induction is with
  | nil =>
    intro n _
    exact ⟨n, rfl, Nat.le_refl _, by simp⟩
  | cons x r ih =>
    intro n h
    cases h1 : x.isLp with
    | true =>
      cases x with
      | txt t =>
        cases t <;> try (cases h1; done)
        obtain ⟨k, a, b, _⟩ := ih (n + 1) fun y hy => h y (by simp [hy])
        exact ⟨k, a, by omega, fun e => by omega⟩
      | _ => cases h1
    | false =>
      obtain ⟨k, a, b, c⟩ := ih n fun y hy => h y (by simp [hy])
      refine ⟨k, by rw [bal_other x h1 (h x (by simp))]; exact a, b, fun e y hy => ?_⟩
      rcases List.mem_cons.mp hy with rfl | hy
      · exact h1
      · exact c e y hy
theorem readF_M : ∀ (f : Nat) (is : List Item), is.length < f → bal is 0 = some 0 → (∀ x ∈ is, x.isPart = false) → readF f is = M is := by
  intro f
  induction f with
  | zero =>
    intro is h
    omega
  | succ f ih =>
    intro is hl hb hp
    rw [readF]
    cases hc : cut is with
    | none =>
      show flat is = M is
      rcases cutF_none is none [] hc with q | q
      · obtain ⟨k, k1, _, k3⟩ := bal_le is 0 q
        rw [hb] at k1
        cases k1
        exact (M_flat is fun x hx => Item.brk_of (k3 rfl x hx) (q x hx) (hp x hx)).symm
      · rw [hb] at q
        cases q.2
    | some p =>
      obtain ⟨a, seg, post⟩ := p
      obtain ⟨e, s1, s2, _⟩ := cutF_some is none [] a seg post hc (by simp) (by simp)
      have e : is = a ++ .txt .lp :: seg ++ .txt .rp :: post := e
      have hs : ∀ x ∈ seg, x.brk = false := fun x hx => Item.brk_of (s1 x hx) (s2 x hx) (hp x (by rw [e]; simp [hx]))
      have b2 : ∀ (a' : List Item) (y : Xp), bal a' 0 = bal a 0 → bal (a' ++ .base y :: post) 0 = some 0 := by
        intro a' y h
        rw [bal_append, h]
        rw [e, List.append_assoc, bal_append] at hb
        cases ha : bal a 0 with
        | none =>
          rw [ha] at hb
          cases hb
        | some k =>
          rw [ha] at hb
          have h1 : bal (seg ++ .txt .rp :: post) (k + 1) = some 0 := hb
          rw [bal_append, bal_free seg _ s1 s2] at h1
          exact h1
      have lt : ∀ (a' : List Item) (y : Xp), a'.length ≤ a.length → (a' ++ .base y :: post).length < f := by
        intro a' y h
        rw [e] at hl
        simp at hl
        simp
        omega
      have pp : ∀ (a' : List Item) (y : Xp), (∀ x ∈ a', x ∈ a) → ∀ x ∈ a' ++ .base y :: post, x.isPart = false := by
        intro a' y h x hx
        simp at hx
        rcases hx with hx | rfl | hx
        · exact hp x (by rw [e]; simp [h x hx])
        · rfl
        · exact hp x (by rw [e]; simp [hx])
      show (match flat seg with | none => none | some e => match a.reverse with | Item.txt (Tok.rt m) :: a' => readF f (a'.reverse ++ Item.base (Xp.rt m e) :: post) | _ => readF f (a ++ Item.base e :: post)) = _
      by_cases hr : endsRt a
      · obtain ⟨a', m, rfl⟩ := hr
        have := M_cut a' (some m) seg post hs (fun q => by cases q)
        rw [e]
        have e5 : a' ++ [Item.txt (Tok.rt m)] ++ Item.txt Tok.lp :: seg ++ Item.txt Tok.rp :: post = a' ++ (match (some m : Option Rt) with | none => [] | some m => [.txt (.rt m)]) ++ .txt .lp :: seg ++ .txt .rp :: post := rfl
        rw [e5, this]
        cases flat seg with
        | none => rfl
        | some y =>
          show (match (a' ++ [Item.txt (Tok.rt m)]).reverse with | Item.txt (Tok.rt m) :: a' => readF f (a'.reverse ++ Item.base (Xp.rt m y) :: post) | _ => readF f ((a' ++ [Item.txt (Tok.rt m)]) ++ Item.base y :: post)) = M (a' ++ Item.base (Xp.rt m y) :: post)
          rw [List.reverse_append]
          show readF f (a'.reverse.reverse ++ Item.base (Xp.rt m y) :: post) = _
          rw [List.reverse_reverse]
          refine ih _ (lt _ _ (by simp)) (b2 _ _ ?_) (pp _ _ (by simp +contextual))
          rw [bal_append]
          cases bal a' 0 <;> rfl
      · have := M_cut a none seg post hs (fun _ => hr)
        rw [e]
        have e5 : a ++ Item.txt Tok.lp :: seg ++ Item.txt Tok.rp :: post = a ++ (match (none : Option Rt) with | none => [] | some m => [.txt (.rt m)]) ++ .txt .lp :: seg ++ .txt .rp :: post := by
          show _ = a ++ [] ++ Item.txt Tok.lp :: seg ++ Item.txt Tok.rp :: post
          rw [List.append_nil]
        rw [e5, this]
        cases flat seg with
        | none => rfl
        | some y =>
          show (match a.reverse with | Item.txt (Tok.rt m) :: a' => readF f (a'.reverse ++ Item.base (Xp.rt m y) :: post) | _ => readF f (a ++ Item.base y :: post)) = M (a ++ Item.base y :: post)
          have e6 : (match a.reverse with | Item.txt (Tok.rt m) :: a' => readF f (a'.reverse ++ Item.base (Xp.rt m y) :: post) | _ => readF f (a ++ Item.base y :: post)) = readF f (a ++ Item.base y :: post) := by
            split
            · rename_i m a' heq
              exact (hr ⟨a'.reverse, m, by rw [← List.reverse_reverse a, heq, List.reverse_cons]⟩).elim
            · rfl
          rw [e6]
          exact ih _ (lt _ _ (Nat.le_refl _)) (b2 _ _ rfl) (pp _ _ fun x h => h)
end K83
end
section
set_option autoImplicit false
namespace K83
open PySem

/-! ### items by their first word -/
theorem itemsF_le : ∀ (f g : Nat) (ts : List Tok), ts.length ≤ f → ts.length ≤ g → itemsF f ts = itemsF g ts := by
  intro f
  induction f with
  | zero =>
    intro g ts h1 h2
    have : ts = [] := by
      cases ts with
      | nil => rfl
      | cons x r => simp at h1
    subst this
    cases g <;> rfl
  | succ f ih =>
    intro g ts h1 h2
    cases ts with
    | nil => cases g <;> rfl
    | cons x r =>
      cases g with
      | zero => simp at h2
      | succ g =>
        simp only [List.length_cons] at h1 h2
        have e := ih g r (by omega) (by omega)
        cases x with
        | root =>
          rw [itemsF, itemsF]
          cases h : rootAt r with
          | none => rfl
          | some p =>
            obtain ⟨x, r'⟩ := p
            have := rootAt_len h
            show (itemsF f r').map _ = (itemsF g r').map _
            rw [ih g r' (by omega) (by omega)]
        | num n => rw [itemsF, itemsF, e]
        | name w => rw [itemsF, itemsF, e]
        | _ => rw [itemsF, itemsF, e] <;> simp
theorem items_num (n : Nat) (r : List Tok) : items (.num n :: r) = (items r).map (.fig n :: ·) := by
  show itemsF (r.length + 1) _ = (itemsF r.length r).map _
  rw [itemsF]
theorem items_name (w : Str) (r : List Tok) : items (.name w :: r) = (items r).map (.base (.name w) :: ·) := by
  show itemsF (r.length + 1) _ = (itemsF r.length r).map _
  rw [itemsF]
theorem items_root (r : List Tok) : items (.root :: r) = match rootAt r with | none => none | some (x, r') => (items r').map (.base (.root x.1 x.2) :: ·) := by
  show itemsF (r.length + 1) _ = _
  rw [itemsF]
  cases h : rootAt r with
  | none => rfl
  | some p =>
    obtain ⟨x, r'⟩ := p
    have := rootAt_len h
    show (itemsF r.length r').map _ = (itemsF r'.length r').map _
    rw [itemsF_le r.length r'.length r' (by omega) (by omega)]
def Tok.isPlain : Tok → Bool
  | .root => false
  | .num _ => false
  | .name _ => false
  | _ => true
theorem items_txt (t : Tok) (ht : t.isPlain = true) (r : List Tok) : items (t :: r) = (items r).map (.txt t :: ·) := by
  show itemsF (r.length + 1) _ = (itemsF r.length r).map _
  cases t with
  | root => cases ht
  | num n => cases ht
  | name w => cases ht
  | _ => rw [itemsF] <;> simp
/-- the first item tells the first word -/
theorem items_head (ts : List Tok) (x : Item) (is : List Item) (h : items ts = some (x :: is)) :
    (∀ n, x = .fig n → ∃ r, ts = .num n :: r ∧ items r = some is) ∧ (∀ t, x = .txt t → ∃ r, ts = t :: r ∧ items r = some is) := by
  cases ts with
  | nil => cases h
  | cons t r =>
    cases t with
    | num n =>
      rw [items_num] at h
      obtain ⟨z, hz, e⟩ := Option.map_eq_some_iff.mp h
      cases e
      exact ⟨fun m q => by cases q; exact ⟨r, rfl, hz⟩, fun t q => by cases q⟩
    | name w =>
      rw [items_name] at h
      obtain ⟨z, hz, e⟩ := Option.map_eq_some_iff.mp h
      cases e
      exact ⟨fun m q => by (cases q), fun t q => by (cases q)⟩
    | root =>
      rw [items_root] at h
      split at h
      · cases h
      · obtain ⟨z, hz, e⟩ := Option.map_eq_some_iff.mp h
        cases e
        exact ⟨fun m q => by (cases q), fun t q => by (cases q)⟩
    | _ =>
      rw [items_txt _ rfl] at h
      obtain ⟨z, hz, e⟩ := Option.map_eq_some_iff.mp h
      cases e
      exact ⟨fun m q => by (cases q), fun t q => by cases q; exact ⟨r, rfl, hz⟩⟩
theorem items_noPart : ∀ (f : Nat) (ts : List Tok), ∀ is, itemsF f ts = some is → ∀ x ∈ is, x.isPart = false := by
  intro f
  induction f with
  | zero =>
    intro ts is h x hx
    cases h
    cases hx
  | succ f ih =>
    intro ts is h x hx
    have go : ∀ (r : List Tok) (y : Item), y.isPart = false → (itemsF f r).map (y :: ·) = some is → x.isPart = false := by
      intro r y hy h
      obtain ⟨z, hz, e⟩ := Option.map_eq_some_iff.mp h
      subst e
      rcases List.mem_cons.mp hx with rfl | hx
      · exact hy
      · exact ih r z hz x hx
    cases ts with
    | nil =>
      cases h
      cases hx
    | cons t r =>
      cases t with
      | root =>
        rw [itemsF] at h
        split at h
        · cases h
        · exact go _ _ rfl h
      | num n => rw [itemsF] at h; exact go _ _ rfl h
      | name w => rw [itemsF] at h; exact go _ _ rfl h
      | _ => rw [itemsF] at h <;> first | exact go _ _ rfl h | simp

/-! ### signs of words -/
def Q (ts : List Tok) : Option (List Sym) := (items ts).bind syms
theorem Q_nil : Q [] = some [] := rfl
theorem Q_num (n : Nat) (r : List Tok) : Q (.num n :: r) = (Q r).map (.atom (.num n) :: ·) := by
  unfold Q
  rw [items_num]
  cases items r <;> rfl
theorem Q_name (w : Str) (r : List Tok) : Q (.name w :: r) = (Q r).map (.atom (.name w) :: ·) := by
  unfold Q
  rw [items_name]
  cases items r <;> rfl
theorem Q_root (r : List Tok) : Q (.root :: r) = match rootAt r with | none => none | some (x, r') => (Q r').map (.atom (.root x.1 x.2) :: ·) := by
  unfold Q
  rw [items_root]
  cases rootAt r with
  | none => rfl
  | some p =>
    show ((items p.2).map _).bind syms = ((items p.2).bind syms).map _
    cases items p.2 <;> rfl
theorem Q_op (o : Op) (r : List Tok) : Q (.op o :: r) = (Q r).map (.op o :: ·) := by
  unfold Q
  rw [items_txt _ rfl]
  cases items r <;> rfl
theorem Q_lp (r : List Tok) : Q (.lp :: r) = (Q r).map (.opn none :: ·) := by
  unfold Q
  rw [items_txt _ rfl]
  cases items r <;> rfl
theorem Q_rp (r : List Tok) : Q (.rp :: r) = (Q r).map (.cls :: ·) := by
  unfold Q
  rw [items_txt _ rfl]
  cases items r <;> rfl
theorem Q_rt (m : Rt) (r : List Tok) : Q (.rt m :: .lp :: r) = (Q r).map (.opn (some m) :: ·) := by
  unfold Q
  rw [items_txt _ rfl, items_txt _ rfl]
  cases items r <;> rfl
theorem Q_rt_no (m : Rt) (r : List Tok) (h : ∀ r', r ≠ .lp :: r') : Q (.rt m :: r) = none := by
  unfold Q
  rw [items_txt _ rfl]
  cases e : items r with
  | none => rfl
  | some is =>
    show syms (.txt (.rt m) :: is) = none
    refine syms_rt m is fun is' q => ?_
    subst q
    obtain ⟨r', e', _⟩ := (items_head _ _ _ e).2 .lp rfl
    exact h r' e'
theorem Q_bad (t : Tok) (ht : t = .lb ∨ t = .rb ∨ t = .comma) (r : List Tok) : Q (t :: r) = none := by
  unfold Q
  rcases ht with rfl | rfl | rfl <;> (rw [items_txt _ rfl]; cases items r <;> rfl)
theorem numAt_cases (r : List Tok) : (∃ n r', r = .op .less :: .num n :: r' ∧ numAt r = some (-((n : Nat) : Int), r')) ∨ (∃ n r', r = .num n :: r' ∧ numAt r = some (((n : Nat) : Int), r')) ∨ (numAt r = none ∧ (∀ n r', r ≠ .op .less :: .num n :: r') ∧ (∀ n r', r ≠ .num n :: r')) := by
  unfold numAt
  split
  · exact .inl ⟨_, _, rfl, rfl⟩
  · exact .inr (.inl ⟨_, _, rfl, rfl⟩)
  · rename_i h1 h2
    exact .inr (.inr ⟨rfl, h1, h2⟩)
theorem Q_hat (r : List Tok) : Q (.hat :: r) = match numAt r with | none => none | some (k, r') => if k.natAbs ≤ 8 then (Q r').map (.pw k :: ·) else none := by
  unfold Q
  rw [items_txt _ rfl]
  rcases numAt_cases r with ⟨n, r', rfl, h⟩ | ⟨n, r', rfl, h⟩ | ⟨h, h1, h2⟩
  · rw [h, items_txt _ rfl, items_num]
    show _ = if (-(n : Int)).natAbs ≤ 8 then _ else none
    have e : (-(n : Int)).natAbs = n := by omega
    rw [e]
    cases items r' with
    | none => split <;> rfl
    | some is => rfl
  · rw [h, items_num]
    show _ = if ((n : Int)).natAbs ≤ 8 then _ else none
    have e : ((n : Int)).natAbs = n := by omega
    rw [e]
    cases items r' with
    | none => split <;> rfl
    | some is => rfl
  · rw [h]
    cases e : items r with
    | none => rfl
    | some is =>
      show syms (.txt .hat :: is) = none
      cases is with
      | nil => rfl
      | cons y is =>
        cases y with
        | fig n =>
          obtain ⟨r', e', _⟩ := (items_head _ _ _ e).1 n rfl
          exact (h2 n r' e').elim
        | txt t =>
          by_cases ht : t = .op .less
          · subst ht
            obtain ⟨r', e', e2⟩ := (items_head _ _ _ e).2 _ rfl
            cases is with
            | nil => rfl
            | cons z is =>
              cases z with
              | fig n =>
                obtain ⟨r2, e3, _⟩ := (items_head _ _ _ e2).1 n rfl
                exact (h1 n r2 (by rw [e', e3])).elim
              | txt t => cases t <;> rfl
              | _ => rfl
          · cases t with
            | op o =>
              cases o with
              | less => exact (ht rfl).elim
              | _ => rfl
            | _ => rfl
        | _ => rfl

/-! ### the program against the machine -/
def bins (W : List Mark) : Nat := (W.filter fun m => match m with | .bin _ => true | _ => false).length
theorem exec_append : ∀ (a b : List Ins) (s : List Xp), exec (a ++ b) s = (exec a s).bind fun s' => exec b s' := by
  intro a
  induction a with
  | nil => intro b s; rfl
  | cons i r ih =>
    intro b s
    cases i with
    | leaf e => exact ih b _
    | pow k => cases s with
      | nil => rfl
      | cons x s => exact ih b _
    | mk m => cases m with
      | bin o => cases s with
        | nil => rfl
        | cons x s => cases s with
          | nil => rfl
          | cons y s => exact ih b _
      | neg => cases s with
        | nil => rfl
        | cons x s => exact ih b _
      | opn q => cases q with
        | none => rfl
        | some q => cases s with
          | nil => rfl
          | cons x s => exact ih b _
theorem exec_snoc {a : List Ins} {s V : List Xp} {i : Ins} (h : exec a s = some V) : exec (a ++ [i]) s = exec [i] V := by
  rw [exec_append, h]
  rfl
/-- what is done on the way down -/
theorem done_red (l : Nat) (hl : 1 ≤ l) : ∀ (W : List Mark) (T : List Ins) (V : List Xp), exec T [] = some V → V.length = bins W + 1 →
    (done l W T).1 = (red l W V).1 ∧ exec (done l W T).2 [] = some (red l W V).2 ∧ (red l W V).2.length = bins (red l W V).1 + 1 ∧ opens (red l W V).1 = opens W := by
  intro W
  induction W with
  | nil =>
    intro T V h1 h2
    exact ⟨rfl, h1, h2, rfl⟩
  | cons m w ih =>
    intro T V h1 h2
    rw [done, red]
    split
    · cases m with
      | bin o =>
        have h2 : V.length = bins w + 1 + 1 := h2
        match V, h2, h1 with
        | b :: a :: V, h2, h1 => exact ih (T ++ [.mk (.bin o)]) (.bin o a b :: V) (by rw [exec_snoc h1]; rfl) (by simp at h2 ⊢; omega)
      | neg =>
        have h2 : V.length = bins w + 1 := h2
        match V, h2, h1 with
        | a :: V, h2, h1 => exact ih (T ++ [.mk .neg]) (.neg a :: V) (by rw [exec_snoc h1]; rfl) (by simp at h2 ⊢; omega)
      | opn x =>
        rename_i h
        have : l ≤ 0 := h
        omega
    · exact ⟨rfl, h1, h2, rfl⟩
structure R (wanted : Bool) (s : RS) (S : MS) : Prop where
  W : S.W = s.waiting
  V : exec s.told [] = some S.V
  deep : s.deep = opens S.W
  mode : S.mode = if wanted then .want s.minuses else if s.isBase then .base else .part
  zero : wanted = false → s.minuses = 0
  len : S.V.length = bins S.W + if wanted then 0 else 1
/-- the step where a part stands ahead -/
def stepFree (mo : Mode) (W : List Mark) (V : List Xp) : Sym → Option MS
  | .pw k => match mo, V with | .base, e :: V => some ⟨.part, W, .pow e k :: V⟩ | _, _ => none
  | .cls => match (red 1 W V).1 with | .opn x :: w => some ⟨.base, w, applyM (.opn x) (red 1 W V).2⟩ | _ => none
  | .op o => some ⟨.want 0, .bin o :: (red o.lev W V).1, (red o.lev W V).2⟩
  | _ => none
theorem stepD_free (mo : Mode) (hmf : mo.free = true) (W : List Mark) (V : List Xp) (y : Sym) : stepD ⟨mo, W, V⟩ y = stepFree mo W V y := by
  cases mo with
  | want m => cases hmf
  | base => cases y with
    | opn x =>
      show (if opens W + 1 ≤ 20 then none else none) = none
      split <;> rfl
    | _ => rfl
  | part => cases y with
    | opn x =>
      show (if opens W + 1 ≤ 20 then none else none) = none
      split <;> rfl
    | _ => rfl
def goOn (f : Nat) : Option (RS × Bool) → Option (List Ins)
  | none => none
  | some (s', b) => progF f b s'
theorem progF_behind (f : Nat) (s : RS) (h : s.ts ≠ []) : progF (f + 1) false s = goOn f (behind s) := by
  rw [progF, if_neg h]
  cases behind s <;> rfl
theorem sim : ∀ (f : Nat) (wanted : Bool) (s : RS) (S : MS), R wanted s S → s.ts.length < f →
    match ((Q s.ts).bind fun ss => runD S ss).bind fin with
    | none => progF f wanted s = none
    | some e => ∃ told, progF f wanted s = some told ∧ exec told [] = some [e] := by
  intro f
  induction f with
  | zero =>
    intro wanted s S h hf
    omega
  | succ f ih =>
    intro wanted s S h hf
    obtain ⟨ts, told, waiting, deep, minuses, isBase⟩ := s
    obtain ⟨mo, W, V⟩ := S
    obtain ⟨hW, hV, hd, hm, hz, hlen⟩ := h
    simp only at hW hV hd hm hz hlen hf
    subst hW
    subst hd
    -- one sign more: a step of both
    have go : ∀ (y : Sym) (r : List Tok) (S' : MS) (w' : Bool) (s' : RS), Q ts = (Q r).map (y :: ·) → stepD ⟨mo, W, V⟩ y = some S' → progF (f + 1) wanted ⟨ts, told, W, opens W, minuses, isBase⟩ = progF f w' s' → s'.ts = r → r.length < ts.length → R w' s' S' →
        match ((Q ts).bind fun ss => runD ⟨mo, W, V⟩ ss).bind fin with
        | none => progF (f + 1) wanted ⟨ts, told, W, opens W, minuses, isBase⟩ = none
        | some e => ∃ t, progF (f + 1) wanted ⟨ts, told, W, opens W, minuses, isBase⟩ = some t ∧ exec t [] = some [e] := by
      intro y r S' w' s' h1 h2 h3 h4 h5 h6
      have := ih w' s' S' h6 (by rw [h4]; omega)
      rw [h3, h1]
      rw [h4] at this
      have e : (((Q r).map (y :: ·)).bind fun ss => runD ⟨mo, W, V⟩ ss) = (Q r).bind fun ss => runD S' ss := by
        cases Q r with
        | none => rfl
        | some ss =>
          show (stepD ⟨mo, W, V⟩ y).bind (fun S' => runD S' ss) = runD S' ss
          rw [h2]
          rfl
      rw [e]
      exact this
    have no : progF (f + 1) wanted ⟨ts, told, W, opens W, minuses, isBase⟩ = none → (((Q ts).bind fun ss => runD ⟨mo, W, V⟩ ss).bind fin) = none →
        match ((Q ts).bind fun ss => runD ⟨mo, W, V⟩ ss).bind fin with
        | none => progF (f + 1) wanted ⟨ts, told, W, opens W, minuses, isBase⟩ = none
        | some e => ∃ t, progF (f + 1) wanted ⟨ts, told, W, opens W, minuses, isBase⟩ = some t ∧ exec t [] = some [e] := by
      intro h1 h2
      rw [h2]
      exact h1
    have bad : ∀ (y : Sym) (r : List Tok), Q ts = (Q r).map (y :: ·) → stepD ⟨mo, W, V⟩ y = none → (((Q ts).bind fun ss => runD ⟨mo, W, V⟩ ss).bind fin) = none := by
      intro y r h1 h2
      rw [h1]
      cases Q r with
      | none => rfl
      | some ss =>
        show ((stepD ⟨mo, W, V⟩ y).bind fun S' => runD S' ss).bind fin = none
        rw [h2]
        rfl
    have badQ : Q ts = none → (((Q ts).bind fun ss => runD ⟨mo, W, V⟩ ss).bind fin) = none := by
      intro h
      rw [h]
      rfl
    cases wanted with
    | true =>
      have hm : mo = .want minuses := hm
      subst hm
      have hlen : V.length = bins W := by simpa using hlen
      cases ts with
      | nil => exact no rfl rfl
      | cons t r =>
        cases t with
        | num n =>
          exact go _ r _ false ⟨r, told ++ [.leaf (.num n)], W, opens W, 0, true⟩ (Q_num n r) rfl rfl rfl (by simp) ⟨rfl, by show exec (told ++ [_]) [] = _; rw [exec_snoc hV]; rfl, rfl, rfl, fun _ => rfl, by simp [hlen]⟩
        | name w =>
          exact go _ r _ false ⟨r, told ++ [.leaf (.name w)], W, opens W, 0, true⟩ (Q_name w r) rfl rfl rfl (by simp) ⟨rfl, by show exec (told ++ [_]) [] = _; rw [exec_snoc hV]; rfl, rfl, rfl, fun _ => rfl, by simp [hlen]⟩
        | root =>
          have hQ := Q_root r
          cases hr : rootAt r with
          | none =>
            rw [hr] at hQ
            refine no ?_ (badQ hQ)
            show (match operand _ with | none => none | some (s', b) => _) = none
            unfold operand
            simp only [hr]
          | some p =>
            obtain ⟨x, r'⟩ := p
            rw [hr] at hQ
            have hl := rootAt_len hr
            refine go _ r' _ false ⟨r', told ++ [.leaf (.root x.1 x.2)], W, opens W, 0, true⟩ hQ rfl ?_ rfl (by simp; omega) ⟨rfl, by show exec (told ++ [_]) [] = _; rw [exec_snoc hV]; rfl, rfl, rfl, fun _ => rfl, by simp [hlen]⟩
            rw [progF]
            unfold operand
            simp only [hr]
            rfl
        | lp =>
          by_cases hd : opens W + 1 ≤ 20
          · refine go _ r ⟨.want 0, .opn none :: W, V⟩ true ⟨r, told, .opn none :: W, opens W + 1, 0, false⟩ (Q_lp r) ?_ ?_ rfl (by simp) ⟨rfl, hV, rfl, rfl, fun q => by (cases q), hlen⟩
            · show (if opens W + 1 ≤ 20 then _ else none) = _
              rw [if_pos hd]
              rfl
            · rw [progF]
              unfold operand
              simp only [if_pos hd]
              rfl
          · refine no ?_ (bad _ r (Q_lp r) ?_)
            · rw [progF]
              unfold operand
              simp only [if_neg hd]
            · show (if opens W + 1 ≤ 20 then _ else none) = _
              rw [if_neg hd]
        | rt m =>
          by_cases hr : ∃ r', r = .lp :: r'
          · obtain ⟨r', rfl⟩ := hr
            by_cases hd : opens W + 1 ≤ 20
            · refine go _ r' ⟨.want 0, .opn (some m) :: W, V⟩ true ⟨r', told, .opn (some m) :: W, opens W + 1, 0, false⟩ (Q_rt m r') ?_ ?_ rfl (by simp; omega) ⟨rfl, hV, rfl, rfl, fun q => by (cases q), hlen⟩
              · show (if opens W + 1 ≤ 20 then _ else none) = _
                rw [if_pos hd]
                rfl
              · rw [progF]
                unfold operand
                simp only [if_pos hd]
                rfl
            · refine no ?_ (bad _ r' (Q_rt m r') ?_)
              · rw [progF]
                unfold operand
                simp only [if_neg hd]
              · show (if opens W + 1 ≤ 20 then _ else none) = _
                rw [if_neg hd]
          · refine no ?_ (badQ (Q_rt_no m r fun r' e => hr ⟨r', e⟩))
            have : operand ⟨.rt m :: r, told, W, opens W, minuses, isBase⟩ = none := by
              unfold operand
              cases r with
              | nil => rfl
              | cons t r => cases t <;> first | rfl | exact (hr ⟨_, rfl⟩).elim
            rw [progF, this]
        | op o =>
          cases o with
          | less =>
            by_cases hd : minuses + 1 ≤ 20
            · refine go _ r ⟨.want (minuses + 1), .neg :: W, V⟩ true ⟨r, told, .neg :: W, opens W, minuses + 1, false⟩ (Q_op .less r) ?_ ?_ rfl (by simp) ⟨rfl, hV, rfl, rfl, fun q => by (cases q), hlen⟩
              · show (if Op.less = Op.less then (if minuses + 1 ≤ 20 then _ else none) else none) = _
                rw [if_pos rfl, if_pos hd]
              · rw [progF]
                unfold operand
                simp only [if_pos hd]
                rfl
            · refine no ?_ (bad _ r (Q_op .less r) ?_)
              · rw [progF]
                unfold operand
                simp only [if_neg hd]
              · show (if Op.less = Op.less then (if minuses + 1 ≤ 20 then _ else none) else none) = _
                rw [if_pos rfl, if_neg hd]
          | _ => exact no rfl (bad _ r (Q_op _ r) rfl)
        | hat =>
          refine no rfl ?_
          rw [Q_hat r]
          cases numAt r with
          | none => rfl
          | some p =>
            show ((if p.1.natAbs ≤ 8 then (Q p.2).map (.pw p.1 :: ·) else none).bind _).bind _ = _
            split
            · cases Q p.2 <;> rfl
            · rfl
        | rp => exact no rfl (bad _ r (Q_rp r) rfl)
        | lb => exact no rfl (badQ (Q_bad _ (by simp) r))
        | rb => exact no rfl (badQ (Q_bad _ (by simp) r))
        | comma => exact no rfl (badQ (Q_bad _ (by simp) r))
    | false =>
      have hmf : mo.free = true := by
        rw [hm]
        cases isBase <;> rfl
      have hz : minuses = 0 := hz rfl
      subst hz
      have hlen : V.length = bins W + 1 := by simpa using hlen
      cases ts with
      | nil =>
        obtain ⟨d1, d2, d3, _⟩ := done_red 1 (Nat.le_refl 1) W told V hV hlen
        show match (some (⟨mo, W, V⟩ : MS)).bind fin with | none => _ | some e => _
        show match fin (⟨mo, W, V⟩ : MS) with | none => _ | some e => _
        unfold fin endV
        simp only [hmf]
        rw [progF]
        simp only
        rw [d1]
        generalize red 1 W V = p at *
        obtain ⟨W', V'⟩ := p
        cases W' with
        | nil =>
          match V', d3 with
          | [e], _ => exact ⟨_, rfl, d2⟩
        | cons m w => cases V' <;> rfl
      | cons t r =>
        have st : ∀ y, stepD ⟨mo, W, V⟩ y = stepFree mo W V y := stepD_free mo hmf W V
        have bf : ∀ q : Option (RS × Bool), behind ⟨t :: r, told, W, opens W, 0, isBase⟩ = q → progF (f + 1) false ⟨t :: r, told, W, opens W, 0, isBase⟩ = goOn f q := by
          intro q h
          rw [progF_behind f _ (by simp), h]
        cases t with
        | num n => exact no (bf _ rfl) (bad _ r (Q_num n r) (st _))
        | name w => exact no (bf _ rfl) (bad _ r (Q_name w r) (st _))
        | root =>
          refine no (bf _ rfl) ?_
          rw [Q_root r]
          cases rootAt r with
          | none => rfl
          | some p =>
            show (((Q p.2).map (.atom (.root p.1.1 p.1.2) :: ·)).bind _).bind _ = _
            cases Q p.2 with
            | none => rfl
            | some ss =>
              show ((stepD _ _).bind _).bind _ = _
              rw [st]
              rfl
        | lp => exact no (bf _ rfl) (bad _ r (Q_lp r) (st _))
        | rt m =>
          refine no (bf _ rfl) ?_
          by_cases hr : ∃ r', r = .lp :: r'
          · obtain ⟨r', rfl⟩ := hr
            exact bad _ r' (Q_rt m r') (st _)
          · exact badQ (Q_rt_no m r fun r' e => hr ⟨r', e⟩)
        | lb => exact no (bf _ rfl) (badQ (Q_bad _ (by simp) r))
        | rb => exact no (bf _ rfl) (badQ (Q_bad _ (by simp) r))
        | comma => exact no (bf _ rfl) (badQ (Q_bad _ (by simp) r))
        | op o =>
          obtain ⟨d1, d2, d3, d4⟩ := done_red o.lev (lev_pos o).1 W told V hV hlen
          refine go _ r _ true ⟨r, (done o.lev W told).2, .bin o :: (done o.lev W told).1, opens W, 0, isBase⟩ (Q_op o r) (st _) (bf _ rfl) rfl (by simp) ⟨?_, d2, ?_, rfl, fun q => by (cases q), ?_⟩
          · show _ = _ :: _
            rw [d1]
          · show opens W = opens (.bin o :: (red o.lev W V).1)
            exact d4.symm
          · show (red o.lev W V).2.length = bins (.bin o :: (red o.lev W V).1) + 0
            rw [d3]
            rfl
        | rp =>
          obtain ⟨d1, d2, d3, d4⟩ := done_red 1 (Nat.le_refl 1) W told V hV hlen
          have hst := st .cls
          have hst : stepD ⟨mo, W, V⟩ .cls = match (red 1 W V).1 with | .opn x :: w => some ⟨.base, w, applyM (.opn x) (red 1 W V).2⟩ | _ => none := hst
          generalize hp : red 1 W V = p at *
          obtain ⟨W', V'⟩ := p
          simp only at d1 d2 d3 d4 hst
          have no' : (∀ x w, W' ≠ .opn x :: w) → match ((Q (.rp :: r)).bind fun ss => runD ⟨mo, W, V⟩ ss).bind fin with
              | none => progF (f + 1) false ⟨.rp :: r, told, W, opens W, 0, isBase⟩ = none
              | some e => ∃ t, progF (f + 1) false ⟨.rp :: r, told, W, opens W, 0, isBase⟩ = some t ∧ exec t [] = some [e] := by
            intro hn
            refine no (bf none ?_) (bad _ r (Q_rp r) ?_)
            · unfold behind
              simp only
              rw [d1]
              split
              · exact (hn _ _ rfl).elim
              · rfl
            · rw [hst]
              split
              · exact (hn _ _ rfl).elim
              · rfl
          cases W' with
          | nil => exact no' (by simp)
          | cons m w =>
            cases m with
            | bin o => exact no' (by simp)
            | neg => exact no' (by simp)
            | opn x =>
              have ho : opens W = opens w + 1 := d4.symm
              have hl : V'.length = bins w + 1 := d3
              refine go _ r _ false ⟨r, (done 1 W told).2 ++ closeIns x, w, opens W - 1, 0, true⟩ (Q_rp r) hst (bf (some (_, false)) ?_) rfl (by simp) ⟨rfl, ?_, ?_, rfl, fun _ => rfl, ?_⟩
              · unfold behind
                simp only
                rw [d1]
              · show exec ((done 1 W told).2 ++ closeIns x) [] = _
                cases x with
                | none =>
                  have e0 : applyM (.opn none) V' = V' := by cases V' <;> rfl
                  rw [e0]
                  simpa [closeIns] using d2
                | some m =>
                  match V', hl, d2 with
                  | e :: V', _, d2 =>
                    show exec (_ ++ [_]) [] = _
                    rw [exec_snoc d2]
                    rfl
              · show opens W - 1 = opens w
                omega
              · show (applyM (.opn x) V').length = bins w + 1
                cases x with
                | none =>
                  have e0 : applyM (.opn none) V' = V' := by cases V' <;> rfl
                  rw [e0]
                  exact hl
                | some m =>
                  match V', hl with
                  | e :: V', hl => exact hl
        | hat =>
          have hQ := Q_hat r
          cases hn : numAt r with
          | none =>
            rw [hn] at hQ
            refine no (bf none ?_) (badQ hQ)
            unfold behind
            simp only [hn]
            split <;> rfl
          | some p =>
            obtain ⟨k, r'⟩ := p
            have hl := numAt_len hn
            rw [hn] at hQ
            have hQ : Q (.hat :: r) = if k.natAbs ≤ 8 then (Q r').map (.pw k :: ·) else none := hQ
            by_cases hk : k.natAbs ≤ 8
            · rw [if_pos hk] at hQ
              cases isBase with
              | false =>
                have hm : mo = .part := hm
                subst hm
                refine no (bf none rfl) (bad _ r' hQ ?_)
                rw [st]
                cases V <;> rfl
              | true =>
                have hm : mo = .base := hm
                subst hm
                cases V with
                | nil => simp at hlen
                | cons e V =>
                  refine go _ r' _ false ⟨r', told ++ [.pow k], W, opens W, 0, false⟩ hQ (st _) (bf (some (_, false)) ?_) rfl (by simp; omega) ⟨rfl, ?_, rfl, rfl, fun _ => rfl, by simpa using hlen⟩
                  · unfold behind
                    simp only [hn, if_true, if_pos hk]
                  · show exec (told ++ [_]) [] = _
                    rw [exec_snoc hV]
                    rfl
            · rw [if_neg hk] at hQ
              refine no (bf none ?_) (badQ hQ)
              unfold behind
              simp only [hn, if_neg hk]
              split <;> rfl

/-! ### how deep -/
def depS : List Sym → Nat → Nat → Option (Nat × Nat)
  | [], now, most => some (now, most)
  | .opn _ :: r, now, most => depS r (now + 1) (max most (now + 1))
  | .cls :: r, now, most => if now = 0 then none else depS r (now - 1) most
  | _ :: r, now, most => depS r now most
theorem deepF_syms (is : List Item) : ∀ ss, syms is = some ss → ∀ n m, deepF is n m = match depS ss n m with | some (k, d) => if k = 0 then some d else none | none => none := by
  induction is using syms.induct with
  | case1 =>
    intro ss h n m
    cases h
    rfl
  | case2 n r hn ih =>
    intro ss h k m
    rw [syms, if_pos hn] at h
    obtain ⟨z, hz, e⟩ := Option.map_eq_some_iff.mp h
    subst e
    exact ih z hz k m
  | case3 n r hn =>
    intro ss h
    rw [syms, if_neg hn] at h
    cases h
  | case4 n r hn ih =>
    intro ss h k m
    rw [syms, if_pos hn] at h
    obtain ⟨z, hz, e⟩ := Option.map_eq_some_iff.mp h
    subst e
    exact ih z hz k m
  | case5 n r hn =>
    intro ss h
    rw [syms, if_neg hn] at h
    cases h
  | case6 x r ih =>
    intro ss h k m
    rw [syms] at h
    obtain ⟨z, hz, e⟩ := Option.map_eq_some_iff.mp h
    subst e
    exact ih z hz (k + 1) (max m (k + 1))
  | case7 r ih =>
    intro ss h k m
    rw [syms] at h
    obtain ⟨z, hz, e⟩ := Option.map_eq_some_iff.mp h
    subst e
    exact ih z hz (k + 1) (max m (k + 1))
  | case8 r ih =>
    intro ss h k m
    rw [syms] at h
    obtain ⟨z, hz, e⟩ := Option.map_eq_some_iff.mp h
    subst e
    show (if k = 0 then none else deepF r (k - 1) m) = match (if k = 0 then none else depS z (k - 1) m) with | some (k, d) => if k = 0 then some d else none | none => none
    by_cases hk : k = 0
    · rw [if_pos hk, if_pos hk]
    · rw [if_neg hk, if_neg hk]
      exact ih z hz (k - 1) m
  | case9 o r ih =>
    intro ss h k m
    rw [syms] at h
    obtain ⟨z, hz, e⟩ := Option.map_eq_some_iff.mp h
    subst e
    exact ih z hz k m
  | case10 t r h1 h2 h3 h4 h5 h6 =>
    intro ss h
    have z : syms (.txt t :: r) = none := by
      rw [syms] <;> assumption
    rw [z] at h
    cases h
  | case11 x r h1 h2 h3 h4 h5 h6 h7 ih =>
    intro ss h k m
    have e1 : syms (x :: r) = (syms r).map (.atom x.ex :: ·) := by
      cases x with
      | txt t => exact (h7 t rfl).elim
      | _ => rfl
    rw [e1] at h
    obtain ⟨z, hz, e⟩ := Option.map_eq_some_iff.mp h
    subst e
    have e2 : deepF (x :: r) k m = deepF r k m := by
      cases x with
      | txt t => exact (h7 t rfl).elim
      | _ => rfl
    rw [e2]
    exact ih z hz k m
theorem red_opens (l : Nat) (hl : 1 ≤ l) : ∀ (W : List Mark) (V : List Xp), opens (red l W V).1 = opens W := by
  intro W
  induction W with
  | nil => intro V; rfl
  | cons m w ih =>
    intro V
    rw [red]
    split
    · rename_i h
      rw [ih]
      cases m with
      | opn x =>
        have : l ≤ 0 := h
        omega
      | _ => rfl
    · rfl
/-- what a step does to the brackets -/
theorem step_opens (S S' : MS) (y : Sym) (h : step none S y = some S') : match y with
    | .opn _ => opens S'.W = opens S.W + 1
    | .cls => opens S.W = opens S'.W + 1
    | _ => opens S'.W = opens S.W := by
  obtain ⟨mo, W, V⟩ := S
  cases y with
  | atom e => cases mo with
    | want m => cases h; rfl
    | _ => cases h
  | pw k => cases mo with
    | want m => cases h
    | part => cases h
    | base => cases V with
      | nil => cases h
      | cons e V => cases h; rfl
  | opn x => cases mo with
    | want m => cases h; rfl
    | _ => cases h
  | op o => cases mo with
    | want m =>
      have h : (if o = .less then (if m + 1 ≤ 20 then some (⟨.want (m + 1), .neg :: W, V⟩ : MS) else none) else none) = some S' := h
      split at h
      · split at h
        · cases h; rfl
        · cases h
      · cases h
    | base =>
      cases h
      exact red_opens o.lev (lev_pos o).1 W V
    | part =>
      cases h
      exact red_opens o.lev (lev_pos o).1 W V
  | cls =>
    show opens W = opens S'.W + 1
    have h : (if mo.free then (match (red 1 W V).1 with | .opn x :: w => some (⟨.base, w, applyM (.opn x) (red 1 W V).2⟩ : MS) | _ => none) else none) = some S' := h
    split at h
    · split at h
      · rename_i x w e
        cases h
        have := red_opens 1 (Nat.le_refl 1) W V
        rw [e] at this
        exact this.symm
      · cases h
    · cases h
theorem runD_run : ∀ (ss : List Sym) (S S' : MS), runD S ss = some S' → run S ss = some S' := by
  intro ss
  induction ss with
  | nil => intro S S' h; exact h
  | cons y r ih =>
    intro S S' h
    have h : (stepD S y).bind (fun S' => runD S' r) = some S' := h
    obtain ⟨T, h1, h2⟩ := Option.bind_eq_some_iff.mp h
    have h3 : step none S y = some T := by
      cases y with
      | opn x =>
        have h1 : (if opens S.W + 1 ≤ 20 then step none S (.opn x) else none) = some T := h1
        split at h1
        · exact h1
        · cases h1
      | _ => exact h1
    show (step none S y).bind (fun S' => run S' r) = some S'
    rw [h3]
    exact ih T S' h2
theorem run_dep : ∀ (ss : List Sym) (S S' : MS) (m : Nat), run S ss = some S' → ∃ d, depS ss (opens S.W) m = some (opens S'.W, d) ∧ m ≤ d ∧ (d ≤ 20 → runD S ss = some S') ∧ (runD S ss ≠ none → d ≤ max m 20) := by
  intro ss
  induction ss with
  | nil =>
    intro S S' m h
    cases h
    exact ⟨m, rfl, Nat.le_refl _, fun _ => rfl, fun _ => by omega⟩
  | cons y r ih =>
    intro S S' m h
    have h : (step none S y).bind (fun S' => run S' r) = some S' := h
    obtain ⟨T, h1, h2⟩ := Option.bind_eq_some_iff.mp h
    have ho := step_opens S T y h1
    have plain : opens T.W = opens S.W → stepD S y = step none S y → (∀ n m, depS (y :: r) n m = depS r n m) → ∃ d, depS (y :: r) (opens S.W) m = some (opens S'.W, d) ∧ m ≤ d ∧ (d ≤ 20 → runD S (y :: r) = some S') ∧ (runD S (y :: r) ≠ none → d ≤ max m 20) := by
      intro q1 q2 q3
      obtain ⟨d, a, b, c, e⟩ := ih T S' m h2
      refine ⟨d, by rw [q3, ← q1]; exact a, b, fun hd => ?_, fun hd => e ?_⟩
      · show (stepD S y).bind (fun S' => runD S' r) = _
        rw [q2, h1]
        exact c hd
      · have hd : (stepD S y).bind (fun S' => runD S' r) ≠ none := hd
        rw [q2, h1] at hd
        exact hd
    cases y with
    | atom e => exact plain ho rfl fun _ _ => rfl
    | pw k => exact plain ho rfl fun _ _ => rfl
    | op o => exact plain ho rfl fun _ _ => rfl
    | cls =>
      have ho : opens S.W = opens T.W + 1 := ho
      obtain ⟨d, a, b, c, e⟩ := ih T S' m h2
      refine ⟨d, ?_, b, fun hd => ?_, fun hd => e ?_⟩
      · show (if opens S.W = 0 then none else depS r (opens S.W - 1) m) = _
        rw [if_neg (by omega), ho]
        exact a
      · show (step none S .cls).bind (fun S' => runD S' r) = _
        rw [h1]
        exact c hd
      · have hd : (step none S .cls).bind (fun S' => runD S' r) ≠ none := hd
        rw [h1] at hd
        exact hd
    | opn x =>
      have ho : opens T.W = opens S.W + 1 := ho
      obtain ⟨d, a, b, c, e⟩ := ih T S' (max m (opens S.W + 1)) h2
      refine ⟨d, ?_, by omega, fun hd => ?_, fun hd => ?_⟩
      · show depS r (opens S.W + 1) (max m (opens S.W + 1)) = _
        rw [← ho] at *
        exact a
      · show (if opens S.W + 1 ≤ 20 then step none S (.opn x) else none).bind (fun S' => runD S' r) = _
        rw [if_pos (by omega), h1]
        exact c hd
      · have hd : (if opens S.W + 1 ≤ 20 then step none S (.opn x) else none).bind (fun S' => runD S' r) ≠ none := hd
        split at hd
        · rw [h1] at hd
          have := e hd
          omega
        · exact (hd rfl).elim
theorem fin_opens (S : MS) (e : Xp) (h : fin S = some e) : opens S.W = 0 := by
  unfold fin endV at h
  split at h
  · rename_i e' V heq
    split at heq
    · have := red_opens 1 (Nat.le_refl 1) S.W S.V
      have e1 : red 1 S.W S.V = ([], e' :: V) := Option.some.inj heq
      rw [e1] at this
      exact this.symm
    · cases heq
  · cases h
/-- THE PLAIN LAW: the law's reading of words is the program's -/
theorem law_prog (ts : List Tok) : match lawRead ts with
    | none => prog ts = none
    | some e => ∃ told, prog ts = some told ∧ exec told [] = some [e] := by
  have h := sim (ts.length + 1) true ⟨ts, [], [], 0, 0, false⟩ S0 ⟨rfl, rfl, rfl, rfl, fun q => by (cases q), rfl⟩ (Nat.lt_succ_self _)
  have e : (((Q ts).bind fun ss => runD S0 ss).bind fin) = lawRead ts := by
    unfold lawRead Q
    cases hi : items ts with
    | none => rfl
    | some is =>
      show ((syms is).bind fun ss => runD S0 ss).bind fin = match deepF is 0 0 with | none => none | some d => if d ≤ 20 then readF (is.length + 1) is else none
      have np : ∀ x ∈ is, x.isPart = false := items_noPart _ _ _ hi
      have hM : ∀ d, deepF is 0 0 = some d → readF (is.length + 1) is = M is := fun d hd => readF_M _ _ (Nat.lt_succ_self _) (deep_bal _ _ _ _ hd) np
      cases hs : syms is with
      | none =>
        cases hd : deepF is 0 0 with
        | none => rfl
        | some d =>
          show none = if d ≤ 20 then _ else none
          rw [hM d hd]
          unfold M
          rw [hs]
          split <;> rfl
      | some ss =>
        have hD := deepF_syms is ss hs 0 0
        show (runD S0 ss).bind fin = _
        cases hr : run S0 ss with
        | none =>
          have h1 : runD S0 ss = none := by
            cases q : runD S0 ss with
            | none => rfl
            | some S =>
              rw [runD_run _ _ _ q] at hr
              cases hr
          rw [h1]
          cases hd : deepF is 0 0 with
          | none => rfl
          | some d =>
            show none = if d ≤ 20 then _ else none
            rw [hM d hd]
            unfold M
            rw [hs]
            show none = if d ≤ 20 then (run S0 ss).bind fin else none
            rw [hr]
            split <;> rfl
        | some S =>
          obtain ⟨d, a, b, c, q⟩ := run_dep ss S0 S 0 hr
          have a : depS ss 0 0 = some (opens S.W, d) := a
          rw [a] at hD
          have hD : deepF is 0 0 = if opens S.W = 0 then some d else none := hD
          cases hf : fin S with
          | none =>
            have h1 : (runD S0 ss).bind fin = none := by
              cases q : runD S0 ss with
              | none => rfl
              | some S2 =>
                have := runD_run _ _ _ q
                rw [hr] at this
                cases this
                exact hf
            rw [h1]
            cases hd : deepF is 0 0 with
            | none => rfl
            | some d =>
              show none = if d ≤ 20 then _ else none
              rw [hM d hd]
              unfold M
              rw [hs]
              show none = if d ≤ 20 then (run S0 ss).bind fin else none
              rw [hr]
              show none = if d ≤ 20 then fin S else none
              rw [hf]
              split <;> rfl
          | some e =>
            rw [if_pos (fin_opens S e hf)] at hD
            rw [hD]
            show _ = if d ≤ 20 then _ else none
            by_cases hd : d ≤ 20
            · rw [if_pos hd, c hd, hM d hD]
              unfold M
              rw [hs]
              show _ = (run S0 ss).bind fin
              rw [hr]
            · rw [if_neg hd]
              cases hq : runD S0 ss with
              | none => rfl
              | some S2 =>
                have := q (by rw [hq]; simp)
                omega
  have h : match ((Q ts).bind fun ss => runD S0 ss).bind fin with
    | none => prog ts = none
    | some e => ∃ told, prog ts = some told ∧ exec told [] = some [e] := h
  rw [e] at h
  exact h
end K83
end
section
set_option autoImplicit false
namespace K83
open PySem

/-! ### signs and words: both cut a text alike -/
def figs : List Nat := [48, 49, 50, 51, 52, 53, 54, 55, 56, 57]
def lets : List Nat := [97, 98, 99, 100, 101, 102, 103, 104, 105, 106, 107, 108, 109, 110, 111, 112, 113, 114, 115, 116, 117, 118, 119, 120, 121, 122]
def sigs : List Nat := [43, 45, 42, 47, 94, 40, 41, 91, 93, 44]
def isFig (c : Nat) : Bool := decide (c ∈ figs)
def isLet (c : Nat) : Bool := decide (c ∈ lets)
def isSig (c : Nat) : Bool := decide (c ∈ sigs)
theorem fig_lt {c : Nat} (h : isFig c = true) : 48 ≤ c ∧ c ≤ 57 := by
  have : c ∈ figs := of_decide_eq_true h
  simp [figs] at this
  omega
theorem let_lt {c : Nat} (h : isLet c = true) : 97 ≤ c ∧ c ≤ 122 := by
  have : c ∈ lets := of_decide_eq_true h
  simp [lets] at this
  omega
theorem fig_let {c : Nat} (h : isFig c = true) : isLet c = false := by
  cases e : isLet c with
  | false => rfl
  | true =>
    have := fig_lt h
    have := let_lt e
    omega
theorem fig_32 {c : Nat} (h : isFig c = true) : c ≠ 32 := by
  have := fig_lt h
  omega
theorem let_32 {c : Nat} (h : isLet c = true) : c ≠ 32 := by
  have := let_lt h
  omega
def kind (c : Nat) : Nat := if isFig c then 1 else if isLet c then 2 else 3
def addLast : List (List Nat) → Nat → List (List Nat)
  | w :: r, c => (w ++ [c]) :: r
  | [], _ => []
/-- the law's: last the kind of the sign ahead, acc the words, the last one ahead -/
def lw : Nat → List (List Nat) → List Nat → Option (List (List Nat))
  | _, acc, [] => some acc.reverse
  | last, acc, c :: cs =>
    if kind c = 3 ∧ ¬ (isSig c = true ∨ c = 32) then none
    else if kind c = last ∧ kind c < 3 then lw (kind c) (addLast acc c) cs
    else if c ≠ 32 then lw (kind c) ([c] :: acc) cs
    else lw (kind c) acc cs
def goodNum (w : List Nat) : Bool := decide (w.length ≤ 30) && (decide (w.head? ≠ some 48) || decide (w = [48]))
def goodName (w : List Nat) : Bool := decide (w.length ≤ 8)
def goodW (w : List Nat) : Bool := match w with | [] => false | c :: _ => if isFig c then goodNum w else goodName w
def lawWords (cs : List Nat) : Option (List (List Nat)) :=
  match lw 0 [] cs with
  | none => none
  | some ws => if ws.all goodW ∧ ws.length ≤ 200 then some ws else none
/-- the program's -/
def pwF : Nat → List Nat → Option (List (List Nat))
  | 0, _ => some []
  | _ + 1, [] => some []
  | f + 1, c :: cs =>
    if isFig c then
      if goodNum (c :: cs.takeWhile isFig) then (pwF f (cs.dropWhile isFig)).map ((c :: cs.takeWhile isFig) :: ·) else none
    else if isLet c then
      if goodName (c :: cs.takeWhile isLet) then (pwF f (cs.dropWhile isLet)).map ((c :: cs.takeWhile isLet) :: ·) else none
    else if c = 32 then pwF f cs
    else if isSig c then (pwF f cs).map ([c] :: ·)
    else none
def pw (cs : List Nat) : Option (List (List Nat)) := pwF cs.length cs
def progWords (cs : List Nat) : Option (List (List Nat)) :=
  match pw cs with
  | none => none
  | some ws => if ws.length ≤ 200 then some ws else none
theorem dropWhile_len (p : Nat → Bool) (cs : List Nat) : (cs.dropWhile p).length ≤ cs.length := by
  induction cs with
  | nil => exact Nat.le_refl _
  | cons c cs ih =>
    rw [List.dropWhile_cons]
    split
    · simp only [List.length_cons]
      omega
    · exact Nat.le_refl _
theorem pwF_le : ∀ (f g : Nat) (cs : List Nat), cs.length ≤ f → cs.length ≤ g → pwF f cs = pwF g cs := by
  intro f
  induction f with
  | zero =>
    intro g cs h1 h2
    have : cs = [] := by
      cases cs with
      | nil => rfl
      | cons x r => simp at h1
    subst this
    cases g <;> rfl
  | succ f ih =>
    intro g cs h1 h2
    cases cs with
    | nil => cases g <;> rfl
    | cons c cs =>
      cases g with
      | zero => simp at h2
      | succ g =>
        simp only [List.length_cons] at h1 h2
        have a1 := dropWhile_len isFig cs
        have a2 := dropWhile_len isLet cs
        rw [pwF, pwF, ih g (cs.dropWhile isFig) (by omega) (by omega), ih g (cs.dropWhile isLet) (by omega) (by omega), ih g cs (by omega) (by omega)]
theorem pw_cons (c : Nat) (cs : List Nat) : pw (c :: cs) =
    if isFig c then
      if goodNum (c :: cs.takeWhile isFig) then (pw (cs.dropWhile isFig)).map ((c :: cs.takeWhile isFig) :: ·) else none
    else if isLet c then
      if goodName (c :: cs.takeWhile isLet) then (pw (cs.dropWhile isLet)).map ((c :: cs.takeWhile isLet) :: ·) else none
    else if c = 32 then pw cs
    else if isSig c then (pw cs).map ([c] :: ·)
    else none := by
  have a1 := dropWhile_len isFig cs
  have a2 := dropWhile_len isLet cs
  unfold pw
  show pwF (cs.length + 1) (c :: cs) = _
  rw [pwF, pwF_le cs.length (cs.dropWhile isFig).length (cs.dropWhile isFig) a1 (Nat.le_refl _), pwF_le cs.length (cs.dropWhile isLet).length (cs.dropWhile isLet) a2 (Nat.le_refl _)]
theorem kind_fig {c : Nat} (h : isFig c = true) : kind c = 1 := by
  unfold kind
  rw [if_pos h]
theorem kind_let {c : Nat} (h : isLet c = true) : kind c = 2 := by
  have : ¬ isFig c = true := fun q => by
    rw [fig_let q] at h
    cases h
  unfold kind
  rw [if_neg this, if_pos h]
theorem kind_other {c : Nat} (h1 : isFig c = false) (h2 : isLet c = false) : kind c = 3 := by
  unfold kind
  rw [h1, h2]
  rfl
/-- a run of figures, of letters, goes to the word -/
theorem lw_fig : ∀ (cs : List Nat) (w : List Nat) (acc : List (List Nat)), lw 1 (w :: acc) cs = lw 1 ((w ++ cs.takeWhile isFig) :: acc) (cs.dropWhile isFig) := by
  intro cs
  induction cs with
  | nil =>
    intro w acc
    simp
  | cons c cs ih =>
    intro w acc
    rw [List.takeWhile_cons, List.dropWhile_cons]
    cases h : isFig c with
    | false => simp
    | true =>
      rw [if_pos rfl, if_pos rfl, lw, kind_fig h]
      rw [if_neg (by simp), if_pos (by decide)]
      show lw _ ((w ++ [c]) :: acc) cs = _
      rw [ih]
      simp
theorem lw_let : ∀ (cs : List Nat) (w : List Nat) (acc : List (List Nat)), lw 2 (w :: acc) cs = lw 2 ((w ++ cs.takeWhile isLet) :: acc) (cs.dropWhile isLet) := by
  intro cs
  induction cs with
  | nil =>
    intro w acc
    simp
  | cons c cs ih =>
    intro w acc
    rw [List.takeWhile_cons, List.dropWhile_cons]
    cases h : isLet c with
    | false => simp
    | true =>
      rw [if_pos rfl, if_pos rfl, lw, kind_let h]
      rw [if_neg (by simp), if_pos (by decide)]
      show lw _ ((w ++ [c]) :: acc) cs = _
      rw [ih]
      simp
theorem dropWhile_head (p : Nat → Bool) (cs : List Nat) : ∀ c r, cs.dropWhile p = c :: r → p c = false := by
  induction cs with
  | nil =>
    intro c r h
    cases h
  | cons x cs ih =>
    intro c r h
    rw [List.dropWhile_cons] at h
    split at h
    · exact ih c r h
    · rename_i hx
      cases h
      simpa using hx
theorem join_eq (G A : Bool) (P : Option (List (List Nat))) (w : List Nat) (acc : List (List Nat)) :
    (if (G && A) = true then P.map ((w :: acc).reverse ++ ·) else none) = if A = true then (if G = true then P.map (w :: ·) else none).map (acc.reverse ++ ·) else none := by
  cases G <;> cases A <;> cases P <;> simp
theorem lw_fig1 {c last : Nat} {acc : List (List Nat)} {cs : List Nat} (h : isFig c = true) (hl : last ≠ 1) : lw last acc (c :: cs) = lw 1 ([c] :: acc) cs := by
  have e1 : ¬ (kind c = 3 ∧ ¬ (isSig c = true ∨ c = 32)) := fun q => by
    have := kind_fig h
    omega
  have e2 : ¬ (kind c = last ∧ kind c < 3) := fun q => by
    have := kind_fig h
    omega
  rw [lw, if_neg e1, if_neg e2, if_pos (fig_32 h), kind_fig h]
theorem lw_let1 {c last : Nat} {acc : List (List Nat)} {cs : List Nat} (h : isLet c = true) (hl : last ≠ 2) : lw last acc (c :: cs) = lw 2 ([c] :: acc) cs := by
  have e1 : ¬ (kind c = 3 ∧ ¬ (isSig c = true ∨ c = 32)) := fun q => by
    have := kind_let h
    omega
  have e2 : ¬ (kind c = last ∧ kind c < 3) := fun q => by
    have := kind_let h
    omega
  rw [lw, if_neg e1, if_neg e2, if_pos (let_32 h), kind_let h]
theorem lw_blank {last : Nat} {acc : List (List Nat)} {cs : List Nat} : lw last acc (32 :: cs) = lw 3 acc cs := by
  have k : kind 32 = 3 := by decide
  have e1 : ¬ (kind 32 = 3 ∧ ¬ (isSig 32 = true ∨ 32 = 32)) := fun q => q.2 (.inr rfl)
  have e2 : ¬ (kind 32 = last ∧ kind 32 < 3) := fun q => by omega
  rw [lw, if_neg e1, if_neg e2, if_neg (by decide), k]
theorem lw_sig1 {c last : Nat} {acc : List (List Nat)} {cs : List Nat} (h1 : isFig c = false) (h2 : isLet c = false) (h : isSig c = true) (hc : c ≠ 32) : lw last acc (c :: cs) = lw 3 ([c] :: acc) cs := by
  have k := kind_other h1 h2
  have e1 : ¬ (kind c = 3 ∧ ¬ (isSig c = true ∨ c = 32)) := fun q => q.2 (.inl h)
  have e2 : ¬ (kind c = last ∧ kind c < 3) := fun q => by omega
  rw [lw, if_neg e1, if_neg e2, if_pos hc, k]
theorem lw_bad {c last : Nat} {acc : List (List Nat)} {cs : List Nat} (h1 : isFig c = false) (h2 : isLet c = false) (h : isSig c = false) (hc : c ≠ 32) : lw last acc (c :: cs) = none := by
  have k := kind_other h1 h2
  have e1 : kind c = 3 ∧ ¬ (isSig c = true ∨ c = 32) := ⟨k, fun q => by
    rcases q with q | q
    · rw [h] at q
      cases q
    · exact hc q⟩
  rw [lw, if_pos e1]
theorem pw_fig {c : Nat} {cs : List Nat} (h : isFig c = true) : pw (c :: cs) = if goodNum (c :: cs.takeWhile isFig) = true then (pw (cs.dropWhile isFig)).map ((c :: cs.takeWhile isFig) :: ·) else none := by
  rw [pw_cons, if_pos h]
theorem pw_let {c : Nat} {cs : List Nat} (h : isLet c = true) : pw (c :: cs) = if goodName (c :: cs.takeWhile isLet) = true then (pw (cs.dropWhile isLet)).map ((c :: cs.takeWhile isLet) :: ·) else none := by
  have : ¬ isFig c = true := fun q => by
    rw [fig_let q] at h
    cases h
  rw [pw_cons, if_neg this, if_pos h]
theorem pw_blank {cs : List Nat} : pw (32 :: cs) = pw cs := by
  rw [pw_cons, if_neg (by decide), if_neg (by decide), if_pos rfl]
theorem pw_sig {c : Nat} {cs : List Nat} (h1 : isFig c = false) (h2 : isLet c = false) (h : isSig c = true) (hc : c ≠ 32) : pw (c :: cs) = (pw cs).map ([c] :: ·) := by
  rw [pw_cons, if_neg (show ¬ isFig c = true by rw [h1]; decide), if_neg (show ¬ isLet c = true by rw [h2]; decide), if_neg hc, if_pos h]
theorem pw_bad {c : Nat} {cs : List Nat} (h1 : isFig c = false) (h2 : isLet c = false) (h : isSig c = false) (hc : c ≠ 32) : pw (c :: cs) = none := by
  rw [pw_cons, if_neg (show ¬ isFig c = true by rw [h1]; decide), if_neg (show ¬ isLet c = true by rw [h2]; decide), if_neg hc, if_neg (show ¬ isSig c = true by rw [h]; decide)]
/-- the words, all good, of the rest -/
theorem lw_pw : ∀ (n : Nat) (cs : List Nat), cs.length ≤ n → ∀ (last : Nat) (acc : List (List Nat)), (∀ c r, cs = c :: r → kind c = last → last = 3 ∨ last = 0) →
    (match lw last acc cs with | none => none | some ws => if ws.all goodW then some ws else none) = if acc.all goodW then (pw cs).map (acc.reverse ++ ·) else none := by
  have nil : ∀ (last : Nat) (acc : List (List Nat)), (match lw last acc [] with | none => none | some ws => if ws.all goodW then some ws else none) = if acc.all goodW then (pw []).map (acc.reverse ++ ·) else none := by
    intro last acc
    rw [lw]
    simp only [List.all_reverse]
    show _ = if acc.all goodW then some (acc.reverse ++ []) else none
    rw [List.append_nil]
  intro n
  induction n with
  | zero =>
    intro cs hl last acc _
    cases cs with
    | nil => exact nil last acc
    | cons x r => simp at hl
  | succ n ih =>
    intro cs hl last acc hk
    cases cs with
    | nil => exact nil last acc
    | cons c cs =>
      simp only [List.length_cons] at hl
      have a1 := dropWhile_len isFig cs
      have a2 := dropWhile_len isLet cs
      have hk := hk c cs rfl
      cases hf : isFig c with
      | true =>
        rw [lw_fig1 hf (fun e => by have := kind_fig hf; have := hk (by omega); omega), lw_fig, pw_fig hf]
        rw [ih (cs.dropWhile isFig) (by omega) 1 _ (fun c r e q => by
          have := dropWhile_head _ _ _ _ e
          unfold kind at q
          rw [this] at q
          split at q
          · rename_i h; cases h
          · split at q <;> omega)]
        have e1 : (([c] ++ cs.takeWhile isFig) :: acc : List (List Nat)).all goodW = (goodNum (c :: cs.takeWhile isFig) && acc.all goodW) := by
          show ((if isFig c then goodNum (c :: cs.takeWhile isFig) else _) && _) = _
          rw [if_pos hf]
        rw [e1]
        exact join_eq _ _ _ _ _
      | false =>
        cases hg : isLet c with
        | true =>
          rw [lw_let1 hg (fun e => by have := kind_let hg; have := hk (by omega); omega), lw_let, pw_let hg]
          rw [ih (cs.dropWhile isLet) (by omega) 2 _ (fun c r e q => by
            have := dropWhile_head _ _ _ _ e
            unfold kind at q
            rw [this] at q
            split at q
            · omega
            · split at q
              · rename_i h; cases h
              · omega)]
          have e1 : (([c] ++ cs.takeWhile isLet) :: acc : List (List Nat)).all goodW = (goodName (c :: cs.takeWhile isLet) && acc.all goodW) := by
            show ((if isFig c then _ else goodName (c :: cs.takeWhile isLet)) && _) = _
            rw [if_neg (show ¬ isFig c = true by rw [hf]; decide)]
          rw [e1]
          exact join_eq _ _ _ _ _
        | false =>
          by_cases c32 : c = 32
          · subst c32
            rw [lw_blank, pw_blank]
            exact ih cs (by omega) 3 acc fun _ _ _ _ => .inl rfl
          · cases hs : isSig c with
            | true =>
              rw [lw_sig1 hf hg hs c32, pw_sig hf hg hs c32, ih cs (by omega) 3 _ fun _ _ _ _ => .inl rfl]
              have e1 : ([c] :: acc : List (List Nat)).all goodW = (true && acc.all goodW) := by
                show ((if isFig c then goodNum [c] else goodName [c]) && _) = _
                rw [if_neg (show ¬ isFig c = true by rw [hf]; decide)]
                rfl
              rw [e1]
              exact join_eq true _ _ _ _
            | false =>
              rw [lw_bad hf hg hs c32, pw_bad hf hg hs c32]
              cases acc.all goodW <;> rfl
theorem words_same (cs : List Nat) : lawWords cs = progWords cs := by
  have h := lw_pw cs.length cs (Nat.le_refl _) 0 [] (fun _ _ _ _ => .inr rfl)
  simp only [List.all_nil, if_true, List.reverse_nil, List.nil_append] at h
  have e : (pw cs).map (fun x => x) = pw cs := by cases pw cs <;> rfl
  rw [e] at h
  unfold lawWords progWords
  rw [← h]
  cases lw 0 [] cs with
  | none => rfl
  | some ws =>
    show (if ws.all goodW = true ∧ ws.length ≤ 200 then some ws else none) = match (if ws.all goodW = true then some ws else none) with | none => none | some ws => if ws.length ≤ 200 then some ws else none
    by_cases h1 : ws.all goodW = true
    · rw [if_pos h1]
      show _ = if ws.length ≤ 200 then some ws else none
      by_cases h2 : ws.length ≤ 200
      · rw [if_pos ⟨h1, h2⟩, if_pos h2]
      · rw [if_neg (fun q => h2 q.2), if_neg h2]
    · rw [if_neg h1, if_neg (fun q => h1 q.1)]
end K83
end
section
set_option autoImplicit false
/-! Words and tokens. -/
namespace K83
open PySem
/-- a text of these signs -/
def mkS (l : List Nat) : Str := ⟨l.toArray⟩
theorem mkS_inj {a b : List Nat} (h : mkS a = mkS b) : a = b := by
  have : a.toArray = b.toArray := congrArg Str.cps h
  exact List.toArray_inj this
theorem mkS_eq (z : Str) : z = mkS z.cps.toList := by
  obtain ⟨c⟩ := z
  simp [mkS]
theorem mkS_len (l : List Nat) : (mkS l).length = l.length := by simp [mkS, Str.length]
theorem mkS_list (l : List Nat) : (mkS l).cps.toList = l := by simp [mkS]
def wRoot : List Nat := [114, 111, 111, 116]
def wSqrt : List Nat := [115, 113, 114, 116]
def wCbrt : List Nat := [99, 98, 114, 116]
def isTold (l : List Nat) : Bool := decide (l = wRoot) || (decide (l = wSqrt) || decide (l = wCbrt))
def isNameL (l : List Nat) : Bool := decide (1 ≤ l.length) && decide (l.length ≤ 8) && !isTold l && l.all isLet
def isNumberL (l : List Nat) : Bool := decide (1 ≤ l.length) && decide (l.length ≤ 30) && l.all isFig && (decide (l.head? ≠ some 48) || decide (l = [48]))
abbrev dval (l : List Nat) : Nat := NumText.digitsVal l
def sigTok (c : Nat) : Tok :=
  if c = 43 then .op .plus else if c = 45 then .op .less else if c = 42 then .op .times else if c = 47 then .op .over else if c = 94 then .hat
  else if c = 40 then .lp else if c = 41 then .rp else if c = 91 then .lb else if c = 93 then .rb else .comma
def tokOf (w : List Nat) : Tok :=
  if w = wRoot then .root else if w = wSqrt then .rt .sqrt else if w = wCbrt then .rt .cbrt else
  match w with
  | [] => .comma
  | c :: r => if isFig c then .num (dval (c :: r)) else if isLet c then .name (mkS (c :: r)) else sigTok c
/-- what a word may be -/
inductive WV : List Nat → Tok → Prop
  | num (c : Nat) (r : List Nat) (h1 : isFig c = true) (h2 : r.all isFig = true) (h3 : (c :: r).length ≤ 30) (h4 : c ≠ 48 ∨ r = []) : WV (c :: r) (.num (dval (c :: r)))
  | root : WV wRoot .root
  | sqrt : WV wSqrt (.rt .sqrt)
  | cbrt : WV wCbrt (.rt .cbrt)
  | name (c : Nat) (r : List Nat) (h1 : isLet c = true) (h2 : r.all isLet = true) (h3 : (c :: r).length ≤ 8) (h4 : isTold (c :: r) = false) : WV (c :: r) (.name (mkS (c :: r)))
  | plus : WV [43] (.op .plus)
  | less : WV [45] (.op .less)
  | times : WV [42] (.op .times)
  | over : WV [47] (.op .over)
  | hat : WV [94] .hat
  | lp : WV [40] .lp
  | rp : WV [41] .rp
  | lb : WV [91] .lb
  | rb : WV [93] .rb
  | comma : WV [44] .comma
theorem told_cases {l : List Nat} (h : isTold l = true) : l = wRoot ∨ l = wSqrt ∨ l = wCbrt := by
  simpa [isTold] using h
theorem told_not {l : List Nat} (h : isTold l = false) : l ≠ wRoot ∧ l ≠ wSqrt ∧ l ≠ wCbrt := by
  simpa [isTold] using h
theorem head_not {c : Nat} {r : List Nat} (h : isLet c = false) : c :: r ≠ wRoot ∧ c :: r ≠ wSqrt ∧ c :: r ≠ wCbrt := by
  refine ⟨?_, ?_, ?_⟩ <;> intro e <;> injection e with e1 _ <;> subst e1 <;> revert h <;> decide
theorem WV.tok {w : List Nat} {t : Tok} (h : WV w t) : tokOf w = t := by
  cases h with
  | num c r h1 h2 h3 h4 =>
    have := head_not (r := r) (fig_let h1)
    unfold tokOf
    rw [if_neg this.1, if_neg this.2.1, if_neg this.2.2]
    simp only [h1, if_true]
  | name c r h1 h2 h3 h4 =>
    have := told_not h4
    unfold tokOf
    rw [if_neg this.1, if_neg this.2.1, if_neg this.2.2]
    have : isFig c = false := by
      cases e : isFig c with
      | false => rfl
      | true =>
        have := fig_let e
        rw [h1] at this
        cases this
    simp [this, h1]
  | _ => decide
theorem fig_run {c : Nat} {r : List Nat} (h1 : isFig c = true) (h2 : r.all isFig = true) (h : goodNum (c :: r) = true) : WV (c :: r) (tokOf (c :: r)) := by
  have g : (c :: r).length ≤ 30 ∧ (c ≠ 48 ∨ r = []) := by
    unfold goodNum at h
    rw [Bool.and_eq_true, Bool.or_eq_true] at h
    obtain ⟨a, b⟩ := h
    refine ⟨of_decide_eq_true a, ?_⟩
    rcases b with b | b
    · have := of_decide_eq_true b
      exact Or.inl fun e => this (by rw [e]; rfl)
    · have := of_decide_eq_true b
      injection this with _ e
      exact Or.inr e
  have := WV.num c r h1 h2 g.1 g.2
  rwa [this.tok]
theorem let_run {c : Nat} {r : List Nat} (h1 : isLet c = true) (h2 : r.all isLet = true) (h : goodName (c :: r) = true) : WV (c :: r) (tokOf (c :: r)) := by
  have g : (c :: r).length ≤ 8 := of_decide_eq_true h
  cases e : isTold (c :: r) with
  | false =>
    have := WV.name c r h1 h2 g e
    rwa [this.tok]
  | true =>
    rcases told_cases e with e | e | e <;> rw [e]
    · exact .root
    · exact .sqrt
    · exact .cbrt
theorem sig_run {c : Nat} (h : isSig c = true) : WV [c] (tokOf [c]) := by
  have : c ∈ sigs := of_decide_eq_true h
  simp [sigs] at this
  rcases this with e | e | e | e | e | e | e | e | e | e <;> subst e
  · exact .plus
  · exact .less
  · exact .times
  · exact .over
  · exact .hat
  · exact .lp
  · exact .rp
  · exact .lb
  · exact .rb
  · exact .comma
theorem takeWhile_p (p : Nat → Bool) (cs : List Nat) : (cs.takeWhile p).all p = true := by
  induction cs with
  | nil => rfl
  | cons c cs ih =>
    rw [List.takeWhile_cons]
    split
    · rename_i h
      rw [List.all_cons, h, ih]
      rfl
    · rfl
theorem pwF_wv : ∀ (f : Nat) (cs : List Nat) (ws : List (List Nat)), pwF f cs = some ws → ∀ w ∈ ws, WV w (tokOf w)
  | 0, cs, ws, h => by
    cases cs <;> simp [pwF] at h <;> subst h <;> simp
  | f + 1, [], ws, h => by
    simp [pwF] at h
    subst h
    simp
  | f + 1, c :: cs, ws, h => by
    rw [pwF] at h
    split at h
    · rename_i h1
      split at h
      · rename_i h2
        obtain ⟨vs, h3, h4⟩ := Option.map_eq_some_iff.mp h
        subst h4
        intro w hw
        rcases List.mem_cons.mp hw with e | hw
        · rw [e]
          exact fig_run h1 (takeWhile_p _ _) h2
        · exact pwF_wv f _ _ h3 w hw
      · cases h
    · split at h
      · rename_i h1
        split at h
        · rename_i h2
          obtain ⟨vs, h3, h4⟩ := Option.map_eq_some_iff.mp h
          subst h4
          intro w hw
          rcases List.mem_cons.mp hw with e | hw
          · rw [e]
            exact let_run h1 (takeWhile_p _ _) h2
          · exact pwF_wv f _ _ h3 w hw
        · cases h
      · split at h
        · exact pwF_wv f _ _ h
        · split at h
          · rename_i h2
            obtain ⟨vs, h3, h4⟩ := Option.map_eq_some_iff.mp h
            subst h4
            intro w hw
            rcases List.mem_cons.mp hw with e | hw
            · rw [e]
              exact sig_run h2
            · exact pwF_wv f _ _ h3 w hw
          · cases h
/-- words of a text: few, and each is one -/
structure Wds (ws : List (List Nat)) : Prop where
  len : ws.length ≤ 200
  all : ∀ w ∈ ws, WV w (tokOf w)
theorem progWords_wds {cs : List Nat} {ws : List (List Nat)} (h : progWords cs = some ws) : Wds ws := by
  unfold progWords at h
  split at h
  · cases h
  · rename_i vs h1
    split at h
    · rename_i h2
      cases h
      exact ⟨h2, pwF_wv _ _ _ h1⟩
    · cases h
theorem Wds.get {ws : List (List Nat)} {i : Nat} {w : List Nat} (h : Wds ws) (e : ws[i]? = some w) : WV w (tokOf w) := h.all w (List.mem_of_getElem? e)
theorem WV.ne {w : List Nat} {t : Tok} (h : WV w t) : w ≠ [] := by
  cases h <;> simp [wRoot, wSqrt, wCbrt]
theorem WV.small {w : List Nat} {t : Tok} (h : WV w t) : w.length ≤ 30 := by
  cases h with
  | num c r h1 h2 h3 h4 => exact h3
  | name c r h1 h2 h3 h4 => omega
  | _ => decide
/-- what kind of thing ahead -/
theorem WV.fig {w : List Nat} {t : Tok} (h : WV w t) : (w.head?.map isFig) = some (match t with | .num _ => true | _ => false) := by
  cases h with
  | num c r h1 h2 h3 h4 => simp [h1]
  | name c r h1 h2 h3 h4 =>
    have : isFig c = false := by
      cases e : isFig c with
      | false => rfl
      | true =>
        have := fig_let e
        rw [h1] at this
        cases this
    simp [this]
  | _ => decide
theorem WV.lett {w : List Nat} {t : Tok} (h : WV w t) : (w.head?.map isLet) = some (match t with | .name _ => true | .root => true | .rt _ => true | _ => false) := by
  cases h with
  | num c r h1 h2 h3 h4 => simp [fig_let h1]
  | name c r h1 h2 h3 h4 => simp [h1]
  | _ => decide
/-- but for numbers a token tells its word -/
theorem WV.word {w v : List Nat} {t : Tok} (h : WV w t) (g : WV v t) (n : ∀ k, t ≠ .num k) : w = v := by
  cases h with
  | num c r h1 h2 h3 h4 => exact absurd rfl (n _)
  | name c r h1 h2 h3 h4 =>
    generalize e : Tok.name (mkS (c :: r)) = t at g
    cases g <;> first | (injection e with e; exact mkS_inj e) | cases e
  | _ => cases g <;> rfl
theorem WV.is {w v : List Nat} {t u : Tok} (h : WV w t) (g : WV v u) (n : ∀ k, u ≠ .num k) : decide (w = v) = decide (t = u) := by
  by_cases e : t = u
  · subst e
    rw [decide_eq_true rfl, decide_eq_true (h.word g n)]
  · rw [decide_eq_false e, decide_eq_false fun q => e (by rw [← h.tok, ← g.tok, q])]
theorem WV.digits {c : Nat} {r : List Nat} (h1 : isFig c = true) (h2 : r.all isFig = true) : NumText.AllDigits (c :: r) := by
  intro d hd
  rcases List.mem_cons.mp hd with e | hd
  · rw [e]
    exact fig_lt h1
  · exact fig_lt (List.all_eq_true.mp h2 d hd)
theorem WV.int {w : List Nat} {n : Nat} (h : WV w (.num n)) : intText? (mkS w) = some (n : Int) := by
  generalize e : Tok.num n = t at h
  cases h with
  | num c r h1 h2 h3 h4 =>
    injection e with e
    have := intText_digits (x := mkS (c :: r)) (by rw [mkS_list]; exact WV.digits h1 h2) (by rw [mkS_list]; simp) (by rw [mkS_len]; omega)
    rw [mkS_list] at this
    rw [this, e]
  | _ => cases e
theorem foldl_ge (r : List Nat) (a : Nat) : a ≤ r.foldl (fun acc c => acc * 10 + (c - 48)) a := by
  induction r generalizing a with
  | nil => exact Nat.le_refl _
  | cons c r ih => exact Nat.le_trans (show a ≤ a * 10 + (c - 48) by omega) (ih _)
/-- small numbers tell their words -/
theorem WV.few {w : List Nat} {n : Nat} (h : WV w (.num n)) (hn : n ≤ 99) : w = (if n < 10 then [48 + n] else [48 + n / 10, 48 + n % 10]) := by
  generalize e : Tok.num n = t at h
  cases h with
  | num c r h1 h2 h3 h4 =>
    injection e with e
    have hc := fig_lt h1
    match r, h2, h4, e with
    | [], _, _, e =>
      have : dval [c] = c - 48 := by simp [dval, NumText.digitsVal]
      rw [this] at e
      rw [if_pos (by omega)]
      congr 1
      omega
    | [d], h2, h4, e =>
      have hd : isFig d = true := by simpa using h2
      have hd := fig_lt hd
      have : dval [c, d] = (c - 48) * 10 + (d - 48) := by simp [dval, NumText.digitsVal]
      rw [this] at e
      have : c ≠ 48 := by rcases h4 with h | h; exact h; cases h
      rw [if_neg (by omega)]
      have : 48 + n / 10 = c := by omega
      have : 48 + n % 10 = d := by omega
      congr 1
      · omega
      · congr 1
        omega
    | d :: f :: r, h2, h4, e =>
      have hc2 : c ≠ 48 := by rcases h4 with h | h; exact h; cases h
      have : dval (c :: d :: f :: r) = r.foldl (fun acc c => acc * 10 + (c - 48)) ((((0 * 10 + (c - 48)) * 10 + (d - 48)) * 10) + (f - 48)) := rfl
      have := foldl_ge r ((((0 * 10 + (c - 48)) * 10 + (d - 48)) * 10) + (f - 48))
      omega
  | _ => cases e
theorem WV.isNum {w : List Nat} {t : Tok} (h : WV w t) : isNumberL w = (match t with | .num _ => true | _ => false) := by
  cases h with
  | num c r h1 h2 h3 h4 =>
    unfold isNumberL
    have e1 : decide (1 ≤ (c :: r).length) = true := decide_eq_true (by simp)
    have e2 : decide ((c :: r).length ≤ 30) = true := decide_eq_true h3
    have e3 : (c :: r).all isFig = true := by rw [List.all_cons, h1, h2]; rfl
    have e4 : (decide ((c :: r).head? ≠ some 48) || decide (c :: r = [48])) = true := by
      by_cases q : c = 48
      · rcases h4 with h | h
        · exact absurd q h
        · rw [q, h]; decide
      · rw [decide_eq_true (by intro z; injection z with z; exact q z)]
        rfl
    rw [e1, e2, e3, e4]
    rfl
  | name c r h1 h2 h3 h4 =>
    have : isFig c = false := by
      cases e : isFig c with
      | false => rfl
      | true =>
        have := fig_let e
        rw [h1] at this
        cases this
    unfold isNumberL
    rw [List.all_cons, this]
    simp
  | _ => decide
theorem WV.isName {w : List Nat} {t : Tok} (h : WV w t) : isNameL w = (match t with | .name _ => true | _ => false) := by
  cases h with
  | num c r h1 h2 h3 h4 =>
    unfold isNameL
    rw [List.all_cons, fig_let h1]
    simp
  | name c r h1 h2 h3 h4 =>
    unfold isNameL
    rw [h4, List.all_cons, h1, h2]
    have e1 : decide (1 ≤ (c :: r).length) = true := decide_eq_true (by simp)
    have e2 : decide ((c :: r).length ≤ 8) = true := decide_eq_true h3
    rw [e1, e2]
    rfl
  | _ => decide
theorem num_run {c : Nat} {r : List Nat} (h1 : isFig c = true) (h2 : r.all isFig = true) : isNumberL (c :: r) = goodNum (c :: r) := by
  unfold isNumberL goodNum
  rw [List.all_cons, h1, h2]
  have e1 : decide (1 ≤ (c :: r).length) = true := decide_eq_true (by simp)
  rw [e1]
  simp
theorem name_run {c : Nat} {r : List Nat} (h1 : isLet c = true) (h2 : r.all isLet = true) : (isNameL (c :: r) || isTold (c :: r)) = goodName (c :: r) := by
  unfold isNameL goodName
  rw [List.all_cons, h1, h2]
  have e1 : decide (1 ≤ (c :: r).length) = true := decide_eq_true (by simp)
  rw [e1]
  cases e : isTold (c :: r) with
  | false => simp
  | true => rcases told_cases e with e | e | e <;> rw [e] <;> decide
end K83
end
section
set_option maxRecDepth 100000
set_option maxHeartbeats 4000000
/-! Rules of my own: a text times a number, a slice stored, get of a written dict, repr of data, an exception kept by a name, isinstance of it; defs by name. -/
namespace K83
open PySem PySem.Spec PyProof.Rows L2

section
variable {X : Cx}
/-! ### a text some times -/
def repS (z : Str) (n : Nat) : Str := ⟨(List.replicate n z.cps).foldl (· ++ ·) #[]⟩
theorem repS_len (z : Str) (n : Nat) : (repS z n).length = n * z.length := by
  have : ∀ (k : Nat) (a : Array Nat), ((List.replicate k z.cps).foldl (· ++ ·) a).size = a.size + k * z.cps.size := by
    intro k
    induction k with
    | zero => intro a; simp
    | succ k ih =>
      intro a
      rw [List.replicate_succ, List.foldl_cons, ih, Array.size_append, Nat.succ_mul]
      omega
  show ((List.replicate n z.cps).foldl (· ++ ·) #[]).size = n * z.cps.size
  rw [this]
  simp
def rMulS : R2 := fun x y H Q => ∃ (z : Str) (n : Nat), x = .str z ∧ y = .int (n : Int) ∧ n ≤ 100 ∧ z.length ≤ 100 ∧ Q (.str (repS z n)) H
theorem op_mulS : OpR X (binaryOp .Mult) rMulS := by
  intro pins s σ H x y v u Q I rx ry h
  obtain ⟨z, n, rfl, rfl, hn, hz, q⟩ := h
  obtain ⟨t, rfl⟩ := rx
  obtain ⟨t2, rfl⟩ := ry
  have l1 : z.length * n ≤ 10000 := Nat.le_trans (Nat.mul_le_mul hz hn) (by decide)
  refine PySem.P.mul_str ?_ ?_ ?_ ?_
  · rw [Bool.or_eq_false_iff]
    exact ⟨decide_eq_false (by omega), decide_eq_false (by omega)⟩
  · intro h1 _ h3
    have h4 : (100 : Int) ≤ (2 ^ 63 - 1) / (n : Int) := by
      rw [Int.le_ediv_iff_mul_le (by omega)]
      omega
    omega
  · intro _ _
    rw [Int.toNat_natCast]
    refine decide_eq_false ?_
    have := sizeLine_eq
    omega
  · by_cases h0 : (n : Int) < 1
    · rw [if_pos h0]
      have e : n = 0 := by omega
      subst e
      exact ⟨by have := sizeLine_eq; show 0 ≤ sizeLine; omega, .str (repS z 0), H, I.tok _, ⟨_, rfl⟩, q⟩
    · rw [if_neg h0]
      split
      · rename_i h1
        have e : repS z n = z := by
          rcases Bool.or_eq_true_iff.mp h1 with h | h
          · have e : n = 1 := by
              have := of_decide_eq_true (p := (n : Int) = 1) (by simpa using h)
              omega
            subst e
            show (⟨#[] ++ z.cps⟩ : Str) = z
            rw [Array.empty_append]
          · have e : z.cps = #[] := by
              have : z.cps.size = 0 := by simpa [Str.length] using h
              exact Array.eq_empty_of_size_eq_zero this
            obtain ⟨zc⟩ := z
            simp only at e
            subst e
            unfold repS
            have : ∀ k, (List.replicate k (#[] : Array Nat)).foldl (· ++ ·) #[] = #[] := by
              intro k
              induction k with
              | zero => rfl
              | succ k ih => simpa [List.replicate_succ] using ih
            rw [this]
        rw [e] at q
        exact ⟨.str z, H, I, ⟨t, rfl⟩, q⟩
      · rw [Int.toNat_natCast]
        have l2 : (repS z n).length ≤ sizeLine := by
          have := sizeLine_eq
          rw [repS_len, Nat.mul_comm]
          omega
        exact ⟨l2, .str (repS z n), H, I.tok _, ⟨_, rfl⟩, q⟩
end

section
variable {X : Cx}
/-! ### xs[a:c] = ys -/
def sSetSl (tv to ta tc : TE) : TS := fun D σ H => tv σ H fun y H1 => to σ H1 fun x H2 => ta σ H2 fun i H3 => tc σ H3 fun j H4 => ∃ (l b : Addr) (xs ys : List V) (a c : Nat),
  x = .ref l ∧ y = .ref b ∧ i = .int (a : Int) ∧ j = .int (c : Int) ∧ H4 l = some (.lst xs) ∧ H4 b = some (.lst ys) ∧ l ≠ b ∧ a ≤ c ∧ c ≤ xs.length ∧ xs.length + ys.length ≤ sizeLine ∧ D.nx σ (upd H4 l (.lst (xs.take a ++ ys ++ xs.drop c)))
theorem ps_setSl {o a c value : Expr} {tv to ta tc : TE} {p2 pos' pos : Pos} (hv : PE X value tv) (ho : PE X o to) (ha : PE X a ta) (hc : PE X c tc)
    (hs : swapsWith value (some (.Subscript o (.Slice (some a) (some c) none p2) pos')) pos.line X.env = pure false := by rfl) :
    PS X (.Assign [.Subscript o (.Slice (some a) (some c) none p2) pos'] value pos) (sSetSl tv to ta tc) := by
  constructor
  intro pins s σ H D I h
  apply wpAny_Assign_Subscript _ hs
  refine thn (hv.run pins s σ H _ I h) ?_
  rintro u1 s1 ⟨y, H1, I1, r1, q1⟩
  refine thn (ho.run pins s1 σ H1 _ I1 q1) ?_
  rintro u2 s2 ⟨x, H2, I2, r2, q2⟩
  apply wpAny_Slice
  rw [evalPart_some, evalPart_some]
  refine thn (ha.run pins s2 σ H2 _ I2 q2) ?_
  rintro u3 s3 ⟨i, H3, I3, r3, q3⟩
  refine thn (hc.run pins s3 σ H3 _ I3 q3) ?_
  rintro u4 s4 ⟨j, H4, I4, r4, l, b, xs, ys, a', c', rfl, rfl, rfl, rfl, hl, hb, ne, h1, h2, h3, q4⟩
  rw [evalPart_none]
  apply wpAny_pure
  cases r1
  cases r2
  have I5 : Inv X pins σ H4 { s4 with heap := s4.heap.push { cls := .type "slice", data := .fields #[u3, u4, .none] } } := I4.kept (t' := s4.toks) fun _ _ e => Heap.get?_push_of_some _ e
  refine set_slice I5 hl hb ne (Heap.IsSliceOf.new ..) r3 r4 (by omega) (by omega) (by omega) h3 ?_
  intro s6 I6
  rw [Int.toNat_natCast, Int.toNat_natCast] at I6
  exact ⟨σ, _, I6, q4⟩
end

section
variable {X : Cx}
/-! ### d.get(k, x), d a written dict -/
def tKGet (K : PySem.W.Frag) (w : World) (d : Addr) (td ty tx : TE) : TE := fun σ H Q => td σ H fun x H1 => x = .ref d ∧ ty σ H1 fun y H2 => tx σ H2 fun z H3 => ∃ (k : Str) (r : Option Value) (v : V), y = .str k ∧ PySem.W.nsIn K d k = some r ∧
  (match r with | none => v = z | some u => RelV v u) ∧ Q v H3
theorem pe_kget {o e f : Expr} {apos cpos : Pos} {d : Addr} {es : Array DictEntry} {n : Nat} {td ty tx : TE} (D : KDict X.K X.w d es n) (ho : PE X o td) (he : PE X e ty) (hf : PE X f tx) (m : M2 X o "get" apos e f cpos) :
    PE X (.Call (.Attribute o "get" apos) [e, f] [] cpos) (tKGet X.K X.w d td ty tx) := by
  constructor
  intro pins s σ H Q I h
  apply wpAny_Call_method m.base m.few m.line PySem.F.plainAttrs_dict PySem.F.slot_dict_get PySem.F.type_dict_get
  refine thn (ho.run pins s σ H _ I h) ?_
  rintro u1 s1 ⟨x, H1, I1, r1, rfl, q1⟩
  cases r1
  refine ⟨kd_type D I1, ?_, ?_⟩
  · intro b e
    cases e
    exact ⟨_, I1.kIn _ _ D.at_, rfl⟩
  rw [m.trees]
  apply Calls.callWith_builtin rfl
  apply Calls.evalArgs_plain
  apply Calls.spliced_cons
  refine thn (he.run pins s1 σ H1 _ I1 q1) ?_
  rintro u2 s2 ⟨y, H2, I2, r2, q2⟩
  apply Calls.spliced_cons
  refine thn (hf.run pins s2 σ H2 _ I2 q2) ?_
  rintro u3 s3 ⟨z, H3, I3, r3, k, r, v, rfl, en, hv, q3⟩
  apply Calls.spliced_nil
  obtain ⟨t, rfl⟩ := r2
  have hm := PySem.W.mapOf_K (prog := X.prog) (w := X.w) I3.kIn D.at_ D.lit
  refine call_meetsIn PySem.F.slot_dict_get hm.typeIs PySem.F.entry_dict_get (PySem.F.args_dict_get_3 _ _ _) (meets_dict_get_default _ d (strKind_is X.prog X.w k t) D.low u3) ⟨_, hm, ?_⟩
  rw [PySem.W.find_K D.at_ en]
  refine ⟨v, H3, I3.tok _, ?_, q3⟩
  cases r with
  | none =>
    cases hv
    exact r3
  | some u => exact hv
end

/-! ### a caught exception that a name keeps -/
def ExV (cls : Value) (d : Option Addr) (a : Addr) : HO := .ext fun h => ∃ (oe : Obj) (vs : Array Value), h.get? a = some oe ∧ Zc cls d oe ∧ oe.data = .fields vs
section
variable {X : Cx} {pins : List (Addr × Obj)} {σ : L2.St} {H : Hp} {s : Shared}
/-- an exception that stands in the heap and was not there at the entry is told from here on -/
theorem track {a : Addr} {oe : Obj} {vs : Array Value} {cls : Value} {d : Option Addr} (I : Inv X pins σ H s) (ha : s.heap.get? a = some oe) (hz : Zc cls d oe) (hd : oe.data = .fields vs) (na : H a = none)
    (nL : a ≠ X.env.locals) (n0 : X.s_0.heap.get? a = none) (np : ∀ p ∈ X.pn ++ pins, p.1 ≠ a) : Inv X pins σ (upd H a (ExV cls d a)) s where
  ok := I.ok
  os := I.os
  bare := I.bare
  base :=
    { keep := fun b o h1 h2 h3 h4 => I.base.keep b o h1 h2 h3 h4
      slot := fun b o h1 h2 h3 h4 => I.base.slot b o h1 h2 h3 h4
      free := fun b o h1 h2 h3 => by
        have ne : b ≠ a := by
          intro z
          rw [z, n0] at h1
          cases h1
        rw [upd_ne ne]
        exact I.base.free b o h1 h2 h3
      there := fun b o h1 h2 => I.base.there b o h1 h2
      tups := fun b xs h1 => by
        have h2 := I.base.tups b xs h1
        rw [upd_ne (ne_of_none h2 na)]
        exact h2
      frzs := fun b o u h1 => by
        have h2 := I.base.frzs b o u h1
        rw [upd_ne (ne_of_none h2 na)]
        exact h2
      tbls := fun b ps h1 => by
        obtain ⟨m, h2⟩ := I.base.tbls b ps h1
        refine ⟨m, ?_⟩
        rw [upd_ne (ne_of_none h2 na)]
        exact h2 }
  loc := I.loc
  cell := I.cell
  free := by
    rw [upd_ne (Ne.symm nL)]
    exact I.free
  freeC := fun x c e => by
    have ne : c ≠ a := by
      intro z
      obtain ⟨v, oc, h1, h2⟩ := I.cell x c e
      rw [z, ha] at h1
      cases h1
      rw [hd] at h2
      exact nomatch h2
    rw [upd_ne ne]
    exact I.freeC x c e
  pin := fun p hp => by
    obtain ⟨h1, h2, h3⟩ := I.pin p hp
    refine ⟨h1, ?_, h3⟩
    rw [upd_ne (np p hp)]
    exact h2
  hok := I.hok.laidN (fun _ _ e => e) na ⟨⟨oe, vs, ha, hz, hd⟩, ⟨oe, ha⟩, fun h1 h2 ⟨o, v, e, r⟩ k => ⟨o, v, k o e, r⟩⟩
  len := I.len
end

/-- try: .. except x as n: .. where what n was is told behind the suite; the suite runs to its end -/
def wKeep (K : PySem.W.Frag) (c : Value) (i : Nat) (ts : Addr → Value → Option Addr → TS) (Wout : WX) (D : Ends) : WX := fun cls d σ H =>
  ∃ b, PySem.W.exmOne K cls c = some b ∧
    (b = true → ∀ a, H a = none → ts a cls d { nx := fun σ' H' => D.nx (σ'.set i none) (upd H' a (ExV cls d a)), rt := fun _ _ => False } (σ.set i (some (.ref a))) H) ∧ (b = false → Wout cls d σ H)
section
variable {X : Cx} {x n : Str} {c : Value} {i : Nat} {body suite : List Stmt} {b0 : Stmt} {np pos pos' : Pos} {tb : WX → TS} {ts : Addr → Value → Option Addr → TS} {Wout : WX}
theorem ps_try_keep (hs : X.stack = X.env :: X.outer) (hf : X.env.frame = some X.env.locals) (hex : X.ex = []) (hN : X.N.Nodup) (hi : X.N[i]? = some n) (hln : X.env.kindOf n = some .local) (hc : Names X x c) (tk : Takes X Wout)
    (hb : ∀ (W : WX) (pn : List (Addr × Obj)) (xe : Value → Shared → Prop), Takes (X.tr pn xe) W → PassesOwn (model X.prog X.w) X.A X.env xe → PSs (X.tr pn xe) body (tb W))
    (hsu : ∀ (a : Addr) (oe : Obj) (cls : Value) (d : Option Addr) (pn : List (Addr × Obj)), Zc cls d oe → (∃ vs, oe.data = .fields vs) → PSs (X.suite a ((a, oe) :: pn)) (b0 :: suite) (ts a cls d)) :
    PS X (.Try body [.ExceptHandler (some (.Name x np)) (some n) (b0 :: suite) pos'] [] [] pos) (fun D σ H => tb (wKeep X.K c i ts Wout D) D σ H) := by
  constructor
  intro pins s σ H D I h
  have ok := I.ok
  have hfr : X.A.frames = some (X.env :: X.outer) := ok.frames.trans (congrArg some hs)
  have hloc : Loc X.env.scope n := Or.inl hln
  apply wpAny_Try_except
  have after : ∀ e s1, XE (X.tr (X.pn ++ pins) fun e s₁ => wpAny (model X.prog X.w) X.A (noteFrame e X.env) (fun _ s₂ => wpAny (model X.prog X.w) X.A (setFlight e none) (fun _ s₃ =>
      wpAny (model X.prog X.w) X.A (handleBy e X.env [.ExceptHandler (some (.Name x np)) (some n) (b0 :: suite) pos']) (SP X pins D) X.xe s₃) X.xe s₂) X.xe s₁) (wKeep X.K c i ts Wout D) e s1 →
      wpAny (model X.prog X.w) X.A (noteFrame e X.env) (fun _ s₂ => wpAny (model X.prog X.w) X.A (setFlight e none) (fun _ s₃ =>
        wpAny (model X.prog X.w) X.A (handleBy e X.env [.ExceptHandler (some (.Name x np)) (some n) (b0 :: suite) pos']) (SP X pins D) X.xe s₃) X.xe s₂) X.xe s1 := by
    rintro e s1 ⟨a, B, sI, pn2, σ2, H2, cls, d, rfl, J0, nb, up, sky, na, os, ag, b, hb1, hyes, hno⟩
    have J : Inv X pins σ2 H2 sI := J0.ofTry ok
    have sky2 : Sky B (X.env :: X.outer) a (Zc cls d) X.env.locals s1.heap := hs ▸ sky
    apply Sky.land Zc.steady hfr hf sky2
    intro h3 fl3 up3
    have J3 : Inv X pins σ2 H2 { s1 with heap := h3 } := J.landed nb fl3.1 (up.trans up3) os ag
    obtain ⟨oe3, vs3, he3, hz3, hd3⟩ := fl3.there
    have nfr : a ∉ frs (X.env :: X.outer) := by
      intro hm
      obtain ⟨_, o2, e2, hn2⟩ := (fl3.2.2.1).mem hm
      rw [he3] at e2
      cases e2
      exact hn2 _ hd3
    have nL : a ≠ X.env.locals := by
      intro z
      exact nfr (List.mem_filterMap.mpr ⟨X.env, List.mem_cons_self, hf.trans (congrArg some z.symm)⟩)
    have nF : a ∉ X.fs := by
      intro hm
      obtain ⟨v, hv, q⟩ := List.mem_filterMap.mp hm
      exact nfr (List.mem_filterMap.mpr ⟨v, List.mem_cons_of_mem _ hv, q⟩)
    -- it was not there ahead of the raise, so not at the entry
    have nI : sI.heap.get? a = none := by
      cases q : sI.heap.get? a with
      | none => rfl
      | some o =>
        have h1 := nb a o q (by rw [show (X.tr (X.pn ++ pins) _).stack = X.stack from rfl, hs]; exact nfr)
        rw [fl3.2.1] at h1
        cases h1
    have n0 : X.s_0.heap.get? a = none := by
      cases q : X.s_0.heap.get? a with
      | none => rfl
      | some o =>
        obtain ⟨o2, h1⟩ := J.base.there a o q (by rw [hex]; exact List.not_mem_nil)
        rw [nI] at h1
        cases h1
    have np2 : ∀ p ∈ X.pn ++ pins, p.1 ≠ a := by
      intro p hp z
      have h1 := (J.pin p hp).1
      rw [z, nI] at h1
      cases h1
    have S3 := J3.suite he3 hd3 na nL nF
    apply wpAny_handleBy_cons _ (by intro q; cases q)
    apply codeAny_handlers_test
    have LT : PySem.W.Looks (model X.prog X.w) h3 (typeOf (.ref a)) cls := by
      intro A Q E s k q
      exact wpAny_typeOf_ref (k _ _ he3) (by rw [hz3.1]; exact q)
    have LM := PySem.W.exm_one (M := model X.prog X.w) J3.kIn LT hb1
    have named : ∀ {Q : Value → Shared → Prop} {E : Value → Shared → Prop}, Q c { s1 with heap := h3 } → wpAny (model X.prog X.w) (X.A.mark (some (.ref a))) (eval (.Name x np) X.env) Q E { s1 with heap := h3 } := by
      intro Q E q
      obtain ⟨hg, hdb, hm | ⟨hm, hv, hnn⟩⟩ := hc
      · exact ld_glob S3 hg hm q hdb
      · exact ld_blt S3 hg hm hv q hnn hdb
    apply named
    apply LM.here
    cases b with
    | false =>
      show wpAny _ X.A (handleBy (.ref a) X.env []) _ _ _
      apply wpAny_handleBy_nil
      obtain ⟨k1, k2, k3, oe, vs, T, oT, ts2, he, hz, hd, h1, hr⟩ := id fl3
      unfold PySem.passOn
      apply wpAny_bind
      apply wpAny_field he hd h1
      have ht : ¬ ((Value.ref T == Value.none) = true) := by simp
      rw [if_neg ht]
      have out : wpAny (model X.prog X.w) X.A (setFlight (.ref a) X.env.frame) (fun _ s4 => wpAny (model X.prog X.w) X.A (throw (.ref a) : Sem Flow) (SP X pins D) X.xe s4) X.xe { s1 with heap := h3 } := by
        rw [hf]
        apply HandSPX.setFlight_upZ fl3
        intro h4 hh4 up4
        apply wpAny_throw
        apply tk
        exact ⟨a, B, sI, pins, σ2, H2, cls, d, rfl, J, nb, (up.trans up3).trans up4, Or.inr (Or.inr (hs.symm ▸ hh4)), na, os, ag, hno rfl⟩
      first
        | exact wpAny_bind (wpAny_pure (wpAny_bind out))
        | exact wpAny_bind out
    | true =>
      apply codeAny_handlers_suite_as
      apply HandSPX.lands_againZ fl3
      intro h4 fl4 up4
      have J4 : Inv X pins σ2 H2 { s1 with heap := h4 } := J.landed nb fl4.1 ((up.trans up3).trans up4) os ag
      obtain ⟨oe4, vs4, he4, hz4, hd4⟩ := fl4.there
      have S4 := J4.suite he4 hd4 na nL nF
      refine store_ok (X := X.suite a ((a, oe4) :: (X.pn ++ pins))) (v := .ref a) S4 hN hi hloc rfl ?_ (Or.inr hln)
      intro s5 S5
      refine wpAny_mono ((hsu a oe4 cls d (X.pn ++ pins) hz4 ⟨_, hd4⟩).run [] s5 _ H2 _ S5 (hyes rfl a na)) ?_ (fun _ _ z => z.elim)
      intro f s6 hsp
      cases f with
      | next =>
        obtain ⟨σ6, H6, S6, q6⟩ := hsp
        refine gone_ok (X := X.suite a ((a, oe4) :: (X.pn ++ pins))) S6 hN hi hln ?_
        intro s7 S7
        obtain ⟨g1, g2, _⟩ := S7.pin (a, oe4) (List.mem_append_left _ List.mem_cons_self)
        exact ⟨_, _, track (S7.unsuite ok) g1 hz4 hd4 g2 nL n0 np2, q6⟩
      | brk =>
        obtain ⟨_, _, _, q6⟩ := hsp
        exact False.elim q6
      | cont =>
        obtain ⟨_, _, _, q6⟩ := hsp
        exact False.elim q6
      | ret u =>
        obtain ⟨_, _, _, _, _, q6⟩ := hsp
        exact False.elim q6
  refine wpAny_mono ((hb (wKeep X.K c i ts Wout D) (X.pn ++ pins) _ (fun e s1 xx => after e s1 xx) PassesOwn.looking).run [] s σ H D (I.toTry _) h) ?_ (fun e s1 he => he)
  intro f s1 hsp
  cases f with
  | next =>
    obtain ⟨σ1, H1, J1, q⟩ := hsp
    exact wpAny_execs_nil ⟨σ1, H1, J1.ofTry ok, q⟩
  | brk =>
    obtain ⟨σ1, H1, J1, q⟩ := hsp
    exact ⟨σ1, H1, J1.ofTry ok, q⟩
  | cont =>
    obtain ⟨σ1, H1, J1, q⟩ := hsp
    exact ⟨σ1, H1, J1.ofTry ok, q⟩
  | ret v =>
    obtain ⟨v, σ1, H1, J1, r, q⟩ := hsp
    exact ⟨v, σ1, H1, J1.ofTry ok, r, q⟩
end

/-! ### isinstance(e, c), e such an exception -/
section
variable {X : Cx}
def rIsV (K : PySem.W.Frag) : List V → Hp → VK → Prop := fun xs H Q => ∃ (a D : Addr) (c : V) (cv : Value) (b : Bool), xs = [.ref a, c] ∧ H a = some (ExV (.ref D) none a) ∧ ExcC K D ∧ (∀ u, RelV c u → u = cv) ∧
  PySem.W.kitOne K (.ref D) cv = some b ∧ Q (.bl b) H
theorem call_isV : CallR X (.builtin "isinstance") (rIsV X.K) := by
  intro pins s σ H xs us Q I r h
  obtain ⟨a, D, c, cv, b, rfl, ha, C, hcv, e, q⟩ := h
  obtain ⟨u, w2, rfl, ru, rw2⟩ := vals2 r
  cases ru
  have ec := hcv _ rw2
  subst ec
  obtain ⟨⟨oe, vs, h1, h2, h3⟩, _⟩ := I.hok a _ ha
  have J : PySem.W.InstAt s.heap a oe D none := by
    obtain ⟨oc, od, oda, osl⟩ := oe
    obtain ⟨g1, g2⟩ := h2
    dsimp only at g1 g2 h3
    subst g1 g2 h3
    exact ⟨h1, rfl, rfl, trivial⟩
  refine PySem.W.kia_one (PySem.W.handS_kitx_exc C.hg C.hk C.hs C.hd C.ha C.hn C.ht C.hm) I.kIn J e (fun z => nomatch z) ?_
  intro tk
  exact ⟨.bl b, H, I.kept (t' := tk) fun _ _ z => z, rfl, q⟩
end
end K83
end
section
set_option maxRecDepth 100000
set_option maxHeartbeats 4000000
/-! Defs by name, data in the heap, what a call leaves of the heap. -/
namespace K83
open PySem PySem.Spec PyProof.Rows L2
open Evl (Ex)

/-! ### defs and methods by name -/
structure DefOk (P : Program) (w : World) (K : PySem.W.Frag) (mg : Str → Option Value) (base : Heap) (CX : CXT) (x : Str) (k : Nat) (ps : List Str) (sp : Sp) : Prop where
  ex : ∃ (f : Addr) (fd : FuncData), FnOk P w K mg base CX k f fd ps sp ∧ mg x = some (.ref f) ∧ PySem.W.keepIn K (.ref f) = true ∧ Binds K fd ps []
structure MetOk (P : Program) (w : World) (K : PySem.W.Frag) (mg : Str → Option Value) (base : Heap) (CX : CXT) (C : Addr) (m : Str) (k : Nat) (ps : List Str) (sp : Sp) : Prop where
  ex : ∃ (f : Addr) (fd : FuncData), FnOk P w K mg base CX k f fd ps sp ∧ Meth K C m f ∧ Binds K fd ps []
section
variable {X : Cx} {CX : CXT} {k : Nat} {ps : List Str} {sp : Sp} {E : XK} {x m : Str} {C : Addr} {o e : Expr} {es : List Expr} {ta : TE} {t : TA} {p apos pos : Pos}
theorem pe_def (D : DefOk X.prog X.w X.K X.mg X.base CX x k ps sp) (hr : Room k X.A) (hg : Gl X x) (hx : Passes CX X E) (ha : PA X (e :: es) t)
    (hdb : (x == ("__debug__" : Str)) = false := by decide) (he : starEach (e :: es) X.env = (false, eval e X.env) :: starEach es X.env := by rfl) (hpl : (backTo pos (starEach es X.env)).any (·.1) = false := by rfl) :
    PE X (.Call (.Name x p) (e :: es) [] pos) (tCall sp [] E t) := by
  obtain ⟨f, fd, F, hm, hk, hb⟩ := D.ex
  exact pe_call F hr hg hm hk hb .nil hx ha hdb he hpl
theorem pe_defS {E : L2.St → XK} (D : DefOk X.prog X.w X.K X.mg X.base CX x k ps sp) (hr : Room k X.A) (hg : Gl X x) (hx : ∀ σ, PassesAt CX X σ (E σ)) (ha : PA X (e :: es) t)
    (hdb : (x == ("__debug__" : Str)) = false := by decide) (he : starEach (e :: es) X.env = (false, eval e X.env) :: starEach es X.env := by rfl) (hpl : (backTo pos (starEach es X.env)).any (·.1) = false := by rfl) :
    PE X (.Call (.Name x p) (e :: es) [] pos) (tCallS sp E t) := by
  obtain ⟨f, fd, F, hm, hk, hb⟩ := D.ex
  exact pe_callS F hr hg hm hk hb hx ha hdb he hpl
theorem pe_met {pl : Sem Bool} (D : MetOk X.prog X.w X.K X.mg X.base CX C m k ps sp) (ho : PE X o ta) (c : Cls X.K C) (hr : Room k X.A) (hx : Passes CX X E) (ha : PA X (e :: es) t)
    (hst : starEach (e :: es) X.env = (false, eval e X.env) :: starEach es X.env := by rfl) (hpl : (backTo pos (starEach es X.env)).any (·.1) = false := by rfl)
    (ht : eval (.Call (.Attribute o m apos) (e :: es) [] pos) X.env = (do
      let ov ← eval o X.env
      standAt apos.atName
      let (f, first) ← holding [ov] (getMethod ov m pl)
      callWith pos f first (backTo pos (starEach (e :: es) X.env)) (backToKw pos (keywordEach [] X.env))) := by rfl) :
    PE X (.Call (.Attribute o m apos) (e :: es) [] pos) (tMeth C m sp [] E ta t) := by
  obtain ⟨f, fd, F, hm, hb⟩ := D.ex
  exact pe_meth (pl := pl) ho c hm F hr hb .nil hx ha hst hpl ht
theorem pe_met0 {pl : Sem Bool} (D : MetOk X.prog X.w X.K X.mg X.base CX C m k ps sp) (ho : PE X o ta) (c : Cls X.K C) (hr : Room k X.A) (hx : Passes CX X E)
    (ht : eval (.Call (.Attribute o m apos) [] [] pos) X.env = (do
      let ov ← eval o X.env
      standAt apos.atName
      let (f, first) ← holding [ov] (getMethod ov m pl)
      callWith pos f first (backTo pos (starEach [] X.env)) (backToKw pos (keywordEach [] X.env))) := by rfl) :
    PE X (.Call (.Attribute o m apos) [] [] pos) (tMeth C m sp [] E ta tNil) := by
  obtain ⟨f, fd, F, hm, hb⟩ := D.ex
  exact pe_meth0 (pl := pl) ho c hm F hr hb .nil hx ht
/-- within a def that may raise: what a callee raises is handed on -/
theorem pass_on {E : XK} (tk : Takes X (fun cls d _ H => E cls d H)) : Passes (L2.CX X.prog X.w) X E := passes_call tk (fun _ _ _ _ h => h)
end

/-! ### heaps -/
theorem ex_upd {H H' : Hp} {p : Addr} {o : HO} (e : Ex H H') (h : H' p = none) : Ex H (upd H' p o) := e.trans (Ex.new h)
theorem ex_some {H H' : Hp} {p : Addr} {o : HO} (e : Ex H H') (h : H p = some o) : H' p = some o := e p o h
theorem ex_fresh {H H' : Hp} {p : Addr} (e : Ex H H') (h : H' p = none) : H p = none := Evl.fresh_back e h
/-- but for some addresses all stands -/
def Fr (S : List Addr) (H H' : Hp) : Prop := ∀ a o, a ∉ S → H a = some o → H' a = some o
theorem Fr.refl (S : List Addr) (H : Hp) : Fr S H H := fun _ _ _ h => h
theorem Fr.trans {S : List Addr} {H H1 H2 : Hp} (a : Fr S H H1) (b : Fr S H1 H2) : Fr S H H2 := fun x o n h => b x o n (a x o n h)
theorem Fr.of {S : List Addr} {H H' : Hp} (e : Ex H H') : Fr S H H' := fun a o _ h => e a o h
theorem Fr.upd {S : List Addr} {H H' : Hp} {p : Addr} {o : HO} (f : Fr S H H') (h : p ∈ S ∨ H p = none) : Fr S H (upd H' p o) := by
  intro a u n q
  have ne : a ≠ p := by
    rintro rfl
    rcases h with h | h
    · exact n h
    · rw [h] at q
      cases q
  rw [upd_ne ne]
  exact f a u n q
/-- tuples stay -/
def Tk (H H' : Hp) : Prop := ∀ a xs, H a = some (.tup xs) → H' a = some (.tup xs)
theorem Tk.refl (H : Hp) : Tk H H := fun _ _ h => h
theorem Tk.trans {H H1 H2 : Hp} (a : Tk H H1) (b : Tk H1 H2) : Tk H H2 := fun x o h => b x o (a x o h)
theorem Ex.tk {H H' : Hp} (e : Ex H H') : Tk H H' := fun a xs h => e a _ h
theorem Tk.upd {H H' : Hp} {p : Addr} {o : HO} (t : Tk H H') (h : ∀ xs, H' p ≠ some (.tup xs)) : Tk H (upd H' p o) := by
  intro a xs q
  have q2 := t a xs q
  have ne : a ≠ p := by
    rintro rfl
    exact h xs q2
  rw [upd_ne ne]
  exact q2
theorem Tk.new {H H' : Hp} {p : Addr} {o : HO} (t : Tk H H') (h : H' p = none) : Tk H (L2.upd H' p o) := t.upd fun xs q => by
  rw [h] at q
  cases q
theorem Tk.lst {H H' : Hp} {p : Addr} {o : HO} {ys : List V} (t : Tk H H') (h : H' p = some (.lst ys)) : Tk H (L2.upd H' p o) := t.upd fun xs q => by
  rw [h] at q
  cases q
theorem Tk.ins {H H' : Hp} {p C dx : Addr} {o : HO} {fs : List (Str × V)} (t : Tk H H') (h : H' p = some (.ins C dx fs)) : Tk H (L2.upd H' p o) := t.upd fun xs q => by
  rw [h] at q
  cases q
theorem Tk.dk {H H' : Hp} {p : Addr} {o : HO} {kvs : List (Key × V)} (t : Tk H H') (h : H' p = some (.dK kvs)) : Tk H (L2.upd H' p o) := t.upd fun xs q => by
  rw [h] at q
  cases q

/-! ### data: scalars and tuples -/
mutual
def Tp (H : Hp) : PyData → V → Prop
  | .none, v => v = .non
  | .bool b, v => v = .bl b
  | .int i, v => v = .int i
  | .str x, v => v = .str x
  | .tuple ds, v => ∃ (a : Addr) (xs : List V), v = .ref a ∧ H a = some (.tup xs) ∧ Tps H ds xs
  | .list _, _ => False
  | .dict _, _ => False
def Tps (H : Hp) : List PyData → List V → Prop
  | [], xs => xs = []
  | d :: ds, xs => ∃ (x : V) (r : List V), xs = x :: r ∧ Tp H d x ∧ Tps H ds r
end
mutual
theorem Tp.mono {H H' : Hp} (t : Tk H H') : ∀ (d : PyData) (v : V), Tp H d v → Tp H' d v
  | .none, v, h => by rw [Tp] at h ⊢; exact h
  | .bool b, v, h => by rw [Tp] at h ⊢; exact h
  | .int i, v, h => by rw [Tp] at h ⊢; exact h
  | .str x, v, h => by rw [Tp] at h ⊢; exact h
  | .tuple ds, v, h => by
    rw [Tp] at h ⊢
    obtain ⟨a, xs, e, ha, hs⟩ := h
    exact ⟨a, xs, e, t a xs ha, Tps.mono t ds xs hs⟩
  | .list _, v, h => by rw [Tp] at h; exact h.elim
  | .dict _, v, h => by rw [Tp] at h; exact h.elim
theorem Tps.mono {H H' : Hp} (t : Tk H H') : ∀ (ds : List PyData) (xs : List V), Tps H ds xs → Tps H' ds xs
  | [], xs, h => by rw [Tps] at h ⊢; exact h
  | d :: ds, xs, h => by
    rw [Tps] at h ⊢
    obtain ⟨x, r, e, h1, h2⟩ := h
    exact ⟨x, r, e, Tp.mono t d x h1, Tps.mono t ds r h2⟩
end
mutual
theorem Tp.dp {K : PySem.W.Frag} {H : Hp} : ∀ (d : PyData) (v : V), Tp H d v → Dp K H v d
  | .none, v, h => by rw [Tp] at h; rw [h]; exact .non
  | .bool b, v, h => by rw [Tp] at h; rw [h]; exact .bl b
  | .int i, v, h => by rw [Tp] at h; rw [h]; exact .int i
  | .str x, v, h => by rw [Tp] at h; rw [h]; exact .str x
  | .tuple ds, v, h => by
    rw [Tp] at h
    obtain ⟨a, xs, e, ha, hs⟩ := h
    rw [e]
    exact .tup (SqT.of ha) (Tps.dp ds xs hs)
  | .list _, v, h => by rw [Tp] at h; exact h.elim
  | .dict _, v, h => by rw [Tp] at h; exact h.elim
theorem Tps.dp {K : PySem.W.Frag} {H : Hp} : ∀ (ds : List PyData) (xs : List V), Tps H ds xs → DpAll K H xs ds
  | [], xs, h => by rw [Tps] at h; rw [h]; exact .nil
  | d :: ds, xs, h => by
    rw [Tps] at h
    obtain ⟨x, r, e, h1, h2⟩ := h
    rw [e]
    exact .cons (Tp.dp d x h1) (Tps.dp ds r h2)
end
theorem Tps.len {H : Hp} : ∀ {ds : List PyData} {xs : List V}, Tps H ds xs → xs.length = ds.length
  | [], xs, h => by rw [Tps] at h; rw [h] <;> rfl
  | d :: ds, xs, h => by
    rw [Tps] at h
    obtain ⟨x, r, e, h1, h2⟩ := h
    rw [e, List.length_cons, List.length_cons, Tps.len h2]
theorem Tps.get {H : Hp} : ∀ {ds : List PyData} {xs : List V} {i : Nat} {d : PyData}, Tps H ds xs → ds[i]? = some d → ∃ x, xs[i]? = some x ∧ Tp H d x
  | [], xs, i, d, h, e => by simp at e
  | d0 :: ds, xs, i, d, h, e => by
    rw [Tps] at h
    obtain ⟨x, r, ex, h1, h2⟩ := h
    subst ex
    cases i with
    | zero =>
      simp at e
      subst e
      exact ⟨x, rfl, h1⟩
    | succ i => exact Tps.get (i := i) h2 (by simpa using e)
theorem Tps.append {H : Hp} : ∀ {ds es : List PyData} {xs ys : List V}, Tps H ds xs → Tps H es ys → Tps H (ds ++ es) (xs ++ ys)
  | [], es, xs, ys, h, g => by rw [Tps] at h; rw [h]; exact g
  | d :: ds, es, xs, ys, h, g => by
    rw [Tps] at h
    obtain ⟨x, r, e, h1, h2⟩ := h
    subst e
    rw [List.cons_append, Tps]
    exact ⟨x, r ++ ys, rfl, h1, Tps.append h2 g⟩
theorem Tps.one {H : Hp} {d : PyData} {x : V} (h : Tp H d x) : Tps H [d] [x] := by
  rw [Tps]
  exact ⟨x, [], rfl, h, by rw [Tps]⟩
theorem Tps.nil {H : Hp} : Tps H [] [] := by rw [Tps]
theorem Tps.cons {H : Hp} {d : PyData} {x : V} {ds : List PyData} {xs : List V} (h : Tp H d x) (g : Tps H ds xs) : Tps H (d :: ds) (x :: xs) := by
  rw [Tps]
  exact ⟨x, xs, rfl, h, g⟩
theorem Tps.split {H : Hp} : ∀ {ds es : List PyData} {zs : List V}, Tps H (ds ++ es) zs → ∃ xs ys, zs = xs ++ ys ∧ Tps H ds xs ∧ Tps H es ys
  | [], es, zs, h => ⟨[], zs, rfl, Tps.nil, h⟩
  | d :: ds, es, zs, h => by
    rw [List.cons_append, Tps] at h
    obtain ⟨x, r, e, h1, h2⟩ := h
    obtain ⟨xs, ys, e2, h3, h4⟩ := Tps.split h2
    exact ⟨x :: xs, ys, by rw [e, e2]; rfl, Tps.cons h1 h3, h4⟩
theorem Tps.take {H : Hp} (n : Nat) {ds : List PyData} {xs : List V} (h : Tps H ds xs) : Tps H (ds.take n) (xs.take n) := by
  induction n generalizing ds xs with
  | zero => simp; exact Tps.nil
  | succ n ih =>
    cases ds with
    | nil => rw [Tps] at h; subst h; simp; exact Tps.nil
    | cons d ds =>
      rw [Tps] at h
      obtain ⟨x, r, e, h1, h2⟩ := h
      subst e
      simp only [List.take_succ_cons]
      exact Tps.cons h1 (ih h2)
theorem Tps.drop {H : Hp} (n : Nat) {ds : List PyData} {xs : List V} (h : Tps H ds xs) : Tps H (ds.drop n) (xs.drop n) := by
  induction n generalizing ds xs with
  | zero => simpa using h
  | succ n ih =>
    cases ds with
    | nil => rw [Tps] at h; subst h; simp; exact Tps.nil
    | cons d ds =>
      rw [Tps] at h
      obtain ⟨x, r, e, h1, h2⟩ := h
      subst e
      simp only [List.drop_succ_cons]
      exact ih h2
theorem Tp.str {H : Hp} {z : Str} {v : V} (h : Tp H (.str z) v) : v = .str z := by rw [Tp] at h; exact h
theorem Tp.int {H : Hp} {i : Int} {v : V} (h : Tp H (.int i) v) : v = .int i := by rw [Tp] at h; exact h
theorem Tp.tup {H : Hp} {ds : List PyData} {v : V} (h : Tp H (.tuple ds) v) : ∃ (a : Addr) (xs : List V), v = .ref a ∧ H a = some (.tup xs) ∧ Tps H ds xs := by rw [Tp] at h; exact h
theorem Tp.ofStr {H : Hp} (z : Str) : Tp H (.str z) (.str z) := by rw [Tp]
theorem Tp.ofInt {H : Hp} (i : Int) : Tp H (.int i) (.int i) := by rw [Tp]
theorem Tp.ofTup {H : Hp} {ds : List PyData} {a : Addr} {xs : List V} (h : H a = some (.tup xs)) (g : Tps H ds xs) : Tp H (.tuple ds) (.ref a) := by rw [Tp]; exact ⟨a, xs, rfl, h, g⟩

/-! ### comparisons of data, one of which is shallow -/
section
variable {X : Cx}
def Room1 (d e : PyData) : Prop := min d.depth e.depth ≤ 40
def rEqX (K : PySem.W.Frag) (neg : Bool) : R2 := fun x y H Q => ∃ d e, Dp K H x d ∧ Dp K H y e ∧ d.canLay0 = true ∧ e.canLay0 = true ∧ Room1 d e ∧ Q (.bl (if neg then !PyData.eqv d e else PyData.eqv d e)) H
theorem op_eqX (hu : X.A.units + 64 < cLine) : OpR X (compareOp .Eq) (rEqX X.K false) := by
  intro pins s σ H x y v u Q I rx ry h
  obtain ⟨d, e, hd, he, cd, ce, hr, q⟩ := h
  obtain ⟨as, r1⟩ := Dp.reads I d x v hd rx
  obtain ⟨bs, r2⟩ := Dp.reads I e y u he ry
  unfold Room1 at hr
  exact SeqAt.compareEq_reads r1 r2 cd ce (by omega) ⟨.bl _, H, I, rfl, q⟩
theorem op_neX (hu : X.A.units + 64 < cLine) : OpR X (compareOp .NotEq) (rEqX X.K true) := by
  intro pins s σ H x y v u Q I rx ry h
  obtain ⟨d, e, hd, he, cd, ce, hr, q⟩ := h
  obtain ⟨as, r1⟩ := Dp.reads I d x v hd rx
  obtain ⟨bs, r2⟩ := Dp.reads I e y u he ry
  unfold Room1 at hr
  exact SeqAt.compareNe_reads r1 r2 cd ce (by omega) ⟨.bl _, H, I, rfl, q⟩
def rInX (K : PySem.W.Frag) (neg : Bool) : R2 := fun x y H Q => ∃ d ds, Dp K H x d ∧ (Dp K H y (.list ds) ∨ Dp K H y (.tuple ds)) ∧ d.canLay0 = true ∧ PyData.canLayAll0 ds = true ∧ min (PyData.depthAll ds) d.depth ≤ 40 ∧
  Q (.bl (if neg then !ds.any (fun z => PyData.eqv z d) else ds.any fun z => PyData.eqv z d)) H
theorem op_inX (hu : X.A.units + 64 < cLine) : OpR X (compareOp .In) (rInX X.K false) := by
  intro pins s σ H x y v u Q I rx ry h
  obtain ⟨d, ds, hd, he, cd, ce, hr, q⟩ := h
  obtain ⟨as, r1⟩ := Dp.reads I d x v hd rx
  rcases he with he | he
  · obtain ⟨bs, r2⟩ := Dp.reads I (.list ds) y u he ry
    exact SeqAt.in_list_reads r2 r1 ce cd (by omega) ⟨.bl _, H, I, rfl, q⟩
  · obtain ⟨bs, r2⟩ := Dp.reads I (.tuple ds) y u he ry
    exact SeqAt.in_tuple_reads r2 r1 ce cd (by omega) ⟨.bl _, H, I, rfl, q⟩
theorem op_notInX (hu : X.A.units + 64 < cLine) : OpR X (compareOp .NotIn) (rInX X.K true) := by
  intro pins s σ H x y v u Q I rx ry h
  obtain ⟨d, ds, hd, he, cd, ce, hr, q⟩ := h
  obtain ⟨as, r1⟩ := Dp.reads I d x v hd rx
  rcases he with he | he
  · obtain ⟨bs, r2⟩ := Dp.reads I (.list ds) y u he ry
    exact SeqAt.notIn_list_reads r2 r1 ce cd (by omega) ⟨.bl _, H, I, rfl, q⟩
  · obtain ⟨bs, r2⟩ := Dp.reads I (.tuple ds) y u he ry
    exact SeqAt.notIn_tuple_reads r2 r1 ce cd (by omega) ⟨.bl _, H, I, rfl, q⟩
/-- l.index(z), z a text that is there -/
def rIndexX (K : PySem.W.Frag) : V → List V → Hp → VK → Prop := fun x xs H Q => ∃ (a : Addr) (z : Str) (ds : List PyData), x = .ref a ∧ xs = [.str z] ∧ Dp K H (.ref a) (.list ds) ∧ PyData.canLayAll0 ds = true ∧ (PyData.str z).canLay0 = true ∧
  true ∈ (ds.map fun d => PyData.eqv d (.str z)) ∧ Q (.int (((ds.map fun d => PyData.eqv d (.str z)).idxOf true : Nat) : Int)) H
theorem mt_indexX (hu : X.A.units + 64 < cLine) : MtR X "list.index" (rIndexX X.K) := by
  intro pins s σ H x xs v us Q I rx rxs h
  obtain ⟨a, z, ds, rfl, rfl, hl, cl, cz, hm, q⟩ := h
  cases rx
  obtain ⟨u, rfl, t, rfl⟩ := Vals.one rxs
  cases hl with
  | lst hs ha =>
    obtain ⟨its, rv, pl, hlen⟩ := I.list hs
    obtain ⟨as, h4⟩ := Dp.readsAll I ds _ its ha rv
    have hn : its.length = ds.length := SeqAt.ReadsAll.length ds its as h4
    have rz : Reads s.heap (.str z t) (.str z) [] := .str z t
    have hall : ∀ (ds : List PyData) (its : List Value) (as : List Addr), ReadsAll s.heap its ds as → PyData.canLayAll0 ds = true → ∀ j (h1 : j < its.length) (h2 : j < ds.length), SeqAt.EqAt X.A.in1 s its[j] (.str z t) (PyData.eqv ds[j] (.str z)) := by
      intro ds its as hr hc j h1 h2
      induction j generalizing ds its as with
      | zero =>
        cases hr with
        | nil => simp at h1
        | cons r1 r2 =>
          have := (Bool.and_eq_true_iff.mp hc).1
          refine SeqAt.eqAt_reads _ _ _ _ _ _ _ _ r1 rz this cz ?_
          have : PyData.depth (.str z) = 0 := by simp [PyData.depth]
          rw [this]
          show X.A.units + 1 + _ < _
          omega
      | succ j ih =>
        cases hr with
        | nil => simp at h1
        | cons r1 r2 =>
          have := (Bool.and_eq_true_iff.mp hc).2
          exact ih _ _ _ r2 this (by simpa using h1) (by simpa using h2)
    refine SeqAt.call_list_index (ks := ds.map fun d => PyData.eqv d (.str z)) (k := true) pl.isList ⟨by simpa using hn, ?_⟩ ?_ hm ?_
    · intro j h1 h2
      have := hall ds its as h4 cl j h1 (by simpa using h2)
      have e : decide ((ds.map fun d => PyData.eqv d (.str z))[j] = true) = PyData.eqv (ds[j]'(by simpa using h2)) (.str z) := by
        simp
      rw [e]
      exact this
    · have := rv.length
      simp
      omega
    · exact ⟨.int _, H, I.tok _, ⟨_, rfl⟩, q⟩
/-- repr of data -/
def rRepr (K : PySem.W.Frag) : List V → Hp → VK → Prop := fun xs H Q => ∃ (x : V) (d : PyData), xs = [x] ∧ Dp K H x d ∧ (∀ i, x ≠ .int i) ∧ (∀ b, x ≠ .bl b) ∧ x ≠ .non ∧ d.showable = true ∧ d.hasDict = false ∧ d.depth ≤ 1000 ∧ d.shown.length ≤ sizeLine ∧
  Q (.str d.shown) H
theorem call_reprD (hg : X.A.guards = some []) (hu : X.A.units + 2000 < cLine) : CallR X (.builtin "repr") (rRepr X.K) := by
  intro pins s σ H xs us Q I r h
  obtain ⟨x, d, rfl, hd, n1, n2, n3, hs, hk, hp, hz, q⟩ := h
  obtain ⟨u, rfl, ru⟩ := vals1 r
  obtain ⟨as, hr⟩ := Dp.reads I d x u hd ru
  cases hd with
  | non => exact (n3 rfl).elim
  | bl b => exact (n2 b rfl).elim
  | int i => exact (n1 i rfl).elim
  | str z =>
    obtain ⟨t, rfl⟩ := ru
    have e : PyData.shown (.str z) = reprText z := by simp [PyData.shown]
    rw [e] at q hz
    exact PySem.P.repr_of_str ⟨.str _, H, I.tok _, ⟨_, rfl⟩, q⟩ hz
  | lst h1 h2 =>
    cases ru
    exact repr_of_reads' hr hs (fun e => by rw [hk] at e; cases e) hg (by omega) (fun _ _ e => e) (fun h' t tk k => ⟨.str _, H, I.kept k, ⟨t, rfl⟩, q⟩) hz
  | tup h1 h2 =>
    cases ru
    exact repr_of_reads' hr hs (fun e => by rw [hk] at e; cases e) hg (by omega) (fun _ _ e => e) (fun h' t tk k => ⟨.str _, H, I.kept k, ⟨t, rfl⟩, q⟩) hz
end
end K83
end
section
set_option maxRecDepth 100000
set_option maxHeartbeats 4000000
/-! The text by places, what the top leaves, defs. -/
namespace K83
open PySem PySem.Spec PyProof.Rows L2
open Evl (Ex)
section
variable {X : Cx} {x : Str} {pos : Pos}
/-- a name of the module: a number, a text, an object -/
theorem pe_gI {i : Int} {t : PySem.Tok} (hm : X.mg x = some (.int i t)) (hg : Gl X x := by rfl) (hd : (x == ("__debug__" : Str)) = false := by decide) : PE X (.Name x pos) (tC (.int i)) := pe_glob hg hm ⟨_, rfl⟩ hd
theorem pe_gS {z : Str} {t : PySem.Tok} (hm : X.mg x = some (.str z t)) (hg : Gl X x := by rfl) (hd : (x == ("__debug__" : Str)) = false := by decide) : PE X (.Name x pos) (tC (.str z)) := pe_glob hg hm ⟨_, rfl⟩ hd
theorem pe_gR {a : Addr} (hm : X.mg x = some (.ref a)) (hg : Gl X x := by rfl) (hd : (x == ("__debug__" : Str)) = false := by decide) : PE X (.Name x pos) (tC (.ref a)) := pe_glob hg hm rfl hd
end
/-- a def of the module, a method of Reader, as they stand behind the top -/
structure DefAt (K : PySem.W.Frag) (mg : Str → Option Value) (x : Str) (st : Stmt) : Prop where
  ex : ∃ (f : Addr) (fd : FuncData), FunD K x x (defArgs st) (defBody st) (defScope st) [] [] f fd ∧ mg x = some (.ref f)
structure MetAt (K : PySem.W.Frag) (m q : Str) (st : Stmt) : Prop where
  ex : ∃ (f : Addr) (fd : FuncData), FunD K m q (defArgs st) (defBody st) (defScope st) [] [] f fd ∧ Meth K (He.ga K "Reader") m f
section
variable {P : Program} {w : World} {K : PySem.W.Frag} {mg : Str → Option Value} {base : Heap} {x m q : Str} {st : Stmt} {CX : CXT} {N ps : List Str} {k : Nat} {sp : Sp}
theorem mk_def (A : DefAt K mg x st) (S : FnScope N ps (defScope st))
    (hb : ∀ (kV doc pm : Value) (an : Option Addr) (cdv ct : Value) (us : List Value), us.length = ps.length → bindArgs (PySem.W.fnOf x x (defArgs st) (defBody st) (defScope st) .none kV doc pm an cdv ct) ⟨us, []⟩ = pure (ps.zip us))
    (len : ∀ vs H Q E, sp vs H Q E → vs.length = ps.length)
    (body : ∀ (f : Addr) (cdv : Value) (A : Around) (outer : List Env) (s : Shared) (H : Hp) (vs : List V) (Q : VK) (E : XK), Room k (A.deeper (envOfC x (defScope st) s.heap.objs.size f cdv)) → sp vs H Q E →
      ∃ t, PSs (cxOf CX P w K mg base N x (defScope st) f cdv A outer s H E) (defBody st) t ∧ t { nx := fun _ H' => Q .non H', rt := Q } (start N vs) H) : DefOk P w K mg base CX x (k + 1) ps sp := by
  obtain ⟨f, fd, F, hm⟩ := A.ex
  exact ⟨f, fd, F.ok S len (body f), hm, F.kp, F.bindsN hb⟩
/-- for a def that lets nothing out -/
theorem mk_def0 (A : DefAt K mg x st) (S : FnScope N ps (defScope st))
    (hb : ∀ (kV doc pm : Value) (an : Option Addr) (cdv ct : Value) (us : List Value), us.length = ps.length → bindArgs (PySem.W.fnOf x x (defArgs st) (defBody st) (defScope st) .none kV doc pm an cdv ct) ⟨us, []⟩ = pure (ps.zip us))
    (len : ∀ vs H Q E, sp vs H Q E → vs.length = ps.length)
    (body : ∀ (f : Addr) (cdv : Value) (A : Around) (outer : List Env) (s : Shared) (H : Hp) (vs : List V) (Q : VK) (E : XK), Room k (A.deeper (envOfC x (defScope st) s.heap.objs.size f cdv)) → sp vs H Q E →
      ∃ t, PSs (cxOf CX0 P w K mg base N x (defScope st) f cdv A outer s H E).nox (defBody st) t ∧ t { nx := fun _ H' => Q .non H', rt := Q } (start N vs) H) : DefOk P w K mg base CX0 x (k + 1) ps sp :=
  mk_def A S hb len fun f cdv A outer s H vs Q E hr h => by
    obtain ⟨t, h1, h2⟩ := body f cdv A outer s H vs Q E hr h
    exact ⟨t, h1.nox, h2⟩
theorem mk_met (A : MetAt K m q st) (S : FnScope N ps (defScope st))
    (hb : ∀ (kV doc pm : Value) (an : Option Addr) (cdv ct : Value) (us : List Value), us.length = ps.length → bindArgs (PySem.W.fnOf m q (defArgs st) (defBody st) (defScope st) .none kV doc pm an cdv ct) ⟨us, []⟩ = pure (ps.zip us))
    (len : ∀ vs H Q E, sp vs H Q E → vs.length = ps.length)
    (body : ∀ (f : Addr) (cdv : Value) (A : Around) (outer : List Env) (s : Shared) (H : Hp) (vs : List V) (Q : VK) (E : XK), Room k (A.deeper (envOfC q (defScope st) s.heap.objs.size f cdv)) → sp vs H Q E →
      ∃ t, PSs (cxOf CX P w K mg base N q (defScope st) f cdv A outer s H E) (defBody st) t ∧ t { nx := fun _ H' => Q .non H', rt := Q } (start N vs) H) : MetOk P w K mg base CX (He.ga K "Reader") m (k + 1) ps sp := by
  obtain ⟨f, fd, F, hm⟩ := A.ex
  exact ⟨f, fd, F.ok S len (body f), hm, F.bindsN hb⟩
theorem mk_met0 (A : MetAt K m q st) (S : FnScope N ps (defScope st))
    (hb : ∀ (kV doc pm : Value) (an : Option Addr) (cdv ct : Value) (us : List Value), us.length = ps.length → bindArgs (PySem.W.fnOf m q (defArgs st) (defBody st) (defScope st) .none kV doc pm an cdv ct) ⟨us, []⟩ = pure (ps.zip us))
    (len : ∀ vs H Q E, sp vs H Q E → vs.length = ps.length)
    (body : ∀ (f : Addr) (cdv : Value) (A : Around) (outer : List Env) (s : Shared) (H : Hp) (vs : List V) (Q : VK) (E : XK), Room k (A.deeper (envOfC q (defScope st) s.heap.objs.size f cdv)) → sp vs H Q E →
      ∃ t, PSs (cxOf CX0 P w K mg base N q (defScope st) f cdv A outer s H E).nox (defBody st) t ∧ t { nx := fun _ H' => Q .non H', rt := Q } (start N vs) H) : MetOk P w K mg base CX0 (He.ga K "Reader") m (k + 1) ps sp :=
  mk_met A S hb len fun f cdv A outer s H vs Q E hr h => by
    obtain ⟨t, h1, h2⟩ := body f cdv A outer s H vs Q E hr h
    exact ⟨t, h1.nox, h2⟩
end

structure BadF (K : PySem.W.Frag) (mg : Str → Option Value) : Prop where
  x : PySem.W.excIn K (cBad K) [.type "ValueError", .type "Exception", .type "BaseException", .type "object"] "ValueError.__new__" = true
  g : mg "BadText" = some (.ref (cBad K))
  k : PySem.W.keepIn K (.ref (cBad K)) = true
  s : PySem.W.subIn K (.ref (cBad K)) (.type "BaseException") = some true
  t : PySem.W.typeIn K (.ref (cBad K)) = some (.type "type")
/-- a written dict with text keys: what it says of a text -/
def Says (K : PySem.W.Frag) (a : Addr) (kvs : List (Str × V)) : Prop := ∀ z : Str, ∃ r, PySem.W.nsIn K a z = some r ∧ match kvs.lookup z, r with
  | some v, some u => RelV v u
  | none, none => True
  | _, _ => False
def levL : List (Str × V) := [("plus", .int 1), ("less", .int 1), ("times", .int 2), ("over", .int 2), ("minus", .int 3)]
def binL : List (Str × V) := [("+", .str "plus"), ("-", .str "less"), ("*", .str "times"), ("/", .str "over")]
/-- what the top has left, but for the defs -/
structure Txt (w : World) (K : PySem.W.Frag) (mg : Str → Option Value) : Prop where
  bad : BadF K mg
  f_len : mg "len" = none
  f_range : mg "range" = none
  f_enumerate : mg "enumerate" = none
  f_isinstance : mg "isinstance" = none
  f_str : mg "str" = none
  f_int : mg "int" = none
  f_abs : mg "abs" = none
  f_min : mg "min" = none
  f_max : mg "max" = none
  f_tuple : mg "tuple" = none
  f_list : mg "list" = none
  f_repr : mg "repr" = none
  f_all : mg "all" = none
  f_ValueError : mg "ValueError" = none
  c_LETTERS : ∃ t, mg "LETTERS" = some (.str "abcdefghijklmnopqrstuvwxyz" t)
  c_FIGURES : ∃ t, mg "FIGURES" = some (.str "0123456789" t)
  c_SIGNS : ∃ t, mg "SIGNS" = some (.str "+-*/^()[]," t)
  c_OPEN : ∃ t, mg "OPEN" = some (.str "(" t)
  c_MOST_WORDS : ∃ t, mg "MOST_WORDS" = some (.int 200 t)
  c_MOST_LETTERS : ∃ t, mg "MOST_LETTERS" = some (.int 8 t)
  c_MOST_FIGURES : ∃ t, mg "MOST_FIGURES" = some (.int 30 t)
  c_MOST_NESTED : ∃ t, mg "MOST_NESTED" = some (.int 20 t)
  c_MOST_MINUS : ∃ t, mg "MOST_MINUS" = some (.int 20 t)
  c_MOST_POWER : ∃ t, mg "MOST_POWER" = some (.int 8 t)
  c_MOST_NUMBERS : ∃ t, mg "MOST_NUMBERS" = some (.int 17 t)
  c_MOST_PLACE : ∃ t, mg "MOST_PLACE" = some (.int 16 t)
  g_TOLD : mg "TOLD" = some (.ref (He.ga K "TOLD"))
  g_PLAIN : mg "PLAIN" = some (.ref (He.ga K "PLAIN"))
  g_TWO : mg "TWO" = some (.ref (He.ga K "TWO"))
  g_ROOTS : mg "ROOTS" = some (.ref (He.ga K "ROOTS"))
  g_LEVELS : mg "LEVELS" = some (.ref (He.ga K "LEVELS"))
  g_BINARY : mg "BINARY" = some (.ref (He.ga K "BINARY"))
  g_Reader : mg "Reader" = some (.ref (He.ga K "Reader"))
  s_TOLD : ∀ H, SqT K H (He.ga K "TOLD") [.str "root", .str "sqrt", .str "cbrt"]
  s_PLAIN : ∀ H, SqT K H (He.ga K "PLAIN") [.str "number", .str "name", .str "root"]
  s_TWO : ∀ H, SqT K H (He.ga K "TWO") [.str "plus", .str "less", .str "times", .str "over"]
  s_ROOTS : ∀ H, SqT K H (He.ga K "ROOTS") [.str "sqrt", .str "cbrt"]
  k_LEVELS : ∃ es n, KDict K w (He.ga K "LEVELS") es n
  k_BINARY : ∃ es n, KDict K w (He.ga K "BINARY") es n
  v_LEVELS : Says K (He.ga K "LEVELS") levL
  v_BINARY : Says K (He.ga K "BINARY") binL
  cl : Cls K (He.ga K "Reader")
  na_words : NoAttr K (He.ga K "Reader") "words"
  na_at : NoAttr K (He.ga K "Reader") "at"
  na_told : NoAttr K (He.ga K "Reader") "told"
  na_waiting : NoAttr K (He.ga K "Reader") "waiting"
  na_deep : NoAttr K (He.ga K "Reader") "deep"
  na_minuses : NoAttr K (He.ga K "Reader") "minuses"
  na_is_base : NoAttr K (He.ga K "Reader") "is_base"
  mkr : Mk K (He.ga K "Reader") (He.ma K (He.ga K "Reader") "__init__")
  g_RootError : mg "RootError" = some (.ref (He.ga K "RootError"))
  g_BadRow : mg "BadRow" = some (.ref (He.ga K "BadRow"))
  g_ByNought : mg "ByNought" = some (.ref (He.ga K "ByNought"))
  g_BadPrime : mg "BadPrime" = some (.ref (He.ga K "BadPrime"))
  g_BadText : mg "BadText" = some (.ref (He.ga K "BadText"))
  g_TooGreat : mg "TooGreat" = some (.ref (He.ga K "TooGreat"))
  g_NotReal : mg "NotReal" = some (.ref (He.ga K "NotReal"))
  g_NoName : mg "NoName" = some (.ref (He.ga K "NoName"))
  g_NoRoot : mg "NoRoot" = some (.ref (He.ga K "NoRoot"))
  exm : PySem.W.exmOne K (.ref (cBad K)) (.ref (He.ga K "RootError")) = some true
  excC : ExcC K (cBad K)
  i_BadRow : PySem.W.kitOne K (.ref (cBad K)) (.ref (He.ga K "BadRow")) = some false
  i_ByNought : PySem.W.kitOne K (.ref (cBad K)) (.ref (He.ga K "ByNought")) = some false
  i_BadPrime : PySem.W.kitOne K (.ref (cBad K)) (.ref (He.ga K "BadPrime")) = some false
  i_BadText : PySem.W.kitOne K (.ref (cBad K)) (.ref (He.ga K "BadText")) = some true
  i_TooGreat : PySem.W.kitOne K (.ref (cBad K)) (.ref (He.ga K "TooGreat")) = some false
  i_NotReal : PySem.W.kitOne K (.ref (cBad K)) (.ref (He.ga K "NotReal")) = some false
  i_NoName : PySem.W.kitOne K (.ref (cBad K)) (.ref (He.ga K "NoName")) = some false
  i_NoRoot : PySem.W.kitOne K (.ref (cBad K)) (.ref (He.ga K "NoRoot")) = some false
  i_ValueError : PySem.W.kitOne K (.ref (cBad K)) (.type "ValueError") = some true

/-! ### literals -/
theorem l_figs : (("0123456789" : Str)).cps.toList = figs := by decide +kernel
theorem l_lets : (("abcdefghijklmnopqrstuvwxyz" : Str)).cps.toList = lets := by decide +kernel
theorem l_sigs : (("+-*/^()[]," : Str)).cps.toList = sigs := by decide +kernel
theorem str_dec (a : List Nat) (z : Str) (b : List Nat) (h : z = mkS b) : decide (V.str (mkS a) = V.str z) = decide (a = b) := by
  subst h
  by_cases e : a = b
  · rw [decide_eq_true e, decide_eq_true (by rw [e])]
  · rw [decide_eq_false e, decide_eq_false (fun q => e (mkS_inj (by injection q)))]
end K83
end
section
set_option maxRecDepth 100000
set_option maxHeartbeats 4000000
/-! What readings come to, further. -/
namespace K83
open PySem PySem.Spec PyProof.Rows L2
open Evl (Ex Ev EvT EvA EvL EvU EvO RV RU RC ev_var ev_c ev_op ev_un ev_if ev_andV ev_orV ev_notV et_test et_B et_and et_or et_not ea_nil ea_cons ev_cb q_asg q_asgL q_asgU q_if q_when s_asg s_ret s_if s_when s_drop q_drop rv_I0 rv_I rv_eq rv_ne rv_val el_sl eo_none eo_some tCut pss_cut q_cut)
section
variable {K : PySem.W.Frag} {σ : L2.St} {H H' : Hp} {ta tb tc te tx : TE} {t u : TT} {x y z v : V} {r r' : R2} {a b c : Bool}
theorem ev_chain (h1 : Ev ta σ H x) (h2 : Ev tb σ H y) (hr : RV r x y H (.bl a)) (h3 : a = true → Ev tc σ H z) (hr' : a = true → RV r' y z H (.bl b)) : Ev (tChain r r' ta tb tc) σ H (.bl (a && b)) := fun H1 e Q q =>
  h1 H1 e _ fun H2 e2 => h2 H2 (e.trans e2) _ fun H3 e3 => hr H3 ((e.trans e2).trans e3) _ fun H4 e4 => ⟨a, rfl, by
    have E4 := ((e.trans e2).trans e3).trans e4
    cases a with
    | true =>
      show tc σ H4 _
      exact h3 rfl H4 E4 _ fun H5 e5 => hr' rfl H5 (E4.trans e5) _ fun H6 e6 => q H6 ((((e2.trans e3).trans e4).trans e5).trans e6)
    | false =>
      show Q (.bl false) H4
      exact q H4 ((e2.trans e3).trans e4)⟩
theorem rv_inS {c : Nat} {w : Str} : RV rInS (.str ⟨#[c]⟩) (.str w) H (.bl (decide (c ∈ w.cps.toList))) := fun H1 _ _ q => ⟨c, w, rfl, rfl, q H1 (Ex.refl H1)⟩
theorem rv_notInS {c : Nat} {w : Str} : RV rNotInS (.str ⟨#[c]⟩) (.str w) H (.bl (!decide (c ∈ w.cps.toList))) := fun H1 _ _ q => ⟨c, w, rfl, rfl, q H1 (Ex.refl H1)⟩
theorem small_len {n : Nat} (h : n ≤ 100000) : n ≤ sizeLine := by
  have := sizeLine_eq
  omega
theorem rc_len {z : Str} (h : z.length ≤ 100000) : RC (fun xs H Q => ∃ z, xs = [.str z] ∧ z.length ≤ sizeLine ∧ Q (.int z.length) H) [.str z] H (.int (z.length : Int)) := fun H1 _ _ q => ⟨z, rfl, small_len h, q H1 (Ex.refl H1)⟩
theorem ev_is' (h : Ev te σ H v) (e : v = x) : Ev te σ H x := e ▸ h
theorem et_is' (h : EvT t σ H a) (e : a = b) : EvT t σ H b := e ▸ h
/-- a comprehension over a text's signs -/
theorem el_lcStr {i j : Nat} {vs : List Nat} {l : List Nat} {f : Nat → V} (hs : σ[i]? = some (some (.str (mkS l)))) (hl : l.length ≤ 100000)
    (hw : ∀ x, wipe ((wipe σ vs).set j (some x)) vs = wipe σ vs) (he : ∀ c ∈ l, ∀ H1, Ex H H1 → Ev te ((wipe σ vs).set j (some (.str ⟨#[c]⟩))) H1 (f c)) : EvL (tLc (iStr (tVar i)) (gName j) tYes te vs) σ H (l.map f) := by
  intro H1 e1 Q k
  refine ⟨_, hs, _, rfl, fun D hD => ?_⟩
  refine lc_it walk_str (fun n H' => Ex H1 H' ∧ H' D = some (.lst ((l.take n).map f))) ⟨ex_upd (Ex.refl H1) hD, upd_same⟩ (fun _ _ _ _ => trivial) ?_ ?_
  · rintro n x H2 H3 hn ⟨e2, h2⟩ ⟨rfl, c, hc, rfl⟩
    have hc' : l[n]? = some c := by simpa [mkS] using hc
    refine ⟨hw _, ?_⟩
    show te _ _ _
    refine he c (List.mem_of_getElem? hc') _ (e1.trans e2) _ (Ex.refl _) _ fun H4 e4 => ⟨_, e4 D _ h2, ?_, (e2.trans e4).mut hD, ?_⟩
    · have := sizeLine_eq
      have : n < l.length := (List.getElem?_eq_some_iff.mp hc').1
      simp
      omega
    · rw [upd_same]
      have : l.take (n + 1) = l.take n ++ [c] := by
        rw [List.take_succ, hc']
        rfl
      rw [this, List.map_append]
      rfl
  · rintro H2 ⟨e2, h2⟩
    have : (mkS l).cps.size = l.length := by simp [mkS]
    refine k D H2 hD e2 ?_
    rw [h2, this, List.take_length]
theorem ev_all {bs : List Bool} (h : EvL te σ H (bs.map V.bl)) : Ev (tCB (rAll K) (tCons te tNil)) σ H (.bl (bs.all id)) := fun H1 e Q q =>
  h H1 e _ fun p H2 _ e2 h2 => ⟨p, bs, rfl, SqL.of h2, q H2 e2⟩
end
end K83
end
section
set_option maxRecDepth 100000
set_option maxHeartbeats 4000000
/-! The words of a text: need, is_name, is_number, run_of, word_at, words_of. -/
namespace K83
open PySem PySem.Spec PyProof.Rows L2
open Evl (Ex Ev EvT EvA EvL EvU EvO RV RU RC ev_var ev_c ev_op ev_un ev_if ev_andV ev_orV ev_notV et_test et_B et_and et_or et_not ea_nil ea_cons ev_cb q_asg q_asgL q_asgU q_if q_when s_asg s_ret s_if s_when s_drop q_drop rv_I0 rv_I rv_eq rv_ne rv_val el_sl eo_none eo_some tCut pss_cut q_cut)
local macro_rules | `(tactic| walk_at "rv") => `(tactic| first | exact rv_I0 | exact rv_eq rfl | exact rv_ne rfl | exact rv_inS | exact rv_notInS)
local macro_rules | `(tactic| walk_at "rc") => `(tactic| first | exact rc_len (by assumption))
local macro_rules | `(tactic| walk_at "ea") => `(tactic| first | exact ea_nil | (apply ea_cons; walk_at "ev"; walk_at "ea"))
local macro_rules | `(tactic| walk_at "ev") => `(tactic| first
  | exact ev_var rfl
  | exact ev_c
  | (apply ev_op; walk_at "ev"; walk_at "ev"; walk_at "rv")
  | (apply ev_chain; walk_at "ev"; walk_at "ev"; walk_at "rv"; (intro _; walk_at "ev"); (intro _; walk_at "rv"))
  | (apply ev_cb; walk_at "ea"; walk_at "rc"))
local macro_rules | `(tactic| walk_at "et") => `(tactic| first
  | (apply et_or; walk_at "et"; (intro _; walk_at "et"))
  | (apply et_and; walk_at "et"; (intro _; walk_at "et"))
  | (apply et_not; walk_at "et")
  | (apply et_test; walk_at "ev")
  | (apply et_B; walk_at "ev"))
section
variable {P : Program} {w : World} {K : PySem.W.Frag} {mg : Str → Option Value} {base : Heap}
/-! ### need -/
abbrev N_need : List Str := ["is_good"]
abbrev s_need : Stmt := top 18
theorem sc_need : FnScope N_need ["is_good"] (defScope s_need) := ⟨rfl, rfl, rfl, by decide +kernel, rfl, by decide +kernel, by decide +kernel⟩
def spNeed (K : PySem.W.Frag) : Sp := fun vs H Q E => ∃ b : Bool, vs = [.bl b] ∧ (b = true → Q .non H) ∧ (b = false → E (.ref (cBad K)) none H)
theorem ok_need (T : Txt w K mg) (A : DefAt K mg "need" s_need) : DefOk P w K mg base (L2.CX P w) "need" 1 ["is_good"] (spNeed K) := by
  refine mk_def A sc_need (fun _ _ _ _ _ _ us hl => match us, hl with | [_], _ => rfl) (fun vs H Q E ⟨b, h, _⟩ => by rw [h]; rfl) (fun f cdv A outer s H vs Q E hr h => ?_)
  obtain ⟨b, rfl, h1, h2⟩ := h
  refine ⟨_, (pss_one (ps_if (pt_not (pt_val (pv 0))) (pss_one (ps_raise rfl (takes_of rfl rfl rfl rfl) (pmk_own PySem.F.excBase_ValueError T.bad.x T.bad.g T.bad.k (raises_own T.bad.s T.bad.t) rfl))) pss_nil)), ?_⟩
  refine ⟨_, rfl, b, rfl, ?_⟩
  cases b with
  | true => exact iteF (h1 rfl)
  | false => exact iteT (h2 rfl)

/-! ### is_name -/
abbrev N_is_name : List Str := ["word", "sign"]
abbrev s_is_name : Stmt := top 19
theorem sc_is_name : FnScope N_is_name ["word"] (defScope s_is_name) := ⟨rfl, rfl, rfl, by decide +kernel, rfl, by decide +kernel, by decide +kernel⟩
theorem l_root : ("root" : Str) = mkS wRoot := by decide +kernel
theorem l_sqrt : ("sqrt" : Str) = mkS wSqrt := by decide +kernel
theorem l_cbrt : ("cbrt" : Str) = mkS wCbrt := by decide +kernel
theorem inV_told (l : List Nat) : inV (.str (mkS l)) [.str "root", .str "sqrt", .str "cbrt"] = isTold l := by
  have e : ∀ (z : Str) (b : List Nat), z = mkS b → eqV (.str z) (.str (mkS l)) = decide (l = b) := by
    intro z b h
    subst h
    show (mkS b == mkS l) = decide (l = b)
    by_cases q : l = b
    · subst q
      simp
    · rw [decide_eq_false q]
      exact beq_eq_false_iff_ne.mpr fun z => q (mkS_inj z).symm
  show (eqV (.str "root") _ || (eqV (.str "sqrt") _ || (eqV (.str "cbrt") _ || false))) = _
  rw [e _ _ l_root, e _ _ l_sqrt, e _ _ l_cbrt, Bool.or_false]
  rfl
def spB (f : List Nat → Bool) : Sp := fun vs H Q _ => ∃ l : List Nat, vs = [.str (mkS l)] ∧ l.length ≤ 40000 ∧ ∀ H', Ex H H' → Q (.bl (f l)) H'
theorem ok_is_name (T : Txt w K mg) (A : DefAt K mg "is_name" s_is_name) : DefOk P w K mg base CX0 "is_name" 1 ["word"] (spB isNameL) := by
  refine mk_def0 A sc_is_name (fun _ _ _ _ _ _ us hl => match us, hl with | [_], _ => rfl) (fun vs H Q E ⟨b, h, _⟩ => by rw [h]; rfl) (fun f cdv A outer s H vs Q E hr h => ?_)
  obtain ⟨l, rfl, hl, k⟩ := h
  obtain ⟨_, c_LETTERS⟩ := T.c_LETTERS
  obtain ⟨_, c_MOST_LETTERS⟩ := T.c_MOST_LETTERS
  refine ⟨_, (pss_cons (ps_if (PW.pt (pw_or (pt_not (pt_chain op_le op_le pe_int (pe_callB call_len_str (by rfl) T.f_len PySem.boot_len (pa_cons (pv 0) pa_nil)) (pe_gI c_MOST_LETTERS))) (pw_or1 (pt_cmpR op_in_seq (pv 0) (pe_gR T.g_TOLD) rfl)))) (pss_one (ps_ret pe_bl)) pss_nil)
      (pss_one (ps_ret (pe_callB (cr_all rfl) (by rfl) T.f_all (by decide +kernel) (pa_cons (pe_lc (own := [("sign", 1)]) (g := gName 1) (tt := tYes) rfl sc_is_name.nd (pi_str (pv 0)) (blkOk_by (own := [("sign", 1)]) (N := N_is_name) (sc := defScope s_is_name) (by decide +kernel)) (fun _ _ _ _ _ => (pg_name (i := 1) sc_is_name.nd rfl (Or.inl rfl))) (fun _ _ _ _ _ => pts_nil) (fun _ _ _ _ _ => (pe_cmpR op_inS (pv 1) (pe_gS c_LETTERS) rfl))) pa_nil))))), ?_⟩
  have hz : (mkS l).length ≤ 100000 := by rw [mkS_len]; omega
  refine' q_when ?t (fun hb H1 e1 => ?_) (fun hb H1 e1 => ?_)
  case t =>
    apply et_or
    · walk_at "et"
    · intro _
      exact et_test (ev_op (ev_var rfl) ev_c (Evl.rv_isT (T.s_TOLD H) rfl rfl))
  · refine s_ret ev_c fun H2 e2 => ?_
    have : isNameL l = false := by
      rw [inV_told, mkS_len] at hb
      unfold isNameL
      have e1 : decide ((1 : Int) ≤ (l.length : Int)) = decide (1 ≤ l.length) := decide_eq_decide.mpr (by omega)
      have e2 : decide ((l.length : Int) ≤ 8) = decide (l.length ≤ 8) := decide_eq_decide.mpr (by omega)
      rw [e1, e2] at hb
      revert hb
      cases (decide (1 ≤ l.length) && decide (l.length ≤ 8)) <;> cases isTold l <;> simp
    rw [← this]
    exact k H2 (e1.trans e2)
  · refine s_ret (ev_all (bs := l.map isLet) ?_) fun H2 e2 => ?_
    · rw [List.map_map]
      refine el_lcStr rfl (by omega) (fun _ => rfl) fun c _ H2 _ => ?_
      apply ev_is'
      · walk_at "ev"
      · rw [l_lets]
        rfl
    · have : isNameL l = (l.map isLet).all id := by
        rw [inV_told, mkS_len] at hb
        unfold isNameL
        have e1 : decide ((1 : Int) ≤ (l.length : Int)) = decide (1 ≤ l.length) := decide_eq_decide.mpr (by omega)
        have e2 : decide ((l.length : Int) ≤ 8) = decide (l.length ≤ 8) := decide_eq_decide.mpr (by omega)
        rw [e1, e2] at hb
        have e3 : (l.map isLet).all id = l.all isLet := by rw [List.all_map]; rfl
        rw [e3]
        revert hb
        cases (decide (1 ≤ l.length) && decide (l.length ≤ 8)) <;> cases isTold l <;> simp
      rw [← this]
      exact k H2 (e1.trans e2)
end
end K83
end
section
set_option maxRecDepth 100000
set_option maxHeartbeats 4000000
namespace K83
open PySem PySem.Spec PyProof.Rows L2
open Evl (Ex Ev EvT EvA EvL EvU EvO RV RU RC ev_var ev_c ev_op ev_un ev_if ev_andV ev_orV ev_notV et_test et_B et_and et_or et_not ea_nil ea_cons ev_cb q_asg q_asgL q_asgU q_if q_when s_asg s_ret s_if s_when s_drop q_drop rv_I0 rv_I rv_eq rv_ne rv_val el_sl eo_none eo_some tCut pss_cut q_cut)
local macro_rules | `(tactic| walk_at "rv") => `(tactic| first | exact rv_I0 | exact rv_eq rfl | exact rv_ne rfl | exact rv_inS | exact rv_notInS)
local macro_rules | `(tactic| walk_at "rc") => `(tactic| first | exact rc_len (by assumption))
local macro_rules | `(tactic| walk_at "ea") => `(tactic| first | exact ea_nil | (apply ea_cons; walk_at "ev"; walk_at "ea"))
local macro_rules | `(tactic| walk_at "ev") => `(tactic| first
  | exact ev_var rfl
  | exact ev_c
  | (apply ev_op; walk_at "ev"; walk_at "ev"; walk_at "rv")
  | (apply ev_chain; walk_at "ev"; walk_at "ev"; walk_at "rv"; (intro _; walk_at "ev"); (intro _; walk_at "rv"))
  | (apply ev_cb; walk_at "ea"; walk_at "rc"))
local macro_rules | `(tactic| walk_at "et") => `(tactic| first
  | (apply et_or; walk_at "et"; (intro _; walk_at "et"))
  | (apply et_and; walk_at "et"; (intro _; walk_at "et"))
  | (apply et_not; walk_at "et")
  | (apply et_test; walk_at "ev")
  | (apply et_B; walk_at "ev"))
section
variable {P : Program} {w : World} {K : PySem.W.Frag} {mg : Str → Option Value} {base : Heap}
/-! ### is_number -/
abbrev N_is_number : List Str := ["word", "sign"]
abbrev s_is_number : Stmt := top 20
theorem sc_is_number : FnScope N_is_number ["word"] (defScope s_is_number) := ⟨rfl, rfl, rfl, by decide +kernel, rfl, by decide +kernel, by decide +kernel⟩
theorem l_zero : ("0" : Str) = mkS [48] := by decide +kernel
theorem ok_is_number (T : Txt w K mg) (A : DefAt K mg "is_number" s_is_number) : DefOk P w K mg base CX0 "is_number" 1 ["word"] (spB isNumberL) := by
  refine mk_def0 A sc_is_number (fun _ _ _ _ _ _ us hl => match us, hl with | [_], _ => rfl) (fun vs H Q E ⟨b, h, _⟩ => by rw [h]; rfl) (fun f cdv A outer s H vs Q E hr h => ?_)
  obtain ⟨l, rfl, hl, k⟩ := h
  obtain ⟨_, c_FIGURES⟩ := T.c_FIGURES
  obtain ⟨_, c_MOST_FIGURES⟩ := T.c_MOST_FIGURES
  refine ⟨_, (pss_cons (ps_if (PW.pt (pw_or (pt_not (pt_chain op_le op_le pe_int (pe_callB call_len_str (by rfl) T.f_len PySem.boot_len (pa_cons (pv 0) pa_nil)) (pe_gI c_MOST_FIGURES))) (pw_or1 (pt_not (pt_val (pe_callB (cr_all rfl) (by rfl) T.f_all (by decide +kernel) (pa_cons (pe_lc (own := [("sign", 1)]) (g := gName 1) (tt := tYes) rfl sc_is_number.nd (pi_str (pv 0)) (blkOk_by (own := [("sign", 1)]) (N := N_is_number) (sc := defScope s_is_number) (by decide +kernel)) (fun _ _ _ _ _ => (pg_name (i := 1) sc_is_number.nd rfl (Or.inl rfl))) (fun _ _ _ _ _ => pts_nil) (fun _ _ _ _ _ => (pe_cmpR op_inS (pv 1) (pe_gS c_FIGURES) rfl))) pa_nil))))))) (pss_one (ps_ret pe_bl)) pss_nil)
      (pss_one (ps_ret (pe_or (pe_cmpR op_ne (pe_ix ix_str (pv 0) pe_int (fun _ _ => rfl)) pe_str (nomark _)) (pe_one (pe_cmpR op_eq (pv 0) pe_str (nomark _))))))), ?_⟩
  have hz : (mkS l).length ≤ 100000 := by rw [mkS_len]; omega
  have q1 : decide ((1 : Int) ≤ ((mkS l).length : Int)) = decide (1 ≤ l.length) := by rw [mkS_len]; exact decide_eq_decide.mpr (by omega)
  have e2 : decide (((mkS l).length : Int) ≤ 30) = decide (l.length ≤ 30) := by rw [mkS_len]; exact decide_eq_decide.mpr (by omega)
  refine' q_when ?t (fun hb H1 e1 => ?_) (fun hb H1 e1 => ?_)
  case t =>
    apply et_or
    · walk_at "et"
    · intro _
      refine et_not (et_B (ev_all (bs := l.map isFig) ?_))
      rw [List.map_map]
      refine el_lcStr rfl (by omega) (fun _ => rfl) fun c _ H2 _ => ?_
      apply ev_is'
      · walk_at "ev"
      · rw [l_figs]
        rfl
  · refine s_ret ev_c fun H2 e3 => ?_
    have : isNumberL l = false := by
      have e3 : (l.map isFig).all id = l.all isFig := by rw [List.all_map]; rfl
      rw [e2, e3] at hb
      simp only [mkS_len] at hb
      have e1 : decide ((1 : Int) ≤ (l.length : Int)) = decide (1 ≤ l.length) := decide_eq_decide.mpr (by omega)
      rw [e1] at hb
      unfold isNumberL
      revert hb
      cases (decide (1 ≤ l.length) && decide (l.length ≤ 30)) <;> cases l.all isFig <;> simp
    rw [← this]
    exact k H2 (e1.trans e3)
  · have e3 : (l.map isFig).all id = l.all isFig := by rw [List.all_map]; rfl
    have g : (decide (1 ≤ l.length) && decide (l.length ≤ 30)) = true ∧ l.all isFig = true := by
      rw [q1, e2, e3] at hb
      revert hb
      cases (decide (1 ≤ l.length) && decide (l.length ≤ 30)) <;> cases l.all isFig <;> simp
    obtain ⟨c, r, rfl⟩ : ∃ c r, l = c :: r := by
      cases l with
      | nil => exact absurd g.1 (by decide)
      | cons c r => exact ⟨c, r, rfl⟩
    refine s_ret (ev_is' (ev_orV (ev_op (ev_op (ev_var rfl) ev_c (Evl.rv_ixS (c := c) hz (by rw [mkS_list]; exact atI_nat (j := 0) rfl))) ev_c (rv_ne rfl)) (fun _ => ev_op (ev_var rfl) ev_c (rv_eq rfl))) (x := .bl (isNumberL (c :: r))) ?_) fun H2 e4 => k H2 (e1.trans e4)
    have a1 : decide (V.str ⟨#[c]⟩ = V.str "0") = decide (c = 48) := by
      rw [show (⟨#[c]⟩ : Str) = mkS [c] from rfl, str_dec _ _ _ l_zero]
      exact decide_eq_decide.mpr ⟨fun h => by injection h, fun h => by rw [h]⟩
    rw [a1, str_dec _ _ _ l_zero]
    unfold isNumberL
    rw [g.1, g.2, ← decide_not]
    simp
/-! ### run_of -/
abbrev N_run_of : List Str := ["text", "at", "signs", "behind"]
abbrev s_run_of : Stmt := top 21
theorem sc_run_of : FnScope N_run_of ["text", "at", "signs"] (defScope s_run_of) := ⟨rfl, rfl, rfl, by decide +kernel, rfl, by decide +kernel, by decide +kernel⟩
def spRun : Sp := fun vs H Q _ => ∃ (pre rest : List Nat) (z : Str), vs = [.str (mkS (pre ++ rest)), .int pre.length, .str z] ∧ pre.length + rest.length ≤ 40000 ∧ ∀ H', Ex H H' → Q (.str (mkS (rest.takeWhile fun c => decide (c ∈ z.cps.toList)))) H'
theorem cutS_mid (pre mid post : List Nat) : cutS (mkS (pre ++ (mid ++ post))) (some (pre.length : Int)) (some ((pre.length + mid.length : Nat) : Int)) = mkS mid := by
  have h1 : HT.sIx (mkS (pre ++ (mid ++ post))).length 0 (some (pre.length : Int)) = pre.length := by
    rw [mkS_len]
    rw [HT.sIx_nat]
    simp
  have h2 : HT.sIx (mkS (pre ++ (mid ++ post))).length (mkS (pre ++ (mid ++ post))).length (some ((pre.length + mid.length : Nat) : Int)) = pre.length + mid.length := by
    rw [mkS_len]
    rw [HT.sIx_nat]
    simp
  unfold cutS
  rw [h1, h2, mkS_list]
  have e1 : (pre ++ (mid ++ post)).drop pre.length = mid ++ post := List.drop_left
  have e2 : pre.length + mid.length - pre.length = mid.length := by omega
  rw [e1, e2]
  have e3 : (mid ++ post).take mid.length = mid := List.take_left
  rw [e3]
  rfl
theorem ok_run_of (T : Txt w K mg) (A : DefAt K mg "run_of" s_run_of) : DefOk P w K mg base CX0 "run_of" 1 ["text", "at", "signs"] spRun := by
  refine mk_def0 A sc_run_of (fun _ _ _ _ _ _ us hl => match us, hl with | [_, _, _], _ => rfl) (fun vs H Q E ⟨_, _, _, h, _⟩ => by rw [h]; rfl) (fun f cdv A outer s H vs Q E hr h => ?_)
  obtain ⟨pre, rest, z, rfl, hl, k⟩ := h
  refine ⟨_, (pss_cons (ps_set (i := 3) sc_run_of.nd rfl (Or.inl rfl) (pv 1))
      (pss_cons (ps_while PassesOwn.never (PW.pt (pw_and (pt_cmpR op_lt (pv 3) (pe_callB call_len_str (by rfl) T.f_len PySem.boot_len (pa_cons (pv 0) pa_nil)) (nomark _)) (pw_and1 (pt_cmpR op_inS (pe_ix ix_str (pv 0) (pv 3) (fun _ _ => rfl)) (pv 2) rfl)))) (pss_one (ps_set (i := 3) sc_run_of.nd rfl (Or.inl rfl) (pe_op op_add (pv 3) pe_int))))
      (pss_one (ps_ret (pe_slice sl_str (pv 0) (po_some (pv 1)) (po_some (pv 3))))))), ?_⟩
  have hz : (mkS (pre ++ rest)).length ≤ 100000 := by rw [mkS_len, List.length_append]; omega
  refine q_asg (ev_var rfl) fun H1 e1 => ?_
  refine Evl.q_while (fun m σ' H' => Ex H H' ∧ ∃ dn todo, rest = dn ++ todo ∧ (dn.all fun c => decide (c ∈ z.cps.toList)) = true ∧ todo.length = m ∧
    σ' = [some (.str (mkS (pre ++ rest))), some (.int pre.length), some (.str z), some (.int ((pre.length + dn.length : Nat) : Int))]) rest.length ⟨e1, [], rest, rfl, rfl, rfl, rfl⟩ ?_
  rintro m σ' H' ⟨e2, dn, todo, hrest, hdn, hm, rfl⟩
  have hlen : ((mkS (pre ++ rest)).length : Int) = ((pre.length + dn.length + todo.length : Nat) : Int) := by
    rw [mkS_len, List.length_append, hrest, List.length_append]
    omega
  have fin : (∀ c t, todo = c :: t → decide (c ∈ z.cps.toList) = false) → ∀ H1, Ex H' H1 → tRet (tSl rSlS (tVar 0) (tPart (tVar 1)) (tPart (tVar 3))) { nx := fun _ H' => Q .non H', rt := Q } [some (.str (mkS (pre ++ rest))), some (.int pre.length), some (.str z), some (.int ((pre.length + dn.length : Nat) : Int))] H1 := by
    intro hstop H3 e3
    refine ⟨_, rfl, _, rfl, _, rfl, _, rfl, _, rfl, ?_⟩
    refine ⟨_, rfl, small_len hz, ?_⟩
    rw [hrest, cutS_mid]
    have : rest.takeWhile (fun c => decide (c ∈ z.cps.toList)) = dn := by
      rw [hrest]
      have h1 : ∀ (dn : List Nat), (dn.all fun c => decide (c ∈ z.cps.toList)) = true → (dn ++ todo).takeWhile (fun c => decide (c ∈ z.cps.toList)) = dn := by
        intro dn
        induction dn with
        | nil =>
          intro _
          cases todo with
          | nil => rfl
          | cons c t => rw [List.nil_append, List.takeWhile_cons, hstop c t rfl]; rfl
        | cons d dn ih =>
          intro h
          rw [List.all_cons, Bool.and_eq_true] at h
          rw [List.cons_append, List.takeWhile_cons, h.1, ih h.2]
          rfl
      exact h1 dn hdn
    have := k H3 (e2.trans e3)
    rwa [‹rest.takeWhile _ = dn›] at this
  cases todo with
  | nil =>
    refine ⟨false, ?_, fun (h : false = true) => Bool.noConfusion h, fun _ H1 e3 => fin (fun c t h => by cases h) H1 e3⟩
    refine Evl.et_is (et_and (et_test (ev_op (ev_var rfl) (ev_cb (ea_cons (ev_var rfl) ea_nil) (rc_len hz)) rv_I0)) (b := true) (fun h => ?_)) ?_
    · rw [hlen] at h
      have := of_decide_eq_true h
      simp at this
    · rw [hlen]
      simp
  | cons c t =>
    have hc : (pre ++ rest)[pre.length + dn.length]? = some c := by
      rw [hrest, ← List.append_assoc, ← List.length_append, List.getElem?_append_right (Nat.le_refl _)]
      simp
    refine ⟨decide (c ∈ z.cps.toList), ?_, ?_, fun hb H1 e3 => fin (fun c' t' h => by injection h with h1 _; rw [← h1]; exact hb) H1 e3⟩
    · refine Evl.et_is (et_and (et_test (ev_op (ev_var rfl) (ev_cb (ea_cons (ev_var rfl) ea_nil) (rc_len hz)) rv_I0)) (b := decide (c ∈ z.cps.toList)) (fun h => ?_)) ?_
      · exact et_test (ev_op (ev_op (ev_var rfl) (ev_var rfl) (Evl.rv_ixS (c := c) hz (by rw [mkS_list]; exact atI_nat hc))) (ev_var rfl) rv_inS)
      · rw [hlen]
        have : decide (((pre.length + dn.length : Nat) : Int) < ((pre.length + dn.length + (c :: t).length : Nat) : Int)) = true := decide_eq_true (by simp only [List.length_cons]; omega)
        rw [this]
        rfl
    · intro hb H3 e3
      refine ⟨fun σ2 H2 => Ex H H2 ∧ σ2 = [some (.str (mkS (pre ++ rest))), some (.int pre.length), some (.str z), some (.int ((pre.length + (dn ++ [c]).length : Nat) : Int))], ?_, ?_⟩
      · rintro σ2 H2 ⟨e4, rfl⟩
        refine ⟨t.length, by rw [← hm]; simp, e4, dn ++ [c], t, by rw [hrest]; simp, by rw [List.all_append, hdn]; simpa using hb, rfl, rfl⟩
      · refine s_asg (ev_op (ev_var rfl) ev_c rv_I0) fun H4 e4 => ⟨(e2.trans e3).trans e4, ?_⟩
        rw [List.length_append]
        rfl
end
end K83
end
section
set_option maxRecDepth 100000
set_option maxHeartbeats 4000000
namespace K83
open PySem PySem.Spec PyProof.Rows L2
open Evl (Ex Ev EvT EvA EvL EvU EvO RV RU RC ev_var ev_c ev_op ev_un ev_if ev_andV ev_orV ev_notV et_test et_B et_and et_or et_not ea_nil ea_cons ev_cb q_asg q_asgL q_asgU q_if q_when s_asg s_ret s_if s_when s_drop q_drop rv_I0 rv_I rv_eq rv_ne rv_val el_sl eo_none eo_some tCut pss_cut q_cut)
/-! ### a def that may raise, as a statement -/
section
variable {K : PySem.W.Frag} {σ : L2.St} {H H' : Hp} {te : TE} {ta : TA} {D : Ends} {tz : TS} {E : XK} {b : Bool}
theorem st_need (h : EvA ta σ H [.bl b]) (hy : b = true → ∀ H1, Ex H H1 → D.nx σ H1) (hn : b = false → ∀ H1, Ex H H1 → E (.ref (cBad K)) none H1) : tDrop (tCall (spNeed K) [] E ta) D σ H :=
  h H (Ex.refl H) _ fun H1 e => ⟨b, rfl, fun hb => hy hb H1 e, fun hb => hn hb H1 e⟩
theorem q_need (h : EvA ta σ H [.bl b]) (hy : b = true → ∀ H1, Ex H H1 → tz D σ H1) (hn : b = false → ∀ H1, Ex H H1 → E (.ref (cBad K)) none H1) : tSeq (tDrop (tCall (spNeed K) [] E ta)) tz D σ H :=
  st_need (D := { D with nx := tz D }) h hy hn
theorem sp_b {f : List Nat → Bool} {l : List Nat} (hl : l.length ≤ 40000) : Evl.SpV (spB f) [.str (mkS l)] H (.bl (f l)) := fun H1 _ Q q _ => ⟨l, rfl, hl, q⟩
theorem ev_B {f : List Nat → Bool} {l : List Nat} {E : XK} {ta : TE} (h : Ev ta σ H (.str (mkS l))) (hl : l.length ≤ 40000) : Ev (tCall (spB f) [] E (tCons ta tNil)) σ H (.bl (f l)) := Evl.ev_call (ea_cons h ea_nil) (sp_b hl)
end
/-- the word that stands ahead -/
def stepW : List Nat → Option (List Nat)
  | [] => none
  | c :: cs =>
    if isFig c then (if goodNum (c :: cs.takeWhile isFig) then some (c :: cs.takeWhile isFig) else none)
    else if isLet c then (if goodName (c :: cs.takeWhile isLet) then some (c :: cs.takeWhile isLet) else none)
    else if c = 32 ∨ isSig c then some [c] else none
section
variable {P : Program} {w : World} {K : PySem.W.Frag} {mg : Str → Option Value} {base : Heap}
/-! ### word_at -/
abbrev N_word_at : List Str := ["text", "at", "word"]
abbrev s_word_at : Stmt := top 22
theorem sc_word_at : FnScope N_word_at ["text", "at"] (defScope s_word_at) := ⟨rfl, rfl, rfl, by decide +kernel, rfl, by decide +kernel, by decide +kernel⟩
def spWordAt (K : PySem.W.Frag) : Sp := fun vs H Q E => ∃ (pre : List Nat) (c : Nat) (cs : List Nat), vs = [.str (mkS (pre ++ c :: cs)), .int pre.length] ∧ pre.length + cs.length ≤ 30000 ∧
  (∀ w, stepW (c :: cs) = some w → ∀ H', Ex H H' → Q (.str (mkS w)) H') ∧ (stepW (c :: cs) = none → ∀ H', Ex H H' → E (.ref (cBad K)) none H')
theorem takeWhile_len (p : Nat → Bool) (cs : List Nat) : (cs.takeWhile p).length ≤ cs.length := by
  induction cs with
  | nil => exact Nat.le_refl _
  | cons c cs ih =>
    rw [List.takeWhile_cons]
    split
    · simp only [List.length_cons]; omega
    · simp
theorem l_blank : (" " : Str) = mkS [32] := by decide +kernel
theorem ok_word_at (T : Txt w K mg) (A : DefAt K mg "word_at" s_word_at) (D_need : DefOk P w K mg base (L2.CX P w) "need" 1 ["is_good"] (spNeed K)) (D_is_name : DefOk P w K mg base CX0 "is_name" 1 ["word"] (spB isNameL))
    (D_is_number : DefOk P w K mg base CX0 "is_number" 1 ["word"] (spB isNumberL)) (D_run_of : DefOk P w K mg base CX0 "run_of" 1 ["text", "at", "signs"] spRun) : DefOk P w K mg base (L2.CX P w) "word_at" 2 ["text", "at"] (spWordAt K) := by
  refine mk_def A sc_word_at (fun _ _ _ _ _ _ us hl => match us, hl with | [_, _], _ => rfl) (fun vs H Q E ⟨_, _, _, h, _⟩ => by rw [h]; rfl) (fun f cdv A outer s H vs Q E hr h => ?_)
  obtain ⟨pre, c, cs, rfl, hl, k1, k2⟩ := h
  obtain ⟨_, c_FIGURES⟩ := T.c_FIGURES
  obtain ⟨_, c_LETTERS⟩ := T.c_LETTERS
  obtain ⟨_, c_SIGNS⟩ := T.c_SIGNS
  refine ⟨_, (pss_cons (ps_if (pt_cmpR op_inS (pe_ix ix_str (pv 0) (pv 1) (fun _ _ => rfl)) (pe_gS c_FIGURES) rfl) (pss_cons (ps_set (i := 2) sc_word_at.nd rfl (Or.inl rfl) (pe_def D_run_of (hr.mono (by decide)) rfl pass0 (pa_cons (pv 0) (pa_cons (pv 1) (pa_cons (pe_gS c_FIGURES) pa_nil)))))
      (pss_one (ps_expr (pe_def D_need (hr.mono (by decide)) rfl (pass_on (takes_of rfl rfl rfl rfl)) (pa_cons (pe_def D_is_number (hr.mono (by decide)) rfl pass0 (pa_cons (pv 2) pa_nil)) pa_nil))))) (pss_one (ps_if (pt_cmpR op_inS (pe_ix ix_str (pv 0) (pv 1) (fun _ _ => rfl)) (pe_gS c_LETTERS) rfl) (pss_cons (ps_set (i := 2) sc_word_at.nd rfl (Or.inl rfl) (pe_def D_run_of (hr.mono (by decide)) rfl pass0 (pa_cons (pv 0) (pa_cons (pv 1) (pa_cons (pe_gS c_LETTERS) pa_nil)))))
      (pss_one (ps_expr (pe_def D_need (hr.mono (by decide)) rfl (pass_on (takes_of rfl rfl rfl rfl)) (pa_cons (pe_or (pe_def D_is_name (hr.mono (by decide)) rfl pass0 (pa_cons (pv 2) pa_nil)) (pe_one (pe_cmpR op_in_seq (pv 2) (pe_gR T.g_TOLD) rfl))) pa_nil))))) (pss_cons (ps_set (i := 2) sc_word_at.nd rfl (Or.inl rfl) (pe_ix ix_str (pv 0) (pv 1) (fun _ _ => rfl)))
      (pss_one (ps_expr (pe_def D_need (hr.mono (by decide)) rfl (pass_on (takes_of rfl rfl rfl rfl)) (pa_cons (pe_or (pe_cmpR op_eq (pv 2) pe_str (nomark _)) (pe_one (pe_cmpR op_inS (pv 2) (pe_gS c_SIGNS) rfl))) pa_nil))))))))
      (pss_one (ps_ret (pv 2)))), ?_⟩
  have hz : (mkS (pre ++ c :: cs)).length ≤ 100000 := by rw [mkS_len, List.length_append, List.length_cons]; omega
  have hc : (pre ++ c :: cs)[pre.length]? = some c := by rw [List.getElem?_append_right (Nat.le_refl _)]; simp
  have evc : ∀ {σ : L2.St} {H}, σ[0]? = some (some (.str (mkS (pre ++ c :: cs)))) → σ[1]? = some (some (.int pre.length)) → Ev (tOp rIxS (tVar 0) (tVar 1)) σ H (.str ⟨#[c]⟩) := fun h0 h1 =>
    ev_op (ev_var h0) (ev_var h1) (Evl.rv_ixS (c := c) hz (by rw [mkS_list]; exact atI_nat hc))
  have run : ∀ {E : XK} {σ : L2.St} {H} (z : Str), σ[0]? = some (some (.str (mkS (pre ++ c :: cs)))) → σ[1]? = some (some (.int pre.length)) →
      Ev (tCall spRun [] E (tCons (tVar 0) (tCons (tVar 1) (tCons (tC (.str z)) tNil)))) σ H (.str (mkS ((c :: cs).takeWhile fun c => decide (c ∈ z.cps.toList)))) := fun z h0 h1 =>
    Evl.ev_call (ea_cons (ev_var h0) (ea_cons (ev_var h1) (ea_cons ev_c ea_nil))) fun H1 _ Q q _ => ⟨pre, c :: cs, z, rfl, by rw [List.length_cons]; omega, q⟩
  refine q_if (b := isFig c) ?_ (fun hb H1 e1 => ?_) (fun hb H1 e1 => ?_)
  · refine Evl.et_is (et_test (ev_op (evc rfl rfl) ev_c rv_inS)) ?_
    rw [l_figs]
    rfl
  · refine q_asg (run _ rfl rfl) fun H2 e2 => ?_
    rw [l_figs]
    have e : (c :: cs).takeWhile (fun c => decide (c ∈ figs)) = c :: cs.takeWhile isFig := by
      rw [List.takeWhile_cons, show decide (c ∈ figs) = true from hb]
      rfl
    rw [e]
    have hs : stepW (c :: cs) = if goodNum (c :: cs.takeWhile isFig) then some (c :: cs.takeWhile isFig) else none := by
      rw [stepW, if_pos hb]
    have hw : (c :: cs.takeWhile isFig).length ≤ 40000 := by
      have := takeWhile_len isFig cs
      rw [List.length_cons]
      omega
    refine st_need (ea_cons (ev_B (ev_var rfl) hw) ea_nil) (fun hg H3 e3 => ?_) (fun hg H3 e3 => ?_)
    · rw [num_run hb (takeWhile_p _ _)] at hg
      rw [hg, if_pos rfl] at hs
      exact s_ret (ev_var rfl) fun H4 e4 => k1 _ hs H4 (((e1.trans e2).trans e3).trans e4)
    · rw [num_run hb (takeWhile_p _ _)] at hg
      rw [hg, if_neg (by decide)] at hs
      exact k2 hs H3 ((e1.trans e2).trans e3)
  · refine s_if (b := isLet c) ?_ (fun hd H2 e2 => ?_) (fun hd H2 e2 => ?_)
    · refine Evl.et_is (et_test (ev_op (evc rfl rfl) ev_c rv_inS)) ?_
      rw [l_lets]
      rfl
    · refine q_asg (run _ rfl rfl) fun H3 e3 => ?_
      rw [l_lets]
      have e : (c :: cs).takeWhile (fun c => decide (c ∈ lets)) = c :: cs.takeWhile isLet := by
        rw [List.takeWhile_cons, show decide (c ∈ lets) = true from hd]
        rfl
      rw [e]
      have hs : stepW (c :: cs) = if goodName (c :: cs.takeWhile isLet) then some (c :: cs.takeWhile isLet) else none := by
        rw [stepW, if_neg (by rw [hb]; decide), if_pos hd]
      have hw : (c :: cs.takeWhile isLet).length ≤ 40000 := by
        have := takeWhile_len isLet cs
        rw [List.length_cons]
        omega
      refine st_need (ea_cons (ev_orV (ev_B (ev_var rfl) hw) fun _ => ev_op (ev_var rfl) ev_c (Evl.rv_isT (T.s_TOLD _) rfl rfl)) ea_nil) (fun hg H4 e4 => ?_) (fun hg H4 e4 => ?_)
      · rw [inV_told, name_run hd (takeWhile_p _ _)] at hg
        rw [hg, if_pos rfl] at hs
        exact s_ret (ev_var rfl) fun H5 e5 => k1 _ hs H5 ((((e1.trans e2).trans e3).trans e4).trans e5)
      · rw [inV_told, name_run hd (takeWhile_p _ _)] at hg
        rw [hg, if_neg (by decide)] at hs
        exact k2 hs H4 (((e1.trans e2).trans e3).trans e4)
    · refine q_asg (evc rfl rfl) fun H3 e3 => ?_
      have hs : stepW (c :: cs) = if c = 32 ∨ isSig c then some [c] else none := by
        rw [stepW, if_neg (by rw [hb]; decide), if_neg (by rw [hd]; decide)]
      refine st_need (ea_cons (ev_orV (ev_op (ev_var rfl) ev_c (rv_eq rfl)) fun _ => ev_op (ev_var rfl) ev_c rv_inS) ea_nil) (fun hg H4 e4 => ?_) (fun hg H4 e4 => ?_)
      · rw [show (⟨#[c]⟩ : Str) = mkS [c] from rfl, str_dec _ _ _ l_blank, l_sigs] at hg
        have : c = 32 ∨ isSig c = true := by
          rcases Bool.or_eq_true_iff.mp hg with h | h
          · have := of_decide_eq_true h
            injection this with h _
            exact Or.inl h
          · exact Or.inr h
        rw [if_pos this] at hs
        exact s_ret (ev_var rfl) fun H5 e5 => k1 _ hs H5 ((((e1.trans e2).trans e3).trans e4).trans e5)
      · rw [show (⟨#[c]⟩ : Str) = mkS [c] from rfl, str_dec _ _ _ l_blank, l_sigs] at hg
        have : ¬ (c = 32 ∨ isSig c = true) := by
          rcases Bool.or_eq_false_iff.mp hg with ⟨h1, h2⟩
          rintro (h | h)
          · exact absurd (by rw [h]) (of_decide_eq_false h1)
          · have : isSig c = false := h2
            rw [this] at h
            cases h
        rw [if_neg this] at hs
        exact k2 hs H4 (((e1.trans e2).trans e3).trans e4)
end
end K83
end
section
set_option maxRecDepth 100000
set_option maxHeartbeats 4000000
namespace K83
open PySem PySem.Spec PyProof.Rows L2
open Evl (Ex Ev EvT EvA EvL EvU EvO RV RU RC ev_var ev_c ev_op ev_un ev_if ev_andV ev_orV ev_notV et_test et_B et_and et_or et_not ea_nil ea_cons ev_cb q_asg q_asgL q_asgU q_if q_when s_asg s_ret s_if s_when s_drop q_drop rv_I0 rv_I rv_eq rv_ne rv_val el_sl eo_none eo_some tCut pss_cut q_cut)
/-! ### calls by their promise -/
section
variable {K : PySem.W.Frag} {σ : L2.St} {H H' : Hp} {te : TE} {ta : TA} {D : Ends} {tz : TS} {E : XK} {b : Bool} {sp : Sp} {vs : List V} {i : Nat}
theorem q_asgC (h : EvA ta σ H vs) (hs : ∀ H1, Ex H H1 → sp (vs ++ []) H1 (fun v H2 => tz D (σ.set i (some v)) H2) E) : tSeq (tAsg (tCall sp [] E ta) (gName i)) tz D σ H := h H (Ex.refl H) _ fun H1 e => hs H1 e
theorem s_asgC (h : EvA ta σ H vs) (hs : ∀ H1, Ex H H1 → sp (vs ++ []) H1 (fun v H2 => D.nx (σ.set i (some v)) H2) E) : tAsg (tCall sp [] E ta) (gName i) D σ H := h H (Ex.refl H) _ fun H1 e => hs H1 e
theorem q_dropC (h : EvA ta σ H vs) (hs : ∀ H1, Ex H H1 → sp (vs ++ []) H1 (fun _ H2 => tz D σ H2) E) : tSeq (tDrop (tCall sp [] E ta)) tz D σ H := h H (Ex.refl H) _ fun H1 e => hs H1 e
theorem s_retC (h : EvA ta σ H vs) (hs : ∀ H1, Ex H H1 → sp (vs ++ []) H1 (fun v H2 => D.rt v H2) E) : tRet (tCall sp [] E ta) D σ H := h H (Ex.refl H) _ fun H1 e => hs H1 e
end
/-! ### isinstance(x, str) -/
def rIsX : List V → Hp → VK → Prop := fun xs H Q => ∃ (x : V), xs = [x, .ty "str"] ∧ ((∃ z, x = .str z ∧ Q (.bl true) H) ∨ (∃ a ys, x = .ref a ∧ H a = some (.tup ys) ∧ Q (.bl false) H))
theorem call_isX {X : Cx} : CallR X (.builtin "isinstance") rIsX := by
  intro pins s σ H xs us Q I r h
  obtain ⟨x, rfl, h⟩ := h
  rcases h with ⟨z, rfl, q⟩ | ⟨a, ys, rfl, ha, q⟩
  · exact call_isi pins s σ H _ us Q I r ⟨_, _, _, _, true, rfl, .ty "str", .base (.str z), kit_ty (by decide +kernel), q⟩
  · exact call_isi pins s σ H _ us Q I r ⟨_, _, _, _, false, rfl, .ty "str", .base (.tup ha), kit_ty (by decide +kernel), q⟩
/-! ### the words one by one -/
theorem stepW_none {c : Nat} {cs : List Nat} (h : stepW (c :: cs) = none) : pw (c :: cs) = none := by
  rw [stepW] at h
  split at h
  · rename_i h1
    rw [pw_fig h1]
    split at h
    · cases h
    · rename_i h2
      rw [if_neg h2]
  · rename_i h1
    split at h
    · rename_i h2
      rw [pw_let h2]
      split at h
      · cases h
      · rename_i h3
        rw [if_neg h3]
    · rename_i h2
      split at h
      · cases h
      · rename_i h3
        exact pw_bad (by simpa using h1) (by simpa using h2) (by cases e : isSig c with | false => rfl | true => exact absurd (Or.inr e) h3) (fun e => h3 (Or.inl e))
theorem dropWhile_drop (p : Nat → Bool) (cs : List Nat) : cs.dropWhile p = cs.drop (cs.takeWhile p).length := by
  induction cs with
  | nil => rfl
  | cons c cs ih =>
    rw [List.dropWhile_cons, List.takeWhile_cons]
    split
    · rw [List.length_cons, List.drop_succ_cons, ih]
    · rfl
theorem run_split (p : Nat → Bool) (c : Nat) (cs : List Nat) : c :: cs = (c :: cs.takeWhile p) ++ cs.dropWhile p := by
  rw [List.cons_append, List.takeWhile_append_dropWhile]
theorem stepW_some {c : Nat} {cs w : List Nat} (h : stepW (c :: cs) = some w) : w ≠ [] ∧ ∃ r, c :: cs = w ++ r ∧ pw (c :: cs) = if w = [32] then pw r else (pw r).map (w :: ·) := by
  rw [stepW] at h
  split at h
  · rename_i h1
    split at h
    · rename_i h2
      cases h
      refine ⟨by simp, cs.dropWhile isFig, run_split _ _ _, ?_⟩
      rw [pw_fig h1, if_pos h2, if_neg]
      intro e
      injection e with e _
      exact fig_32 h1 e
    · cases h
  · rename_i h1
    split at h
    · rename_i h2
      split at h
      · rename_i h3
        cases h
        refine ⟨by simp, cs.dropWhile isLet, run_split _ _ _, ?_⟩
        rw [pw_let h2, if_pos h3, if_neg]
        intro e
        injection e with e _
        exact let_32 h2 e
      · cases h
    · rename_i h2
      split at h
      · rename_i h3
        cases h
        refine ⟨by simp, cs, rfl, ?_⟩
        by_cases e : c = 32
        · subst e
          rw [if_pos rfl, pw_blank]
        · rw [if_neg (fun q => e (by injection q)), pw_sig (by simpa using h1) (by simpa using h2) (by rcases h3 with h | h; exact absurd h e; exact h) e]
      · cases h
abbrev wV (w : List Nat) : V := .str (mkS w)
section
variable {P : Program} {w : World} {K : PySem.W.Frag} {mg : Str → Option Value} {base : Heap}
/-! ### words_of -/
abbrev N_words_of : List Str := ["text", "found", "at", "word"]
abbrev s_words_of : Stmt := top 23
theorem sc_words_of : FnScope N_words_of ["text"] (defScope s_words_of) := ⟨rfl, rfl, rfl, by decide +kernel, rfl, by decide +kernel, by decide +kernel⟩
def spWordsOf (K : PySem.W.Frag) : Sp := fun vs H Q E => ∃ cs : List Nat, vs = [.str (mkS cs)] ∧ cs.length ≤ 30000 ∧
  (∀ ws, progWords cs = some ws → ∀ p H', H p = none → Ex H H' → H' p = some (.lst (ws.map wV)) → Q (.ref p) H') ∧ (progWords cs = none → ∀ H', Ex H H' → E (.ref (cBad K)) none H')
theorem ok_words_of (T : Txt w K mg) (A : DefAt K mg "words_of" s_words_of) (D_need : DefOk P w K mg base (L2.CX P w) "need" 1 ["is_good"] (spNeed K)) (D_word_at : DefOk P w K mg base (L2.CX P w) "word_at" 2 ["text", "at"] (spWordAt K)) :
    DefOk P w K mg base (L2.CX P w) "words_of" 3 ["text"] (spWordsOf K) := by
  refine mk_def A sc_words_of (fun _ _ _ _ _ _ us hl => match us, hl with | [_], _ => rfl) (fun vs H Q E ⟨_, h, _⟩ => by rw [h]; rfl) (fun f cdv A outer s H vs Q E hr h => ?_)
  obtain ⟨cs, rfl, hl, k1, k2⟩ := h
  obtain ⟨_, c_MOST_WORDS⟩ := T.c_MOST_WORDS
  refine ⟨_, (pss_cons (ps_expr (pe_def D_need (hr.mono (by decide)) rfl (pass_on (takes_of rfl rfl rfl rfl)) (pa_cons (pe_callB call_isX (by rfl) T.f_isinstance (by decide +kernel) (pa_cons (pv 0) (pa_cons (pe_bltn (v := .ty "str") (by rfl) T.f_str (by decide +kernel) rfl) pa_nil))) pa_nil)))
      (pss_cons (ps_set (i := 1) sc_words_of.nd rfl (Or.inl rfl) (pe_lst pa_nil))
      (pss_cons (ps_set (i := 2) sc_words_of.nd rfl (Or.inl rfl) pe_int)
      (pss_cons (ps_while (passes_of rfl) (pt_cmpR op_lt (pv 2) (pe_callB call_len_str (by rfl) T.f_len PySem.boot_len (pa_cons (pv 0) pa_nil)) (nomark _)) (pss_cons (ps_set (i := 3) sc_words_of.nd rfl (Or.inl rfl) (pe_def D_word_at (hr.mono (by decide)) rfl (pass_on (takes_of rfl rfl rfl rfl)) (pa_cons (pv 0) (pa_cons (pv 2) pa_nil))))
      (pss_cons (ps_set (i := 2) sc_words_of.nd rfl (Or.inl rfl) (pe_op op_add (pv 2) (pe_callB call_len_str (by rfl) T.f_len PySem.boot_len (pa_cons (pv 3) pa_nil))))
      (pss_one (ps_if (pt_cmpR op_ne (pv 3) pe_str (nomark _)) (pss_one (ps_expr (pe_bm PySem.F.plainAttrs_list PySem.F.slot_list_append PySem.F.type_list_append mt_append (pv 1) (pa_cons (pv 3) pa_nil)))) pss_nil)))))
      (pss_cons (ps_expr (pe_def D_need (hr.mono (by decide)) rfl (pass_on (takes_of rfl rfl rfl rfl)) (pa_cons (pe_cmpR op_le (pe_callB call_len_seq (by rfl) T.f_len PySem.boot_len (pa_cons (pv 1) pa_nil)) (pe_gI c_MOST_WORDS) (nomark _)) pa_nil)))
      (pss_one (ps_ret (pv 1)))))))), ?_⟩
  have hz : (mkS cs).length ≤ 100000 := by rw [mkS_len]; omega
  refine q_need (b := true) (ea_cons (ev_cb (ea_cons (ev_var rfl) (ea_cons ev_c ea_nil)) fun H1 _ Q q => ⟨_, rfl, Or.inl ⟨_, rfl, q H1 (Ex.refl H1)⟩⟩) ea_nil) (fun _ H1 e1 => ?_) (fun h => nomatch h)
  refine q_asgL (Evl.el_lst ea_nil (by decide)) fun p H2 hp e2 h2 => ?_
  have hp0 : H p = none := ex_fresh e1 hp
  refine q_asg ev_c fun H3 e3 => ?_
  refine Evl.q_while (fun m σ' H' => Ex H H' ∧ ∃ pre rest acc x, cs = pre ++ rest ∧ rest.length = m ∧ H' p = some (.lst (acc.map wV)) ∧ pw cs = (pw rest).map (acc ++ ·) ∧ acc.length ≤ pre.length ∧
    σ' = [some (.str (mkS cs)), some (.ref p), some (.int (pre.length : Int)), x]) cs.length ⟨(e1.trans e2).trans e3, [], cs, [], none, rfl, rfl, e3 p _ h2, by simp, Nat.le_refl _, rfl⟩ ?_
  rintro m σ' H' ⟨e4, pre, rest, acc, x, hcs, hm, hacc, hpw, hal, rfl⟩
  have hlen : ((mkS cs).length : Int) = ((pre.length + rest.length : Nat) : Int) := by rw [mkS_len, hcs, List.length_append]
  have test : EvT (tTest (tOp (rI0 fun i j => .bl (decide (i < j))) (tVar 2) (tCB (fun xs H Q => ∃ z, xs = [.str z] ∧ z.length ≤ sizeLine ∧ Q (.int z.length) H) (tCons (tVar 0) tNil)))) [some (.str (mkS cs)), some (.ref p), some (.int (pre.length : Int)), x] H' (decide ((pre.length : Int) < ((mkS cs).length : Int))) :=
    et_test (ev_op (ev_var rfl) (ev_cb (ea_cons (ev_var rfl) ea_nil) (rc_len hz)) rv_I0)
  cases rest with
  | nil =>
    refine ⟨_, test, fun hb => ?_, fun hb H5 e5 => ?_⟩
    · rw [hlen] at hb
      simp at hb
    · have hw : pw cs = some acc := by
        rw [hpw]
        show (some []).map (acc ++ ·) = some acc
        simp
      refine q_need (ea_cons (ev_op (Evl.ev_len (ev_var rfl) (Evl.sq_of (e5 p _ hacc))) ev_c rv_I0) ea_nil) (fun hg H6 e6 => ?_) (fun hg H6 e6 => ?_)
      · have hg := of_decide_eq_true hg
        rw [List.length_map] at hg
        refine s_ret (ev_var rfl) fun H7 e7 => k1 acc ?_ p H7 hp0 (((e4.trans e5).trans e6).trans e7) (e7 p _ (e6 p _ (e5 p _ hacc)))
        unfold progWords
        rw [hw]
        show (if acc.length ≤ 200 then _ else _) = _
        rw [if_pos (by omega)]
      · have hg := of_decide_eq_false hg
        rw [List.length_map] at hg
        refine k2 ?_ H6 ((e4.trans e5).trans e6)
        unfold progWords
        rw [hw]
        show (if acc.length ≤ 200 then _ else _) = _
        rw [if_neg (by omega)]
  | cons c t =>
    refine ⟨_, test, fun hb H5 e5 => ?_, fun hb => ?_⟩
    · refine ⟨fun σ2 H2 => ∃ m', m' < m ∧ (Ex H H2 ∧ ∃ pre rest acc x, cs = pre ++ rest ∧ rest.length = m' ∧ H2 p = some (.lst (acc.map wV)) ∧ pw cs = (pw rest).map (acc ++ ·) ∧ acc.length ≤ pre.length ∧
        σ2 = [some (.str (mkS cs)), some (.ref p), some (.int (pre.length : Int)), x]), fun _ _ h => h, ?_⟩
      refine q_asgC (ea_cons (ev_var rfl) (ea_cons (ev_var rfl) ea_nil)) fun H6 e6 => ?_
      refine ⟨pre, c, t, by rw [hcs]; rfl, by rw [hcs, List.length_append, List.length_cons] at hl; omega, fun w hw H7 e7 => ?_, fun hw H7 e7 => ?_⟩
      · obtain ⟨hne, r, hr1, hr2⟩ := stepW_some hw
        have hwl : w.length + r.length = t.length + 1 := by
          have := congrArg List.length hr1
          rw [List.length_append, List.length_cons] at this
          omega
        have hw0 : 1 ≤ w.length := by
          cases w with
          | nil => exact absurd rfl hne
          | cons _ _ => simp
        have hcl : cs.length = pre.length + (t.length + 1) := by rw [hcs, List.length_append, List.length_cons]
        have hwz : (mkS w).length ≤ 100000 := by rw [mkS_len]; omega
        refine q_asg (ev_op (ev_var rfl) (ev_cb (ea_cons (ev_var rfl) ea_nil) (rc_len hwz)) rv_I0) fun H8 e8 => ?_
        have E8 : Ex H' H8 := ((e5.trans e6).trans e7).trans e8
        have en : decide (V.str (mkS w) = V.str " ") = decide (w = [32]) := str_dec _ _ _ l_blank
        have eat : (pre.length : Int) + ((mkS w).length : Int) = ((pre ++ w).length : Int) := by rw [mkS_len, List.length_append]; omega
        rw [eat]
        have hcs2 : cs = (pre ++ w) ++ r := by rw [hcs, hr1, List.append_assoc]
        refine s_when (et_test (ev_op (ev_var rfl) ev_c (rv_ne rfl))) (fun hg H9 e9 => ?_) (fun hg H9 e9 => ?_)
        · rw [en] at hg
          have hg : w ≠ [32] := by simpa using hg
          refine Evl.s_app (e9 p _ (E8 p _ hacc)) (ev_var rfl) (ev_var rfl) (by rw [List.length_map]; omega) fun H10 e10 => ?_
          refine ⟨r.length, by simp only [List.length_cons] at hm; omega, Ex.mut (((e4.trans E8).trans e9).trans e10) hp0, pre ++ w, r, acc ++ [w], _, hcs2, rfl, ?_, ?_, by simp; omega, rfl⟩
          · rw [upd_same, List.map_append]
            rfl
          · rw [hpw, hr2, if_neg hg, Option.map_map]
            congr 1
            funext z
            simp
        · rw [en] at hg
          have hg : w = [32] := by simpa using hg
          refine ⟨r.length, by simp only [List.length_cons] at hm; omega, ((e4.trans E8).trans e9), pre ++ w, r, acc, _, hcs2, rfl, e9 p _ (E8 p _ hacc), ?_, by simp; omega, rfl⟩
          rw [hpw, hr2, if_pos hg]
      · refine k2 ?_ H7 (((e4.trans e5).trans e6).trans e7)
        unfold progWords
        rw [hpw, stepW_none hw]
        rfl
    · rw [hlen] at hb
      have hb := of_decide_eq_false hb
      simp at hb
      omega
end
end K83
end
section
set_option maxRecDepth 100000
set_option maxHeartbeats 4000000
namespace K83
open PySem PySem.Spec PyProof.Rows L2
open Evl (Ex Ev EvT EvA EvL EvU EvO RV RU RC ev_var ev_c ev_op ev_un ev_if ev_andV ev_orV ev_notV et_test et_B et_and et_or et_not ea_nil ea_cons ev_cb q_asg q_asgL q_asgU q_if q_when s_asg s_ret s_if s_when s_drop q_drop rv_I0 rv_I rv_eq rv_ne rv_val el_sl eo_none eo_some tCut pss_cut q_cut)
/-! ### what is told, as data -/
def opS : Op → Str
  | .plus => "plus"
  | .less => "less"
  | .times => "times"
  | .over => "over"
def rtS : Rt → Str
  | .sqrt => "sqrt"
  | .cbrt => "cbrt"
def markS : Mark → Str
  | .bin o => opS o
  | .neg => "minus"
  | .opn none => "("
  | .opn (some m) => rtS m
def xpD : Xp → PyData
  | .num n => .tuple [.str "number", .int n]
  | .name w => .tuple [.str "name", .str w]
  | .root row k => .tuple [.str "root", .tuple (row.map .int), .int k]
  | .bin o a b => .tuple [.str (opS o), xpD a, xpD b]
  | .neg a => .tuple [.str "minus", xpD a]
  | .pow a k => .tuple [.str "power", xpD a, .int k]
  | .rt m a => .tuple [.str (rtS m), xpD a]
def insD : Ins → PyData
  | .leaf e => xpD e
  | .pow k => .tuple [.str "power", .int k]
  | .mk m => .tuple [.str (markS m)]
theorem Tps.ints {H : Hp} : ∀ (row : List Int), Tps H (row.map .int) (row.map .int)
  | [] => Tps.nil
  | i :: r => Tps.cons (Tp.ofInt i) (Tps.ints r)
/-! ### a reader -/
structure RdC where
  H0 : Hp
  a : Addr
  dx : Addr
  lw : Addr
  lt : Addr
  lq : Addr
  ws : List (List Nat)
  wd : Wds ws
  hw : H0 lw = some (.lst (ws.map wV))
  ha : H0 a = none
  ht : H0 lt = none
  hq : H0 lq = none
  ne : lt ≠ lq
def flds (c : RdC) (n : Nat) (s : RS) : List (Str × V) :=
  [("words", .ref c.lw), ("at", .int n), ("told", .ref c.lt), ("waiting", .ref c.lq), ("deep", .int s.deep), ("minuses", .int s.minuses), ("is_base", .bl s.isBase)]
def qV (w : List Mark) : List V := w.reverse.map fun m => .str (markS m)
structure RAt (K : PySem.W.Frag) (c : RdC) (n : Nat) (xs : List V) (s : RS) (H : Hp) : Prop where
  ex : Ex c.H0 H
  at_ : H c.a = some (.ins (He.ga K "Reader") c.dx (flds c n s))
  told : H c.lt = some (.lst xs)
  tp : Tps H (s.told.map insD) xs
  wait : H c.lq = some (.lst (qV s.waiting))
  ts : s.ts = (c.ws.drop n).map tokOf
  le : n ≤ c.ws.length
def Fails (K : PySem.W.Frag) (c : RdC) (E : XK) : Prop := ∀ H', Ex c.H0 H' → E (.ref (cBad K)) none H'
section
variable {K : PySem.W.Frag} {c : RdC} {n n' : Nat} {xs : List V} {s s' : RS} {H H' : Hp} {E : XK}
theorem RAt.mono (r : RAt K c n xs s H) (e : Ex H H') : RAt K c n xs s H' := ⟨r.ex.trans e, e _ _ r.at_, e _ _ r.told, Tps.mono (Ex.tk e) _ _ r.tp, e _ _ r.wait, r.ts, r.le⟩
theorem RAt.words (r : RAt K c n xs s H) : H c.lw = some (.lst (c.ws.map wV)) := r.ex _ _ c.hw
theorem RAt.a_lt (r : RAt K c n xs s H) : c.lt ≠ c.a := ne_of r.told r.at_ (fun z => nomatch z)
theorem RAt.a_lq (r : RAt K c n xs s H) : c.lq ≠ c.a := ne_of r.wait r.at_ (fun z => nomatch z)
/-- a field is set -/
theorem RAt.fld (r : RAt K c n xs s H) (h1 : s'.told = s.told) (h2 : s'.waiting = s.waiting) (h3 : s'.ts = (c.ws.drop n').map tokOf) (h4 : n' ≤ c.ws.length) : RAt K c n' xs s' (upd H c.a (.ins (He.ga K "Reader") c.dx (flds c n' s'))) where
  ex := Ex.mut r.ex c.ha
  at_ := upd_same
  told := by rw [upd_ne r.a_lt]; exact r.told
  tp := by rw [h1]; exact Tps.mono ((Tk.refl H).ins r.at_) _ _ r.tp
  wait := by rw [upd_ne r.a_lq, h2]; exact r.wait
  ts := h3
  le := h4
theorem RAt.push {i : Ins} {v : V} (r : RAt K c n xs s H) (h : Tp H (insD i) v) : RAt K c n (xs ++ [v]) { s with told := s.told ++ [i] } (upd H c.lt (.lst (xs ++ [v]))) where
  ex := Ex.mut r.ex c.ht
  at_ := by rw [upd_ne r.a_lt.symm]; exact r.at_
  told := upd_same
  tp := by
    rw [List.map_append]
    exact Tps.mono ((Tk.refl H).lst r.told) _ _ (Tps.append r.tp (Tps.one h))
  wait := by rw [upd_ne c.ne.symm]; exact r.wait
  ts := r.ts
  le := r.le
theorem RAt.wset {w : List Mark} (r : RAt K c n xs s H) : RAt K c n xs { s with waiting := w } (upd H c.lq (.lst (qV w))) where
  ex := Ex.mut r.ex c.hq
  at_ := by rw [upd_ne r.a_lq.symm]; exact r.at_
  told := by rw [upd_ne c.ne]; exact r.told
  tp := Tps.mono ((Tk.refl H).lst r.wait) _ _ r.tp
  wait := upd_same
  ts := r.ts
  le := r.le
theorem qV_cons (m : Mark) (w : List Mark) : qV (m :: w) = qV w ++ [.str (markS m)] := by simp [qV]
theorem qV_len (w : List Mark) : (qV w).length = w.length := by simp [qV]
theorem RAt.tlen (r : RAt K c n xs s H) : xs.length = s.told.length := by rw [Tps.len r.tp, List.length_map]
/-- the word ahead -/
def nextW (c : RdC) (n : Nat) : List Nat := (c.ws[n]?).getD []
theorem RAt.nil (r : RAt K c n xs s H) (h : s.ts = []) : n = c.ws.length ∧ nextW c n = [] := by
  have := r.ts
  rw [h] at this
  have : (c.ws.drop n) = [] := by simpa using this.symm
  have : c.ws.length ≤ n := by simpa using this
  have e := r.le
  have e2 : n = c.ws.length := by omega
  refine ⟨e2, ?_⟩
  unfold nextW
  rw [e2]
  simp
theorem RAt.cons {t : Tok} {rs : List Tok} (r : RAt K c n xs s H) (h : s.ts = t :: rs) : n < c.ws.length ∧ WV (nextW c n) t ∧ rs = (c.ws.drop (n + 1)).map tokOf ∧ c.ws[n]? = some (nextW c n) := by
  have e := r.ts
  rw [h] at e
  have hn : n < c.ws.length := by
    rcases Nat.lt_or_ge n c.ws.length with q | q
    · exact q
    · rw [List.drop_eq_nil_iff.mpr q] at e
      cases e
  rw [List.drop_eq_getElem_cons hn, List.map_cons] at e
  injection e with e1 e2
  have e3 : c.ws[n]? = some c.ws[n] := List.getElem?_eq_getElem hn
  have e4 : nextW c n = c.ws[n] := by unfold nextW; rw [e3]; rfl
  refine ⟨hn, ?_, e2, by rw [e4]; exact e3⟩
  rw [e4, e1]
  exact c.wd.get e3
theorem RAt.fail (r : RAt K c n xs s H) (f : Fails K c E) : E (.ref (cBad K)) none H := f H r.ex
theorem nextW_len (c : RdC) (n : Nat) : (nextW c n).length ≤ 40000 := by
  unfold nextW
  cases e : c.ws[n]? with
  | none => simp
  | some w =>
    have := (c.wd.get e).small
    show w.length ≤ _
    omega
end
/-! ### fields -/
section
variable {K : PySem.W.Frag} {σ : L2.St} {H H' : Hp} {ta tv : TE} {t : TA} {D : Ends} {tz : TS} {E : XK} {sp : Sp} {vs : List V} {i : Nat} {a C dx : Addr} {fs : List (Str × V)} {f m : Str} {v : V} {Q : VK}
theorem ev_fld (h : Ev ta σ H (.ref a)) (hi : H a = some (.ins C dx fs)) (hc : Cls K C) (hn : NoAttr K C f) (hl : fs.lookup f = some v) : Ev (tFld K ta f) σ H v := fun H1 e Q q =>
  h H1 e _ fun H2 e2 => ⟨a, C, dx, fs, v, rfl, e2 _ _ (e _ _ hi), hc, hn, hl, q H2 e2⟩
theorem st_fld (hv : Ev tv σ H v) (h : Ev ta σ H (.ref a)) (hi : H a = some (.ins C dx fs)) (hc : Cls K C) (hn : NoAttr K C f) (hz : fs.length < 1000) (k : ∀ H1, Ex H H1 → D.nx σ (upd H1 a (.ins C dx (putF f v fs)))) : sFld K ta tv f D σ H :=
  hv H (Ex.refl H) _ fun H1 e1 => h H1 e1 _ fun H2 e2 => ⟨a, C, dx, fs, rfl, e2 _ _ (e1 _ _ hi), hc, hn, hz, k H2 (e1.trans e2)⟩
theorem meth_run (h : Ev ta σ H (.ref a)) (hi : H a = some (.ins C dx fs)) (hl : fs.lookup m = none) (hv : EvA t σ H vs) (hs : ∀ H1, Ex H H1 → sp (.ref a :: (vs ++ [])) H1 Q E) : tMeth C m sp [] E ta t σ H Q :=
  h H (Ex.refl H) _ fun H1 e1 => ⟨a, dx, fs, rfl, e1 _ _ hi, hl, hv H1 e1 _ fun H2 e2 => hs H2 (e1.trans e2)⟩
theorem q_fld (hv : Ev tv σ H v) (h : Ev ta σ H (.ref a)) (hi : H a = some (.ins C dx fs)) (hc : Cls K C) (hn : NoAttr K C f) (hz : fs.length < 1000) (k : ∀ H1, Ex H H1 → tz D σ (upd H1 a (.ins C dx (putF f v fs)))) : tSeq (sFld K ta tv f) tz D σ H :=
  st_fld (D := { D with nx := tz D }) hv h hi hc hn hz k
theorem q_dropM (h : Ev ta σ H (.ref a)) (hi : H a = some (.ins C dx fs)) (hl : fs.lookup m = none) (hv : EvA t σ H vs) (hs : ∀ H1, Ex H H1 → sp (.ref a :: (vs ++ [])) H1 (fun _ H2 => tz D σ H2) E) : tSeq (tDrop (tMeth C m sp [] E ta t)) tz D σ H :=
  meth_run h hi hl hv hs
theorem st_dropM (h : Ev ta σ H (.ref a)) (hi : H a = some (.ins C dx fs)) (hl : fs.lookup m = none) (hv : EvA t σ H vs) (hs : ∀ H1, Ex H H1 → sp (.ref a :: (vs ++ [])) H1 (fun _ H2 => D.nx σ H2) E) : tDrop (tMeth C m sp [] E ta t) D σ H :=
  meth_run h hi hl hv hs
theorem q_asgM (h : Ev ta σ H (.ref a)) (hi : H a = some (.ins C dx fs)) (hl : fs.lookup m = none) (hv : EvA t σ H vs) (hs : ∀ H1, Ex H H1 → sp (.ref a :: (vs ++ [])) H1 (fun v H2 => tz D (σ.set i (some v)) H2) E) : tSeq (tAsg (tMeth C m sp [] E ta t) (gName i)) tz D σ H :=
  meth_run h hi hl hv hs
theorem s_retM (h : Ev ta σ H (.ref a)) (hi : H a = some (.ins C dx fs)) (hl : fs.lookup m = none) (hv : EvA t σ H vs) (hs : ∀ H1, Ex H H1 → sp (.ref a :: (vs ++ [])) H1 (fun v H2 => D.rt v H2) E) : tRet (tMeth C m sp [] E ta t) D σ H :=
  meth_run h hi hl hv hs
end
section
variable {c : RdC} {n : Nat} {s : RS}
theorem fl_len : (flds c n s).length < 1000 := by show 7 < 1000; decide
theorem fl_words : (flds c n s).lookup ("words" : Str) = some (.ref c.lw) := rfl
theorem fl_at : (flds c n s).lookup ("at" : Str) = some (.int n) := rfl
theorem fl_told : (flds c n s).lookup ("told" : Str) = some (.ref c.lt) := rfl
theorem fl_waiting : (flds c n s).lookup ("waiting" : Str) = some (.ref c.lq) := rfl
theorem fl_deep : (flds c n s).lookup ("deep" : Str) = some (.int s.deep) := rfl
theorem fl_minuses : (flds c n s).lookup ("minuses" : Str) = some (.int s.minuses) := rfl
theorem fl_is_base : (flds c n s).lookup ("is_base" : Str) = some (.bl s.isBase) := rfl
end
section
variable {K : PySem.W.Frag} {w : World} {mg : Str → Option Value} {c : RdC} {n : Nat} {xs : List V} {s : RS} {σ : L2.St} {H : Hp} {ta : TE}
theorem ev_words (T : Txt w K mg) (h : Ev ta σ H (.ref c.a)) (r : RAt K c n xs s H) : Ev (tFld K ta "words") σ H (.ref c.lw) := ev_fld h r.at_ T.cl T.na_words fl_words
theorem ev_at (T : Txt w K mg) (h : Ev ta σ H (.ref c.a)) (r : RAt K c n xs s H) : Ev (tFld K ta "at") σ H (.int n) := ev_fld h r.at_ T.cl T.na_at fl_at
theorem ev_told (T : Txt w K mg) (h : Ev ta σ H (.ref c.a)) (r : RAt K c n xs s H) : Ev (tFld K ta "told") σ H (.ref c.lt) := ev_fld h r.at_ T.cl T.na_told fl_told
theorem ev_waiting (T : Txt w K mg) (h : Ev ta σ H (.ref c.a)) (r : RAt K c n xs s H) : Ev (tFld K ta "waiting") σ H (.ref c.lq) := ev_fld h r.at_ T.cl T.na_waiting fl_waiting
theorem ev_deep (T : Txt w K mg) (h : Ev ta σ H (.ref c.a)) (r : RAt K c n xs s H) : Ev (tFld K ta "deep") σ H (.int s.deep) := ev_fld h r.at_ T.cl T.na_deep fl_deep
theorem ev_minuses (T : Txt w K mg) (h : Ev ta σ H (.ref c.a)) (r : RAt K c n xs s H) : Ev (tFld K ta "minuses") σ H (.int s.minuses) := ev_fld h r.at_ T.cl T.na_minuses fl_minuses
theorem ev_is_base (T : Txt w K mg) (h : Ev ta σ H (.ref c.a)) (r : RAt K c n xs s H) : Ev (tFld K ta "is_base") σ H (.bl s.isBase) := ev_fld h r.at_ T.cl T.na_is_base fl_is_base
end
end K83
end
section
set_option maxRecDepth 100000
set_option maxHeartbeats 4000000
namespace K83
open PySem PySem.Spec PyProof.Rows L2
open Evl (Ex Ev EvT EvA EvL EvU EvO RV RU RC ev_var ev_c ev_op ev_un ev_if ev_andV ev_orV ev_notV et_test et_B et_and et_or et_not ea_nil ea_cons ev_cb q_asg q_asgL q_asgU q_if q_when s_asg s_ret s_if s_when s_drop q_drop rv_I0 rv_I rv_eq rv_ne rv_val el_sl eo_none eo_some tCut pss_cut q_cut)
theorem l_minus : ("-" : Str) = mkS [45] := by decide +kernel
theorem l_plus : ("+" : Str) = mkS [43] := by decide +kernel
theorem l_times : ("*" : Str) = mkS [42] := by decide +kernel
theorem l_over : ("/" : Str) = mkS [47] := by decide +kernel
theorem l_hat : ("^" : Str) = mkS [94] := by decide +kernel
theorem l_lp : ("(" : Str) = mkS [40] := by decide +kernel
theorem l_rp : (")" : Str) = mkS [41] := by decide +kernel
theorem l_lb : ("[" : Str) = mkS [91] := by decide +kernel
theorem l_rb : ("]" : Str) = mkS [93] := by decide +kernel
theorem l_comma : ("," : Str) = mkS [44] := by decide +kernel
theorem l_empty : ("" : Str) = mkS [] := by decide +kernel
theorem wV_dec (a : List Nat) {z : Str} {b : List Nat} (h : z = mkS b) : decide (wV a = V.str z) = decide (a = b) := str_dec a z b h
abbrev cRd (K : PySem.W.Frag) : Addr := He.ga K "Reader"
def spNext (K : PySem.W.Frag) : Sp := fun vs H Q _ => ∃ c n xs s, vs = [.ref c.a] ∧ RAt K c n xs s H ∧ ∀ H', Ex H H' → Q (wV (nextW c n)) H'
def spTake (K : PySem.W.Frag) : Sp := fun vs H Q E => ∃ c n xs s w t, vs = [.ref c.a, wV w] ∧ WV w t ∧ (∀ k, t ≠ .num k) ∧ RAt K c n xs s H ∧ ((¬ ∃ r, s.ts = t :: r) → Fails K c E) ∧ ∀ r, s.ts = t :: r → ∀ H', RAt K c (n + 1) xs { s with ts := r } H' → Q .non H'
def mostV : Option Nat → V
  | none => .non
  | some m => .int m
def spNumber (K : PySem.W.Frag) : Sp := fun vs H Q E => ∃ c n xs s most, vs = [.ref c.a, mostV most] ∧ RAt K c n xs s H ∧ ((¬ ∃ k r, s.ts = .num k :: r ∧ ∀ m, most = some m → k ≤ m) → Fails K c E) ∧
  ∀ k r, s.ts = .num k :: r → (∀ m, most = some m → k ≤ m) → ∀ H', RAt K c (n + 1) xs { s with ts := r } H' → Q (.int k) H'
def spMinusN (K : PySem.W.Frag) : Sp := fun vs H Q E => ∃ c n xs s most, vs = [.ref c.a, mostV most] ∧ RAt K c n xs s H ∧ ((¬ ∃ k r, numAt s.ts = some (k, r) ∧ ∀ m, most = some m → k.natAbs ≤ m) → Fails K c E) ∧
  ∀ k r, numAt s.ts = some (k, r) → (∀ m, most = some m → k.natAbs ≤ m) → ∀ n' H', RAt K c n' xs { s with ts := r } H' → Q (.int k) H'
def spOpened (K : PySem.W.Frag) : Sp := fun vs H Q E => ∃ c n xs s m, vs = [.ref c.a, .str (markS (.opn m))] ∧ RAt K c n xs s H ∧ ((¬ ∃ r, s.ts = .lp :: r ∧ s.deep + 1 ≤ 20) → Fails K c E) ∧ s.waiting.length ≤ 1000 ∧
  ∀ r, s.ts = .lp :: r → s.deep + 1 ≤ 20 → ∀ H', RAt K c (n + 1) xs { s with ts := r, deep := s.deep + 1, waiting := .opn m :: s.waiting } H' → Q .non H'
def spMinus (K : PySem.W.Frag) : Sp := fun vs H Q E => ∃ c n xs s, vs = [.ref c.a] ∧ RAt K c n xs s H ∧ ((¬ s.minuses + 1 ≤ 20) → Fails K c E) ∧ s.waiting.length ≤ 1000 ∧
  (s.minuses + 1 ≤ 20 → ∀ H', RAt K c n xs { s with minuses := s.minuses + 1, waiting := .neg :: s.waiting } H' → Q .non H')
section
variable {K : PySem.W.Frag} {c : RdC} {n : Nat} {xs : List V} {s : RS} {σ : L2.St} {H H' : Hp} {ta tb : TE} {E : XK} {w : List Nat} {t : Tok} {z : Str}
theorem RAt.next_is (r : RAt K c n xs s H) (h : z = mkS w) (g : WV w t) (hn : ∀ k, t ≠ .num k) : decide (wV (nextW c n) = V.str z) = decide (s.ts.head? = some t) := by
  rw [wV_dec _ h]
  cases e : s.ts with
  | nil =>
    rw [(r.nil e).2]
    rw [decide_eq_false (fun q => g.ne q.symm), decide_eq_false (by simp)]
  | cons t' rs =>
    obtain ⟨_, h2, _⟩ := r.cons e
    rw [h2.is g hn]
    exact decide_eq_decide.mpr ⟨fun q => by rw [q]; rfl, fun q => by injection q⟩
theorem RAt.isNum (r : RAt K c n xs s H) : isNumberL (nextW c n) = (match s.ts with | .num _ :: _ => true | _ => false) := by
  cases e : s.ts with
  | nil =>
    rw [(r.nil e).2]
    rfl
  | cons t rs =>
    obtain ⟨_, h2, _⟩ := r.cons e
    rw [h2.isNum]
    cases t <;> rfl
theorem ev_next (h : Ev ta σ H (.ref c.a)) (r : RAt K c n xs s H) : Ev (tMeth (cRd K) "next_word" (spNext K) [] E ta tNil) σ H (wV (nextW c n)) := fun H1 e Q q =>
  meth_run (h.mono e) (e _ _ r.at_) rfl ea_nil fun H2 e2 => ⟨c, n, xs, s, rfl, (r.mono e).mono e2, fun H' e' => q H' (e2.trans e')⟩
theorem rv_isN {x : V} : RV (fun x y H Q => y = .non ∧ Q (.bl (decide (x = .non))) H) x .non H (.bl (decide (x = .non))) := fun H1 _ _ q => ⟨rfl, q H1 (Ex.refl H1)⟩
theorem rc_int {k : Nat} (h : WV w (.num k)) : RC (fun xs H Q => ∃ a n, xs = [.str a] ∧ PySem.intText? a = some n ∧ a.length ≤ 640 ∧ Q (.int n) H) [wV w] H (.int (k : Int)) := fun H1 _ _ q =>
  ⟨mkS w, k, rfl, h.int, by rw [mkS_len]; have := h.small; omega, q H1 (Ex.refl H1)⟩
end
section
variable {P : Program} {w : World} {K : PySem.W.Frag} {mg : Str → Option Value} {base : Heap}
abbrev N_R_next_word : List Str := ["self"]
abbrev s_R_next_word : Stmt := inClass (top 38) 1
theorem sc_R_next_word : FnScope N_R_next_word ["self"] (defScope s_R_next_word) := ⟨rfl, rfl, rfl, by decide +kernel, rfl, by decide +kernel, by decide +kernel⟩
theorem ok_next_word (T : Txt w K mg) (A : MetAt K "next_word" "Reader.next_word" s_R_next_word) : MetOk P w K mg base CX0 (cRd K) "next_word" 1 ["self"] (spNext K) := by
  refine mk_met0 A sc_R_next_word (fun _ _ _ _ _ _ us hl => match us, hl with | [_], _ => rfl) (fun vs H Q E ⟨_, _, _, _, h, _⟩ => by rw [h]; rfl) (fun f cdv A outer s H vs Q E hr h => ?_)
  obtain ⟨c, n, xs, s, rfl, r, k⟩ := h
  refine ⟨_, (pss_one (ps_ret (pe_ifExp (pt_cmpR op_lt (pe_fld (pv 0) rfl) (pe_callB call_len_seq (by rfl) T.f_len PySem.boot_len (pa_cons (pe_fld (pv 0) rfl) pa_nil)) (nomark _)) (pe_ix ix_list (pe_fld (pv 0) rfl) (pe_fld (pv 0) rfl) (fun _ _ => rfl)) pe_str))), ?_⟩
  refine s_ret (ev_if (et_test (ev_op (ev_at T (ev_var rfl) r) (Evl.ev_len (ev_words T (ev_var rfl) r) (Evl.sq_of r.words)) rv_I0)) (fun hb => ev_op (ev_words T (ev_var rfl) r) (ev_at T (ev_var rfl) r) (Evl.rv_ixL (Evl.sq_of r.words) ?_)) (fun hb => ev_is' ev_c ?_)) k
  · have hb := of_decide_eq_true hb
    rw [List.length_map] at hb
    have hn : n < c.ws.length := by omega
    refine atI_nat ?_
    rw [List.getElem?_map, List.getElem?_eq_getElem hn]
    show some (wV _) = some (wV _)
    unfold nextW
    rw [List.getElem?_eq_getElem hn]
    rfl
  · have hb := of_decide_eq_false hb
    rw [List.length_map] at hb
    have : c.ws[n]? = none := List.getElem?_eq_none_iff.mpr (by omega)
    unfold nextW
    rw [this, l_empty]
    rfl
abbrev N_R_take : List Str := ["self", "word"]
abbrev s_R_take : Stmt := inClass (top 38) 2
theorem sc_R_take : FnScope N_R_take ["self", "word"] (defScope s_R_take) := ⟨rfl, rfl, rfl, by decide +kernel, rfl, by decide +kernel, by decide +kernel⟩
theorem ok_take (T : Txt w K mg) (A : MetAt K "take" "Reader.take" s_R_take) (D_need : DefOk P w K mg base (L2.CX P w) "need" 1 ["is_good"] (spNeed K)) (M_next_word : MetOk P w K mg base CX0 (cRd K) "next_word" 1 ["self"] (spNext K)) :
    MetOk P w K mg base (L2.CX P w) (cRd K) "take" 2 ["self", "word"] (spTake K) := by
  refine mk_met A sc_R_take (fun _ _ _ _ _ _ us hl => match us, hl with | [_, _], _ => rfl) (fun vs H Q E ⟨_, _, _, _, _, _, h, _⟩ => by rw [h]; rfl) (fun f cdv A outer s H vs Q E hr h => ?_)
  obtain ⟨c, n, xs, s, v, t, rfl, g, hn, r, fl, k⟩ := h
  refine ⟨_, (pss_cons (ps_expr (pe_def D_need (hr.mono (by decide)) rfl (pass_on (takes_of rfl rfl rfl rfl)) (pa_cons (pe_cmpR op_eq (pe_met0 M_next_word (pv 0) T.cl (hr.mono (by decide)) pass0) (pv 1) (nomark _)) pa_nil)))
      (pss_one (ps_fld (pv 0) (pe_op op_add (pe_fld (pv 0) rfl) pe_int) rfl))), ?_⟩
  refine q_need (b := decide (s.ts.head? = some t)) (ea_cons (ev_is' (ev_op (ev_next (ev_var rfl) r) (ev_var rfl) (rv_eq rfl)) (by rw [r.next_is rfl g hn])) ea_nil) (fun hb H1 e1 => ?_) (fun hb H1 e1 => (r.mono e1).fail (fl fun ⟨rs, e⟩ => absurd (by rw [e]; rfl) (of_decide_eq_false hb)))
  have hb := of_decide_eq_true hb
  cases e : s.ts with
  | nil => rw [e] at hb; cases hb
  | cons t' rs =>
    rw [e] at hb
    injection hb with hb
    subst hb
    have r1 := r.mono e1
    refine st_fld (ev_op (ev_at T (ev_var rfl) r1) ev_c rv_I0) (ev_var rfl) r1.at_ T.cl T.na_at fl_len fun H2 e2 => ?_
    have r2 := r1.mono e2
    obtain ⟨q1, q2, q3, q4⟩ := r2.cons e
    exact k rs e _ (r2.fld (s' := { s with ts := rs }) rfl rfl q3 (by omega))
abbrev N_R_number : List Str := ["self", "most", "word"]
abbrev s_R_number : Stmt := inClass (top 38) 3
theorem sc_R_number : FnScope N_R_number ["self", "most"] (defScope s_R_number) := ⟨rfl, rfl, rfl, by decide +kernel, rfl, by decide +kernel, by decide +kernel⟩
theorem ok_number (T : Txt w K mg) (A : MetAt K "number" "Reader.number" s_R_number) (D_need : DefOk P w K mg base (L2.CX P w) "need" 1 ["is_good"] (spNeed K)) (D_is_number : DefOk P w K mg base CX0 "is_number" 1 ["word"] (spB isNumberL))
    (M_next_word : MetOk P w K mg base CX0 (cRd K) "next_word" 1 ["self"] (spNext K)) : MetOk P w K mg base (L2.CX P w) (cRd K) "number" 2 ["self", "most"] (spNumber K) := by
  refine mk_met A sc_R_number (fun _ _ _ _ _ _ us hl => match us, hl with | [_, _], _ => rfl) (fun vs H Q E ⟨_, _, _, _, _, h, _⟩ => by rw [h]; rfl) (fun f cdv A outer s H vs Q E hr h => ?_)
  obtain ⟨c, n, xs, s, most, rfl, r, fl, k⟩ := h
  refine ⟨_, (pss_cons (ps_set (i := 2) sc_R_number.nd rfl (Or.inl rfl) (pe_met0 M_next_word (pv 0) T.cl (hr.mono (by decide)) pass0))
      (pss_cons (ps_expr (pe_def D_need (hr.mono (by decide)) rfl (pass_on (takes_of rfl rfl rfl rfl)) (pa_cons (pe_and (pe_def D_is_number (hr.mono (by decide)) rfl pass0 (pa_cons (pv 2) pa_nil)) (pe_one (pe_or (pe_cmpR op_isN (pv 1) pe_non (nomark _)) (pe_one (pe_cmpR op_le (pe_callTy call_int_str (by rfl) T.f_int (by decide +kernel) (pa_cons (pv 2) pa_nil)) (pv 1) (nomark _)))))) pa_nil)))
      (pss_cons (ps_fld (pv 0) (pe_op op_add (pe_fld (pv 0) rfl) pe_int) rfl)
      (pss_one (ps_ret (pe_callTy call_int_str (by rfl) T.f_int (by decide +kernel) (pa_cons (pv 2) pa_nil))))))), ?_⟩
  refine q_asg (ev_next (ev_var rfl) r) fun H1 e1 => ?_
  have r1 := r.mono e1
  by_cases hq : ∃ i rs, s.ts = .num i :: rs
  · obtain ⟨i, rs, e⟩ := hq
    obtain ⟨q1, q2, q3, q4⟩ := r1.cons e
    have hy : isNumberL (nextW c n) = true := by rw [r1.isNum, e]
    have fin : ∀ H2, Ex H1 H2 → (∀ m, most = some m → i ≤ m) → (tSeq (sFld K (tVar 0) (tOp (rI0 fun i j => .int (i + j)) (tFld K (tVar 0) "at") (tC (.int 1))) "at") (tRet (tCB (fun xs H Q => ∃ a n, xs = [.str a] ∧ PySem.intText? a = some n ∧ a.length ≤ 640 ∧ Q (.int n) H) (tCons (tVar 2) tNil))) { nx := fun _ H' => Q .non H', rt := Q }
        [some (.ref c.a), some (mostV most), some (wV (nextW c n))] H2) := by
      intro H2 e2 hm
      have r2 := r1.mono e2
      refine q_fld (ev_op (ev_at T (ev_var rfl) r2) ev_c rv_I0) (ev_var rfl) r2.at_ T.cl T.na_at fl_len fun H3 e3 => ?_
      have r3 := (r2.mono e3).fld (s' := { s with ts := rs }) (n' := n + 1) rfl rfl q3 (by omega)
      exact s_ret (ev_cb (ea_cons (ev_var rfl) ea_nil) (rc_int q2)) fun H4 e4 => k i rs e hm H4 (r3.mono e4)
    cases most with
    | none =>
      refine q_need (b := true) (ea_cons (ev_is' (ev_andV (ev_B (ev_var rfl) (nextW_len c n)) fun _ => ev_orV (b := true) (ev_op (ev_var rfl) ev_c rv_isN) (fun h => by cases h)) (by rw [hy]; rfl)) ea_nil) (fun hb H2 e2 => fin H2 e2 (fun m z => by cases z)) (fun h => by cases h)
    | some m =>
      refine q_need (b := decide (i ≤ m)) (ea_cons (ev_is' (ev_andV (ev_B (ev_var rfl) (nextW_len c n)) fun _ => ev_orV (ev_op (ev_var rfl) ev_c rv_isN) (fun h => ev_op (ev_cb (ea_cons (ev_var rfl) ea_nil) (rc_int q2)) (ev_var rfl) rv_I0)) ?_) ea_nil) (fun hb H2 e2 => fin H2 e2 (fun m' z => by injection z with z; rw [← z]; exact of_decide_eq_true hb)) (fun h H2 e2 => (r1.mono e2).fail (fl fun ⟨k', r', e', hm'⟩ => by
        rw [e] at e'
        injection e' with e1 _
        injection e1 with e1
        exact absurd (e1 ▸ hm' m rfl) (of_decide_eq_false h)))
      rw [hy]
      show V.bl (true && (false || decide ((i : Int) ≤ (m : Int)))) = _
      rw [Bool.true_and, Bool.false_or]
      congr 1
      exact decide_eq_decide.mpr (by omega)
  · have hy : isNumberL (nextW c n) = false := by
      rw [r1.isNum]
      split
      · rename_i i rs e
        exact absurd ⟨i, rs, e⟩ hq
      · rfl
    exact q_need (b := false) (ea_cons (ev_is' (ev_andV (b := false) (ev_B (ev_var rfl) (nextW_len c n)) fun h => by rw [hy] at h; cases h) (by rw [hy]; rfl)) ea_nil) (fun h => by cases h) (fun _ H2 e2 => (r1.mono e2).fail (fl fun ⟨k', r', e', _⟩ => hq ⟨k', r', e'⟩))
abbrev N_R_with_minus : List Str := ["self", "most"]
abbrev s_R_with_minus : Stmt := inClass (top 38) 4
theorem sc_R_with_minus : FnScope N_R_with_minus ["self", "most"] (defScope s_R_with_minus) := ⟨rfl, rfl, rfl, by decide +kernel, rfl, by decide +kernel, by decide +kernel⟩
theorem numAt_no {ts : List Tok} (h : ts.head? ≠ some (.op .less)) : ∀ k r, numAt ts = some (k, r) → ∃ i, k = (i : Nat) ∧ ts = .num i :: r := by
  intro k r e
  unfold numAt at e
  split at e
  · exact absurd rfl h
  · cases e
    exact ⟨_, rfl, rfl⟩
  · cases e
theorem ok_with_minus (T : Txt w K mg) (A : MetAt K "with_minus" "Reader.with_minus" s_R_with_minus) (M_next_word : MetOk P w K mg base CX0 (cRd K) "next_word" 1 ["self"] (spNext K)) (M_take : MetOk P w K mg base (L2.CX P w) (cRd K) "take" 2 ["self", "word"] (spTake K))
    (M_number : MetOk P w K mg base (L2.CX P w) (cRd K) "number" 2 ["self", "most"] (spNumber K)) : MetOk P w K mg base (L2.CX P w) (cRd K) "with_minus" 3 ["self", "most"] (spMinusN K) := by
  refine mk_met A sc_R_with_minus (fun _ _ _ _ _ _ us hl => match us, hl with | [_, _], _ => rfl) (fun vs H Q E ⟨_, _, _, _, _, h, _⟩ => by rw [h]; rfl) (fun f cdv A outer s H vs Q E hr h => ?_)
  obtain ⟨c, n, xs, s, most, rfl, r, fl, k⟩ := h
  refine ⟨_, (pss_cons (ps_if (pt_cmpR op_ne (pe_met0 M_next_word (pv 0) T.cl (hr.mono (by decide)) pass0) pe_str (nomark _)) (pss_one (ps_ret (pe_met M_number (pv 0) T.cl (hr.mono (by decide)) (pass_on (takes_of rfl rfl rfl rfl)) (pa_cons (pv 1) pa_nil)))) pss_nil)
      (pss_cons (ps_expr (pe_met M_take (pv 0) T.cl (hr.mono (by decide)) (pass_on (takes_of rfl rfl rfl rfl)) (pa_cons pe_str pa_nil)))
      (pss_one (ps_ret (pe_op op_sub pe_int (pe_met M_number (pv 0) T.cl (hr.mono (by decide)) (pass_on (takes_of rfl rfl rfl rfl)) (pa_cons (pv 1) pa_nil))))))), ?_⟩
  refine q_when (b := !decide (s.ts.head? = some (.op .less))) (Evl.et_is (et_test (ev_op (ev_next (ev_var rfl) r) ev_c (rv_ne rfl))) (by rw [r.next_is l_minus .less (fun k h => nomatch h)])) (fun hb H1 e1 => ?_) (fun hb H1 e1 => ?_)
  · have r1 := r.mono e1
    refine s_retM (ev_var rfl) r1.at_ rfl (ea_cons (ev_var rfl) ea_nil) fun H2 e2 => ⟨c, n, xs, s, most, rfl, r1.mono e2, fun h => fl fun ⟨k', r', e', hm'⟩ => ?_, fun i rs e hm H3 r3 => ?_⟩
    · obtain ⟨i, rfl, e2⟩ := numAt_no (by simpa using hb) _ _ e'
      exact h ⟨i, r', e2, fun m hm => by simpa using hm' m hm⟩
    exact k i rs (by rw [e]; rfl) (fun m hm' => by simpa using hm m hm') _ H3 r3
  · have hb : s.ts.head? = some (.op .less) := by simpa using hb
    have r1 := r.mono e1
    refine q_dropM (ev_var rfl) r1.at_ rfl (ea_cons ev_c ea_nil) fun H2 e2 => ⟨c, n, xs, s, [45], .op .less, by rw [l_minus]; rfl, .less, (fun _ h => nomatch h), r1.mono e2, fun h => (h (by
      cases e : s.ts with
      | nil => rw [e] at hb; cases hb
      | cons t rs => rw [e] at hb; injection hb with hb; exact ⟨rs, by rw [hb]⟩)).elim, fun rs e H3 r3 => ?_⟩
    refine meth_run (ev_var rfl) r3.at_ rfl (ea_cons (ev_var rfl) ea_nil) fun H4 e4 => ⟨c, n + 1, xs, { s with ts := rs }, most, rfl, r3.mono e4, fun h => fl fun ⟨k', r', e', hm'⟩ => ?_, fun i rs' e' hm H5 r5 => ?_⟩
    · rw [e] at e'
      unfold numAt at e'
      split at e'
      · rename_i i r'' q
        injection q with _ q
        cases e'
        exact h ⟨i, _, q, fun m hm => by simpa using hm' m hm⟩
      · rename_i q
        cases q
      · cases e'
    have e' : rs = .num i :: rs' := e'
    refine ⟨0, (i : Int), rfl, rfl, ?_⟩
    have := k (-(i : Int)) rs' (by rw [e, e']; rfl) (fun m hm' => by simpa using hm m hm') _ H5 r5
    show Q (.int (0 - (i : Int))) H5
    rwa [Int.zero_sub]
abbrev N_R_opened : List Str := ["self", "mark"]
abbrev s_R_opened : Stmt := inClass (top 38) 5
theorem sc_R_opened : FnScope N_R_opened ["self", "mark"] (defScope s_R_opened) := ⟨rfl, rfl, rfl, by decide +kernel, rfl, by decide +kernel, by decide +kernel⟩
theorem ok_opened (T : Txt w K mg) (A : MetAt K "opened" "Reader.opened" s_R_opened) (D_need : DefOk P w K mg base (L2.CX P w) "need" 1 ["is_good"] (spNeed K)) (M_take : MetOk P w K mg base (L2.CX P w) (cRd K) "take" 2 ["self", "word"] (spTake K)) :
    MetOk P w K mg base (L2.CX P w) (cRd K) "opened" 3 ["self", "mark"] (spOpened K) := by
  refine mk_met A sc_R_opened (fun _ _ _ _ _ _ us hl => match us, hl with | [_, _], _ => rfl) (fun vs H Q E ⟨_, _, _, _, _, h, _⟩ => by rw [h]; rfl) (fun f cdv A outer s H vs Q E hr h => ?_)
  obtain ⟨c, n, xs, s, m, rfl, r, fl, hz, k⟩ := h
  obtain ⟨_, c_OPEN⟩ := T.c_OPEN
  obtain ⟨_, c_MOST_NESTED⟩ := T.c_MOST_NESTED
  refine ⟨_, (pss_cons (ps_expr (pe_met M_take (pv 0) T.cl (hr.mono (by decide)) (pass_on (takes_of rfl rfl rfl rfl)) (pa_cons (pe_gS c_OPEN) pa_nil)))
      (pss_cons (ps_fld (pv 0) (pe_op op_add (pe_fld (pv 0) rfl) pe_int) rfl)
      (pss_cons (ps_expr (pe_def D_need (hr.mono (by decide)) rfl (pass_on (takes_of rfl rfl rfl rfl)) (pa_cons (pe_cmpR op_le (pe_fld (pv 0) rfl) (pe_gI c_MOST_NESTED) (nomark _)) pa_nil)))
      (pss_one (ps_expr (pe_bm PySem.F.plainAttrs_list PySem.F.slot_list_append PySem.F.type_list_append mt_append (pe_fld (pv 0) rfl) (pa_cons (pv 1) pa_nil))))))), ?_⟩
  refine q_dropM (ev_var rfl) r.at_ rfl (ea_cons ev_c ea_nil) fun H2 e2 => ⟨c, n, xs, s, [40], .lp, by rw [l_lp]; rfl, .lp, (fun _ h => nomatch h), r.mono e2, fun h => fl fun ⟨r', e', _⟩ => h ⟨r', e'⟩, fun rs e H3 r3 => ?_⟩
  refine q_fld (ev_op (ev_deep T (ev_var rfl) r3) ev_c rv_I0) (ev_var rfl) r3.at_ T.cl T.na_deep fl_len fun H4 e4 => ?_
  have r4 := (r3.mono e4).fld (s' := { s with ts := rs, deep := s.deep + 1 }) (n' := n + 1) rfl rfl r3.ts r3.le
  refine q_need (b := decide (s.deep + 1 ≤ 20)) (ea_cons (ev_is' (ev_op (ev_deep T (ev_var rfl) r4) ev_c rv_I0) ?_) ea_nil) (fun hb H5 e5 => ?_) (fun hb H5 e5 => (r4.mono e5).fail (fl fun ⟨_, _, q⟩ => of_decide_eq_false hb q))
  · show V.bl (decide (((s.deep + 1 : Nat) : Int) ≤ 20)) = _
    congr 1
    exact decide_eq_decide.mpr (by omega)
  · have r5 := r4.mono e5
    refine Evl.s_app r5.wait (ev_waiting T (ev_var rfl) r5) (ev_var rfl) (by rw [qV_len]; show s.waiting.length < 100000; omega) fun H6 e6 => ?_
    have r6 := (r5.mono e6).wset (w := .opn m :: s.waiting)
    rw [qV_cons] at r6
    exact k rs e (of_decide_eq_true hb) _ r6
abbrev N_R_minus : List Str := ["self"]
abbrev s_R_minus : Stmt := inClass (top 38) 7
theorem sc_R_minus : FnScope N_R_minus ["self"] (defScope s_R_minus) := ⟨rfl, rfl, rfl, by decide +kernel, rfl, by decide +kernel, by decide +kernel⟩
theorem ok_minus (T : Txt w K mg) (A : MetAt K "minus" "Reader.minus" s_R_minus) (D_need : DefOk P w K mg base (L2.CX P w) "need" 1 ["is_good"] (spNeed K)) : MetOk P w K mg base (L2.CX P w) (cRd K) "minus" 2 ["self"] (spMinus K) := by
  refine mk_met A sc_R_minus (fun _ _ _ _ _ _ us hl => match us, hl with | [_], _ => rfl) (fun vs H Q E ⟨_, _, _, _, h, _⟩ => by rw [h]; rfl) (fun f cdv A outer s H vs Q E hr h => ?_)
  obtain ⟨c, n, xs, s, rfl, r, fl, hz, k⟩ := h
  obtain ⟨_, c_MOST_MINUS⟩ := T.c_MOST_MINUS
  refine ⟨_, (pss_cons (ps_fld (pv 0) (pe_op op_add (pe_fld (pv 0) rfl) pe_int) rfl)
      (pss_cons (ps_expr (pe_def D_need (hr.mono (by decide)) rfl (pass_on (takes_of rfl rfl rfl rfl)) (pa_cons (pe_cmpR op_le (pe_fld (pv 0) rfl) (pe_gI c_MOST_MINUS) (nomark _)) pa_nil)))
      (pss_one (ps_expr (pe_bm PySem.F.plainAttrs_list PySem.F.slot_list_append PySem.F.type_list_append mt_append (pe_fld (pv 0) rfl) (pa_cons pe_str pa_nil)))))), ?_⟩
  refine q_fld (ev_op (ev_minuses T (ev_var rfl) r) ev_c rv_I0) (ev_var rfl) r.at_ T.cl T.na_minuses fl_len fun H4 e4 => ?_
  have r4 := (r.mono e4).fld (s' := { s with minuses := s.minuses + 1 }) (n' := n) rfl rfl r.ts r.le
  refine q_need (b := decide (s.minuses + 1 ≤ 20)) (ea_cons (ev_is' (ev_op (ev_minuses T (ev_var rfl) r4) ev_c rv_I0) ?_) ea_nil) (fun hb H5 e5 => ?_) (fun hb H5 e5 => (r4.mono e5).fail (fl (of_decide_eq_false hb)))
  · show V.bl (decide (((s.minuses + 1 : Nat) : Int) ≤ 20)) = _
    congr 1
    exact decide_eq_decide.mpr (by omega)
  · have r5 := r4.mono e5
    refine Evl.s_app r5.wait (ev_waiting T (ev_var rfl) r5) ev_c (by rw [qV_len]; show s.waiting.length < 100000; omega) fun H6 e6 => ?_
    have r6 := (r5.mono e6).wset (w := .neg :: s.waiting)
    rw [qV_cons] at r6
    exact k (of_decide_eq_true hb) _ r6
end
end K83
end
section
set_option maxRecDepth 100000
set_option maxHeartbeats 4000000
namespace K83
open PySem PySem.Spec PyProof.Rows L2
open Evl (Ex Ev EvT EvA EvL EvU EvO RV RU RC ev_var ev_c ev_op ev_un ev_if ev_andV ev_orV ev_notV et_test et_B et_and et_or et_not ea_nil ea_cons ev_cb q_asg q_asgL q_asgU q_if q_when s_asg s_ret s_if s_when s_drop q_drop rv_I0 rv_I rv_eq rv_ne rv_val el_sl eo_none eo_some tCut pss_cut q_cut)
/-! ### steps with changing heaps -/
section
variable {K : PySem.W.Frag} {σ : L2.St} {H H' : Hp} {ta te : TE} {D : Ends} {tz : TS} {l : Addr} {xs ys : List V} {y : V} {Q : VK} {i : Nat}
theorem st_app_raw (ha : Ev ta σ H (.ref l)) (hl : H l = some (.lst xs)) (h : ∀ H1, Ex H H1 → te σ H1 fun v H2 => rAppend (.ref l) [v] H2 fun _ H3 => D.nx σ H3) :
    tDrop (tBM K "list" rAppend ta (tCons te tNil)) D σ H := ha H (Ex.refl H) _ fun H1 e1 => ⟨Or.inl ⟨rfl, xs, Evl.sq_of (e1 l _ hl)⟩, h H1 e1⟩
theorem q_app_raw (ha : Ev ta σ H (.ref l)) (hl : H l = some (.lst xs)) (h : ∀ H1, Ex H H1 → te σ H1 fun v H2 => rAppend (.ref l) [v] H2 fun _ H3 => tz D σ H3) :
    tSeq (tDrop (tBM K "list" rAppend ta (tCons te tNil))) tz D σ H := st_app_raw (D := { D with nx := tz D }) ha hl h
theorem pop_run (ha : Ev ta σ H (.ref l)) (hl : H l = some (.lst (ys ++ [y]))) (k : ∀ H1, Ex H H1 → Q y (upd H1 l (.lst ys))) : tBM0 K "list" rPop ta σ H Q := ha H (Ex.refl H) _ fun H1 e1 =>
  ⟨Or.inl ⟨rfl, _, Evl.sq_of (e1 l _ hl)⟩, l, ys ++ [y], y, rfl, rfl, e1 l _ hl, by simp, by rw [List.dropLast_concat]; exact k H1 e1⟩
end
/-! ### is a list empty -/
theorem strOk_all {z : Str} (h : ∀ c ∈ z.cps.toList, c < 0x110000) : PyData.strOk z = true := by
  unfold PyData.strOk
  rw [← Array.all_toList, List.all_eq_true]
  intro c hc
  exact decide_eq_true (h c hc)
theorem dpAll_strs {K : PySem.W.Frag} {H : Hp} : ∀ (zs : List Str), DpAll K H (zs.map V.str) (zs.map PyData.str)
  | [] => .nil
  | z :: zs => .cons (.str z) (dpAll_strs zs)
theorem lay_strs {zs : List Str} (h : ∀ z ∈ zs, PyData.strOk z = true) : PyData.canLayAll0 (zs.map PyData.str) = true := by
  induction zs with
  | nil => rfl
  | cons z zs ih =>
    rw [List.map_cons, PyData.canLayAll0, PyData.canLay0, h z (List.mem_cons_self ..), ih fun y hy => h y (List.mem_cons_of_mem _ hy)]
    rfl
theorem eqv_nil (ds : List PyData) : PyData.eqv (.list ds) (.list []) = ds.isEmpty := by
  rw [PyData.eqv]
  cases ds <;> simp [PyData.eqvAll]
theorem markS_ok (m : Mark) : PyData.strOk (markS m) = true := by
  have h : ∀ z : Str, (z.cps.toList.all fun c => decide (c < 0x110000)) = true → PyData.strOk z = true := fun z h => strOk_all fun c hc => of_decide_eq_true (List.all_eq_true.mp h c hc)
  refine h _ ?_
  match m with
  | .bin .plus => decide +kernel
  | .bin .less => decide +kernel
  | .bin .times => decide +kernel
  | .bin .over => decide +kernel
  | .neg => decide +kernel
  | .opn none => decide +kernel
  | .opn (some .sqrt) => decide +kernel
  | .opn (some .cbrt) => decide +kernel
section
variable {K : PySem.W.Frag} {σ : L2.St} {H H' : Hp} {ta tb : TE} {l : Addr} {zs : List Str}
theorem rv_empty {neg : Bool} {p : Addr} (h : H l = some (.lst (zs.map V.str))) (hp : H p = some (.lst [])) (hz : ∀ z ∈ zs, PyData.strOk z = true) : RV (rEqX K neg) (.ref l) (.ref p) H (.bl (if neg then !zs.isEmpty else zs.isEmpty)) := fun H1 e Q q => by
  refine ⟨.list (zs.map .str), .list [], .lst (Evl.sq_of (e _ _ h)) (dpAll_strs zs), .lst (Evl.sq_of (e _ _ hp)) .nil, ?_, rfl, ?_, ?_⟩
  · rw [PyData.canLay0]
    exact lay_strs hz
  · unfold Room1
    simp [PyData.depth, PyData.depthAll]
  · rw [eqv_nil, List.isEmpty_map]
    exact q H1 (Ex.refl H1)
theorem ev_empty {neg : Bool} (ha : Ev ta σ H (.ref l)) (h : H l = some (.lst (zs.map V.str))) (hz : ∀ z ∈ zs, PyData.strOk z = true) : Ev (tOp (rEqX K neg) ta (tLst tNil)) σ H (.bl (if neg then !zs.isEmpty else zs.isEmpty)) :=
  Evl.ev_opL ha (Evl.el_lst ea_nil (by decide)) fun p H1 hp e => rv_empty (e _ _ h) hp hz
end
section
variable {K : PySem.W.Frag} {c : RdC} {n : Nat} {xs : List V} {s : RS} {σ : L2.St} {H H' : Hp} {ta : TE} {w : World} {mg : Str → Option Value}
theorem qV_strs (w : List Mark) : qV w = (w.reverse.map markS).map V.str := by simp [qV, Function.comp_def]
theorem ev_wait {neg : Bool} (T : Txt w K mg) (ha : Ev ta σ H (.ref c.a)) (r : RAt K c n xs s H) : Ev (tOp (rEqX K neg) (tFld K ta "waiting") (tLst tNil)) σ H (.bl (if neg then !s.waiting.isEmpty else s.waiting.isEmpty)) := by
  have h := r.wait
  rw [qV_strs] at h
  have := ev_empty (K := K) (neg := neg) (ev_waiting T ha r) h (fun z hz => by obtain ⟨m, _, rfl⟩ := List.mem_map.mp hz; exact markS_ok m)
  have e : (s.waiting.reverse.map markS).isEmpty = s.waiting.isEmpty := by
    cases s.waiting with
    | nil => rfl
    | cons m r => cases e : (m :: r).reverse with
      | nil => simp at e
      | cons _ _ => rfl
  rwa [e] at this
theorem lev_lookup (m : Mark) : levL.lookup (markS m) = if m.level = 0 then none else some (.int (m.level : Int)) := by
  match m with
  | .bin .plus => rfl
  | .bin .less => rfl
  | .bin .times => rfl
  | .bin .over => rfl
  | .neg => rfl
  | .opn none => rfl
  | .opn (some .sqrt) => rfl
  | .opn (some .cbrt) => rfl
theorem kget_lev (T : Txt w K mg) {te : TE} {m : Mark} (h : Ev te σ H (.str (markS m))) : Ev (tKGet K w (He.ga K "LEVELS") (tC (.ref (He.ga K "LEVELS"))) te (tC (.int 0))) σ H (.int (m.level : Int)) := fun H1 e Q q => by
  refine ⟨rfl, h H1 e _ fun H2 e2 => ?_⟩
  obtain ⟨r, hr, hv⟩ := T.v_LEVELS (markS m)
  rw [lev_lookup] at hv
  refine ⟨_, r, .int (m.level : Int), rfl, hr, ?_, q H2 e2⟩
  by_cases h0 : m.level = 0
  · rw [if_pos h0] at hv
    cases r with
    | none =>
      rw [h0]
      rfl
    | some u => exact hv.elim
  · rw [if_neg h0] at hv
    cases r with
    | none => exact hv.elim
    | some u => exact hv
end
def spDone (K : PySem.W.Frag) : Sp := fun vs H Q _ => ∃ c n xs s l, vs = [.ref c.a, .int (l : Nat)] ∧ RAt K c n xs s H ∧ s.told.length + s.waiting.length ≤ 2000 ∧
  ∀ xs' H', RAt K c n xs' { s with waiting := (done l s.waiting s.told).1, told := (done l s.waiting s.told).2 } H' → Q .non H'
def spPower (K : PySem.W.Frag) : Sp := fun vs H Q E => ∃ c n xs s, vs = [.ref c.a] ∧ RAt K c n xs s H ∧ ((¬ ∃ r k r', s.isBase = true ∧ s.ts = .hat :: r ∧ numAt r = some (k, r') ∧ k.natAbs ≤ 8) → Fails K c E) ∧ s.told.length ≤ 2000 ∧
  ∀ r k r', s.isBase = true → s.ts = .hat :: r → numAt r = some (k, r') → k.natAbs ≤ 8 → ∀ n' xs' H', RAt K c n' xs' { s with ts := r', told := s.told ++ [.pow k], isBase := false } H' → Q .non H'
section
variable {P : Program} {w : World} {K : PySem.W.Frag} {mg : Str → Option Value} {base : Heap}
abbrev N_R_done_down_to : List Str := ["self", "level"]
abbrev s_R_done_down_to : Stmt := inClass (top 38) 10
theorem sc_R_done_down_to : FnScope N_R_done_down_to ["self", "level"] (defScope s_R_done_down_to) := ⟨rfl, rfl, rfl, by decide +kernel, rfl, by decide +kernel, by decide +kernel⟩
theorem ok_done_down_to (T : Txt w K mg) (A : MetAt K "done_down_to" "Reader.done_down_to" s_R_done_down_to) : MetOk P w K mg base CX0 (cRd K) "done_down_to" 1 ["self", "level"] (spDone K) := by
  refine mk_met0 A sc_R_done_down_to (fun _ _ _ _ _ _ us hl => match us, hl with | [_, _], _ => rfl) (fun vs H Q E ⟨_, _, _, _, _, h, _⟩ => by rw [h]; rfl) (fun f cdv A outer s H vs Q E hr h => ?_)
  obtain ⟨c, n, xs, s, l, rfl, r, hz, k⟩ := h
  obtain ⟨_, _, kd_LEVELS⟩ := T.k_LEVELS
  refine ⟨_, (pss_one (ps_while PassesOwn.never (PW.pt (pw_and (pt_cmpR (op_neX hr.units) (pe_fld (pv 0) rfl) (pe_lst pa_nil) (nomark _)) (pw_and1 (pt_cmpR op_ge (pe_kget kd_LEVELS (pe_gR T.g_LEVELS) (pe_ix ix_list (pe_fld (pv 0) rfl) (pe_un un_neg pe_int) (fun _ _ => rfl)) pe_int ⟨rfl, rfl, rfl, rfl⟩) (pv 1) (nomark _))))) (pss_one (ps_expr (pe_bm PySem.F.plainAttrs_list PySem.F.slot_list_append PySem.F.type_list_append mt_append (pe_fld (pv 0) rfl) (pa_cons (pe_tup (pa_cons (pe_bm0 PySem.F.plainAttrs_list PySem.F.slot_list_pop PySem.F.type_list_pop mt_pop (pe_fld (pv 0) rfl)) pa_nil)) pa_nil)))))), ?_⟩
  refine Evl.s_while (fun m σ' H' => ∃ xs' w' t', RAt K c n xs' { s with waiting := w', told := t' } H' ∧ done l w' t' = done l s.waiting s.told ∧ w'.length = m ∧ t'.length + w'.length ≤ 2000 ∧ σ' = [some (.ref c.a), some (.int (l : Int))])
    s.waiting.length ⟨xs, s.waiting, s.told, r, rfl, rfl, hz, rfl⟩ ?_
  rintro m σ' H' ⟨xs', w', t', r1, hd, hm, hz1, rfl⟩
  cases w' with
  | nil =>
    refine ⟨_, et_and (et_test (ev_wait T (ev_var rfl) r1)) (b := false) (fun h => by cases h), (fun h => by cases h), fun _ H2 e2 => ?_⟩
    have r2 := r1.mono e2
    have e : done l s.waiting s.told = ([], t') := by
      rw [← hd]
      rfl
    rw [e] at k
    exact k xs' H2 r2
  | cons mk w2 =>
    refine ⟨_, et_and (et_test (ev_wait T (ev_var rfl) r1)) (b := decide (l ≤ mk.level)) (fun h => et_test (ev_is' (ev_op (kget_lev T (m := mk) (ev_op (ev_waiting T (ev_var rfl) r1) (ev_un ev_c Evl.ru_neg) (Evl.rv_ixL (Evl.sq_of r1.wait) ?_))) (ev_var rfl) rv_I0) ?_)), fun hb H2 e2 => ?_, fun hb H2 e2 => ?_⟩
    · rw [qV_cons]
      exact atI_last _ _
    · show V.bl (decide ((l : Int) ≤ (mk.level : Int))) = _
      congr 1
      exact decide_eq_decide.mpr (by omega)
    · have hb : l ≤ mk.level := by simpa using hb
      have r2 := r1.mono e2
      refine ⟨fun σ2 H3 => ∃ xs' , RAt K c n xs' { s with waiting := w2, told := t' ++ [.mk mk] } H3 ∧ σ2 = [some (.ref c.a), some (.int (l : Int))], ?_, ?_⟩
      · rintro σ2 H3 ⟨xs2, r3, rfl⟩
        refine ⟨w2.length, by rw [← hm]; simp, xs2, w2, t' ++ [.mk mk], r3, ?_, rfl, by simp at hz1 ⊢; omega, rfl⟩
        rw [← hd]
        show _ = (if l ≤ mk.level then _ else _)
        rw [if_pos hb]
      · refine st_app_raw (ev_told T (ev_var rfl) r2) r2.told fun H3 e3 => ?_
        have r3 := r2.mono e3
        have hw := r3.wait
        rw [show ({ s with waiting := mk :: w2, told := t' } : RS).waiting = mk :: w2 from rfl, qV_cons] at hw
        refine pop_run (ev_waiting T (ev_var rfl) r3) hw fun H4 e4 => ⟨Evl.sz_of (by simp), fun p hp => ?_⟩
        have r4 := ((r3.mono e4).wset (w := w2)).mono (Ex.new (o := .tup [.str (markS mk)]) hp)
        have hl := r4.tlen
        refine ⟨c.lt, xs', .ref p, rfl, rfl, r4.told, ?_, ?_⟩
        · refine Evl.sz_lt ?_
          rw [hl]
          show t'.length < 100000
          simp at hz1
          omega
        · exact ⟨_, r4.push (i := .mk mk) (Tp.ofTup upd_same (Tps.one (Tp.ofStr _))), rfl⟩
    · have hb : ¬ l ≤ mk.level := by simpa using hb
      have r2 := r1.mono e2
      have e : done l s.waiting s.told = (mk :: w2, t') := by
        rw [← hd]
        show (if l ≤ mk.level then _ else _) = _
        rw [if_neg hb]
      rw [e] at k
      exact k xs' H2 r2
abbrev N_R_power : List Str := ["self"]
abbrev s_R_power : Stmt := inClass (top 38) 9
theorem sc_R_power : FnScope N_R_power ["self"] (defScope s_R_power) := ⟨rfl, rfl, rfl, by decide +kernel, rfl, by decide +kernel, by decide +kernel⟩
theorem ok_power (T : Txt w K mg) (A : MetAt K "power" "Reader.power" s_R_power) (D_need : DefOk P w K mg base (L2.CX P w) "need" 1 ["is_good"] (spNeed K)) (M_take : MetOk P w K mg base (L2.CX P w) (cRd K) "take" 2 ["self", "word"] (spTake K))
    (M_with_minus : MetOk P w K mg base (L2.CX P w) (cRd K) "with_minus" 3 ["self", "most"] (spMinusN K)) : MetOk P w K mg base (L2.CX P w) (cRd K) "power" 4 ["self"] (spPower K) := by
  refine mk_met A sc_R_power (fun _ _ _ _ _ _ us hl => match us, hl with | [_], _ => rfl) (fun vs H Q E ⟨_, _, _, _, h, _⟩ => by rw [h]; rfl) (fun f cdv A outer s H vs Q E hr h => ?_)
  obtain ⟨c, n, xs, s, rfl, r, fl, hz, k⟩ := h
  obtain ⟨_, c_MOST_POWER⟩ := T.c_MOST_POWER
  refine ⟨_, (pss_cons (ps_expr (pe_def D_need (hr.mono (by decide)) rfl (pass_on (takes_of rfl rfl rfl rfl)) (pa_cons (pe_fld (pv 0) rfl) pa_nil)))
      (pss_cons (ps_expr (pe_met M_take (pv 0) T.cl (hr.mono (by decide)) (pass_on (takes_of rfl rfl rfl rfl)) (pa_cons pe_str pa_nil)))
      (pss_cons (ps_expr (pe_bm PySem.F.plainAttrs_list PySem.F.slot_list_append PySem.F.type_list_append mt_append (pe_fld (pv 0) rfl) (pa_cons (pe_tup (pa_cons pe_str (pa_cons (pe_met M_with_minus (pv 0) T.cl (hr.mono (by decide)) (pass_on (takes_of rfl rfl rfl rfl)) (pa_cons (pe_gI c_MOST_POWER) pa_nil)) pa_nil))) pa_nil)))
      (pss_one (ps_fld (pv 0) pe_bl rfl))))), ?_⟩
  refine q_need (b := s.isBase) (ea_cons (ev_is_base T (ev_var rfl) r) ea_nil) (fun hb H1 e1 => ?_) (fun hb H1 e1 => (r.mono e1).fail (fl fun ⟨_, _, _, q, _⟩ => by rw [q] at hb; cases hb))
  have r1 := r.mono e1
  refine q_dropM (ev_var rfl) r1.at_ rfl (ea_cons ev_c ea_nil) fun H2 e2 => ⟨c, n, xs, s, [94], .hat, by rw [l_hat]; rfl, .hat, (fun _ h => nomatch h), r1.mono e2, fun h => fl fun ⟨r', _, _, _, e', _⟩ => h ⟨r', e'⟩, fun rs e H3 r3 => ?_⟩
  refine q_app_raw (ev_told T (ev_var rfl) r3) r3.told fun H4 e4 => ?_
  have r4 := r3.mono e4
  refine meth_run (ev_var rfl) r4.at_ rfl (ea_cons ev_c ea_nil) fun H5 e5 => ⟨c, n + 1, xs, { s with ts := rs }, some 8, rfl, r4.mono e5, fun h => fl fun ⟨r', k', r'', _, e', hn', hk'⟩ => ?_, fun i rs' e' hm n' H6 r6 => ?_⟩
  · rw [e] at e'
    injection e' with _ e'
    subst e'
    exact h ⟨k', r'', hn', fun m hm => by cases hm; exact hk'⟩
  refine ⟨Evl.sz_of (by simp), fun p hp => ?_⟩
  have r7 := r6.mono (Ex.new (o := .tup [.str "power", .int i]) hp)
  refine ⟨c.lt, xs, .ref p, rfl, rfl, r7.told, ?_, ?_⟩
  · refine Evl.sz_lt ?_
    rw [r7.tlen]
    show s.told.length < 100000
    omega
  · have r8 := r7.push (i := .pow i) (Tp.ofTup upd_same (Tps.cons (Tp.ofStr _) (Tps.one (Tp.ofInt _))))
    refine st_fld ev_c (ev_var rfl) r8.at_ T.cl T.na_is_base fl_len fun H9 e9 => ?_
    exact k rs i rs' hb e e' (hm 8 rfl) n' _ _ ((r8.mono e9).fld (s' := { s with ts := rs', told := s.told ++ [.pow i], isBase := false }) (n' := n') rfl rfl r8.ts r8.le)
end
end K83
end
section
set_option maxRecDepth 100000
set_option maxHeartbeats 4000000
namespace K83
open PySem PySem.Spec PyProof.Rows L2
open Evl (Ex Ev EvT EvA EvL EvU EvO RV RU RC ev_var ev_c ev_op ev_un ev_if ev_andV ev_orV ev_notV et_test et_B et_and et_or et_not ea_nil ea_cons ev_cb q_asg q_asgL q_asgU q_if q_when s_asg s_ret s_if s_when s_drop q_drop rv_I0 rv_I rv_eq rv_ne rv_val el_sl eo_none eo_some tCut pss_cut q_cut)
/-! ### one more object is known -/
def RdC.add (c : RdC) (p : Addr) (o : HO) (h0 : c.H0 p = none) (h1 : p ≠ c.a) (h2 : p ≠ c.lt) (h3 : p ≠ c.lq) : RdC :=
  { c with H0 := upd c.H0 p o
           hw := by rw [upd_ne (ne_of_none c.hw h0)]; exact c.hw
           ha := by rw [upd_ne (Ne.symm h1)]; exact c.ha
           ht := by rw [upd_ne (Ne.symm h2)]; exact c.ht
           hq := by rw [upd_ne (Ne.symm h3)]; exact c.hq }
section
variable {K : PySem.W.Frag} {c : RdC} {n : Nat} {xs : List V} {s : RS} {H H' : Hp} {p : Addr} {o : HO} {E : XK} {h0 : c.H0 p = none} {h1 : p ≠ c.a} {h2 : p ≠ c.lt} {h3 : p ≠ c.lq}
theorem ex_add {H0 H : Hp} {p : Addr} {o : HO} (e : Ex H0 H) (h : H p = some o) : Ex (upd H0 p o) H := fun a u q => by
  by_cases ha : a = p
  · subst ha
    rw [upd_same] at q
    cases q
    exact h
  · rw [upd_ne ha] at q
    exact e a u q
theorem RAt.add (r : RAt K c n xs s H) (h : H p = some o) : RAt K (c.add p o h0 h1 h2 h3) n xs s H := ⟨ex_add r.ex h, r.at_, r.told, r.tp, r.wait, r.ts, r.le⟩
theorem RAt.del (r : RAt K (c.add p o h0 h1 h2 h3) n xs s H) : RAt K c n xs s H ∧ H p = some o := ⟨⟨fun a u q => r.ex a u (by
  show (upd c.H0 p o) a = some u
  rw [upd_ne (ne_of_none q h0)]
  exact q), r.at_, r.told, r.tp, r.wait, r.ts, r.le⟩, r.ex p o upd_same⟩
theorem Fails.add (f : Fails K c E) : Fails K (c.add p o h0 h1 h2 h3) E := fun H' e => f H' fun a u q => e a u (by
  show (upd c.H0 p o) a = some u
  rw [upd_ne (ne_of_none q h0)]
  exact q)
/-- an address that the reader does not know -/
theorem RAt.fresh (r : RAt K c n xs s H) (h : H p = none) : c.H0 p = none ∧ p ≠ c.a ∧ p ≠ c.lt ∧ p ≠ c.lq := by
  refine ⟨ex_fresh r.ex h, ?_, ?_, ?_⟩
  · rintro rfl
    rw [r.at_] at h
    cases h
  · rintro rfl
    rw [r.told] at h
    cases h
  · rintro rfl
    rw [r.wait] at h
    cases h
end
theorem rowRest_comma {acc : List Int} {r : List Tok} : rowRest acc (.comma :: r) = match numAt r with | none => none | some (n, r') => rowRest (acc ++ [n]) r' := by
  rw [rowRest]
  split
  · rename_i h
    rw [h]
  · rename_i n r' h
    rw [h]
theorem rowRest_stop {acc : List Int} {ts : List Tok} (h : ts.head? ≠ some .comma) : rowRest acc ts = some (acc, ts) := by
  rw [rowRest]
  intro r e
  rw [e] at h
  exact h rfl
theorem root_inv {ts r' : List Tok} {x : List Int × Nat} (h : rootAt ts = some (x, r')) : ∃ t2 i t3, ts = .lp :: .lb :: t2 ∧ numAt t2 = some (i, t3) ∧ rowRest [i] t3 = some (x.1, .rb :: .comma :: .num x.2 :: .rp :: r') ∧ x.1.length ≤ 17 ∧ x.1.getLast? ≠ some 0 ∧ 1 ≤ x.2 ∧ x.2 ≤ 16 := by
  unfold rootAt at h
  split at h
  · rename_i r0
    split at h
    · cases h
    · rename_i n r1 h1
      split at h
      · cases h
      · rename_i row r2 h2
        split at h
        · rename_i h3
          split at h
          · split at h
            · rename_i h4
              cases h
              exact ⟨_, _, _, rfl, h1, h2, h3.1, h3.2, h4.1, h4.2⟩
            · cases h
          · cases h
        · cases h
  · cases h
/-- where a root is not told -/
theorem root_no {ts : List Tok} (h : ∀ t2 i t3 row k r', ts = .lp :: .lb :: t2 → numAt t2 = some (i, t3) → rowRest [i] t3 = some (row, .rb :: .comma :: .num k :: .rp :: r') → row.length ≤ 17 → row.getLast? ≠ some 0 → 1 ≤ k → k ≤ 16 → False) : rootAt ts = none := by
  cases q : rootAt ts with
  | none => rfl
  | some y =>
    obtain ⟨t2, i, t3, h1, h2, h3, h4, h5, h6, h7⟩ := root_inv (x := y.1) (r' := y.2) q
    exact (h _ _ _ _ _ _ h1 h2 h3 h4 h5 h6 h7).elim
def spRoot (K : PySem.W.Frag) : Sp := fun vs H Q E => ∃ c n xs s, vs = [.ref c.a] ∧ RAt K c n xs s H ∧ (rootAt s.ts = none → Fails K c E) ∧ s.told.length ≤ 2000 ∧
  ∀ x r', rootAt s.ts = some (x, r') → ∀ n' xs' H', RAt K c n' xs' { s with ts := r', told := s.told ++ [.leaf (.root x.1 x.2)] } H' → Q .non H'
section
variable {P : Program} {w : World} {K : PySem.W.Frag} {mg : Str → Option Value} {base : Heap}
abbrev N_R_root : List Str := ["self", "numbers", "place"]
abbrev s_R_root : Stmt := inClass (top 38) 6
theorem sc_R_root : FnScope N_R_root ["self"] (defScope s_R_root) := ⟨rfl, rfl, rfl, by decide +kernel, rfl, by decide +kernel, by decide +kernel⟩
theorem ok_root (T : Txt w K mg) (A : MetAt K "root" "Reader.root" s_R_root) (D_need : DefOk P w K mg base (L2.CX P w) "need" 1 ["is_good"] (spNeed K)) (M_next_word : MetOk P w K mg base CX0 (cRd K) "next_word" 1 ["self"] (spNext K)) (M_take : MetOk P w K mg base (L2.CX P w) (cRd K) "take" 2 ["self", "word"] (spTake K))
    (M_number : MetOk P w K mg base (L2.CX P w) (cRd K) "number" 2 ["self", "most"] (spNumber K))
    (M_with_minus : MetOk P w K mg base (L2.CX P w) (cRd K) "with_minus" 3 ["self", "most"] (spMinusN K)) : MetOk P w K mg base (L2.CX P w) (cRd K) "root" 4 ["self"] (spRoot K) := by
  refine mk_met A sc_R_root (fun _ _ _ _ _ _ us hl => match us, hl with | [_], _ => rfl) (fun vs H Q E ⟨_, _, _, _, h, _⟩ => by rw [h]; rfl) (fun f cdv A outer s H vs Q E hr h => ?_)
  obtain ⟨c, n, xs, s, rfl, r, fl, hz, k⟩ := h
  obtain ⟨_, c_OPEN⟩ := T.c_OPEN
  obtain ⟨_, c_MOST_NUMBERS⟩ := T.c_MOST_NUMBERS
  obtain ⟨_, c_MOST_PLACE⟩ := T.c_MOST_PLACE
  refine ⟨_, (pss_cons (ps_expr (pe_met M_take (pv 0) T.cl (hr.mono (by decide)) (pass_on (takes_of rfl rfl rfl rfl)) (pa_cons (pe_gS c_OPEN) pa_nil)))
      (pss_cons (ps_expr (pe_met M_take (pv 0) T.cl (hr.mono (by decide)) (pass_on (takes_of rfl rfl rfl rfl)) (pa_cons pe_str pa_nil)))
      (pss_cons (ps_set (i := 1) sc_R_root.nd rfl (Or.inl rfl) (pe_lst (pa_cons (pe_met M_with_minus (pv 0) T.cl (hr.mono (by decide)) (pass_on (takes_of rfl rfl rfl rfl)) (pa_cons pe_non pa_nil)) pa_nil)))
      (pss_cons (ps_while (passes_of rfl) (pt_cmpR op_eq (pe_met0 M_next_word (pv 0) T.cl (hr.mono (by decide)) pass0) pe_str (nomark _)) (pss_cons (ps_expr (pe_met M_take (pv 0) T.cl (hr.mono (by decide)) (pass_on (takes_of rfl rfl rfl rfl)) (pa_cons pe_str pa_nil)))
      (pss_one (ps_expr (pe_bm PySem.F.plainAttrs_list PySem.F.slot_list_append PySem.F.type_list_append mt_append (pv 1) (pa_cons (pe_met M_with_minus (pv 0) T.cl (hr.mono (by decide)) (pass_on (takes_of rfl rfl rfl rfl)) (pa_cons pe_non pa_nil)) pa_nil))))))
      (pss_cons (ps_expr (pe_def D_need (hr.mono (by decide)) rfl (pass_on (takes_of rfl rfl rfl rfl)) (pa_cons (pe_and (pe_cmpR op_le (pe_callB call_len_seq (by rfl) T.f_len PySem.boot_len (pa_cons (pv 1) pa_nil)) (pe_gI c_MOST_NUMBERS) (nomark _)) (pe_one (pe_cmpR op_ne (pe_ix ix_list (pv 1) (pe_un un_neg pe_int) (fun _ _ => rfl)) pe_int (nomark _)))) pa_nil)))
      (pss_cons (ps_expr (pe_met M_take (pv 0) T.cl (hr.mono (by decide)) (pass_on (takes_of rfl rfl rfl rfl)) (pa_cons pe_str pa_nil)))
      (pss_cons (ps_expr (pe_met M_take (pv 0) T.cl (hr.mono (by decide)) (pass_on (takes_of rfl rfl rfl rfl)) (pa_cons pe_str pa_nil)))
      (pss_cons (ps_set (i := 2) sc_R_root.nd rfl (Or.inl rfl) (pe_met M_number (pv 0) T.cl (hr.mono (by decide)) (pass_on (takes_of rfl rfl rfl rfl)) (pa_cons (pe_gI c_MOST_PLACE) pa_nil)))
      (pss_cons (ps_expr (pe_def D_need (hr.mono (by decide)) rfl (pass_on (takes_of rfl rfl rfl rfl)) (pa_cons (pe_cmpR op_gt (pv 2) pe_int (nomark _)) pa_nil)))
      (pss_cons (ps_expr (pe_met M_take (pv 0) T.cl (hr.mono (by decide)) (pass_on (takes_of rfl rfl rfl rfl)) (pa_cons pe_str pa_nil)))
      (pss_one (ps_expr (pe_bm PySem.F.plainAttrs_list PySem.F.slot_list_append PySem.F.type_list_append mt_append (pe_fld (pv 0) rfl) (pa_cons (pe_tup (pa_cons pe_str (pa_cons (pe_callTy call_tuple_of (by rfl) T.f_tuple (by decide +kernel) (pa_cons (pv 1) pa_nil)) (pa_cons (pv 2) pa_nil)))) pa_nil)))))))))))))), ?_⟩
  refine q_dropM (ev_var rfl) r.at_ rfl (ea_cons ev_c ea_nil) fun H1 e1 => ⟨c, n, xs, s, [40], .lp, by rw [l_lp]; rfl, .lp, (fun _ h => nomatch h), r.mono e1, fun h => fl (root_no fun t2 i t3 row k r' a1 a2 a3 a4 a5 a6 a7 => h ⟨_, a1⟩), fun t1 q1 H2 r2 => ?_⟩
  refine q_dropM (ev_var rfl) r2.at_ rfl (ea_cons ev_c ea_nil) fun H3 e3 => ⟨c, _, xs, _, [91], .lb, by rw [l_lb]; rfl, .lb, (fun _ h => nomatch h), r2.mono e3, fun h => fl (root_no fun t2 i t3 row k r' a1 a2 a3 a4 a5 a6 a7 => h ⟨t2, by rw [q1] at a1; injection a1⟩), fun t2 q2 H4 r4 => ?_⟩
  have q2 : t1 = .lb :: t2 := q2
  refine meth_run (ev_var rfl) r4.at_ rfl (ea_cons ev_c ea_nil) fun H5 e5 => ⟨c, _, xs, _, none, rfl, r4.mono e5, fun h => fl (root_no fun t2' i t3 row k r' a1 a2 a3 a4 a5 a6 a7 => h ⟨i, t3, by
    rw [q1, q2] at a1
    injection a1 with _ a1
    injection a1 with _ a1
    rw [a1]
    exact a2, fun m hm => by cases hm⟩), fun i t3 q3 _ n3 H6 r6 => ?_⟩
  have q3 : numAt t2 = some (i, t3) := q3
  refine ⟨Evl.sz_of (by simp), fun p hp => ?_⟩
  obtain ⟨f0, f1, f2, f3⟩ := r6.fresh hp
  have sm : t3.length ≤ 200 := by
    have a := r6.ts
    have a : t3 = (c.ws.drop n3).map tokOf := a
    rw [a, List.length_map, List.length_drop]
    have := c.wd.len
    omega
  have no : (∀ row k r', rowRest [i] t3 = some (row, .rb :: .comma :: .num k :: .rp :: r') → row.length ≤ 17 → row.getLast? ≠ some 0 → 1 ≤ k → k ≤ 16 → False) → Fails K c E := fun h => fl (root_no fun t2' i' t3' row k r' a1 a2 a3 a4 a5 a6 a7 => by
    rw [q1, q2] at a1
    injection a1 with _ a1
    injection a1 with _ a1
    subst a1
    rw [q3] at a2
    cases a2
    exact h row k r' a3 a4 a5 a6 a7)
  refine Evl.q_while (fun m σ' H' => ∃ n' acc ts', RAt K c n' xs { s with ts := ts' } H' ∧ H' p = some (.lst (acc.map V.int)) ∧ rowRest [i] t3 = rowRest acc ts' ∧ ts'.length = m ∧ acc ≠ [] ∧ acc.length + ts'.length ≤ 201 ∧
    σ' = [some (.ref c.a), some (.ref p), none]) t3.length ⟨n3, [i], t3, r6.mono (Ex.new hp), upd_same, rfl, rfl, by simp, by simp; omega, rfl⟩ ?_
  rintro m σ' H' ⟨n', acc, ts', r7, hp7, hrr, hm, hne, hac, rfl⟩
  refine ⟨_, Evl.et_is (et_test (ev_op (ev_next (ev_var rfl) r7) ev_c (rv_eq rfl))) (r7.next_is l_comma .comma (fun _ h => nomatch h)), fun hb H8 e8 => ?_, fun hb H8 e8 => ?_⟩
  · have hb : ts'.head? = some .comma := of_decide_eq_true hb
    refine ⟨fun σ2 H2 => ∃ m', m' < m ∧ ∃ n' acc ts', RAt K c n' xs { s with ts := ts' } H2 ∧ H2 p = some (.lst (acc.map V.int)) ∧ rowRest [i] t3 = rowRest acc ts' ∧ ts'.length = m' ∧ acc ≠ [] ∧ acc.length + ts'.length ≤ 201 ∧
      σ2 = [some (.ref c.a), some (.ref p), none], fun _ _ h => h, ?_⟩
    have r8 := (r7.mono e8).add (h0 := f0) (h1 := f1) (h2 := f2) (h3 := f3) (e8 _ _ hp7)
    refine q_dropM (ev_var rfl) r8.at_ rfl (ea_cons ev_c ea_nil) fun H9 e9 => ⟨c.add p _ f0 f1 f2 f3, _, xs, _, [44], .comma, by rw [l_comma]; rfl, .comma, (fun _ h => nomatch h), r8.mono e9, fun h => (h (by
      cases e : ts' with
      | nil => rw [e] at hb; cases hb
      | cons t rs => rw [e] at hb; injection hb with hb; exact ⟨rs, by rw [hb]⟩)).elim, fun t4 q4 H10 r10 => ?_⟩
    have q4 : ts' = .comma :: t4 := q4
    refine st_app_raw (ev_var rfl) r10.del.2 fun H11 e11 => ?_
    refine meth_run (ev_var rfl) (e11 _ _ r10.at_) rfl (ea_cons ev_c ea_nil) fun H12 e12 => ⟨c.add p _ f0 f1 f2 f3, _, xs, _, none, rfl, (r10.mono e11).mono e12, fun h => (no fun row k r' a3 _ _ _ _ => by
      rw [hrr, q4, rowRest_comma] at a3
      cases q : numAt t4 with
      | none => rw [q] at a3; cases a3
      | some y => exact h ⟨y.1, y.2, q, fun m hm => by cases hm⟩).add, fun j t5 q5 _ n5 H13 r13 => ?_⟩
    have q5 : numAt t4 = some (j, t5) := q5
    obtain ⟨r14, hp14⟩ := r13.del
    have l5 := numAt_len q5
    refine ⟨p, acc.map V.int, .int j, rfl, rfl, hp14, Evl.sz_lt (by simp; omega), ?_⟩
    refine ⟨t5.length, by rw [← hm, q4]; simp; omega, n5, acc ++ [j], t5, ?_, ?_, ?_, rfl, by simp, by rw [q4] at hac; simp at hac ⊢; omega, rfl⟩
    · have := r14.mono (Ex.refl _)
      exact ⟨Ex.mut r14.ex f0, by rw [upd_ne (Ne.symm f1)]; exact r14.at_, by rw [upd_ne (Ne.symm f2)]; exact r14.told, Tps.mono ((Tk.refl H13).lst hp14) _ _ r14.tp, by rw [upd_ne (Ne.symm f3)]; exact r14.wait, r14.ts, r14.le⟩
    · rw [upd_same, List.map_append]
      rfl
    · rw [hrr, q4, rowRest_comma, q5]
  · have hb : ts'.head? ≠ some .comma := by simpa using hb
    have r8 := r7.mono e8
    have hp8 := e8 _ _ hp7
    have hrow : rowRest [i] t3 = some (acc, ts') := by rw [hrr, rowRest_stop hb]
    obtain ⟨acc0, lst, rfl⟩ : ∃ a l, acc = a ++ [l] := ⟨acc.dropLast, acc.getLast hne, (List.dropLast_concat_getLast hne).symm⟩
    refine q_need (b := decide ((acc0 ++ [lst]).length ≤ 17) && !decide (lst = 0)) (ea_cons (ev_is' (ev_andV (ev_op (Evl.ev_len (ev_var rfl) (Evl.sq_of hp8)) ev_c rv_I0) fun _ => ev_op (ev_op (ev_var rfl) (ev_un ev_c Evl.ru_neg) (Evl.rv_ixL (v := .int lst) (Evl.sq_of hp8) (by rw [List.map_append]; exact atI_last _ _))) ev_c (rv_ne rfl)) ?_) ea_nil) (fun hg H9 e9 => ?_) (fun hg H9 e9 => (r8.mono e9).fail (no fun row k r' a3 a4 a5 _ _ => by
      rw [hrow] at a3
      cases a3
      rw [decide_eq_true a4] at hg
      have : lst ≠ 0 := fun z => a5 (by rw [z]; simp)
      rw [decide_eq_false this] at hg
      cases hg))
    · congr 1
      congr 1
      · rw [List.length_map]
        exact decide_eq_decide.mpr (by omega)
      · congr 1
        exact decide_eq_decide.mpr ⟨fun h => by injection h, fun h => by rw [h]⟩
    · have hg : (acc0 ++ [lst]).length ≤ 17 ∧ lst ≠ 0 := by
        rw [Bool.and_eq_true] at hg
        exact ⟨of_decide_eq_true hg.1, by simpa using hg.2⟩
      have r9 := (r8.mono e9).add (h0 := f0) (h1 := f1) (h2 := f2) (h3 := f3) (e9 _ _ hp8)
      refine q_dropM (ev_var rfl) r9.at_ rfl (ea_cons ev_c ea_nil) fun H10 e10 => ⟨c.add p _ f0 f1 f2 f3, _, xs, _, [93], .rb, by rw [l_rb]; rfl, .rb, (fun _ h => nomatch h), r9.mono e10, fun h => (no fun row k r' a3 _ _ _ _ => by
        rw [hrow] at a3
        cases a3
        exact h ⟨_, rfl⟩).add, fun t4 q4 H11 r11 => ?_⟩
      have q4 : ts' = .rb :: t4 := q4
      refine q_dropM (ev_var rfl) r11.at_ rfl (ea_cons ev_c ea_nil) fun H12 e12 => ⟨c.add p _ f0 f1 f2 f3, _, xs, _, [44], .comma, by rw [l_comma]; rfl, .comma, (fun _ h => nomatch h), r11.mono e12, fun h => (no fun row k r' a3 _ _ _ _ => by
        rw [hrow, q4] at a3
        cases a3
        exact h ⟨_, rfl⟩).add, fun t5 q5 H13 r13 => ?_⟩
      have q5 : t4 = .comma :: t5 := q5
      refine q_asgM (ev_var rfl) r13.at_ rfl (ea_cons ev_c ea_nil) fun H14 e14 => ⟨c.add p _ f0 f1 f2 f3, _, xs, _, some 16, rfl, r13.mono e14, fun h => (no fun row k r' a3 _ _ _ a7 => by
        rw [hrow, q4, q5] at a3
        cases a3
        exact h ⟨_, _, rfl, fun m hm => by cases hm; exact a7⟩).add, fun pl t6 q6 hpl H15 r15 => ?_⟩
      have q6 : t5 = .num pl :: t6 := q6
      have hpl := hpl 16 rfl
      refine q_need (b := decide (0 < pl)) (ea_cons (ev_is' (ev_op (ev_var rfl) ev_c rv_I0) ?_) ea_nil) (fun hg2 H16 e16 => ?_) (fun hg2 H16 e16 => (r15.mono e16).del.1.fail (no fun row k r' a3 _ _ a6 _ => by
        rw [hrow, q4, q5, q6] at a3
        cases a3
        exact absurd a6 (by have := of_decide_eq_false hg2; omega)))
      · show V.bl (decide ((0 : Int) < (pl : Int))) = _
        congr 1
        exact decide_eq_decide.mpr (by omega)
      · have r16 := r15.mono e16
        refine q_dropM (ev_var rfl) r16.at_ rfl (ea_cons ev_c ea_nil) fun H17 e17 => ⟨c.add p _ f0 f1 f2 f3, _, xs, _, [41], .rp, by rw [l_rp]; rfl, .rp, (fun _ h => nomatch h), r16.mono e17, fun h => (no fun row k r' a3 _ _ _ _ => by
          rw [hrow, q4, q5, q6] at a3
          cases a3
          exact h ⟨_, rfl⟩).add, fun t7 q7 H18 r18 => ?_⟩
        have q7 : t6 = .rp :: t7 := q7
        obtain ⟨r19, hp19⟩ := r18.del
        refine st_app_raw (ev_told T (ev_var rfl) r19) r19.told fun H20 e20 => ?_
        have r20 := r19.mono e20
        refine ⟨_, rfl, p, _, rfl, Or.inl ⟨Evl.sq_of (e20 _ _ hp19), fun l hl => ?_⟩⟩
        refine ⟨_, rfl, Evl.sz_of (by simp), fun p2 hp2 => ?_⟩
        have r21 := (r20.mono (Ex.new (o := .tup ((acc0 ++ [lst]).map V.int)) hl)).mono (Ex.new (o := .tup [.str "root", .ref l, .int pl]) hp2)
        have hl2 : (upd (upd H20 l (.tup ((acc0 ++ [lst]).map V.int))) p2 (.tup [.str "root", .ref l, .int pl])) l = some (.tup ((acc0 ++ [lst]).map V.int)) := Ex.new hp2 _ _ upd_same
        refine ⟨c.lt, xs, .ref p2, rfl, rfl, r21.told, ?_, ?_⟩
        · refine Evl.sz_lt ?_
          rw [r21.tlen]
          show s.told.length < 100000
          omega
        · have tp : Tp (upd (upd H20 l (.tup ((acc0 ++ [lst]).map V.int))) p2 (.tup [.str "root", .ref l, .int pl])) (insD (.leaf (.root (acc0 ++ [lst]) pl))) (.ref p2) :=
            Tp.ofTup upd_same (Tps.cons (Tp.ofStr _) (Tps.cons (Tp.ofTup hl2 (Tps.ints _)) (Tps.one (Tp.ofInt _))))
          have root : rootAt s.ts = some ((acc0 ++ [lst], pl), t7) := by
            rw [q1, q2]
            unfold rootAt
            simp only [q3, hrow]
            rw [if_pos ⟨hg.1, by simp; exact hg.2⟩, q4, q5, q6, q7]
            simp only
            rw [if_pos ⟨of_decide_eq_true hg2, hpl⟩]
          exact k _ _ root _ _ _ (r21.push (i := .leaf (.root (acc0 ++ [lst]) pl)) tp)
end
end K83
end
section
set_option maxRecDepth 100000
set_option maxHeartbeats 4000000
namespace K83
open PySem PySem.Spec PyProof.Rows L2
open Evl (Ex Ev EvT EvA EvL EvU EvO RV RU RC ev_var ev_c ev_op ev_un ev_if ev_andV ev_orV ev_notV et_test et_B et_and et_or et_not ea_nil ea_cons ev_cb q_asg q_asgL q_asgU q_if q_when s_asg s_ret s_if s_when s_drop q_drop rv_I0 rv_I rv_eq rv_ne rv_val el_sl eo_none eo_some tCut pss_cut q_cut)
/-! ### what one step leaves -/
theorem done_sum (l : Nat) : ∀ (w : List Mark) (t : List Ins), (done l w t).1.length + (done l w t).2.length = w.length + t.length
  | [], t => rfl
  | m :: w, t => by
    unfold done
    split
    · rw [done_sum l w]
      simp
      omega
    · rfl
theorem done_opens (l : Nat) (hl : 1 ≤ l) : ∀ (w : List Mark) (t : List Ins), opens (done l w t).1 = opens w
  | [], t => rfl
  | m :: w, t => by
    unfold done
    split
    · rename_i h
      rw [done_opens l hl w]
      cases m with
      | bin o => rfl
      | neg => rfl
      | opn x =>
        have : (Mark.opn x).level = 0 := rfl
        omega
    · rfl
theorem done1 : ∀ (w : List Mark) (t : List Ins), (done 1 w t).1 = [] ∨ ∃ m w', (done 1 w t).1 = .opn m :: w'
  | [], t => Or.inl rfl
  | m :: w, t => by
    unfold done
    split
    · exact done1 w _
    · rename_i h
      cases m with
      | bin o =>
        have := (lev_pos o).1
        exact absurd this h
      | neg => exact absurd (by decide) h
      | opn x => exact Or.inr ⟨x, w, rfl⟩
structure Pinv (s : RS) : Prop where
  deep : s.deep = opens s.waiting
  small : s.told.length + s.waiting.length + s.ts.length ≤ 200
theorem numAt_len2 {ts r : List Tok} {k : Int} (h : numAt ts = some (k, r)) : r.length < ts.length := numAt_len h
theorem operand_inv {s s' : RS} {b : Bool} (h : operand s = some (s', b)) (p : Pinv s) : Pinv s' ∧ s'.ts.length < s.ts.length := by
  have hs := p.small
  have hd := p.deep
  unfold operand at h
  split at h
  · rename_i r e
    rw [e] at hs
    split at h
    · cases h
      refine ⟨⟨hd, ?_⟩, ?_⟩
      · simp at hs ⊢
        omega
      · rw [e]
        simp
    · cases h
  · rename_i r e
    rw [e] at hs
    split at h
    · cases h
      refine ⟨⟨?_, ?_⟩, ?_⟩
      · show s.deep + 1 = opens (.opn none :: s.waiting)
        rw [hd]
        rfl
      · simp at hs ⊢
        omega
      · rw [e]
        simp
    · cases h
  · rename_i n r e
    rw [e] at hs
    cases h
    refine ⟨⟨hd, ?_⟩, ?_⟩
    · simp at hs ⊢
      omega
    · rw [e]
      simp
  · rename_i m r e
    rw [e] at hs
    split at h
    · cases h
      refine ⟨⟨?_, ?_⟩, ?_⟩
      · show s.deep + 1 = opens (.opn (some m) :: s.waiting)
        rw [hd]
        rfl
      · simp at hs ⊢
        omega
      · rw [e]
        simp
        omega
    · cases h
  · rename_i r e
    rw [e] at hs
    split at h
    · cases h
    · rename_i x r' h1
      cases h
      have := rootAt_len h1
      refine ⟨⟨hd, ?_⟩, ?_⟩
      · simp at hs ⊢
        omega
      · rw [e]
        simp
        omega
  · rename_i v r e
    rw [e] at hs
    cases h
    refine ⟨⟨hd, ?_⟩, ?_⟩
    · simp at hs ⊢
      omega
    · rw [e]
      simp
  · cases h
theorem behind_inv {s s' : RS} {b : Bool} (h : behind s = some (s', b)) (p : Pinv s) : Pinv s' ∧ s'.ts.length < s.ts.length := by
  have hs := p.small
  have hd := p.deep
  unfold behind at h
  split at h
  · rename_i r e
    rw [e] at hs
    split at h
    · split at h
      · cases h
      · rename_i k r' h1
        split at h
        · cases h
          have := numAt_len h1
          refine ⟨⟨hd, ?_⟩, ?_⟩
          · simp at hs ⊢
            omega
          · rw [e]
            simp
            omega
        · cases h
    · cases h
  · rename_i r e
    rw [e] at hs
    split at h
    · rename_i m w' h1
      cases h
      have a := done_sum 1 s.waiting s.told
      have o := done_opens 1 (by decide) s.waiting s.told
      rw [h1] at a o
      have o2 : opens (.opn m :: w') = opens w' + 1 := rfl
      have cl : (closeIns m).length ≤ 1 := by cases m <;> simp [closeIns]
      refine ⟨⟨?_, ?_⟩, ?_⟩
      · show s.deep - 1 = opens w'
        omega
      · simp at hs a ⊢
        omega
      · rw [e]
        simp
    · cases h
  · rename_i o r e
    rw [e] at hs
    cases h
    have a := done_sum o.lev s.waiting s.told
    have o1 := done_opens o.lev (lev_pos o).1 s.waiting s.told
    refine ⟨⟨?_, ?_⟩, ?_⟩
    · show s.deep = opens (.bin o :: (done o.lev s.waiting s.told).1)
      rw [hd, ← o1]
      rfl
    · simp at hs a ⊢
      omega
    · rw [e]
      simp
  · cases h
/-! ### words and what they are -/
theorem l_sqrtS : V.str (rtS .sqrt) = wV wSqrt := by
  show V.str "sqrt" = _
  rw [l_sqrt]
theorem l_cbrtS : V.str (rtS .cbrt) = wV wCbrt := by
  show V.str "cbrt" = _
  rw [l_cbrt]
theorem WV.nameS {w : List Nat} {v : Str} (h : WV w (.name v)) : v = mkS w := by
  generalize e : Tok.name v = t at h
  cases h <;> first | (injection e) | cases e
theorem WV.rtS {w : List Nat} {m : Rt} (h : WV w (.rt m)) : V.str (rtS m) = wV w := by
  cases h
  · exact l_sqrtS
  · exact l_cbrtS
theorem inV_roots (l : List Nat) : inV (wV l) [.str "sqrt", .str "cbrt"] = (decide (l = wSqrt) || decide (l = wCbrt)) := by
  have e : ∀ (z : Str) (b : List Nat), z = mkS b → eqV (.str z) (.str (mkS l)) = decide (l = b) := by
    intro z b h
    subst h
    show (mkS b == mkS l) = decide (l = b)
    by_cases q : l = b
    · subst q
      simp
    · rw [decide_eq_false q]
      exact beq_eq_false_iff_ne.mpr fun z => q (mkS_inj z).symm
  show (eqV (.str "sqrt") _ || (eqV (.str "cbrt") _ || false)) = _
  rw [e _ _ l_sqrt, e _ _ l_cbrt, Bool.or_false]
def isRtH : List Tok → Bool
  | .rt _ :: _ => true
  | _ => false
def isNameH : List Tok → Bool
  | .name _ :: _ => true
  | _ => false
def isNumH : List Tok → Bool
  | .num _ :: _ => true
  | _ => false
section
variable {K : PySem.W.Frag} {c : RdC} {n : Nat} {xs : List V} {s : RS} {H : Hp}
theorem RAt.roots (r : RAt K c n xs s H) : inV (wV (nextW c n)) [.str "sqrt", .str "cbrt"] = isRtH s.ts := by
  rw [inV_roots]
  cases e : s.ts with
  | nil =>
    rw [(r.nil e).2]
    rfl
  | cons t rs =>
    obtain ⟨_, h2, _⟩ := r.cons e
    rw [h2.is .sqrt (fun _ h => nomatch h), h2.is .cbrt (fun _ h => nomatch h)]
    cases t <;> try rfl
    rename_i m
    cases m <;> rfl
theorem RAt.names (r : RAt K c n xs s H) : isNameL (nextW c n) = isNameH s.ts := by
  cases e : s.ts with
  | nil =>
    rw [(r.nil e).2]
    rfl
  | cons t rs =>
    obtain ⟨_, h2, _⟩ := r.cons e
    rw [h2.isName]
    cases t <;> rfl
theorem RAt.nums (r : RAt K c n xs s H) : isNumberL (nextW c n) = isNumH s.ts := by
  rw [r.isNum]
  rfl
end
def spOperand (K : PySem.W.Frag) : Sp := fun vs H Q E => ∃ c n xs s, vs = [.ref c.a] ∧ RAt K c n xs s H ∧ (operand s = none → Fails K c E) ∧ s.told.length + s.waiting.length ≤ 1000 ∧
  ∀ s' b, operand s = some (s', b) → ∀ n' xs' H', RAt K c n' xs' s' H' → Q (.bl b) H'
section
variable {P : Program} {w : World} {K : PySem.W.Frag} {mg : Str → Option Value} {base : Heap}
abbrev N_R_operand : List Str := ["self", "word"]
abbrev s_R_operand : Stmt := inClass (top 38) 8
theorem sc_R_operand : FnScope N_R_operand ["self"] (defScope s_R_operand) := ⟨rfl, rfl, rfl, by decide +kernel, rfl, by decide +kernel, by decide +kernel⟩
theorem ok_operand (T : Txt w K mg) (A : MetAt K "operand" "Reader.operand" s_R_operand) (D_need : DefOk P w K mg base (L2.CX P w) "need" 1 ["is_good"] (spNeed K)) (D_is_number : DefOk P w K mg base CX0 "is_number" 1 ["word"] (spB isNumberL)) (D_is_name : DefOk P w K mg base CX0 "is_name" 1 ["word"] (spB isNameL))
    (M_next_word : MetOk P w K mg base CX0 (cRd K) "next_word" 1 ["self"] (spNext K)) (M_take : MetOk P w K mg base (L2.CX P w) (cRd K) "take" 2 ["self", "word"] (spTake K))
    (M_number : MetOk P w K mg base (L2.CX P w) (cRd K) "number" 2 ["self", "most"] (spNumber K)) (M_opened : MetOk P w K mg base (L2.CX P w) (cRd K) "opened" 3 ["self", "mark"] (spOpened K))
    (M_minus : MetOk P w K mg base (L2.CX P w) (cRd K) "minus" 2 ["self"] (spMinus K)) (M_root : MetOk P w K mg base (L2.CX P w) (cRd K) "root" 4 ["self"] (spRoot K)) : MetOk P w K mg base (L2.CX P w) (cRd K) "operand" 5 ["self"] (spOperand K) := by
  refine mk_met A sc_R_operand (fun _ _ _ _ _ _ us hl => match us, hl with | [_], _ => rfl) (fun vs H Q E ⟨_, _, _, _, h, _⟩ => by rw [h]; rfl) (fun f cdv A outer s H vs Q E hr h => ?_)
  obtain ⟨c, n, xs, s, rfl, r, fl, hz, k⟩ := h
  obtain ⟨_, c_OPEN⟩ := T.c_OPEN
  refine ⟨_, (pss_cons (ps_set (i := 1) sc_R_operand.nd rfl (Or.inl rfl) (pe_met0 M_next_word (pv 0) T.cl (hr.mono (by decide)) pass0))
      (pss_cons (ps_if (pt_cmpR op_eq (pv 1) pe_str (nomark _)) (pss_cons (ps_expr (pe_met M_take (pv 0) T.cl (hr.mono (by decide)) (pass_on (takes_of rfl rfl rfl rfl)) (pa_cons (pv 1) pa_nil)))
      (pss_cons (ps_expr (pe_met0 M_minus (pv 0) T.cl (hr.mono (by decide)) (pass_on (takes_of rfl rfl rfl rfl))))
      (pss_one (ps_ret pe_bl)))) pss_nil)
      (pss_cons (ps_fld (pv 0) pe_int rfl)
      (pss_cons (ps_if (pt_cmpR op_eq (pv 1) (pe_gS c_OPEN) (nomark _)) (pss_cons (ps_expr (pe_met M_opened (pv 0) T.cl (hr.mono (by decide)) (pass_on (takes_of rfl rfl rfl rfl)) (pa_cons (pe_gS c_OPEN) pa_nil)))
      (pss_one (ps_ret pe_bl))) pss_nil)
      (pss_cons (ps_if (pt_val (pe_def D_is_number (hr.mono (by decide)) rfl pass0 (pa_cons (pv 1) pa_nil))) (pss_cons (ps_expr (pe_bm PySem.F.plainAttrs_list PySem.F.slot_list_append PySem.F.type_list_append mt_append (pe_fld (pv 0) rfl) (pa_cons (pe_tup (pa_cons pe_str (pa_cons (pe_met M_number (pv 0) T.cl (hr.mono (by decide)) (pass_on (takes_of rfl rfl rfl rfl)) (pa_cons pe_non pa_nil)) pa_nil))) pa_nil)))
      (pss_one (ps_ret pe_bl))) pss_nil)
      (pss_cons (ps_expr (pe_def D_need (hr.mono (by decide)) rfl (pass_on (takes_of rfl rfl rfl rfl)) (pa_cons (pe_or (pe_cmpR op_in_seq (pv 1) (pe_gR T.g_ROOTS) rfl) (pe_or (pe_cmpR op_eq (pv 1) pe_str (nomark _)) (pe_one (pe_def D_is_name (hr.mono (by decide)) rfl pass0 (pa_cons (pv 1) pa_nil))))) pa_nil)))
      (pss_cons (ps_expr (pe_met M_take (pv 0) T.cl (hr.mono (by decide)) (pass_on (takes_of rfl rfl rfl rfl)) (pa_cons (pv 1) pa_nil)))
      (pss_cons (ps_if (pt_cmpR op_in_seq (pv 1) (pe_gR T.g_ROOTS) rfl) (pss_cons (ps_expr (pe_met M_opened (pv 0) T.cl (hr.mono (by decide)) (pass_on (takes_of rfl rfl rfl rfl)) (pa_cons (pv 1) pa_nil)))
      (pss_one (ps_ret pe_bl))) pss_nil)
      (pss_cons (ps_if (pt_cmpR op_eq (pv 1) pe_str (nomark _)) (pss_one (ps_expr (pe_met0 M_root (pv 0) T.cl (hr.mono (by decide)) (pass_on (takes_of rfl rfl rfl rfl))))) (pss_one (ps_expr (pe_bm PySem.F.plainAttrs_list PySem.F.slot_list_append PySem.F.type_list_append mt_append (pe_fld (pv 0) rfl) (pa_cons (pe_tup (pa_cons pe_str (pa_cons (pv 1) pa_nil))) pa_nil)))))
      (pss_one (ps_ret pe_bl))))))))))), ?_⟩
  refine q_asg (ev_next (ev_var rfl) r) fun H1 e1 => ?_
  have r1 := r.mono e1
  refine q_when (Evl.et_is (et_test (ev_op (ev_var rfl) ev_c (rv_eq rfl))) (r1.next_is l_minus .less (fun _ h => nomatch h))) (fun hb H2 e2 => ?_) (fun hb1 H2 e2 => ?_)
  · have r2 := r1.mono e2
    refine q_dropM (ev_var rfl) r2.at_ rfl (ea_cons (ev_var rfl) ea_nil) fun H3 e3 => ?_
    have hb : s.ts.head? = some (.op .less) := of_decide_eq_true hb
    obtain ⟨rs, e⟩ : ∃ rs, s.ts = .op .less :: rs := by
      cases e : s.ts with
      | nil => rw [e] at hb; cases hb
      | cons t rs => rw [e] at hb; injection hb with hb; exact ⟨rs, by rw [hb]⟩
    refine ⟨c, n, xs, s, nextW c n, .op .less, rfl, (r2.cons e).2.1, (fun _ h => nomatch h), r2.mono e3, fun h => (h ⟨rs, e⟩).elim, fun rs' e' H4 r4 => ?_⟩
    rw [e] at e'
    injection e' with _ e'
    subst e'
    refine q_dropM (ev_var rfl) r4.at_ rfl ea_nil fun H5 e5 => ⟨c, _, xs, _, rfl, r4.mono e5, fun h => fl (by
      unfold operand
      rw [e]
      simp only
      rw [if_neg h]), by show s.waiting.length ≤ 1000; omega, fun hm H6 r6 => ?_⟩
    refine s_ret ev_c fun H7 e7 => k _ _ ?_ _ _ H7 (r6.mono e7)
    unfold operand
    rw [e]
    simp only
    rw [if_pos hm]
  · have hb1 : s.ts.head? ≠ some (.op .less) := of_decide_eq_false hb1
    have r2 := r1.mono e2
    refine q_fld ev_c (ev_var rfl) r2.at_ T.cl T.na_minuses fl_len fun H3 e3 => ?_
    have r3 := (r2.mono e3).fld (s' := { s with minuses := 0 }) (n' := n) rfl rfl r2.ts r2.le
    refine q_when (Evl.et_is (et_test (ev_op (ev_var rfl) ev_c (rv_eq rfl))) (r3.next_is l_lp .lp (fun _ h => nomatch h))) (fun hb H4 e4 => ?_) (fun hb2 H4 e4 => ?_)
    · have r4 := r3.mono e4
      refine q_dropM (ev_var rfl) r4.at_ rfl (ea_cons ev_c ea_nil) fun H5 e5 => ⟨c, n, xs, _, none, rfl, r4.mono e5, fun h => fl (by
        obtain ⟨rs, e⟩ : ∃ rs, s.ts = .lp :: rs := by
          have hb : s.ts.head? = some .lp := of_decide_eq_true hb
          cases e : s.ts with
          | nil => rw [e] at hb; cases hb
          | cons t rs => rw [e] at hb; injection hb with hb; exact ⟨rs, by rw [hb]⟩
        unfold operand
        rw [e]
        simp only
        rw [if_neg fun q => h ⟨rs, e, q⟩]), by show s.waiting.length ≤ 1000; omega, fun rs e hd H6 r6 => ?_⟩
      have e : s.ts = .lp :: rs := e
      refine s_ret ev_c fun H7 e7 => k _ _ ?_ _ _ H7 (r6.mono e7)
      unfold operand
      rw [e]
      simp only
      rw [if_pos hd]
    · have hb2 : s.ts.head? ≠ some .lp := of_decide_eq_false hb2
      have r4 := r3.mono e4
      refine q_when (b := isNumH s.ts) (Evl.et_is (et_B (ev_B (ev_var rfl) (nextW_len c n))) (by rw [r4.nums])) (fun hb H5 e5 => ?_) (fun hb3 H5 e5 => ?_)
      · have r5 := r4.mono e5
        refine q_app_raw (ev_told T (ev_var rfl) r5) r5.told fun H6 e6 => ?_
        have r6 := r5.mono e6
        refine meth_run (ev_var rfl) r6.at_ rfl (ea_cons ev_c ea_nil) fun H7 e7 => ⟨c, n, xs, _, none, rfl, r6.mono e7, fun h => (h (by
          cases e : s.ts with
          | nil => rw [e] at hb; cases hb
          | cons t rs =>
            rw [e] at hb
            cases t with
            | num k => exact ⟨k, rs, rfl, fun m hm => by cases hm⟩
            | _ => cases hb)).elim, fun i rs e _ H8 r8 => ?_⟩
        have e : s.ts = .num i :: rs := e
        refine ⟨Evl.sz_of (by simp), fun p hp => ?_⟩
        have r9 := r8.mono (Ex.new (o := .tup [.str "number", .int (i : Int)]) hp)
        refine ⟨c.lt, xs, .ref p, rfl, rfl, r9.told, ?_, ?_⟩
        · refine Evl.sz_lt ?_
          rw [r9.tlen]
          show s.told.length < 100000
          omega
        · have r10 := r9.push (i := .leaf (.num i)) (Tp.ofTup upd_same (Tps.cons (Tp.ofStr _) (Tps.one (Tp.ofInt _))))
          refine s_ret ev_c fun H11 e11 => k _ _ ?_ _ _ H11 (r10.mono e11)
          unfold operand
          rw [e]
      · have r5 := r4.mono e5
        refine q_need (b := isRtH s.ts || (decide (s.ts.head? = some .root) || isNameH s.ts)) (ea_cons (ev_is' (ev_orV (ev_op (ev_var rfl) ev_c (Evl.rv_isT (T.s_ROOTS _) rfl rfl)) fun _ => ev_orV (ev_op (ev_var rfl) ev_c (rv_eq rfl)) fun _ => ev_B (ev_var rfl) (nextW_len c n)) ?_) ea_nil) (fun hg H6 e6 => ?_) (fun hg H6 e6 => (r5.mono e6).fail (fl (by
          cases e : s.ts with
          | nil =>
            unfold operand
            rw [e]
          | cons t rs =>
            rw [e] at hg hb1 hb2 hb3
            cases t with
            | op o =>
              cases o with
              | less => exact absurd rfl hb1
              | _ =>
                unfold operand
                rw [e]
            | lp => exact absurd rfl hb2
            | num k => cases hb3
            | rt m => cases hg
            | root => simp [isRtH] at hg
            | name v => simp [isNameH] at hg
            | _ =>
              unfold operand
              rw [e])))
        · rw [r5.roots, r5.names, r5.next_is l_root .root (fun _ h => nomatch h)]
        · have r6 := r5.mono e6
          obtain ⟨t, rs, e, ht⟩ : ∃ t rs, s.ts = t :: rs ∧ ∀ k, t ≠ .num k := by
            cases e : s.ts with
            | nil => rw [e] at hg; cases hg
            | cons t rs =>
              refine ⟨t, rs, rfl, fun k h => ?_⟩
              rw [e, h] at hb3
              cases hb3
          refine q_dropM (ev_var rfl) r6.at_ rfl (ea_cons (ev_var rfl) ea_nil) fun H7 e7 => ⟨c, n, xs, _, nextW c n, t, rfl, (r6.cons e).2.1, ht, r6.mono e7, fun h => (h ⟨rs, e⟩).elim, fun rs' e' H8 r8 => ?_⟩
          have e' : s.ts = t :: rs' := e'
          rw [e] at e'
          injection e' with _ e'
          subst e'
          have rts := r6.roots
          have q2 := (r6.cons e).2.1
          refine q_when (b := isRtH s.ts) (Evl.et_is (et_test (ev_op (ev_var rfl) ev_c (Evl.rv_isT (T.s_ROOTS _) rfl rfl))) rts) (fun hm H9 e9 => ?_) (fun hm H9 e9 => ?_)
          · have r9 := r8.mono e9
            obtain ⟨m, rfl⟩ : ∃ m, t = .rt m := by
              rw [e] at hm
              cases t <;> first | exact ⟨_, rfl⟩ | cases hm
            refine q_dropM (ev_var rfl) r9.at_ rfl (ea_cons (ev_var rfl) ea_nil) fun H10 e10 => ⟨c, _, xs, _, some m, by rw [show V.str (markS (.opn (some m))) = wV (nextW c n) from q2.rtS]; rfl, r9.mono e10, fun h => fl (by
              cases rs with
              | nil =>
                unfold operand
                rw [e]
              | cons t2 rs2 =>
                cases t2 with
                | lp =>
                  unfold operand
                  rw [e]
                  simp only
                  rw [if_neg fun q => h ⟨rs2, rfl, q⟩]
                | _ =>
                  unfold operand
                  rw [e]), by show s.waiting.length ≤ 1000; omega, fun rs2 e2 hd H11 r11 => ?_⟩
            have e2 : rs = .lp :: rs2 := e2
            refine s_ret ev_c fun H12 e12 => k _ _ ?_ _ _ H12 (r11.mono e12)
            unfold operand
            rw [e, e2]
            simp only
            rw [if_pos hd]
          · have r9 := r8.mono e9
            have nr := r6.next_is l_root .root (fun _ h => nomatch h)
            refine q_if (b := decide (s.ts.head? = some .root)) (Evl.et_is (et_test (ev_op (ev_var rfl) ev_c (rv_eq rfl))) nr) (fun ho H10 e10 => ?_) (fun ho H10 e10 => ?_)
            · have r10 := r9.mono e10
              have ho : s.ts.head? = some .root := of_decide_eq_true ho
              obtain rfl : t = .root := by rw [e] at ho; injection ho
              refine st_dropM (ev_var rfl) r10.at_ rfl ea_nil fun H11 e11 => ⟨c, _, xs, _, rfl, r10.mono e11, fun h => fl (by
                have h : rootAt rs = none := h
                unfold operand
                rw [e]
                simp only [h]), by show s.told.length ≤ 2000; omega, fun x r' hx n' xs' H12 r12 => ?_⟩
              have hx : rootAt rs = some (x, r') := hx
              dsimp only
              refine s_ret ev_c fun H13 e13 => k _ _ ?_ _ _ H13 (r12.mono e13)
              unfold operand
              rw [e]
              simp only [hx]
            · have r10 := r9.mono e10
              have ho : s.ts.head? ≠ some .root := of_decide_eq_false ho
              obtain ⟨v, rfl⟩ : ∃ v, t = .name v := by
                rw [e] at hg hm ho
                cases t with
                | name v => exact ⟨v, rfl⟩
                | num k => exact absurd rfl (ht k)
                | root => exact absurd rfl ho
                | rt m => cases hm
                | _ => simp [isRtH, isNameH] at hg
              refine st_app_raw (ev_told T (ev_var rfl) r10) r10.told fun H11 e11 => ?_
              have r11 := r10.mono e11
              refine ⟨_, rfl, Evl.sz_of (by simp), fun p hp => ?_⟩
              have r12 := r11.mono (Ex.new (o := .tup [.str "name", wV (nextW c n)]) hp)
              refine ⟨c.lt, xs, .ref p, rfl, rfl, r12.told, ?_, ?_⟩
              · refine Evl.sz_lt ?_
                rw [r12.tlen]
                show s.told.length < 100000
                omega
              · have r13 := r12.push (i := .leaf (.name v)) (Tp.ofTup upd_same (Tps.cons (Tp.ofStr _) (Tps.one (by rw [q2.nameS]; exact Tp.ofStr _))))
                dsimp only
                refine s_ret ev_c fun H14 e14 => k _ _ ?_ _ _ H14 (r13.mono e14)
                unfold operand
                rw [e]
end
end K83
end
section
set_option maxRecDepth 100000
set_option maxHeartbeats 4000000
namespace K83
open PySem PySem.Spec PyProof.Rows L2
open Evl (Ex Ev EvT EvA EvL EvU EvO RV RU RC ev_var ev_c ev_op ev_un ev_if ev_andV ev_orV ev_notV et_test et_B et_and et_or et_not ea_nil ea_cons ev_cb q_asg q_asgL q_asgU q_if q_when s_asg s_ret s_if s_when s_drop q_drop rv_I0 rv_I rv_eq rv_ne rv_val el_sl eo_none eo_some tCut pss_cut q_cut)
def spClosed (K : PySem.W.Frag) : Sp := fun vs H Q E => ∃ c n xs s, vs = [.ref c.a] ∧ RAt K c n xs s H ∧ ((¬ ∃ r m w', s.ts = .rp :: r ∧ (done 1 s.waiting s.told).1 = .opn m :: w') → Fails K c E) ∧ s.told.length + s.waiting.length ≤ 1000 ∧ s.deep = opens s.waiting ∧
  ∀ r m w', s.ts = .rp :: r → (done 1 s.waiting s.told).1 = .opn m :: w' → ∀ n' xs' H', RAt K c n' xs' { s with ts := r, waiting := w', told := (done 1 s.waiting s.told).2 ++ closeIns m, deep := s.deep - 1, isBase := true } H' → Q .non H'
def spBehind (K : PySem.W.Frag) : Sp := fun vs H Q E => ∃ c n xs s, vs = [.ref c.a] ∧ RAt K c n xs s H ∧ (behind s = none → Fails K c E) ∧ s.told.length + s.waiting.length ≤ 1000 ∧ s.deep = opens s.waiting ∧
  ∀ s' b, behind s = some (s', b) → ∀ n' xs' H', RAt K c n' xs' s' H' → Q (.bl b) H'
theorem l_opn : V.str "(" = wV [40] := by rw [l_lp]
theorem inV_mark (m : Option Rt) : inV (.str (markS (.opn m))) [.str "sqrt", .str "cbrt"] = m.isSome := by
  match m with
  | none =>
    show inV (.str "(") _ = _
    rw [l_opn, inV_roots]
    decide
  | some .sqrt =>
    show inV (.str (rtS .sqrt)) _ = _
    rw [l_sqrtS, inV_roots]
    decide
  | some .cbrt =>
    show inV (.str (rtS .cbrt)) _ = _
    rw [l_cbrtS, inV_roots]
    decide
theorem bin_lookup {w : List Nat} {t : Tok} (h : WV w t) : binL.lookup (mkS w) = match t with | .op o => some (.str (opS o)) | _ => none := by
  have e : ∀ (z : Str) (b : List Nat), z = mkS b → (mkS w == z) = decide (w = b) := by
    intro z b hz
    subst hz
    by_cases q : w = b
    · subst q
      simp
    · rw [decide_eq_false q]
      exact beq_eq_false_iff_ne.mpr fun z => q (mkS_inj z)
  unfold binL
  rw [List.lookup, e _ _ l_plus, h.is .plus (fun _ h => nomatch h), List.lookup, e _ _ l_minus, h.is .less (fun _ h => nomatch h), List.lookup, e _ _ l_times, h.is .times (fun _ h => nomatch h), List.lookup, e _ _ l_over, h.is .over (fun _ h => nomatch h)]
  cases t with
  | op o => cases o <;> rfl
  | num k => rfl
  | name v => rfl
  | rt m => rfl
  | _ => rfl
theorem bin_empty : binL.lookup (mkS []) = none := by rw [← l_empty]; rfl
section
variable {K : PySem.W.Frag} {w : World} {mg : Str → Option Value} {σ : L2.St} {H : Hp} {te : TE} {a : Addr} {kvs : List (Str × V)} {z : Str} {v : V}
theorem kd_of (D : ∃ es n, KDict K w a es n) (S : Says K a kvs) (h : kvs.lookup z = some v) : KDct K w a z v := by
  obtain ⟨es, n, D⟩ := D
  obtain ⟨r, hr, hv⟩ := S z
  rw [h] at hv
  cases r with
  | none => exact hv.elim
  | some u => exact ⟨es, n, u, D.at_, D.lit, hr, hv⟩
theorem ev_kd (h : KDct K w a z v) (he : Ev te σ H (.str z)) : Ev (tOp (rIxD K w) (tC (.ref a)) te) σ H v := fun H1 e Q q => he H1 e _ fun H2 e2 => ⟨a, z, v, rfl, rfl, h, q H2 e2⟩
def rInKd (K : PySem.W.Frag) : R2 := fun x y H Q => ∃ (z : Str) (r : Option Value), x = .str z ∧ ∃ d, y = .ref d ∧ PySem.W.nsIn K d z = some r ∧ Q (.bl r.isSome) H
theorem says_some (S : Says K a kvs) (z : Str) : ∃ r, PySem.W.nsIn K a z = some r ∧ r.isSome = (kvs.lookup z).isSome := by
  obtain ⟨r, hr, hv⟩ := S z
  refine ⟨r, hr, ?_⟩
  cases r <;> cases e : kvs.lookup z <;> rw [e] at hv <;> first | rfl | exact hv.elim
end
def isOpH : List Tok → Bool
  | .op _ :: _ => true
  | _ => false
theorem RAt.bins {K : PySem.W.Frag} {c : RdC} {n : Nat} {xs : List V} {s : RS} {H : Hp} (r : RAt K c n xs s H) : (binL.lookup (mkS (nextW c n))).isSome = isOpH s.ts := by
  cases e : s.ts with
  | nil =>
    rw [(r.nil e).2, bin_empty]
    rfl
  | cons t rs =>
    obtain ⟨_, h2, _⟩ := r.cons e
    rw [bin_lookup h2]
    cases t <;> rfl
section
variable {P : Program} {w : World} {K : PySem.W.Frag} {mg : Str → Option Value} {base : Heap}
abbrev N_R_closed : List Str := ["self", "mark"]
abbrev s_R_closed : Stmt := inClass (top 38) 11
theorem sc_R_closed : FnScope N_R_closed ["self"] (defScope s_R_closed) := ⟨rfl, rfl, rfl, by decide +kernel, rfl, by decide +kernel, by decide +kernel⟩
theorem ok_closed (T : Txt w K mg) (A : MetAt K "closed" "Reader.closed" s_R_closed) (D_need : DefOk P w K mg base (L2.CX P w) "need" 1 ["is_good"] (spNeed K)) (M_take : MetOk P w K mg base (L2.CX P w) (cRd K) "take" 2 ["self", "word"] (spTake K))
    (M_done_down_to : MetOk P w K mg base CX0 (cRd K) "done_down_to" 1 ["self", "level"] (spDone K)) : MetOk P w K mg base (L2.CX P w) (cRd K) "closed" 3 ["self"] (spClosed K) := by
  refine mk_met A sc_R_closed (fun _ _ _ _ _ _ us hl => match us, hl with | [_], _ => rfl) (fun vs H Q E ⟨_, _, _, _, h, _⟩ => by rw [h]; rfl) (fun f cdv A outer s H vs Q E hr h => ?_)
  obtain ⟨c, n, xs, s, rfl, r, fl, hz, hd, k⟩ := h
  refine ⟨_, (pss_cons (ps_expr (pe_met M_take (pv 0) T.cl (hr.mono (by decide)) (pass_on (takes_of rfl rfl rfl rfl)) (pa_cons pe_str pa_nil)))
      (pss_cons (ps_expr (pe_met M_done_down_to (pv 0) T.cl (hr.mono (by decide)) pass0 (pa_cons pe_int pa_nil)))
      (pss_cons (ps_expr (pe_def D_need (hr.mono (by decide)) rfl (pass_on (takes_of rfl rfl rfl rfl)) (pa_cons (pe_cmpR (op_neX hr.units) (pe_fld (pv 0) rfl) (pe_lst pa_nil) (nomark _)) pa_nil)))
      (pss_cons (ps_set (i := 1) sc_R_closed.nd rfl (Or.inl rfl) (pe_bm0 PySem.F.plainAttrs_list PySem.F.slot_list_pop PySem.F.type_list_pop mt_pop (pe_fld (pv 0) rfl)))
      (pss_cons (ps_fld (pv 0) (pe_op op_sub (pe_fld (pv 0) rfl) pe_int) rfl)
      (pss_cons (ps_if (pt_cmpR op_in_seq (pv 1) (pe_gR T.g_ROOTS) rfl) (pss_one (ps_expr (pe_bm PySem.F.plainAttrs_list PySem.F.slot_list_append PySem.F.type_list_append mt_append (pe_fld (pv 0) rfl) (pa_cons (pe_tup (pa_cons (pv 1) pa_nil)) pa_nil)))) pss_nil)
      (pss_one (ps_fld (pv 0) pe_bl rfl)))))))), ?_⟩
  refine q_dropM (ev_var rfl) r.at_ rfl (ea_cons ev_c ea_nil) fun H1 e1 => ⟨c, n, xs, s, [41], .rp, by rw [l_rp]; rfl, .rp, (fun _ h => nomatch h), r.mono e1, fun h => fl fun ⟨r', _, _, e', _⟩ => h ⟨r', e'⟩, fun rs e H2 r2 => ?_⟩
  refine q_dropM (ev_var rfl) r2.at_ rfl (ea_cons ev_c ea_nil) fun H3 e3 => ⟨c, n + 1, xs, _, 1, rfl, r2.mono e3, by show s.told.length + s.waiting.length ≤ 2000; omega, fun xs4 H4 r4 => ?_⟩
  have r4 : RAt K c (n + 1) xs4 { s with ts := rs, waiting := (done 1 s.waiting s.told).1, told := (done 1 s.waiting s.told).2 } H4 := r4
  have ds := done_sum 1 s.waiting s.told
  have dop := done_opens 1 (by decide) s.waiting s.told
  rcases done1 s.waiting s.told with h0 | ⟨m, w', h0⟩
  · exact q_need (b := false) (ea_cons (ev_is' (ev_wait T (ev_var rfl) r4) (by show V.bl (!(done 1 s.waiting s.told).1.isEmpty) = _; rw [h0]; rfl)) ea_nil) (fun h => by cases h) (fun _ H5 e5 => (r4.mono e5).fail (fl fun ⟨_, _, _, _, q⟩ => by rw [h0] at q; cases q))
  · refine q_need (b := true) (ea_cons (ev_is' (ev_wait T (ev_var rfl) r4) (by show V.bl (!(done 1 s.waiting s.told).1.isEmpty) = _; rw [h0]; rfl)) ea_nil) (fun _ H5 e5 => ?_) (fun h => by cases h)
    have r5 := r4.mono e5
    have hw := r5.wait
    rw [show ({ s with ts := rs, waiting := (done 1 s.waiting s.told).1, told := (done 1 s.waiting s.told).2 } : RS).waiting = .opn m :: w' from h0, qV_cons] at hw
    refine pop_run (ev_waiting T (ev_var rfl) r5) hw fun H6 e6 => ?_
    have r6 := (r5.mono e6).wset (w := w')
    rw [h0] at dop
    have o2 : opens (.opn m :: w') = opens w' + 1 := rfl
    have hd1 : 1 ≤ s.deep := by omega
    refine q_fld (ev_op (ev_deep T (ev_var rfl) r6) ev_c rv_I0) (ev_var rfl) r6.at_ T.cl T.na_deep fl_len fun H7 e7 => ?_
    have ed : (s.deep : Int) - 1 = ((s.deep - 1 : Nat) : Int) := by omega
    have r7 := (r6.mono e7).fld (s' := { s with ts := rs, waiting := w', told := (done 1 s.waiting s.told).2, deep := s.deep - 1 }) (n' := n + 1) rfl rfl r6.ts r6.le
    have eh : (upd H7 c.a (.ins (cRd K) c.dx (putF "deep" (.int ((s.deep : Int) - 1)) (flds c (n + 1) { s with ts := rs, waiting := w', told := (done 1 s.waiting s.told).2 })))) =
        upd H7 c.a (.ins (cRd K) c.dx (flds c (n + 1) { s with ts := rs, waiting := w', told := (done 1 s.waiting s.told).2, deep := s.deep - 1 })) := by
      rw [ed]
      rfl
    have goal : ∀ H, H = upd H7 c.a (.ins (cRd K) c.dx (flds c (n + 1) { s with ts := rs, waiting := w', told := (done 1 s.waiting s.told).2, deep := s.deep - 1 })) →
        tSeq (tIfS (tTest (tOp (rIn K false) (tVar 1) (tC (.ref (He.ga K "ROOTS"))))) (tDrop (tBM K "list" rAppend (tFld K (tVar 0) "told") (tCons (tTup (tCons (tVar 1) tNil)) tNil))) tNext) (sFld K (tVar 0) (tC (.bl true)) "is_base")
          { nx := fun _ H' => Q .non H', rt := Q } [some (.ref c.a), some (.str (markS (.opn m)))] H := by
      intro H eH
      subst eH
      have last : ∀ xs' H8 H9, RAt K c (n + 1) xs' { s with ts := rs, waiting := w', told := (done 1 s.waiting s.told).2 ++ closeIns m, deep := s.deep - 1 } H8 → Ex H8 H9 → sFld K (tVar 0) (tC (.bl true)) "is_base" { nx := fun _ H' => Q .non H', rt := Q } [some (.ref c.a), some (.str (markS (.opn m)))] H9 := by
        intro xs' H8 H9 r8 e9
        have r9 := r8.mono e9
        refine st_fld ev_c (ev_var rfl) r9.at_ T.cl T.na_is_base fl_len fun H10 e10 => ?_
        exact k rs m w' e h0 _ _ _ ((r9.mono e10).fld (s' := { s with ts := rs, waiting := w', told := (done 1 s.waiting s.told).2 ++ closeIns m, deep := s.deep - 1, isBase := true }) (n' := n + 1) rfl rfl r9.ts r9.le)
      refine q_when (Evl.et_is (et_test (ev_op (ev_var rfl) ev_c (Evl.rv_isT (T.s_ROOTS _) rfl rfl))) (inV_mark m)) (fun hb H8 e8 => ?_) (fun hb H8 e8 => ?_)
      · obtain ⟨mm, rfl⟩ := Option.isSome_iff_exists.mp hb
        have r8 := r7.mono e8
        refine st_app_raw (ev_told T (ev_var rfl) r8) r8.told fun H9 e9 => ?_
        have r9 := r8.mono e9
        refine ⟨_, rfl, Evl.sz_of (by simp), fun p hp => ?_⟩
        have r10 := r9.mono (Ex.new (o := .tup [.str (markS (.opn (some mm)))]) hp)
        refine ⟨c.lt, xs4, .ref p, rfl, rfl, r10.told, ?_, ?_⟩
        · refine Evl.sz_lt ?_
          rw [r10.tlen]
          show (done 1 s.waiting s.told).2.length < 100000
          omega
        · exact last _ _ _ (r10.push (i := .mk (.opn (some mm))) (Tp.ofTup upd_same (Tps.one (Tp.ofStr _)))) (Ex.refl _)
      · have : m = none := by
          cases m with
          | none => rfl
          | some _ => cases hb
        subst this
        refine last xs4 _ H8 ?_ e8
        have ea : (done 1 s.waiting s.told).2 ++ closeIns none = (done 1 s.waiting s.told).2 := List.append_nil _
        rw [ea]
        exact r7
    exact goal _ eh
abbrev N_R_behind : List Str := ["self", "word"]
abbrev s_R_behind : Stmt := inClass (top 38) 12
theorem sc_R_behind : FnScope N_R_behind ["self"] (defScope s_R_behind) := ⟨rfl, rfl, rfl, by decide +kernel, rfl, by decide +kernel, by decide +kernel⟩
theorem opS_mark (o : Op) : opS o = markS (.bin o) := rfl
theorem ok_behind (T : Txt w K mg) (A : MetAt K "behind" "Reader.behind" s_R_behind) (D_need : DefOk P w K mg base (L2.CX P w) "need" 1 ["is_good"] (spNeed K)) (M_next_word : MetOk P w K mg base CX0 (cRd K) "next_word" 1 ["self"] (spNext K)) (M_take : MetOk P w K mg base (L2.CX P w) (cRd K) "take" 2 ["self", "word"] (spTake K))
    (M_power : MetOk P w K mg base (L2.CX P w) (cRd K) "power" 4 ["self"] (spPower K)) (M_closed : MetOk P w K mg base (L2.CX P w) (cRd K) "closed" 3 ["self"] (spClosed K))
    (M_done_down_to : MetOk P w K mg base CX0 (cRd K) "done_down_to" 1 ["self", "level"] (spDone K)) : MetOk P w K mg base (L2.CX P w) (cRd K) "behind" 5 ["self"] (spBehind K) := by
  refine mk_met A sc_R_behind (fun _ _ _ _ _ _ us hl => match us, hl with | [_], _ => rfl) (fun vs H Q E ⟨_, _, _, _, h, _⟩ => by rw [h]; rfl) (fun f cdv A outer s H vs Q E hr h => ?_)
  obtain ⟨c, n, xs, s, rfl, r, fl, hz, hd, k⟩ := h
  obtain ⟨_, _, kd_BINARY⟩ := T.k_BINARY
  refine ⟨_, (pss_cons (ps_set (i := 1) sc_R_behind.nd rfl (Or.inl rfl) (pe_met0 M_next_word (pv 0) T.cl (hr.mono (by decide)) pass0))
      (pss_cons (ps_if (pt_cmpR op_eq (pv 1) pe_str (nomark _)) (pss_cons (ps_expr (pe_met0 M_power (pv 0) T.cl (hr.mono (by decide)) (pass_on (takes_of rfl rfl rfl rfl))))
      (pss_one (ps_ret pe_bl))) pss_nil)
      (pss_cons (ps_if (pt_cmpR op_eq (pv 1) pe_str (nomark _)) (pss_cons (ps_expr (pe_met0 M_closed (pv 0) T.cl (hr.mono (by decide)) (pass_on (takes_of rfl rfl rfl rfl))))
      (pss_one (ps_ret pe_bl))) pss_nil)
      (pss_cons (ps_expr (pe_def D_need (hr.mono (by decide)) rfl (pass_on (takes_of rfl rfl rfl rfl)) (pa_cons (pe_cmpR (op_in_kd kd_BINARY) (pv 1) (pe_gR T.g_BINARY) rfl) pa_nil)))
      (pss_cons (ps_expr (pe_met M_take (pv 0) T.cl (hr.mono (by decide)) (pass_on (takes_of rfl rfl rfl rfl)) (pa_cons (pv 1) pa_nil)))
      (pss_cons (ps_expr (pe_met M_done_down_to (pv 0) T.cl (hr.mono (by decide)) pass0 (pa_cons (pe_ix ix_kdict (pe_gR T.g_LEVELS) (pe_ix ix_kdict (pe_gR T.g_BINARY) (pv 1) (fun _ _ => rfl)) (fun _ _ => rfl)) pa_nil)))
      (pss_cons (ps_expr (pe_bm PySem.F.plainAttrs_list PySem.F.slot_list_append PySem.F.type_list_append mt_append (pe_fld (pv 0) rfl) (pa_cons (pe_ix ix_kdict (pe_gR T.g_BINARY) (pv 1) (fun _ _ => rfl)) pa_nil)))
      (pss_one (ps_ret pe_bl))))))))), ?_⟩
  refine q_asg (ev_next (ev_var rfl) r) fun H1 e1 => ?_
  have r1 := r.mono e1
  refine q_when (Evl.et_is (et_test (ev_op (ev_var rfl) ev_c (rv_eq rfl))) (r1.next_is l_hat .hat (fun _ h => nomatch h))) (fun hb H2 e2 => ?_) (fun hb1 H2 e2 => ?_)
  · have r2 := r1.mono e2
    refine q_dropM (ev_var rfl) r2.at_ rfl ea_nil fun H3 e3 => ⟨c, n, xs, s, rfl, r2.mono e3, fun h => fl (by
      cases q : behind s with
      | none => rfl
      | some y =>
        refine (h ?_).elim
        have hb : s.ts.head? = some .hat := of_decide_eq_true hb
        unfold behind at q
        split at q
        · rename_i r' e'
          split at q
          · rename_i h1
            split at q
            · cases q
            · rename_i k' r'' h2
              split at q
              · rename_i h3
                exact ⟨r', k', r'', h1, e', h2, h3⟩
              · cases q
          · cases q
        · rename_i e'
          rw [e'] at hb
          cases hb
        · rename_i e'
          rw [e'] at hb
          cases hb
        · cases q), by omega, fun rs i rs' hib e hn hi n' xs' H4 r4 => ?_⟩
    refine s_ret ev_c fun H5 e5 => k _ _ ?_ _ _ H5 (r4.mono e5)
    unfold behind
    rw [e]
    simp only [hib, hn, if_true, hi]
  · have hb1 : s.ts.head? ≠ some .hat := of_decide_eq_false hb1
    have r2 := r1.mono e2
    refine q_when (Evl.et_is (et_test (ev_op (ev_var rfl) ev_c (rv_eq rfl))) (r2.next_is l_rp .rp (fun _ h => nomatch h))) (fun hb H3 e3 => ?_) (fun hb2 H3 e3 => ?_)
    · have r3 := r2.mono e3
      refine q_dropM (ev_var rfl) r3.at_ rfl ea_nil fun H4 e4 => ⟨c, n, xs, s, rfl, r3.mono e4, fun h => fl (by
        cases q : behind s with
        | none => rfl
        | some y =>
          refine (h ?_).elim
          have hb : s.ts.head? = some .rp := of_decide_eq_true hb
          unfold behind at q
          split at q
          · rename_i e'
            rw [e'] at hb
            cases hb
          · rename_i r' e'
            split at q
            · rename_i m w' h1
              exact ⟨r', m, w', e', h1⟩
            · cases q
          · rename_i e'
            rw [e'] at hb
            cases hb
          · cases q), hz, hd, fun rs m w' e hdn n' xs' H5 r5 => ?_⟩
      refine s_ret ev_c fun H6 e6 => k _ _ ?_ _ _ H6 (r5.mono e6)
      unfold behind
      rw [e]
      simp only [hdn]
    · have r3 := r2.mono e3
      refine q_need (b := isOpH s.ts) (ea_cons (ev_op (ev_var rfl) ev_c fun H4 e4 Q q => ?_) ea_nil) (fun hg H4 e4 => ?_) (fun hg H4 e4 => (r3.mono e4).fail (fl (by
        have hb2 : s.ts.head? ≠ some .rp := of_decide_eq_false hb2
        cases q : behind s with
        | none => rfl
        | some y =>
          unfold behind at q
          split at q
          · rename_i e'
            rw [e'] at hb1
            exact absurd rfl hb1
          · rename_i e'
            rw [e'] at hb2
            exact absurd rfl hb2
          · rename_i e'
            rw [e'] at hg
            cases hg
          · cases q)))
      · obtain ⟨rr, h1, h2⟩ := says_some T.v_BINARY (mkS (nextW c n))
        refine ⟨_, rr, rfl, rfl, h1, ?_⟩
        rw [h2, r3.bins]
        exact q H4 (Ex.refl _)
      · have r4 := r3.mono e4
        obtain ⟨o, rs, e⟩ : ∃ o rs, s.ts = .op o :: rs := by
          cases e : s.ts with
          | nil => rw [e] at hg; cases hg
          | cons t rs =>
            rw [e] at hg
            cases t <;> first | exact ⟨_, rs, rfl⟩ | cases hg
        have q2 := (r4.cons e).2.1
        have kb : KDct K w (He.ga K "BINARY") (mkS (nextW c n)) (.str (opS o)) := kd_of T.k_BINARY T.v_BINARY (by rw [bin_lookup q2])
        have kl : KDct K w (He.ga K "LEVELS") (opS o) (.int (o.lev : Int)) := kd_of T.k_LEVELS T.v_LEVELS (by
          rw [opS_mark, lev_lookup, if_neg]
          · rfl
          · have := (lev_pos o).1
            show ¬ o.lev = 0
            omega)
        refine q_dropM (ev_var rfl) r4.at_ rfl (ea_cons (ev_var rfl) ea_nil) fun H5 e5 => ⟨c, n, xs, s, nextW c n, .op o, rfl, q2, (fun _ h => nomatch h), r4.mono e5, fun h => (h ⟨rs, e⟩).elim, fun rs' e' H6 r6 => ?_⟩
        rw [e] at e'
        injection e' with _ e'
        subst e'
        refine q_dropM (ev_var rfl) r6.at_ rfl (ea_cons (ev_kd kl (ev_kd kb (ev_var rfl))) ea_nil) fun H7 e7 => ⟨c, n + 1, xs, _, o.lev, rfl, r6.mono e7, by show s.told.length + s.waiting.length ≤ 2000; omega, fun xs8 H8 r8 => ?_⟩
        have ds := done_sum o.lev s.waiting s.told
        refine q_app_raw (ev_waiting T (ev_var rfl) r8) r8.wait fun H9 e9 => ?_
        refine (ev_kd kb (ev_var rfl)) H9 (Ex.refl _) _ fun H10 e10 => ?_
        have r10 := (r8.mono e9).mono e10
        refine ⟨c.lq, _, .str (opS o), rfl, rfl, r10.wait, ?_, ?_⟩
        · refine Evl.sz_lt ?_
          rw [qV_len]
          show (done o.lev s.waiting s.told).1.length < 100000
          omega
        · have r11 := r10.wset (w := .bin o :: (done o.lev s.waiting s.told).1)
          rw [qV_cons] at r11
          refine s_ret ev_c fun H12 e12 => k _ _ ?_ _ _ H12 (r11.mono e12)
          unfold behind
          rw [e]
end
end K83
end
section
set_option maxRecDepth 100000
set_option maxHeartbeats 4000000
namespace K83
open PySem PySem.Spec PyProof.Rows L2
open Evl (Ex Ev EvT EvA EvL EvU EvO RV RU RC ev_var ev_c ev_op ev_un ev_if ev_andV ev_orV ev_notV et_test et_B et_and et_or et_not ea_nil ea_cons ev_cb q_asg q_asgL q_asgU q_if q_when s_asg s_ret s_if s_when s_drop q_drop rv_I0 rv_I rv_eq rv_ne rv_val el_sl eo_none eo_some tCut pss_cut q_cut)
/-! ### what is told first hand -/
def leafP : Xp → Bool
  | .num _ => true
  | .name _ => true
  | .root _ _ => true
  | _ => false
def insP : Ins → Bool
  | .leaf e => leafP e
  | _ => true
theorem done_plain (l : Nat) : ∀ (w : List Mark) (t : List Ins), t.all insP = true → (done l w t).2.all insP = true
  | [], t, h => h
  | m :: w, t, h => by
    unfold done
    split
    · refine done_plain l w _ ?_
      rw [List.all_append, h]
      rfl
    · exact h
theorem operand_plain {s s' : RS} {b : Bool} (h : operand s = some (s', b)) (p : s.told.all insP = true) : s'.told.all insP = true := by
  unfold operand at h
  split at h
  · split at h
    · cases h; exact p
    · cases h
  · split at h
    · cases h; exact p
    · cases h
  · cases h
    show (s.told ++ [_]).all insP = true
    rw [List.all_append, p]; rfl
  · split at h
    · cases h; exact p
    · cases h
  · split at h
    · cases h
    · cases h
      show (s.told ++ [_]).all insP = true
      rw [List.all_append, p]; rfl
  · cases h
    show (s.told ++ [_]).all insP = true
    rw [List.all_append, p]; rfl
  · cases h
theorem behind_plain {s s' : RS} {b : Bool} (h : behind s = some (s', b)) (p : s.told.all insP = true) : s'.told.all insP = true := by
  unfold behind at h
  split at h
  · split at h
    · split at h
      · cases h
      · split at h
        · cases h
          show (s.told ++ [_]).all insP = true
          rw [List.all_append, p]; rfl
        · cases h
    · cases h
  · split at h
    · rename_i m w' h1
      cases h
      show ((done 1 s.waiting s.told).2 ++ closeIns m).all insP = true
      rw [List.all_append, done_plain 1 _ _ p]
      cases m <;> rfl
    · cases h
  · cases h
    exact done_plain _ _ _ p
  · cases h
theorem progF_want (f : Nat) (s : RS) : progF (f + 1) true s = match operand s with | none => none | some (s', b) => progF f (!b) { s' with isBase := b } := rfl
theorem progF_rest (f : Nat) (s : RS) : progF (f + 1) false s = if s.ts = [] then (match (done 1 s.waiting s.told).1 with | [] => some (done 1 s.waiting s.told).2 | _ => none) else (match behind s with | none => none | some (s', b) => progF f b s') := rfl
def spAll (K : PySem.W.Frag) : Sp := fun vs H Q E => ∃ c xs, vs = [.ref c.a] ∧ RAt K c 0 xs ⟨c.ws.map tokOf, [], [], 0, 0, false⟩ H ∧ (prog (c.ws.map tokOf) = none → Fails K c E) ∧
  ∀ told, prog (c.ws.map tokOf) = some told → told.all insP = true → told.length ≤ 200 → ∀ xs' H', Ex c.H0 H' → H' c.lt = some (.lst xs') → Tps H' (told.map insD) xs' → Q (.ref c.lt) H'
def spInit (K : PySem.W.Frag) : Sp := fun vs H Q _ => ∃ H0 x dx lw ws, vs = [.ref x, .ref lw] ∧ Wds ws ∧ H0 lw = some (.lst (ws.map wV)) ∧ H0 x = none ∧ H0 dx = none ∧ dx ≠ x ∧ H = upd (upd H0 dx (.own x)) x (.ins (cRd K) dx []) ∧
  ∀ (c : RdC) (xs : List V) H', c.a = x → c.H0 = H0 → c.ws = ws → RAt K c 0 xs ⟨ws.map tokOf, [], [], 0, 0, false⟩ H' → Q .non H'
def spGrown (K : PySem.W.Frag) : Sp := fun vs H Q _ => ∃ l xs told e, vs = [.ref l] ∧ H l = some (.lst xs) ∧ Tps H (told.map insD) xs ∧ exec told [] = some [e] ∧ told.all insP = true ∧ told.length ≤ 200 ∧ ∀ v H', Ex H H' → Tp H' (xpD e) v → Q v H'
section
variable {P : Program} {w : World} {K : PySem.W.Frag} {mg : Str → Option Value} {base : Heap}
abbrev N_R_all_items : List Str := ["self", "is_wanted"]
abbrev s_R_all_items : Stmt := inClass (top 38) 13
theorem sc_R_all_items : FnScope N_R_all_items ["self"] (defScope s_R_all_items) := ⟨rfl, rfl, rfl, by decide +kernel, rfl, by decide +kernel, by decide +kernel⟩
theorem ok_all_items (T : Txt w K mg) (A : MetAt K "all_items" "Reader.all_items" s_R_all_items) (D_need : DefOk P w K mg base (L2.CX P w) "need" 1 ["is_good"] (spNeed K))
    (M_operand : MetOk P w K mg base (L2.CX P w) (cRd K) "operand" 5 ["self"] (spOperand K)) (M_behind : MetOk P w K mg base (L2.CX P w) (cRd K) "behind" 5 ["self"] (spBehind K))
    (M_done_down_to : MetOk P w K mg base CX0 (cRd K) "done_down_to" 1 ["self", "level"] (spDone K)) : MetOk P w K mg base (L2.CX P w) (cRd K) "all_items" 6 ["self"] (spAll K) := by
  refine mk_met A sc_R_all_items (fun _ _ _ _ _ _ us hl => match us, hl with | [_], _ => rfl) (fun vs H Q E ⟨_, _, h, _⟩ => by rw [h]; rfl) (fun f cdv A outer s H vs Q E hr h => ?_)
  obtain ⟨c, xs, rfl, r, fl, k⟩ := h
  refine ⟨_, (pss_cons (ps_set (i := 1) sc_R_all_items.nd rfl (Or.inl rfl) pe_bl)
      (pss_cons (ps_while (passes_of rfl) (PW.pt (pw_or (pt_val (pv 1)) (pw_or1 (pt_cmpR op_lt (pe_fld (pv 0) rfl) (pe_callB call_len_seq (by rfl) T.f_len PySem.boot_len (pa_cons (pe_fld (pv 0) rfl) pa_nil)) (nomark _))))) (pss_one (ps_if (pt_val (pv 1)) (pss_cons (ps_set (i := 1) sc_R_all_items.nd rfl (Or.inl rfl) (pe_not (pe_met0 M_operand (pv 0) T.cl (hr.mono (by decide)) (pass_on (takes_of rfl rfl rfl rfl)))))
      (pss_one (ps_fld (pv 0) (pe_not (pv 1)) rfl))) (pss_one (ps_set (i := 1) sc_R_all_items.nd rfl (Or.inl rfl) (pe_met0 M_behind (pv 0) T.cl (hr.mono (by decide)) (pass_on (takes_of rfl rfl rfl rfl))))))))
      (pss_cons (ps_expr (pe_met M_done_down_to (pv 0) T.cl (hr.mono (by decide)) pass0 (pa_cons pe_int pa_nil)))
      (pss_cons (ps_expr (pe_def D_need (hr.mono (by decide)) rfl (pass_on (takes_of rfl rfl rfl rfl)) (pa_cons (pe_cmpR (op_eqX hr.units) (pe_fld (pv 0) rfl) (pe_lst pa_nil) (nomark _)) pa_nil)))
      (pss_one (ps_ret (pe_fld (pv 0) rfl))))))), ?_⟩
  refine q_asg ev_c fun H1 e1 => ?_
  have len0 : (c.ws.map tokOf).length ≤ 200 := by rw [List.length_map]; exact c.wd.len
  refine Evl.q_while (fun m σ' H' => ∃ n' xs' s' b f, RAt K c n' xs' s' H' ∧ Pinv s' ∧ s'.told.all insP = true ∧ prog (c.ws.map tokOf) = progF f b s' ∧ s'.ts.length < f ∧ s'.ts.length = m ∧ σ' = [some (.ref c.a), some (.bl b)]) (c.ws.map tokOf).length
    ⟨0, xs, _, true, _, r.mono e1, ⟨rfl, by simpa using len0⟩, rfl, rfl, Nat.lt_succ_self _, rfl, rfl⟩ ?_
  rintro m σ' H' ⟨n', xs', s', b, f, r1, pi, pl, hp, hf, hm, rfl⟩
  have lt : decide ((n' : Int) < ((c.ws.map wV).length : Int)) = !s'.ts.isEmpty := by
    rw [List.length_map]
    cases e : s'.ts with
    | nil =>
      have := (r1.nil e).1
      exact decide_eq_false (by omega)
    | cons t rs =>
      have := (r1.cons e).1
      exact decide_eq_true (by omega)
  refine ⟨b || !s'.ts.isEmpty, Evl.et_is (et_or (et_B (ev_var rfl)) fun _ => et_test (ev_op (ev_at T (ev_var rfl) r1) (Evl.ev_len (ev_words T (ev_var rfl) r1) (Evl.sq_of r1.words)) rv_I0)) (by rw [lt]), fun hb H2 e2 => ?_, fun hb H2 e2 => ?_⟩
  · have r2 := r1.mono e2
    have sm : s'.told.length + s'.waiting.length ≤ 1000 := by have := pi.small; omega
    refine ⟨fun σ2 H2 => ∃ m', m' < m ∧ ∃ n' xs' s' b f, RAt K c n' xs' s' H2 ∧ Pinv s' ∧ s'.told.all insP = true ∧ prog (c.ws.map tokOf) = progF f b s' ∧ s'.ts.length < f ∧ s'.ts.length = m' ∧ σ2 = [some (.ref c.a), some (.bl b)], fun _ _ h => h, ?_⟩
    obtain ⟨f, rfl⟩ : ∃ g, f = g + 1 := ⟨f - 1, by omega⟩
    refine s_if (et_B (ev_var rfl)) (fun hw H3 e3 => ?_) (fun hw H3 e3 => ?_)
    · subst hw
      have r3 := r2.mono e3
      refine meth_run (ev_var rfl) r3.at_ rfl ea_nil fun H4 e4 => ⟨c, n', xs', s', rfl, r3.mono e4, fun h => fl (by rw [hp, progF_want, h]), sm, fun s2 b2 ho n2 xs2 H5 r5 => ⟨b2, rfl, ?_⟩⟩
      obtain ⟨pi2, hl2⟩ := operand_inv ho pi
      refine st_fld (ev_notV (ev_var rfl)) (ev_var rfl) r5.at_ T.cl T.na_is_base fl_len fun H6 e6 => ?_
      rw [Bool.not_not]
      refine ⟨s2.ts.length, by omega, n2, xs2, { s2 with isBase := b2 }, !b2, f, (r5.mono e6).fld (s' := { s2 with isBase := b2 }) (n' := n2) rfl rfl r5.ts r5.le, ⟨pi2.deep, pi2.small⟩, (operand_plain ho pl : s2.told.all insP = true), ?_, by show s2.ts.length < f; omega, rfl, rfl⟩
      rw [hp]
      rw [progF_want, ho]
    · subst hw
      have r3 := r2.mono e3
      have hne : s'.ts ≠ [] := by
        intro e
        rw [e] at hb
        cases hb
      refine meth_run (ev_var rfl) r3.at_ rfl ea_nil fun H4 e4 => ⟨c, n', xs', s', rfl, r3.mono e4, fun h => fl (by rw [hp, progF_rest, if_neg hne, h]), sm, pi.deep, fun s2 b2 ho n2 xs2 H5 r5 => ?_⟩
      obtain ⟨pi2, hl2⟩ := behind_inv ho pi
      refine ⟨s2.ts.length, by omega, n2, xs2, s2, b2, f, r5, pi2, behind_plain ho pl, ?_, by omega, rfl, rfl⟩
      rw [hp]
      rw [progF_rest, if_neg hne, ho]
  · rw [Bool.or_eq_false_iff] at hb
    obtain ⟨rfl, hb⟩ := hb
    have he : s'.ts = [] := by
      cases e : s'.ts with
      | nil => rfl
      | cons t rs => rw [e] at hb; cases hb
    obtain ⟨f, rfl⟩ : ∃ g, f = g + 1 := ⟨f - 1, by omega⟩
    have r2 := r1.mono e2
    have sm := pi.small
    have pg : prog (c.ws.map tokOf) = match (done 1 s'.waiting s'.told).1 with | [] => some (done 1 s'.waiting s'.told).2 | _ => none := by
      rw [hp]
      rw [progF_rest, if_pos he]
    have ds := done_sum 1 s'.waiting s'.told
    refine q_dropM (ev_var rfl) r2.at_ rfl (ea_cons ev_c ea_nil) fun H3 e3 => ⟨c, n', xs', s', 1, rfl, r2.mono e3, by omega, fun xs4 H4 r4 => ?_⟩
    refine q_need (b := (done 1 s'.waiting s'.told).1.isEmpty) (ea_cons (ev_wait T (ev_var rfl) r4) ea_nil) (fun hg H5 e5 => ?_) (fun hg H5 e5 => (r4.mono e5).fail (fl (by
      rw [pg]
      cases e : (done 1 s'.waiting s'.told).1 with
      | nil => rw [e] at hg; cases hg
      | cons _ _ => rfl)))
    have hg : (done 1 s'.waiting s'.told).1 = [] := by
      cases e : (done 1 s'.waiting s'.told).1 with
      | nil => rfl
      | cons t rs => rw [e] at hg; cases hg
    rw [hg] at pg
    have r5 := r4.mono e5
    refine s_ret (ev_told T (ev_var rfl) r5) fun H6 e6 => ?_
    have r6 := r5.mono e6
    exact k _ pg (done_plain 1 _ _ pl) (by omega) xs4 H6 r6.ex r6.told r6.tp
abbrev N_R_init : List Str := ["self", "words"]
abbrev s_R_init : Stmt := inClass (top 38) 0
theorem sc_R_init : FnScope N_R_init ["self", "words"] (defScope s_R_init) := ⟨rfl, rfl, rfl, by decide +kernel, rfl, by decide +kernel, by decide +kernel⟩
theorem ok_init (T : Txt w K mg) (A : MetAt K "__init__" "Reader.__init__" s_R_init) : MetOk P w K mg base CX0 (cRd K) "__init__" 1 ["self", "words"] (spInit K) := by
  refine mk_met0 A sc_R_init (fun _ _ _ _ _ _ us hl => match us, hl with | [_, _], _ => rfl) (fun vs H Q E ⟨_, _, _, _, _, h, _⟩ => by rw [h]; rfl) (fun f cdv A outer s H vs Q E hr h => ?_)
  obtain ⟨H0, x, dx, lw, ws, rfl, wd, hw, hx, hdx, ne, rfl, k⟩ := h
  refine ⟨_, (pss_cons (ps_fld (pv 0) (pv 1) rfl)
      (pss_cons (ps_fld (pv 0) pe_int rfl)
      (pss_cons (ps_fld (pv 0) (pe_lst pa_nil) rfl)
      (pss_cons (ps_fld (pv 0) (pe_lst pa_nil) rfl)
      (pss_cons (ps_fld (pv 0) pe_int rfl)
      (pss_cons (ps_fld (pv 0) pe_int rfl)
      (pss_one (ps_fld (pv 0) pe_bl rfl)))))))), ?_⟩
  refine ⟨_, rfl, _, rfl, x, cRd K, dx, _, rfl, upd_same, T.cl, T.na_words, (by show 0 < 1000; decide), ?_⟩
  rw [upd_upd]
  refine ⟨_, rfl, x, cRd K, dx, _, rfl, upd_same, T.cl, T.na_at, (by show 1 < 1000; decide), ?_⟩
  rw [upd_upd]
  refine ⟨Evl.sz_of (by simp), fun lt hlt => ?_⟩
  have n1 : lt ≠ x := fun e => by rw [e, upd_same] at hlt; cases hlt
  refine ⟨_, rfl, x, cRd K, dx, _, rfl, by rw [upd_ne (Ne.symm n1)]; exact upd_same, T.cl, T.na_told, (by show 2 < 1000; decide), ?_⟩
  refine ⟨Evl.sz_of (by simp), fun lq hlq => ?_⟩
  have n2 : lq ≠ x := fun e => by rw [e, upd_same] at hlq; cases hlq
  rw [upd_ne n2] at hlq
  have n3 : lq ≠ lt := fun e => by rw [e, upd_same] at hlq; cases hlq
  rw [upd_ne n3, upd_ne n2] at hlq
  rw [upd_ne n1] at hlt
  have nd1 : lt ≠ dx := fun e => by rw [e, upd_same] at hlt; cases hlt
  have nd2 : lq ≠ dx := fun e => by rw [e, upd_same] at hlq; cases hlq
  rw [upd_ne nd1] at hlt
  rw [upd_ne nd2] at hlq
  refine ⟨_, rfl, x, cRd K, dx, _, rfl, by rw [upd_ne (Ne.symm n2)]; exact upd_same, T.cl, T.na_waiting, (by show 3 < 1000; decide), ?_⟩
  refine ⟨_, rfl, x, cRd K, dx, _, rfl, upd_same, T.cl, T.na_deep, (by show 4 < 1000; decide), ?_⟩
  rw [upd_upd]
  refine ⟨_, rfl, x, cRd K, dx, _, rfl, upd_same, T.cl, T.na_minuses, (by show 5 < 1000; decide), ?_⟩
  rw [upd_upd]
  refine ⟨_, rfl, x, cRd K, dx, _, rfl, upd_same, T.cl, T.na_is_base, (by show 6 < 1000; decide), ?_⟩
  rw [upd_upd]
  have fin : ∀ H', H' = upd (upd (upd (upd (upd (upd H0 dx (.own x)) x (.ins (cRd K) dx [("words", .ref lw), ("at", .int 0)])) lt (.lst [])) x (.ins (cRd K) dx [("words", .ref lw), ("at", .int 0), ("told", .ref lt)])) lq (.lst [])) x
      (.ins (cRd K) dx [("words", .ref lw), ("at", .int 0), ("told", .ref lt), ("waiting", .ref lq), ("deep", .int 0), ("minuses", .int 0), ("is_base", .bl false)]) → Q .non H' := by
    intro H' eH
    subst eH
    refine k ⟨H0, x, dx, lw, lt, lq, ws, wd, hw, hx, hlt, hlq, Ne.symm n3⟩ [] _ rfl rfl rfl ⟨?_, upd_same, ?_, Tps.nil, ?_, rfl, Nat.zero_le _⟩
    · refine Ex.mut (Ex.mut (Ex.mut (Ex.mut (Ex.mut (Ex.mut (Ex.refl _) hdx) hx) hlt) hx) hlq) hx
    · show upd _ x _ lt = _
      rw [upd_ne n1, upd_ne (Ne.symm n3), upd_ne n1]
      exact upd_same
    · show upd _ x _ lq = _
      rw [upd_ne n2]
      exact upd_same
  exact fin _ rfl
end
end K83
end
section
set_option maxRecDepth 100000
set_option maxHeartbeats 4000000
namespace K83
open PySem PySem.Spec PyProof.Rows L2
open Evl (Ex Ev EvT EvA EvL EvU EvO RV RU RC ev_var ev_c ev_op ev_un ev_if ev_andV ev_orV ev_notV et_test et_B et_and et_or et_not ea_nil ea_cons ev_cb q_asg q_asgL q_asgU q_if q_when s_asg s_ret s_if s_when s_drop q_drop rv_I0 rv_I rv_eq rv_ne rv_val el_sl eo_none eo_some tCut pss_cut q_cut)
/-! ### the tree is grown -/
def headS : Xp → Str
  | .num _ => "number"
  | .name _ => "name"
  | .root _ _ => "root"
  | .bin o _ _ => opS o
  | .neg _ => "minus"
  | .pow _ _ => "power"
  | .rt m _ => rtS m
theorem xpD_tup (e : Xp) : ∃ ds, xpD e = .tuple (.str (headS e) :: ds) := by
  cases e <;> exact ⟨_, rfl⟩
theorem leaf_head {e : Xp} (h : leafP e = true) : inV (.str (headS e)) [.str "number", .str "name", .str "root"] = true := by
  cases e with
  | num n => rfl
  | name n => rfl
  | root r k => rfl
  | _ => cases h
theorem op_plain (o : Op) : inV (.str (opS o)) [.str "number", .str "name", .str "root"] = false := by cases o <;> decide +kernel
theorem op_two (o : Op) : inV (.str (opS o)) [.str "plus", .str "less", .str "times", .str "over"] = true := by cases o <;> decide +kernel
theorem rt_plain (m : Rt) : inV (.str (rtS m)) [.str "number", .str "name", .str "root"] = false := by cases m <;> decide +kernel
theorem rt_two (m : Rt) : inV (.str (rtS m)) [.str "plus", .str "less", .str "times", .str "over"] = false := by cases m <;> decide +kernel
theorem rt_pow (m : Rt) : decide (V.str (rtS m) = V.str "power") = false := by cases m <;> decide +kernel
/-- the heap of grown's loop -/
structure GAt (H0 H : Hp) (p : Addr) (stk : List Xp) (vs : List V) : Prop where
  ex : Ex H0 H
  at_ : H p = some (.lst vs)
  tp : Tps H (stk.reverse.map xpD) vs
  fresh : H0 p = none
theorem GAt.mono {H0 H H' : Hp} {p : Addr} {stk : List Xp} {vs : List V} (g : GAt H0 H p stk vs) (e : Ex H H') : GAt H0 H' p stk vs := ⟨g.ex.trans e, e _ _ g.at_, Tps.mono (Ex.tk e) _ _ g.tp, g.fresh⟩
theorem GAt.set {H0 H : Hp} {p : Addr} {stk stk' : List Xp} {vs vs' : List V} (g : GAt H0 H p stk vs) (h : Tps H (stk'.reverse.map xpD) vs') : GAt H0 (upd H p (.lst vs')) p stk' vs' :=
  ⟨Ex.mut g.ex g.fresh, upd_same, Tps.mono ((Tk.refl H).lst g.at_) _ _ h, g.fresh⟩
theorem GAt.len {H0 H : Hp} {p : Addr} {stk : List Xp} {vs : List V} (g : GAt H0 H p stk vs) : vs.length = stk.length := by
  rw [Tps.len g.tp, List.length_map, List.length_reverse]
/-- the top one -/
theorem GAt.top {H0 H : Hp} {p : Addr} {a : Xp} {stk : List Xp} {vs : List V} (g : GAt H0 H p (a :: stk) vs) : ∃ ys y, vs = ys ++ [y] ∧ Tps H (stk.reverse.map xpD) ys ∧ Tp H (xpD a) y := by
  have h := g.tp
  rw [List.reverse_cons, List.map_append] at h
  obtain ⟨ys, zs, e, h1, h2⟩ := Tps.split h
  have h2 : Tps H [xpD a] zs := h2
  rw [Tps] at h2
  obtain ⟨y, r, e2, h3, h4⟩ := h2
  rw [Tps] at h4
  subst h4
  exact ⟨ys, y, by rw [e, e2], h1, h3⟩
theorem exec_len : ∀ (a : List Ins) (s t : List Xp), exec a s = some t → t.length ≤ s.length + a.length
  | [], s, t, h => by
    cases h
    exact Nat.le_refl _
  | .leaf e :: r, s, t, h => by
    have := exec_len r (e :: s) t h
    simp at this ⊢
    omega
  | .pow k :: r, [], t, h => by cases h
  | .pow k :: r, a :: s, t, h => by
    have := exec_len r (.pow a k :: s) t h
    simp at this ⊢
    omega
  | .mk (.bin o) :: r, [], t, h => by cases h
  | .mk (.bin o) :: r, [a], t, h => by cases h
  | .mk (.bin o) :: r, b :: a :: s, t, h => by
    have := exec_len r (.bin o a b :: s) t h
    simp at this ⊢
    omega
  | .mk .neg :: r, [], t, h => by cases h
  | .mk .neg :: r, a :: s, t, h => by
    have := exec_len r (.neg a :: s) t h
    simp at this ⊢
    omega
  | .mk (.opn none) :: r, s, t, h => by cases h
  | .mk (.opn (some m)) :: r, [], t, h => by cases h
  | .mk (.opn (some m)) :: r, a :: s, t, h => by
    have := exec_len r (.rt m a :: s) t h
    simp at this ⊢
    omega
section
variable {P : Program} {w : World} {K : PySem.W.Frag} {mg : Str → Option Value} {base : Heap}
abbrev N_grown : List Str := ["items", "waiting", "item", "word", "other"]
abbrev s_grown : Stmt := top 27
theorem sc_grown : FnScope N_grown ["items"] (defScope s_grown) := ⟨rfl, rfl, rfl, by decide +kernel, rfl, by decide +kernel, by decide +kernel⟩
theorem ok_grown (T : Txt w K mg) (A : DefAt K mg "grown" s_grown) : DefOk P w K mg base CX0 "grown" 1 ["items"] (spGrown K) := by
  refine mk_def0 A sc_grown (fun _ _ _ _ _ _ us hl => match us, hl with | [_], _ => rfl) (fun vs H Q E ⟨_, _, _, _, h, _⟩ => by rw [h]; rfl) (fun f cdv A outer s H vs Q E hr h => ?_)
  obtain ⟨l, xs, told, e, rfl, hl, htp, hex, hpl, hln, k⟩ := h
  refine ⟨_, (pss_cons (ps_set (i := 1) sc_grown.nd rfl (Or.inl rfl) (pe_lst pa_nil))
      (pss_cons (ps_for PassesOwn.never rfl (pi_list (pv 0)) (pg_name (i := 2) sc_grown.nd rfl (Or.inl rfl)) (pss_cons (ps_set (i := 3) sc_grown.nd rfl (Or.inl rfl) (pe_ix ix_tup (pv 2) pe_int (fun _ _ => rfl)))
      (pss_one (ps_if (pt_cmpR op_in_seq (pv 3) (pe_gR T.g_PLAIN) rfl) (pss_one (ps_expr (pe_bm PySem.F.plainAttrs_list PySem.F.slot_list_append PySem.F.type_list_append mt_append (pv 1) (pa_cons (pv 2) pa_nil)))) (pss_one (ps_if (pt_cmpR op_in_seq (pv 3) (pe_gR T.g_TWO) rfl) (pss_cons (ps_set (i := 4) sc_grown.nd rfl (Or.inl rfl) (pe_bm0 PySem.F.plainAttrs_list PySem.F.slot_list_pop PySem.F.type_list_pop mt_pop (pv 1)))
      (pss_one (ps_expr (pe_bm PySem.F.plainAttrs_list PySem.F.slot_list_append PySem.F.type_list_append mt_append (pv 1) (pa_cons (pe_tup (pa_cons (pv 3) (pa_cons (pe_bm0 PySem.F.plainAttrs_list PySem.F.slot_list_pop PySem.F.type_list_pop mt_pop (pv 1)) (pa_cons (pv 4) pa_nil)))) pa_nil))))) (pss_one (ps_if (pt_cmpR op_eq (pv 3) pe_str (nomark _)) (pss_one (ps_expr (pe_bm PySem.F.plainAttrs_list PySem.F.slot_list_append PySem.F.type_list_append mt_append (pv 1) (pa_cons (pe_tup (pa_cons (pv 3) (pa_cons (pe_bm0 PySem.F.plainAttrs_list PySem.F.slot_list_pop PySem.F.type_list_pop mt_pop (pv 1)) (pa_cons (pe_ix ix_tup (pv 2) pe_int (fun _ _ => rfl)) pa_nil)))) pa_nil)))) (pss_one (ps_expr (pe_bm PySem.F.plainAttrs_list PySem.F.slot_list_append PySem.F.type_list_append mt_append (pv 1) (pa_cons (pe_tup (pa_cons (pv 3) (pa_cons (pe_bm0 PySem.F.plainAttrs_list PySem.F.slot_list_pop PySem.F.type_list_pop mt_pop (pv 1)) pa_nil))) pa_nil))))))))))))
      (pss_one (ps_ret (pe_ix ix_list (pv 1) pe_int (fun _ _ => rfl)))))), ?_⟩
  refine q_asgL (Evl.el_lst ea_nil (by decide)) fun p H1 hp e1 h1 => ?_
  have hxl : xs.length = told.length := by rw [Tps.len htp, List.length_map]
  refine Evl.q_forLn (ev_var rfl) (Evl.sq_of (e1 _ _ hl)) (fun i σ' H' => ∃ stk vs x2 x3 x4, exec (told.take i) [] = some stk ∧ GAt H H' p stk vs ∧ σ' = [some (.ref l), some (.ref p), x2, x3, x4]) (fun H2 e2 => ⟨[], [], none, none, none, rfl, ⟨e1.trans e2, e2 _ _ h1, Tps.nil, hp⟩, rfl⟩)
    (fun i σ' H' _ ⟨_, _, _, _, _, _, g, _⟩ => Evl.sq_of (g.ex _ _ hl)) ?_ ?_
  · rintro i x σ' H' hx ⟨stk, vs, x2, x3, x4, hstk, g, rfl⟩
    have hi : i < told.length := by rw [← hxl]; exact (List.getElem?_eq_some_iff.mp hx).1
    obtain ⟨x', hx', tx⟩ := Tps.get (i := i) (d := insD told[i]) htp (by rw [List.getElem?_map, List.getElem?_eq_getElem hi]; rfl)
    rw [hx] at hx'
    cases hx'
    have tx : Tp H' (insD told[i]) x := Tp.mono (Ex.tk g.ex) _ _ tx
    have hnext : exec (told.take (i + 1)) [] = exec [told[i]] stk := by
      rw [List.take_succ, List.getElem?_eq_getElem hi, exec_append, hstk]
      rfl
    have hsome : ∃ stk', exec [told[i]] stk = some stk' := by
      have h := hex
      rw [← List.take_append_drop (i + 1) told, exec_append, hnext] at h
      cases q : exec [told[i]] stk with
      | none => rw [q] at h; cases h
      | some s' => exact ⟨s', rfl⟩
    have hsl : stk.length ≤ 300 := by
      have := exec_len _ _ _ hstk
      have := List.length_take_le i told
      simp at *
      omega
    have hpi : insP told[i] = true := List.all_eq_true.mp hpl _ (List.getElem_mem hi)
    -- the branch that takes the top one
    have one : ∀ {stk0 : List Xp} {a b : Xp} (z : Str) (y2 y3 : List V) (f : V → List V) (H2 : Hp), True := fun _ _ _ _ _ => trivial
    revert tx hnext hsome hpi
    generalize told[i] = ins
    intro tx hnext hsome hpi
    match ins, tx, hnext, hsome, hpi with
    | .leaf e, tx, hnext, hsome, hpi =>
      obtain ⟨ds, hds⟩ := xpD_tup e
      have tx2 := tx
      rw [insD, hds] at tx2
      obtain ⟨a, ys, rfl, ha, hys⟩ := tx2.tup
      rw [Tps] at hys
      obtain ⟨y, r, rfl, hy, hr2⟩ := hys
      obtain rfl := hy.str
      refine q_asg (ev_op (ev_var rfl) ev_c (Evl.rv_ixT (Evl.st_of ha) (atI_nat (j := 0) rfl))) fun H2 e2 => ?_
      refine s_if (b := true) (Evl.et_is (et_test (ev_op (ev_var rfl) ev_c (Evl.rv_isT (T.s_PLAIN _) rfl rfl))) (leaf_head hpi)) (fun _ H3 e3 => ?_) (fun h => by cases h)
      have g3 := g.mono (e2.trans e3)
      refine Evl.s_app g3.at_ (ev_var rfl) (ev_var rfl) (by rw [g3.len]; omega) fun H4 e4 => ?_
      have g4 := g3.mono e4
      exact ⟨e :: stk, _, _, _, _, hnext, g4.set (stk' := e :: stk) (by rw [List.reverse_cons, List.map_append]; exact Tps.append g4.tp (Tps.one (Tp.mono (Ex.tk ((e2.trans e3).trans e4)) _ _ tx))), rfl⟩
    | .pow kk, tx, hnext, hsome, hpi =>
      obtain ⟨a0, ys, rfl, ha, hys⟩ := tx.tup
      rw [Tps] at hys
      obtain ⟨y, r, rfl, hy, hr2⟩ := hys
      obtain rfl := hy.str
      rw [Tps] at hr2
      obtain ⟨y2, r2, rfl, hy2, hr3⟩ := hr2
      obtain rfl := hy2.int
      rw [Tps] at hr3
      subst hr3
      match stk, hsome, hstk, g, hnext, hsl with
      | [], hsome, _, _, _, _ => obtain ⟨_, h⟩ := hsome; cases h
      | a :: stk, hsome, hstk, g, hnext, hsl =>
        refine q_asg (ev_op (ev_var rfl) ev_c (Evl.rv_ixT (Evl.st_of ha) (atI_nat (j := 0) rfl))) fun H2 e2 => ?_
        refine s_if (b := false) (Evl.et_is (et_test (ev_op (ev_var rfl) ev_c (Evl.rv_isT (T.s_PLAIN _) rfl rfl))) (by decide +kernel)) (fun h => by cases h) (fun _ H3 e3 => ?_)
        refine s_if (b := false) (Evl.et_is (et_test (ev_op (ev_var rfl) ev_c (Evl.rv_isT (T.s_TWO _) rfl rfl))) (by decide +kernel)) (fun h => by cases h) (fun _ H4 e4 => ?_)
        refine s_if (b := true) (Evl.et_is (et_test (ev_op (ev_var rfl) ev_c (rv_eq rfl))) (by decide +kernel)) (fun _ H5 e5 => ?_) (fun h => by cases h)
        have g5 := g.mono (((e2.trans e3).trans e4).trans e5)
        refine st_app_raw (ev_var rfl) g5.at_ fun H6 e6 => ?_
        have g6 := g5.mono e6
        have ha6 := ((((e2.trans e3).trans e4).trans e5).trans e6) _ _ ha
        obtain ⟨ws, v, rfl, hws, hv⟩ := g6.top
        refine ⟨_, rfl, pop_run (ev_var rfl) g6.at_ fun H7 e7 => ?_⟩
        have g7 := g6.mono e7
        have g8 := g7.set (stk' := stk) (Tps.mono (Ex.tk e7) _ _ hws)
        have tk8 : Tk H6 (upd H7 p (.lst ws)) := (Ex.tk e7).lst g7.at_
        have ha8 : (upd H7 p (.lst ws)) a0 = some (.tup [.str "power", .int kk]) := tk8 _ _ ha6
        refine (ev_op (ev_var rfl) ev_c (Evl.rv_ixT (v := .int kk) (Evl.st_of ha8) (atI_nat (j := 1) rfl))) _ (Ex.refl _) _ fun H9 e9 => ?_
        refine ⟨Evl.sz_of (by simp), fun q hq => ?_⟩
        have g10 := (g8.mono e9).mono (Ex.new (o := .tup [.str "power", v, .int kk]) hq)
        refine ⟨p, ws, .ref q, rfl, rfl, g10.at_, Evl.sz_lt (by rw [g10.len]; simp at hsl; omega), ?_⟩
        have hv9 : Tp H9 (xpD a) v := Tp.mono (tk8.trans (Ex.tk e9)) _ _ hv
        refine ⟨.pow a kk :: stk, _, _, _, _, hnext, g10.set (stk' := .pow a kk :: stk) ?_, rfl⟩
        rw [List.reverse_cons, List.map_append]
        exact Tps.append g10.tp (Tps.one (Tp.ofTup upd_same (Tps.cons (Tp.ofStr _) (Tps.cons (Tp.mono ((Tk.refl H9).new hq) _ _ hv9) (Tps.one (Tp.ofInt _))))))
    | .mk (.opn none), tx, hnext, hsome, hpi => obtain ⟨_, h⟩ := hsome; cases h
    | .mk (.bin o), tx, hnext, hsome, hpi =>
      obtain ⟨a0, ys, rfl, ha, hys⟩ := tx.tup
      rw [Tps] at hys
      obtain ⟨y, r, rfl, hy, hr2⟩ := hys
      obtain rfl := hy.str
      match stk, hsome, hstk, g, hnext, hsl with
      | [], hsome, _, _, _, _ => obtain ⟨_, h⟩ := hsome; cases h
      | [_], hsome, _, _, _, _ => obtain ⟨_, h⟩ := hsome; cases h
      | b :: a :: stk, hsome, hstk, g, hnext, hsl =>
        refine q_asg (ev_op (ev_var rfl) ev_c (Evl.rv_ixT (Evl.st_of ha) (atI_nat (j := 0) rfl))) fun H2 e2 => ?_
        refine s_if (b := false) (Evl.et_is (et_test (ev_op (ev_var rfl) ev_c (Evl.rv_isT (T.s_PLAIN _) rfl rfl))) (op_plain o)) (fun h => by cases h) (fun _ H3 e3 => ?_)
        refine s_if (b := true) (Evl.et_is (et_test (ev_op (ev_var rfl) ev_c (Evl.rv_isT (T.s_TWO _) rfl rfl))) (op_two o)) (fun _ H4 e4 => ?_) (fun h => by cases h)
        have g4 := g.mono ((e2.trans e3).trans e4)
        obtain ⟨ws, v, rfl, hws, hv⟩ := g4.top
        refine pop_run (ev_var rfl) g4.at_ fun H5 e5 => ?_
        have g5 := g4.mono e5
        have g6 := g5.set (stk' := a :: stk) (Tps.mono (Ex.tk e5) _ _ hws)
        have tk6 : Tk H4 (upd H5 p (.lst ws)) := (Ex.tk e5).lst g5.at_
        refine st_app_raw (ev_var rfl) g6.at_ fun H7 e7 => ?_
        have g7 := g6.mono e7
        obtain ⟨us, u, rfl, hus, hu⟩ := g7.top
        refine ⟨_, rfl, pop_run (ev_var rfl) g7.at_ fun H8 e8 => ?_⟩
        have g8 := g7.mono e8
        have g9 := g8.set (stk' := stk) (Tps.mono (Ex.tk e8) _ _ hus)
        have tk9 : Tk H7 (upd H8 p (.lst us)) := (Ex.tk e8).lst g8.at_
        refine ⟨_, rfl, Evl.sz_of (by simp), fun q hq => ?_⟩
        have g10 := g9.mono (Ex.new (o := .tup [.str (opS o), u, v]) hq)
        refine ⟨p, us, .ref q, rfl, rfl, g10.at_, Evl.sz_lt (by rw [g10.len]; simp at hsl; omega), ?_⟩
        have hu9 : Tp (upd H8 p (.lst us)) (xpD a) u := Tp.mono tk9 _ _ hu
        have hv9 : Tp (upd H8 p (.lst us)) (xpD b) v := Tp.mono ((tk6.trans (Ex.tk e7)).trans tk9) _ _ hv
        refine ⟨.bin o a b :: stk, _, _, _, _, hnext, g10.set (stk' := .bin o a b :: stk) ?_, rfl⟩
        rw [List.reverse_cons, List.map_append]
        exact Tps.append g10.tp (Tps.one (Tp.ofTup upd_same (Tps.cons (Tp.ofStr _) (Tps.cons (Tp.mono ((Tk.refl _).new hq) _ _ hu9) (Tps.one (Tp.mono ((Tk.refl _).new hq) _ _ hv9))))))
    | .mk .neg, tx, hnext, hsome, hpi =>
      obtain ⟨a0, ys, rfl, ha, hys⟩ := tx.tup
      rw [Tps] at hys
      obtain ⟨y, r, rfl, hy, hr2⟩ := hys
      obtain rfl := hy.str
      match stk, hsome, hstk, g, hnext, hsl with
      | [], hsome, _, _, _, _ => obtain ⟨_, h⟩ := hsome; cases h
      | a :: stk, hsome, hstk, g, hnext, hsl =>
        refine q_asg (ev_op (ev_var rfl) ev_c (Evl.rv_ixT (Evl.st_of ha) (atI_nat (j := 0) rfl))) fun H2 e2 => ?_
        refine s_if (b := false) (Evl.et_is (et_test (ev_op (ev_var rfl) ev_c (Evl.rv_isT (T.s_PLAIN _) rfl rfl))) (by decide +kernel)) (fun h => by cases h) (fun _ H3 e3 => ?_)
        refine s_if (b := false) (Evl.et_is (et_test (ev_op (ev_var rfl) ev_c (Evl.rv_isT (T.s_TWO _) rfl rfl))) (by decide +kernel)) (fun h => by cases h) (fun _ H4 e4 => ?_)
        refine s_if (b := false) (Evl.et_is (et_test (ev_op (ev_var rfl) ev_c (rv_eq rfl))) (by decide +kernel)) (fun h => by cases h) (fun _ H5 e5 => ?_)
        have g5 := g.mono (((e2.trans e3).trans e4).trans e5)
        refine st_app_raw (ev_var rfl) g5.at_ fun H6 e6 => ?_
        have g6 := g5.mono e6
        obtain ⟨ws, v, rfl, hws, hv⟩ := g6.top
        refine ⟨_, rfl, pop_run (ev_var rfl) g6.at_ fun H7 e7 => ?_⟩
        have g7 := g6.mono e7
        have g8 := g7.set (stk' := stk) (Tps.mono (Ex.tk e7) _ _ hws)
        have tk8 : Tk H6 (upd H7 p (.lst ws)) := (Ex.tk e7).lst g7.at_
        refine ⟨Evl.sz_of (by simp), fun q hq => ?_⟩
        have g10 := g8.mono (Ex.new (o := .tup [.str "minus", v]) hq)
        refine ⟨p, ws, .ref q, rfl, rfl, g10.at_, Evl.sz_lt (by rw [g10.len]; simp at hsl; omega), ?_⟩
        have hv9 : Tp (upd H7 p (.lst ws)) (xpD a) v := Tp.mono tk8 _ _ hv
        refine ⟨.neg a :: stk, _, _, _, _, hnext, g10.set (stk' := .neg a :: stk) ?_, rfl⟩
        rw [List.reverse_cons, List.map_append]
        exact Tps.append g10.tp (Tps.one (Tp.ofTup upd_same (Tps.cons (Tp.ofStr _) (Tps.one (Tp.mono ((Tk.refl _).new hq) _ _ hv9)))))
    | .mk (.opn (some m)), tx, hnext, hsome, hpi =>
      obtain ⟨a0, ys, rfl, ha, hys⟩ := tx.tup
      rw [Tps] at hys
      obtain ⟨y, r, rfl, hy, hr2⟩ := hys
      obtain rfl := hy.str
      match stk, hsome, hstk, g, hnext, hsl with
      | [], hsome, _, _, _, _ => obtain ⟨_, h⟩ := hsome; cases h
      | a :: stk, hsome, hstk, g, hnext, hsl =>
        refine q_asg (ev_op (ev_var rfl) ev_c (Evl.rv_ixT (Evl.st_of ha) (atI_nat (j := 0) rfl))) fun H2 e2 => ?_
        refine s_if (b := false) (Evl.et_is (et_test (ev_op (ev_var rfl) ev_c (Evl.rv_isT (T.s_PLAIN _) rfl rfl))) (rt_plain m)) (fun h => by cases h) (fun _ H3 e3 => ?_)
        refine s_if (b := false) (Evl.et_is (et_test (ev_op (ev_var rfl) ev_c (Evl.rv_isT (T.s_TWO _) rfl rfl))) (rt_two m)) (fun h => by cases h) (fun _ H4 e4 => ?_)
        refine s_if (b := false) (Evl.et_is (et_test (ev_op (ev_var rfl) ev_c (rv_eq rfl))) (rt_pow m)) (fun h => by cases h) (fun _ H5 e5 => ?_)
        have g5 := g.mono (((e2.trans e3).trans e4).trans e5)
        refine st_app_raw (ev_var rfl) g5.at_ fun H6 e6 => ?_
        have g6 := g5.mono e6
        obtain ⟨ws, v, rfl, hws, hv⟩ := g6.top
        refine ⟨_, rfl, pop_run (ev_var rfl) g6.at_ fun H7 e7 => ?_⟩
        have g7 := g6.mono e7
        have g8 := g7.set (stk' := stk) (Tps.mono (Ex.tk e7) _ _ hws)
        have tk8 : Tk H6 (upd H7 p (.lst ws)) := (Ex.tk e7).lst g7.at_
        refine ⟨Evl.sz_of (by simp), fun q hq => ?_⟩
        have g10 := g8.mono (Ex.new (o := .tup [.str (rtS m), v]) hq)
        refine ⟨p, ws, .ref q, rfl, rfl, g10.at_, Evl.sz_lt (by rw [g10.len]; simp at hsl; omega), ?_⟩
        have hv9 : Tp (upd H7 p (.lst ws)) (xpD a) v := Tp.mono tk8 _ _ hv
        refine ⟨.rt m a :: stk, _, _, _, _, hnext, g10.set (stk' := .rt m a :: stk) ?_, rfl⟩
        rw [List.reverse_cons, List.map_append]
        exact Tps.append g10.tp (Tps.one (Tp.ofTup upd_same (Tps.cons (Tp.ofStr _) (Tps.one (Tp.mono ((Tk.refl _).new hq) _ _ hv9)))))
  · rintro σ' H' ⟨stk, vs, x2, x3, x4, hstk, g, rfl⟩
    rw [hxl, List.take_length, hex] at hstk
    cases hstk
    have tp := g.tp
    have tp : Tps H' [xpD e] vs := tp
    rw [Tps] at tp
    obtain ⟨v, r, rfl, hv, hr2⟩ := tp
    refine s_ret (ev_op (ev_var rfl) ev_c (Evl.rv_ixL (Evl.sq_of g.at_) (atI_nat (j := 0) rfl))) fun H2 e2 => ?_
    exact k v H2 (g.ex.trans e2) (Tp.mono (Ex.tk e2) _ _ hv)
end
end K83
end
section
set_option maxRecDepth 100000
set_option maxHeartbeats 4000000
namespace K83
open PySem PySem.Spec PyProof.Rows L2
open Evl (Ex Ev EvT EvA EvL EvU EvO RV RU RC ev_var ev_c ev_op ev_un ev_if ev_andV ev_orV ev_notV et_test et_B et_and et_or et_not ea_nil ea_cons ev_cb q_asg q_asgL q_asgU q_if q_when s_asg s_ret s_if s_when s_drop q_drop rv_I0 rv_I rv_eq rv_ne rv_val el_sl eo_none eo_some tCut pss_cut q_cut)
/-! ### a method of a call's value; a maker by name -/
theorem abase_callN {id attr : Str} {p pos : Pos} {a : Expr} {as : List Expr} {ks : List Keyword} {env : Env} {whole : Sem Value} : attributeBase (.Call (.Name id p) (a :: as) ks pos) attr env whole = whole := by
  rfl
section
variable {X : Cx} {CX : CXT} {k : Nat} {ps : List Str} {sp : Sp} {E : XK} {x m : Str} {C g : Addr} {o e : Expr} {es : List Expr} {ta : TE} {t : TA} {p apos pos : Pos}
theorem pe_makeM (M : Mk X.K C g) (D : MetOk X.prog X.w X.K X.mg X.base CX C "__init__" k ps sp) (hr : Room (k + 1) X.A) (hg : Gl X x) (hm : X.mg x = some (.ref C)) (hx : Passes CX X E)
    (ha : PA X (e :: es) t) (hdb : (x == ("__debug__" : Str)) = false := by decide) (he : starEach (e :: es) X.env = (false, eval e X.env) :: starEach es X.env := by rfl) (hpl : (backTo pos (starEach es X.env)).any (·.1) = false := by rfl) :
    PE X (.Call (.Name x p) (e :: es) [] pos) (tMake C sp [] E t) := by
  obtain ⟨f, fd, F, hmm, hb⟩ := D.ex
  have : f = g := by
    have h1 := hmm.at_
    rw [M.init] at h1
    injection h1 with h1
    injection h1 with h1
    injection h1 with h1
    exact h1.symm
  subst this
  exact pe_make M F hr hg hm hb .nil hx ha hdb he hpl
end
/-! ### the whole of a text -/
/-- what the program tells of a text -/
def progRead (cs : List Nat) : Option Xp :=
  match progWords cs with
  | none => none
  | some ws => lawRead (ws.map tokOf)
def spExpr (K : PySem.W.Frag) : Sp := fun vs H Q E => ∃ cs : List Nat, vs = [.str (mkS cs)] ∧ cs.length ≤ 30000 ∧
  (∀ e, progRead cs = some e → ∀ v H', Ex H H' → Tp H' (xpD e) v → Q v H') ∧ (progRead cs = none → ∀ H', Ex H H' → E (.ref (cBad K)) none H')
section
variable {P : Program} {w : World} {K : PySem.W.Frag} {mg : Str → Option Value} {base : Heap}
abbrev N_expression : List Str := ["text"]
abbrev s_expression : Stmt := top 39
theorem sc_expression : FnScope N_expression ["text"] (defScope s_expression) := ⟨rfl, rfl, rfl, by decide +kernel, rfl, by decide +kernel, by decide +kernel⟩
theorem ok_expression (T : Txt w K mg) (A : DefAt K mg "expression" s_expression) (D_words_of : DefOk P w K mg base (L2.CX P w) "words_of" 3 ["text"] (spWordsOf K)) (M_init : MetOk P w K mg base CX0 (cRd K) "__init__" 1 ["self", "words"] (spInit K))
    (M_all_items : MetOk P w K mg base (L2.CX P w) (cRd K) "all_items" 6 ["self"] (spAll K)) (D_grown : DefOk P w K mg base CX0 "grown" 1 ["items"] (spGrown K)) : DefOk P w K mg base (L2.CX P w) "expression" 7 ["text"] (spExpr K) := by
  refine mk_def A sc_expression (fun _ _ _ _ _ _ us hl => match us, hl with | [_], _ => rfl) (fun vs H Q E ⟨_, h, _⟩ => by rw [h]; rfl) (fun f cdv A outer s H vs Q E hr h => ?_)
  obtain ⟨cs, rfl, hl, k1, k2⟩ := h
  refine ⟨_, (pss_one (ps_ret (pe_def D_grown (hr.mono (by decide)) rfl pass0 (pa_cons (pe_met0 M_all_items (pe_makeM T.mkr M_init (hr.mono (by decide)) rfl T.g_Reader pass0 (pa_cons (pe_def D_words_of (hr.mono (by decide)) rfl (pass_on (takes_of rfl rfl rfl rfl)) (pa_cons (pv 0) pa_nil)) pa_nil)) T.cl (hr.mono (by decide)) (pass_on (takes_of rfl rfl rfl rfl))
    (mcall_of abase_callN fun _ => rfl)) pa_nil)))), ?_⟩
  refine ⟨_, rfl, cs, rfl, hl, fun ws hw lw H1 hlw e1 h1 => ?_, fun hw H1 e1 => ?_⟩
  · have wd := progWords_wds hw
    have pr : progRead cs = lawRead (ws.map tokOf) := by
      unfold progRead
      rw [hw]
    have lp := law_prog (ws.map tokOf)
    refine fun x dx hx hdx ne => ?_
    refine ⟨H1, x, dx, lw, ws, rfl, wd, h1, hx, hdx, ne, rfl, fun c xs H2 hca hc0 hcw r => ⟨rfl, ?_⟩⟩
    subst hca
    subst hcw
    refine ⟨c.a, c.dx, flds c 0 _, rfl, r.at_, rfl, ?_⟩
    refine ⟨c, xs, rfl, r, ?_, ?_⟩
    · intro hn H3 e3
      rw [hn] at lp
      cases hlr : lawRead (c.ws.map tokOf) with
      | some e =>
        rw [hlr] at lp
        obtain ⟨_, h4, _⟩ := lp
        cases h4
      | none =>
        rw [hlr] at pr
        rw [hc0] at e3
        exact k2 pr H3 (e1.trans e3)
    · intro told ht hpl hln xs' H3 e3 hlt htp
      rw [ht] at lp
      cases hlr : lawRead (c.ws.map tokOf) with
      | none =>
        rw [hlr] at lp
        cases lp
      | some e =>
        rw [hlr] at lp
        obtain ⟨told', h4, h5⟩ := lp
        cases h4
        refine ⟨c.lt, xs', told, e, rfl, hlt, htp, h5, hpl, hln, fun v H4 e4 hv => ?_⟩
        rw [hlr] at pr
        rw [hc0] at e3
        exact k1 e pr v H4 ((e1.trans e3).trans e4) hv
  · refine k2 ?_ H1 e1
    unfold progRead
    rw [hw]
end
end K83
end
section
set_option maxRecDepth 100000
set_option maxHeartbeats 4000000
namespace K83
open PySem PySem.Spec PyProof.Rows L2
open Evl (Ex Ev EvT EvA EvL EvU EvO RV RU RC ev_var ev_c ev_op ev_un ev_if ev_andV ev_orV ev_notV et_test et_B et_and et_or et_not ea_nil ea_cons ev_cb q_asg q_asgL q_asgU q_if q_when s_asg s_ret s_if s_when s_drop q_drop rv_I0 rv_I rv_eq rv_ne rv_val el_sl eo_none eo_some tCut pss_cut q_cut)
/-! ### lists of words -/
abbrev wD (w : List Nat) : PyData := .str (mkS w)
theorem dp_words {K : PySem.W.Frag} {H : Hp} : ∀ (ws : List (List Nat)), DpAll K H (ws.map wV) (ws.map wD)
  | [] => .nil
  | w :: ws => .cons (.str _) (dp_words ws)
def asc (w : List Nat) : Bool := w.all fun c => decide (c < 128)
theorem lay_word {w : List Nat} (h : asc w = true) : PyData.canLay0 (wD w) = true := by
  rw [PyData.canLay0]
  refine strOk_all fun c hc => ?_
  rw [mkS_list] at hc
  have : c < 128 := of_decide_eq_true (List.all_eq_true.mp h c hc)
  omega
theorem lay_words {ws : List (List Nat)} (h : ∀ w ∈ ws, asc w = true) : PyData.canLayAll0 (ws.map wD) = true := by
  induction ws with
  | nil => rfl
  | cons w ws ih =>
    rw [List.map_cons, PyData.canLayAll0, lay_word (h w (List.mem_cons_self ..)), ih fun y hy => h y (List.mem_cons_of_mem _ hy)]
    rfl
theorem eqv_word (a b : List Nat) : PyData.eqv (wD a) (wD b) = decide (a = b) := by
  rw [PyData.eqv]
  by_cases q : a = b
  · subst q
    simp
  · rw [decide_eq_false q]
    exact beq_eq_false_iff_ne.mpr fun z => q (mkS_inj z)
theorem eqvAll_words : ∀ (a b : List (List Nat)), PyData.eqvAll (a.map wD) (b.map wD) = decide (a = b)
  | [], [] => by simp [PyData.eqvAll]
  | [], _ :: _ => by simp [PyData.eqvAll]
  | _ :: _, [] => by simp [PyData.eqvAll]
  | a :: as, b :: bs => by
    rw [List.map_cons, List.map_cons, PyData.eqvAll, eqv_word, eqvAll_words as bs]
    by_cases h1 : a = b <;> by_cases h2 : as = bs <;> simp [h1, h2]
theorem WV.asc {w : List Nat} {t : Tok} (h : WV w t) : asc w = true := by
  cases h with
  | num c r h1 h2 h3 h4 =>
    unfold K83.asc
    rw [List.all_cons, decide_eq_true (by have := fig_lt h1; omega), Bool.true_and, List.all_eq_true]
    intro d hd
    have := fig_lt (List.all_eq_true.mp h2 d hd)
    exact decide_eq_true (by omega)
  | name c r h1 h2 h3 h4 =>
    unfold K83.asc
    rw [List.all_cons, decide_eq_true (by have := let_lt h1; omega), Bool.true_and, List.all_eq_true]
    intro d hd
    have := let_lt (List.all_eq_true.mp h2 d hd)
    exact decide_eq_true (by omega)
  | _ => decide
theorem depthAll_words : ∀ (ws : List (List Nat)), PyData.depthAll (ws.map wD) = 0
  | [] => rfl
  | w :: ws => by
    rw [List.map_cons, PyData.depthAll, depthAll_words ws]
    simp [PyData.depth]
section
variable {K : PySem.W.Frag} {σ : L2.St} {H H' : Hp} {ta tb te : TE} {l q : Addr} {as bs ws : List (List Nat)}
theorem rv_words {neg : Bool} (h : H l = some (.lst (as.map wV))) (hq : H q = some (.lst (bs.map wV))) (ha : ∀ w ∈ as, asc w = true) (hb : ∀ w ∈ bs, asc w = true) :
    RV (rEqX K neg) (.ref l) (.ref q) H (.bl (if neg then !decide (as = bs) else decide (as = bs))) := fun H1 e Q k => by
  refine ⟨.list (as.map wD), .list (bs.map wD), .lst (Evl.sq_of (e _ _ h)) (dp_words as), .lst (Evl.sq_of (e _ _ hq)) (dp_words bs), ?_, ?_, ?_, ?_⟩
  · rw [PyData.canLay0]; exact lay_words ha
  · rw [PyData.canLay0]; exact lay_words hb
  · unfold Room1
    rw [PyData.depth, PyData.depth, depthAll_words, depthAll_words]
    decide
  · rw [PyData.eqv, eqvAll_words]
    exact k H1 (Ex.refl H1)
theorem cutV_nat (xs : List V) (i j : Nat) : cutV xs (some (i : Int)) (some (j : Int)) = (xs.drop i).take (j - i) := by
  unfold cutV
  rw [HT.sIx_nat, HT.sIx_nat]
  apply List.ext_getElem?
  intro k
  rw [List.getElem?_take, List.getElem?_take, List.getElem?_drop, List.getElem?_drop]
  by_cases h1 : i ≤ xs.length
  · have m1 : min i xs.length = i := by omega
    rw [m1]
    by_cases h2 : j ≤ xs.length
    · have m2 : min j xs.length = j := by omega
      rw [m2]
    · have m2 : min j xs.length = xs.length := by omega
      rw [m2]
      by_cases h3 : k < xs.length - i
      · rw [if_pos h3, if_pos (by omega)]
      · have e : xs[i + k]? = none := List.getElem?_eq_none_iff.mpr (by omega)
        rw [if_neg h3, e]
        split <;> rfl
  · have m1 : min i xs.length = xs.length := by omega
    have e : xs[i + k]? = none := List.getElem?_eq_none_iff.mpr (by omega)
    have e2 : xs[xs.length + k]? = none := List.getElem?_eq_none_iff.mpr (by omega)
    rw [m1, e, e2]
    split <;> split <;> rfl
/-- words[i:j] == [..] -/
theorem ev_cutEq {neg : Bool} {i j : Nat} {tl : TA} (h : Ev te σ H (.ref l)) (hl : H l = some (.lst (ws.map wV))) (hw : ∀ w ∈ ws, asc w = true) (hi : Ev ta σ H (.int (i : Int))) (hj : Ev tb σ H (.int (j : Int)))
    (hb : EvA tl σ H (bs.map wV)) (hbs : ∀ w ∈ bs, asc w = true) (hz : bs.length ≤ 10) :
    Ev (tOp (rEqX K neg) (tSl (rSlL K) te (tPart ta) (tPart tb)) (tLst tl)) σ H (.bl (if neg then !decide ((ws.drop i).take (j - i) = bs) else decide ((ws.drop i).take (j - i) = bs))) := by
  refine Evl.ev_opLL (el_sl h (eo_some hi) (eo_some hj) (Evl.sq_of hl)) (Evl.el_lst hb (by rw [List.length_map]; omega)) fun p q H1 hp hq e => ?_
  rw [cutV_nat, ← List.map_drop, ← List.map_take] at hp
  exact rv_words hp hq (fun w hm => hw w (List.mem_of_mem_drop (List.mem_of_mem_take hm))) hbs
end
section
variable {K : PySem.W.Frag} {σ : L2.St} {H H' : Hp} {D : Ends} {tu tz : TS} {g : TG}
/-- over the signs of a text -/
theorem q_forStr {l : List Nat} {te : TE} {j : Nat} (h : Ev te σ H (.str (mkS l))) (Pv : Nat → L2.St → Hp → Prop) (h0 : ∀ H1, Ex H H1 → Pv 0 σ H1)
    (hs : ∀ i c σ' H', l[i]? = some c → Pv i σ' H' → tu { D with nx := Pv (i + 1), ct := Pv (i + 1), bk := tz D } (σ'.set j (some (.str ⟨#[c]⟩))) H') (hd : ∀ σ' H', Pv l.length σ' H' → tz D σ' H') : tSeq (tFor (iStr te) (gName j) tu) tz D σ H :=
  h H (Ex.refl H) _ fun H1 e => ⟨_, rfl, for_it (D := { D with nx := tz D }) walk_str Pv (h0 H1 e) (fun _ _ _ _ _ => trivial) (fun i x σ' H2 H3 hi p ⟨e1, c, hc, ex⟩ => by
    subst e1
    subst ex
    exact hs i c σ' H3 (by simpa [mkS] using hc) p) (fun σ' H2 p => hd σ' H2 (by simpa [mkS] using p))⟩
end
def spLWords (K : PySem.W.Frag) : Sp := fun vs H Q _ => ∃ cs : List Nat, vs = [.str (mkS cs)] ∧ cs.length ≤ 30000 ∧
  (∀ ws, lw 0 [] cs = some ws → ∀ p H', H p = none → Ex H H' → H' p = some (.lst (ws.map wV)) → Q (.ref p) H') ∧ (lw 0 [] cs = none → ∀ H', Ex H H' → Q .non H')
theorem l_sigb : (("+-*/^()[], " : Str)).cps.toList = sigs ++ [32] := by decide +kernel
theorem isSigb (c : Nat) : decide (c ∈ sigs ++ [32]) = (isSig c || decide (c = 32)) := by
  unfold isSig
  by_cases h1 : c ∈ sigs <;> by_cases h2 : c = 32 <;> simp [h1, h2]
section
variable {P : Program} {w : World} {K : PySem.W.Frag} {mg : Str → Option Value} {base : Heap}
abbrev N__law_words : List Str := ["_law_text", "_law_found", "_law_last", "_law_mark", "_law_kind"]
abbrev s__law_words : Stmt := top 52
theorem sc__law_words : FnScope N__law_words ["_law_text"] (defScope s__law_words) := ⟨rfl, rfl, rfl, by decide +kernel, rfl, by decide +kernel, by decide +kernel⟩
theorem ok_law_words (T : Txt w K mg) (A : DefAt K mg "_law_words" s__law_words) : DefOk P w K mg base CX0 "_law_words" 1 ["_law_text"] (spLWords K) := by
  refine mk_def0 A sc__law_words (fun _ _ _ _ _ _ us hl => match us, hl with | [_], _ => rfl) (fun vs H Q E ⟨_, h, _⟩ => by rw [h]; rfl) (fun f cdv A outer s H vs Q E hr h => ?_)
  obtain ⟨cs, rfl, hl, k1, k2⟩ := h
  refine ⟨_, (pss_cons (ps_set (i := 1) sc__law_words.nd rfl (Or.inl rfl) (pe_lst pa_nil))
      (pss_cons (ps_set (i := 2) sc__law_words.nd rfl (Or.inl rfl) pe_int)
      (pss_cons (ps_for PassesOwn.never rfl (pi_str (pv 0)) (pg_name (i := 3) sc__law_words.nd rfl (Or.inl rfl)) (pss_cons (ps_set (i := 4) sc__law_words.nd rfl (Or.inl rfl) (pe_ifExp (pt_cmpR op_inS (pv 3) pe_str rfl) pe_int (pe_ifExp (pt_cmpR op_inS (pv 3) pe_str rfl) pe_int pe_int)))
      (pss_cons (ps_if (PW.pt (pw_and (pt_cmpR op_eq (pv 4) pe_int (nomark _)) (pw_and1 (pt_cmpR op_notInS (pv 3) pe_str rfl)))) (pss_one (ps_ret pe_non)) pss_nil)
      (pss_cons (ps_if (PW.pt (pw_and (pt_cmpR op_eq (pv 4) (pv 2) (nomark _)) (pw_and1 (pt_cmpR op_lt (pv 4) pe_int (nomark _))))) (pss_one (ps_asg (pe_op op_add_str (pe_ix ix_list (pv 1) (pe_un un_neg pe_int) (fun _ _ => rfl)) (pv 3)) (pg_sub (pv 1) (pe_un un_neg pe_int) set_list))) (pss_one (ps_if (pt_cmpR op_ne (pv 3) pe_str (nomark _)) (pss_one (ps_expr (pe_bm PySem.F.plainAttrs_list PySem.F.slot_list_append PySem.F.type_list_append mt_append (pv 1) (pa_cons (pv 3) pa_nil)))) pss_nil)))
      (pss_one (ps_set (i := 2) sc__law_words.nd rfl (Or.inl rfl) (pv 4)))))))
      (pss_one (ps_ret (pv 1)))))), ?_⟩
  refine q_asgL (Evl.el_lst ea_nil (by decide)) fun p H1 hp e1 h1 => ?_
  refine q_asg ev_c fun H2 e2 => ?_
  refine q_forStr (l := cs) (ev_var rfl) (fun i σ' H' => ∃ acc last x3 x4, lw 0 [] cs = lw last acc (cs.drop i) ∧ Ex H H' ∧ H' p = some (.lst (acc.reverse.map wV)) ∧ acc.length ≤ i ∧ (∀ w ∈ acc, w.length ≤ i) ∧ (last = 1 ∨ last = 2 → acc ≠ []) ∧
    σ' = [some (.str (mkS cs)), some (.ref p), some (.int (last : Nat)), x3, x4]) (fun H3 e3 => ⟨[], 0, none, none, rfl, (e1.trans e2).trans e3, e3 _ _ (e2 _ _ h1), Nat.le_refl _, by simp, by simp, rfl⟩) ?_ ?_
  · rintro i c σ' H' hc ⟨acc, last, x3, x4, hlw, ex, hacc, hal, hwl, hne, rfl⟩
    have hi : i < cs.length := (List.getElem?_eq_some_iff.mp hc).1
    have hdrop : cs.drop i = c :: cs.drop (i + 1) := by
      rw [List.drop_eq_getElem_cons hi]
      congr 1
      have := (List.getElem?_eq_some_iff.mp hc).2
      exact this
    refine q_asg (v := .int (kind c : Nat)) ?_ fun H3 e3 => ?_
    · refine ev_if (b := isFig c) (Evl.et_is (et_test (ev_op (ev_var rfl) ev_c rv_inS)) (by rw [l_figs]; rfl)) (fun hb => by rw [kind_fig hb]; exact ev_c) (fun hb => ?_)
      refine ev_if (b := isLet c) (Evl.et_is (et_test (ev_op (ev_var rfl) ev_c rv_inS)) (by rw [l_lets]; rfl)) (fun hd => by rw [kind_let hd]; exact ev_c) (fun hd => by rw [kind_other hb hd]; exact ev_c)
    refine q_when (b := decide (kind c = 3) && !(isSig c || decide (c = 32))) (Evl.et_is (et_and (et_test (ev_op (ev_var rfl) ev_c (rv_eq rfl))) fun _ => et_test (ev_op (ev_var rfl) ev_c rv_notInS)) ?_) (fun hb H4 e4 => ?_) (fun hb H4 e4 => ?_)
    · rw [l_sigb, isSigb]
      congr 1
      exact decide_eq_decide.mpr ⟨fun h => by injection h with h; omega, fun h => by rw [h]; rfl⟩
    · rw [Bool.and_eq_true] at hb
      have h3 : kind c = 3 := of_decide_eq_true hb.1
      refine s_ret ev_c fun H5 e5 => k2 ?_ H5 (((ex.trans e3).trans e4).trans e5)
      rw [hlw, hdrop, lw, if_pos]
      refine ⟨h3, fun q => ?_⟩
      have h2 := hb.2
      rcases q with q | q
      · rw [q] at h2; cases h2
      · rw [decide_eq_true q] at h2
        simp at h2
    · have h3 : ¬ (kind c = 3 ∧ ¬ (isSig c = true ∨ c = 32)) := by
        rintro ⟨q1, q2⟩
        rw [decide_eq_true q1] at hb
        have : (isSig c || decide (c = 32)) = false := by
          cases e : isSig c with
          | true => exact absurd (Or.inl e) q2
          | false => exact decide_eq_false fun z => q2 (Or.inr z)
        rw [this] at hb
        cases hb
      have hlw2 : lw 0 [] cs = if kind c = last ∧ kind c < 3 then lw (kind c) (addLast acc c) (cs.drop (i + 1)) else if c ≠ 32 then lw (kind c) ([c] :: acc) (cs.drop (i + 1)) else lw (kind c) acc (cs.drop (i + 1)) := by
        rw [hlw, hdrop, lw, if_neg h3]
      have kpos : kind c = 1 ∨ kind c = 2 ∨ kind c = 3 := by
        unfold kind
        split
        · exact Or.inl rfl
        · split
          · exact Or.inr (Or.inl rfl)
          · exact Or.inr (Or.inr rfl)
      have E4 := (ex.trans e3).trans e4
      refine q_if (b := decide (kind c = last) && decide (kind c < 3)) (Evl.et_is (et_and (et_test (ev_op (ev_var rfl) (ev_var rfl) (rv_eq rfl))) fun _ => et_test (ev_op (ev_var rfl) ev_c rv_I0)) ?_) (fun hg H5 e5 => ?_) (fun hg H5 e5 => ?_)
      · congr 1
        · exact decide_eq_decide.mpr ⟨fun h => by injection h with h; omega, fun h => by rw [h]⟩
        · exact decide_eq_decide.mpr (by omega)
      · rw [Bool.and_eq_true] at hg
        have g1 : kind c = last := of_decide_eq_true hg.1
        have g2 : kind c < 3 := of_decide_eq_true hg.2
        rw [if_pos ⟨g1, g2⟩] at hlw2
        match acc, hacc, hal, hwl, hne, hlw2 with
        | [], _, _, _, hne, _ => exact absurd rfl (hne (by omega))
        | u :: r, hacc, hal, hwl, hne, hlw2 =>
          have hp5 : H5 p = some (.lst ((u :: r).reverse.map wV)) := e5 _ _ (e4 _ _ (e3 _ _ hacc))
          rw [List.reverse_cons, List.map_append] at hp5
          have eix : ixN (r.reverse.map wV ++ [wV u]).length (-1) = some r.length := by
            unfold ixN
            have : (r.reverse.map wV ++ [wV u]).length = r.length + 1 := by simp
            rw [this, if_neg (by decide), if_pos (by omega)]
            congr 1
            omega
          have evv : Ev (tOp (fun x y H Q => ∃ i j, x = .str i ∧ y = .str j ∧ i.length + j.length ≤ sizeLine ∧ Q (.str (i ++ j)) H) (tOp (rIxL K) (tVar 1) (tUn (fun x H Q => ∃ i, x = .int i ∧ Q (.int (-i)) H) (tC (.int 1)))) (tVar 3))
              [some (.str (mkS cs)), some (.ref p), some (.int (last : Nat)), some (.str ⟨#[c]⟩), some (.int (kind c : Nat))] H5 (wV (u ++ [c])) := by
            refine ev_op (ev_op (ev_var rfl) (ev_un ev_c Evl.ru_neg) (Evl.rv_ixL (v := wV u) (Evl.sq_of hp5) (atI_last _ _))) (ev_var rfl) fun H6 e6 Q q => ⟨mkS u, ⟨#[c]⟩, rfl, rfl, ?_, ?_⟩
            · rw [mkS_len]
              have := hwl u (List.mem_cons_self ..)
              have := sizeLine_eq
              show u.length + 1 ≤ _
              omega
            · have : mkS u ++ (⟨#[c]⟩ : Str) = mkS (u ++ [c]) := by
                show (⟨u.toArray ++ #[c]⟩ : Str) = ⟨(u ++ [c]).toArray⟩
                congr 1
                simp
              rw [this]
              exact q H6 (Ex.refl H6)
          refine evv H5 (Ex.refl _) _ fun H6 e6 => ?_
          refine ⟨_, rfl, 1, rfl, p, _, _, r.length, rfl, rfl, e6 _ _ hp5, eix, ?_⟩
          refine s_asg (ev_var rfl) fun H7 e7 => ?_
          refine ⟨(u ++ [c]) :: r, kind c, _, _, hlw2, Ex.trans (Ex.mut (E4.trans (e5.trans e6)) hp) e7, ?_, ?_, ?_, ?_, rfl⟩
          · refine e7 _ _ ?_
            rw [upd_same, List.reverse_cons, List.map_append]
            have : (r.reverse.map wV ++ [u].map wV).set r.length (wV (u ++ [c])) = r.reverse.map wV ++ [wV (u ++ [c])] := by
              rw [List.set_append_right _ _ (by simp)]
              simp
            rw [this]
            rfl
          · simp at hal ⊢
            omega
          · intro v hv
            rcases List.mem_cons.mp hv with h | h
            · have := hwl u (List.mem_cons_self ..)
              rw [h]
              simp
              omega
            · have := hwl v (List.mem_cons_of_mem _ h)
              omega
          · intro _ h
            cases h
      · have g1 : ¬ (kind c = last ∧ kind c < 3) := by
          rintro ⟨q1, q2⟩
          rw [decide_eq_true q1, decide_eq_true q2] at hg
          cases hg
        rw [if_neg g1] at hlw2
        have hp5 := e5 _ _ (e4 _ _ (e3 _ _ hacc))
        refine s_when (b := !decide (c = 32)) (Evl.et_is (et_test (ev_op (ev_var rfl) ev_c (rv_ne rfl))) ?_) (fun hh H6 e6 => ?_) (fun hh H6 e6 => ?_)
        · congr 1
          rw [show (⟨#[c]⟩ : Str) = mkS [c] from rfl, str_dec _ _ _ l_blank]
          exact decide_eq_decide.mpr ⟨fun h => by injection h, fun h => by rw [h]⟩
        · have hh : c ≠ 32 := by simpa using hh
          rw [if_pos hh] at hlw2
          refine Evl.s_app (e6 _ _ hp5) (ev_var rfl) (ev_var rfl) (by simp; omega) fun H7 e7 => ?_
          refine s_asg (ev_var rfl) fun H8 e8 => ?_
          refine ⟨[c] :: acc, kind c, _, _, hlw2, Ex.trans (Ex.mut (((E4.trans e5).trans e6).trans e7) hp) e8, ?_, ?_, ?_, ?_, rfl⟩
          · refine e8 _ _ ?_
            rw [upd_same, List.reverse_cons, List.map_append]
            rfl
          · simp
            omega
          · intro v hv
            rcases List.mem_cons.mp hv with h | h
            · rw [h]; simp
            · have := hwl v h
              omega
          · intro _ h
            cases h
        · have hh : c = 32 := by simpa using hh
          rw [if_neg (fun q => q hh)] at hlw2
          refine s_asg (ev_var rfl) fun H8 e8 => ?_
          have k3 : kind c = 3 := by rw [hh]; decide
          refine ⟨acc, kind c, _, _, hlw2, ((E4.trans e5).trans e6).trans e8, e8 _ _ (e6 _ _ hp5), by omega, fun v hv => by have := hwl v hv; omega, fun q => by omega, rfl⟩
  · rintro σ' H' ⟨acc, last, x3, x4, hlw, ex, hacc, hal, hwl, hne, rfl⟩
    rw [List.drop_length] at hlw
    exact s_ret (ev_var rfl) fun H3 e3 => k1 acc.reverse (by rw [hlw]; rfl) p H3 hp (ex.trans e3) (e3 _ _ hacc)
end
end K83
end
section
set_option maxRecDepth 100000
set_option maxHeartbeats 4000000
namespace K83
open PySem PySem.Spec PyProof.Rows L2
open Evl (Ex Ev EvT EvA EvL EvU EvO RV RU RC ev_var ev_c ev_op ev_un ev_if ev_andV ev_orV ev_notV et_test et_B et_and et_or et_not ea_nil ea_cons ev_cb q_asg q_asgL q_asgU q_if q_when s_asg s_ret s_if s_when s_drop q_drop rv_I0 rv_I rv_eq rv_ne rv_val el_sl eo_none eo_some tCut pss_cut q_cut)
/-! ### the law's words are words -/
theorem lw_small : ∀ (cs : List Nat) (last : Nat) (acc ws : List (List Nat)) (k : Nat), lw last acc cs = some ws → (∀ w ∈ acc, w ≠ [] ∧ w.length ≤ k) → (∀ w ∈ ws, w ≠ [] ∧ w.length ≤ k + cs.length + 1) ∧ ws.length ≤ acc.length + cs.length
  | [], last, acc, ws, k, h, ha => by
    rw [lw] at h
    cases h
    refine ⟨fun w hw => ?_, by simp⟩
    obtain ⟨h1, h2⟩ := ha w (List.mem_reverse.mp hw)
    exact ⟨h1, by omega⟩
  | c :: cs, last, acc, ws, k, h, ha => by
    rw [lw] at h
    split at h
    · cases h
    · split at h
      · obtain ⟨h1, h2⟩ := lw_small cs _ _ ws (k + 1) h (fun w hw => by
          cases acc with
          | nil => simp [addLast] at hw
          | cons u r =>
            simp only [addLast] at hw
            rcases List.mem_cons.mp hw with e | hw
            · rw [e]
              have := (ha u (List.mem_cons_self ..)).2
              exact ⟨by simp, by simp; omega⟩
            · have := ha w (List.mem_cons_of_mem _ hw)
              exact ⟨this.1, by omega⟩)
        refine ⟨fun w hw => ?_, ?_⟩
        · have := h1 w hw
          exact ⟨this.1, by simp; omega⟩
        · cases acc with
          | nil => simp [addLast] at h2 ⊢; omega
          | cons u r => simp [addLast] at h2 ⊢; omega
      · split at h
        · obtain ⟨h1, h2⟩ := lw_small cs _ _ ws (k + 1) h (fun w hw => by
            rcases List.mem_cons.mp hw with e | hw
            · rw [e]
              exact ⟨by simp, by simp⟩
            · have := ha w hw
              exact ⟨this.1, by omega⟩)
          refine ⟨fun w hw => ?_, by simp at h2 ⊢; omega⟩
          have := h1 w hw
          exact ⟨this.1, by simp; omega⟩
        · obtain ⟨h1, h2⟩ := lw_small cs _ _ ws k h ha
          refine ⟨fun w hw => ?_, by simp at h2 ⊢; omega⟩
          have := h1 w hw
          exact ⟨this.1, by simp; omega⟩
def spAreW (K : PySem.W.Frag) : Sp := fun vs H Q _ => ∃ (l : Addr) (ws : List (List Nat)), vs = [.ref l] ∧ H l = some (.lst (ws.map wV)) ∧ (∀ w ∈ ws, w ≠ [] ∧ w.length ≤ 60000) ∧ ws.length ≤ 60000 ∧ ∀ H', Ex H H' → Q (.bl (ws.all goodW && decide (ws.length ≤ 200))) H'
section
variable {P : Program} {w : World} {K : PySem.W.Frag} {mg : Str → Option Value} {base : Heap}
abbrev N__law_are_words : List Str := ["_law_words_here", "_law_word_here", "_law_is_figures"]
abbrev s__law_are_words : Stmt := top 53
theorem sc__law_are_words : FnScope N__law_are_words ["_law_words_here"] (defScope s__law_are_words) := ⟨rfl, rfl, rfl, by decide +kernel, rfl, by decide +kernel, by decide +kernel⟩
theorem ok_law_are_words (T : Txt w K mg) (A : DefAt K mg "_law_are_words" s__law_are_words) : DefOk P w K mg base CX0 "_law_are_words" 1 ["_law_words_here"] (spAreW K) := by
  refine mk_def0 A sc__law_are_words (fun _ _ _ _ _ _ us hl => match us, hl with | [_], _ => rfl) (fun vs H Q E ⟨_, _, h, _⟩ => by rw [h]; rfl) (fun f cdv A outer s H vs Q E hr h => ?_)
  obtain ⟨l, ws, rfl, hl, hw, hz, k⟩ := h
  refine ⟨_, (pss_cons (ps_for PassesOwn.never rfl (pi_list (pv 0)) (pg_name (i := 1) sc__law_are_words.nd rfl (Or.inl rfl)) (pss_cons (ps_set (i := 2) sc__law_are_words.nd rfl (Or.inl rfl) (pe_cmpR op_inS (pe_ix ix_str (pv 1) pe_int (fun _ _ => rfl)) pe_str rfl))
      (pss_cons (ps_if (PW.pt (pw_and (pt_val (pv 2)) (pw_and1 (PW.pt (pw_or (pt_cmpR op_gt (pe_callB call_len_str (by rfl) T.f_len PySem.boot_len (pa_cons (pv 1) pa_nil)) pe_int (nomark _)) (pw_or1 (PW.pt (pw_and (pt_cmpR op_eq (pe_ix ix_str (pv 1) pe_int (fun _ _ => rfl)) pe_str (nomark _)) (pw_and1 (pt_cmpR op_ne (pv 1) pe_str (nomark _))))))))))) (pss_one (ps_ret pe_bl)) pss_nil)
      (pss_one (ps_if (PW.pt (pw_and (pt_not (pt_val (pv 2))) (pw_and1 (pt_cmpR op_gt (pe_callB call_len_str (by rfl) T.f_len PySem.boot_len (pa_cons (pv 1) pa_nil)) pe_int (nomark _))))) (pss_one (ps_ret pe_bl)) pss_nil)))))
      (pss_one (ps_ret (pe_cmpR op_le (pe_callB call_len_seq (by rfl) T.f_len PySem.boot_len (pa_cons (pv 0) pa_nil)) pe_int (nomark _))))), ?_⟩
  refine Evl.q_forLn (ev_var rfl) (Evl.sq_of hl) (fun i σ' H' => ∃ x1 x2, Ex H H' ∧ (ws.take i).all goodW = true ∧ σ' = [some (.ref l), x1, x2]) (fun H1 e1 => ⟨none, none, e1, by simp, rfl⟩)
    (fun i σ' H' _ ⟨_, _, e, _⟩ => Evl.sq_of (e _ _ hl)) ?_ ?_
  · rintro i x σ' H' hx ⟨x1, x2, ex, hg, rfl⟩
    have hi : i < ws.length := by have := (List.getElem?_eq_some_iff.mp hx).1; simpa using this
    rw [List.getElem?_map, List.getElem?_eq_getElem hi] at hx
    cases hx
    have hmem : ws[i] ∈ ws := List.getElem_mem hi
    obtain ⟨hne, hwz⟩ := hw _ hmem
    have htake : (ws.take (i + 1)).all goodW = goodW ws[i] := by
      rw [List.take_succ, List.getElem?_eq_getElem hi, List.all_append, hg]
      simp
    have bad : goodW ws[i] = false → ws.all goodW = false := fun h => by
      cases q : ws.all goodW with
      | false => rfl
      | true =>
        have := List.all_eq_true.mp q _ hmem
        rw [h] at this
        cases this
    revert hne hwz htake bad
    generalize ws[i] = u
    intro hne hwz htake bad
    obtain ⟨c, r, rfl⟩ : ∃ c r, u = c :: r := by
      cases u with
      | nil => exact absurd rfl hne
      | cons c r => exact ⟨c, r, rfl⟩
    have hzz : (mkS (c :: r)).length ≤ 100000 := by rw [mkS_len]; omega
    have evc : ∀ {σ : L2.St} {H}, σ[1]? = some (some (wV (c :: r))) → Ev (tOp rIxS (tVar 1) (tC (.int 0))) σ H (.str ⟨#[c]⟩) := fun h0 =>
      ev_op (ev_var h0) ev_c (Evl.rv_ixS (c := c) hzz (by rw [mkS_list]; exact atI_nat (j := 0) rfl))
    refine q_asg (v := .bl (isFig c)) (ev_is' (ev_op (evc rfl) ev_c rv_inS) (by rw [l_figs]; rfl)) fun H2 e2 => ?_
    have a1 : decide (V.str ⟨#[c]⟩ = V.str "0") = decide (c = 48) := by
      rw [show (⟨#[c]⟩ : Str) = mkS [c] from rfl, str_dec _ _ _ l_zero]
      exact decide_eq_decide.mpr ⟨fun h => by injection h, fun h => by rw [h]⟩
    refine q_when (b := isFig c && (decide (30 < (c :: r).length) || (decide (c = 48) && !decide (c :: r = [48])))) (Evl.et_is (et_and (et_B (ev_var rfl)) fun _ => et_or (et_test (ev_op (ev_cb (ea_cons (ev_var rfl) ea_nil) (rc_len hzz)) ev_c rv_I0)) fun _ => et_and (et_test (ev_op (evc rfl) ev_c (rv_eq rfl))) fun _ => et_test (ev_op (ev_var rfl) ev_c (rv_ne rfl))) ?_) (fun hb H3 e3 => ?_) (fun hb H3 e3 => ?_)
    · rw [a1, str_dec _ _ _ l_zero, mkS_len]
      congr 2
      exact decide_eq_decide.mpr (by omega)
    · have : goodW (c :: r) = false := by
        rw [Bool.and_eq_true] at hb
        obtain ⟨h1, h2⟩ := hb
        show (if isFig c then goodNum (c :: r) else goodName (c :: r)) = false
        rw [if_pos h1]
        unfold goodNum
        by_cases q1 : (c :: r).length ≤ 30
        · rw [decide_eq_true q1, Bool.true_and]
          rw [decide_eq_false (by omega), Bool.false_or, Bool.and_eq_true] at h2
          have q2 : c = 48 := of_decide_eq_true h2.1
          have q3 : ¬ c :: r = [48] := fun z => by
            have h3 := h2.2
            rw [decide_eq_true z] at h3
            cases h3
          rw [decide_eq_false q3, decide_eq_false (by rw [q2]; simp)]
          rfl
        · rw [decide_eq_false q1]
          rfl
      refine s_ret ev_c fun H4 e4 => ?_
      have := k H4 (((ex.trans e2).trans e3).trans e4)
      rwa [bad ‹goodW (c :: r) = false›] at this
    · refine s_when (b := !isFig c && decide (8 < (c :: r).length)) (Evl.et_is (et_and (et_not (et_B (ev_var rfl))) fun _ => et_test (ev_op (ev_cb (ea_cons (ev_var rfl) ea_nil) (rc_len hzz)) ev_c rv_I0)) ?_) (fun hd H4 e4 => ?_) (fun hd H4 e4 => ?_)
      · rw [mkS_len]
        congr 1
        exact decide_eq_decide.mpr (by omega)
      · have : goodW (c :: r) = false := by
          rw [Bool.and_eq_true] at hd
          show (if isFig c then goodNum (c :: r) else goodName (c :: r)) = false
          have h1 : isFig c = false := by simpa using hd.1
          rw [h1]
          have := of_decide_eq_true hd.2
          exact decide_eq_false (by omega)
        refine s_ret ev_c fun H5 e5 => ?_
        have := k H5 ((((ex.trans e2).trans e3).trans e4).trans e5)
        rwa [bad ‹goodW (c :: r) = false›] at this
      · refine ⟨_, _, ((ex.trans e2).trans e3).trans e4, ?_, rfl⟩
        rw [htake]
        show (if isFig c then goodNum (c :: r) else goodName (c :: r)) = true
        cases h1 : isFig c with
        | true =>
          rw [h1, Bool.true_and, Bool.or_eq_false_iff] at hb
          show goodNum (c :: r) = true
          unfold goodNum
          have q1 := of_decide_eq_false hb.1
          rw [decide_eq_true (by omega), Bool.true_and]
          by_cases q2 : c = 48
          · have := hb.2
            rw [decide_eq_true q2, Bool.true_and] at this
            have q3 : c :: r = [48] := by simpa using this
            rw [decide_eq_true q3, Bool.or_true]
          · rw [decide_eq_true (by intro z; injection z with z; exact q2 z), Bool.true_or]
        | false =>
          rw [h1] at hd
          have := of_decide_eq_false (Bool.and_eq_false_iff.mp hd |>.resolve_left (by decide))
          show goodName (c :: r) = true
          exact decide_eq_true (by omega)
  · rintro σ' H' ⟨x1, x2, ex, hg, rfl⟩
    rw [List.length_map, List.take_length] at hg
    refine s_ret (ev_is' (ev_op (Evl.ev_len (ev_var rfl) (Evl.sq_of (ex _ _ hl))) ev_c rv_I0) ?_) fun H2 e2 => k H2 (ex.trans e2)
    rw [hg, Bool.true_and, List.length_map]
    congr 1
    exact decide_eq_decide.mpr (by omega)
end
/-! ### a number at a place -/
def toks (ws : List (List Nat)) (n : Nat) : List Tok := (ws.drop n).map tokOf
theorem toks_cons {ws : List (List Nat)} {n : Nat} {w : List Nat} (h : ws[n]? = some w) : toks ws n = tokOf w :: toks ws (n + 1) := by
  unfold toks
  obtain ⟨hn, e⟩ := List.getElem?_eq_some_iff.mp h
  rw [List.drop_eq_getElem_cons hn, List.map_cons, e]
theorem toks_nil {ws : List (List Nat)} {n : Nat} (h : ws[n]? = none) : toks ws n = [] := by
  unfold toks
  rw [List.drop_eq_nil_iff.mpr (List.getElem?_eq_none_iff.mp h)]
  rfl
theorem drop_take1 {ws : List (List Nat)} {n : Nat} : (ws.drop n).take (n + 1 - n) = match ws[n]? with | none => [] | some w => [w] := by
  have : n + 1 - n = 1 := by omega
  rw [this]
  cases e : ws[n]? with
  | none =>
    rw [List.drop_eq_nil_iff.mpr (List.getElem?_eq_none_iff.mp e)]
    rfl
  | some w =>
    obtain ⟨hn, e⟩ := List.getElem?_eq_some_iff.mp e
    rw [List.drop_eq_getElem_cons hn, e]
    rfl
theorem take1_is {ws : List (List Nat)} {n : Nat} {v : List Nat} {t : Tok} (wd : Wds ws) (g : WV v t) (hn : ∀ k, t ≠ .num k) : decide ((ws.drop n).take (n + 1 - n) = [v]) = decide ((toks ws n).head? = some t) := by
  rw [drop_take1]
  cases e : ws[n]? with
  | none =>
    rw [toks_nil e]
    rfl
  | some w =>
    rw [toks_cons e]
    have := (wd.get e).is g hn
    show decide ([w] = [v]) = decide (some (tokOf w) = some t)
    have e1 : decide ([w] = [v]) = decide (w = v) := decide_eq_decide.mpr ⟨fun h => by injection h, fun h => by rw [h]⟩
    have e2 : decide (some (tokOf w) = some t) = decide (tokOf w = t) := decide_eq_decide.mpr ⟨fun h => by injection h, fun h => by rw [h]⟩
    rw [e1, e2, this]
theorem WV.figH {c : Nat} {r : List Nat} {t : Tok} (h : WV (c :: r) t) : isFig c = isNumH [t] := by
  have := h.fig
  cases t <;> simpa [isNumH] using this
theorem WV.letH {c : Nat} {r : List Nat} {t : Tok} (h : WV (c :: r) t) : isLet c = (match [t] with | [.name _] => true | [.root] => true | [.rt _] => true | _ => false) := by
  have := h.lett
  cases t <;> simpa using this
def spNumAt (K : PySem.W.Frag) : Sp := fun vs H Q _ => ∃ (l : Addr) (ws : List (List Nat)) (n : Nat), vs = [.ref l, .int (n : Nat)] ∧ H l = some (.lst (ws.map wV)) ∧ Wds ws ∧ n ≤ 100000 ∧
  (∀ k r n', numAt (toks ws n) = some (k, r) → r = toks ws n' → n' ≤ ws.length → n < n' → ∀ p H', H p = none → Ex H H' → H' p = some (.tup [.int k, .int (n' : Nat)]) → Q (.ref p) H') ∧ (numAt (toks ws n) = none → ∀ H', Ex H H' → Q .non H')
section
variable {P : Program} {w : World} {K : PySem.W.Frag} {mg : Str → Option Value} {base : Heap}
theorem rc_intB {σ : L2.St} {H : Hp} {b : Bool} : RC (fun xs H Q => (∃ i, xs = [.int i] ∧ Q (.int i) H) ∨ ∃ k, xs = [.bl k] ∧ Q (.int (if k then 1 else 0)) H) [.bl b] H (.int ((if b then 1 else 0 : Nat) : Int)) := fun H1 _ Q q => Or.inr ⟨b, rfl, by
  have := q H1 (Ex.refl H1)
  cases b <;> exact this⟩
theorem asc_less : ∀ w ∈ [[45]], asc w = true := by decide
theorem Wds.ascs {ws : List (List Nat)} (wd : Wds ws) : ∀ w ∈ ws, asc w = true := fun w hw => (wd.all w hw).asc
abbrev N__law_number_at : List Str := ["_law_words_here", "_law_at", "_law_is_below"]
abbrev s__law_number_at : Stmt := top 54
theorem sc__law_number_at : FnScope N__law_number_at ["_law_words_here", "_law_at"] (defScope s__law_number_at) := ⟨rfl, rfl, rfl, by decide +kernel, rfl, by decide +kernel, by decide +kernel⟩
theorem ok_law_number_at (T : Txt w K mg) (A : DefAt K mg "_law_number_at" s__law_number_at) : DefOk P w K mg base CX0 "_law_number_at" 1 ["_law_words_here", "_law_at"] (spNumAt K) := by
  refine mk_def0 A sc__law_number_at (fun _ _ _ _ _ _ us hl => match us, hl with | [_, _], _ => rfl) (fun vs H Q E ⟨_, _, _, h, _⟩ => by rw [h]; rfl) (fun f cdv A outer s H vs Q E hr h => ?_)
  obtain ⟨l, ws, n, rfl, hl, wd, hn, k1, k2⟩ := h
  refine ⟨_, (pss_cons (ps_set (i := 2) sc__law_number_at.nd rfl (Or.inl rfl) (pe_cmpR (op_eqX hr.units) (pe_slice sl_list (pv 0) (po_some (pv 1)) (po_some (pe_op op_add (pv 1) pe_int))) (pe_lst (pa_cons pe_str pa_nil)) (nomark _)))
      (pss_cons (ps_set (i := 1) sc__law_number_at.nd rfl (Or.inl rfl) (pe_op op_add (pv 1) (pe_callTy call_int1 (by rfl) T.f_int (by decide +kernel) (pa_cons (pv 2) pa_nil))))
      (pss_cons (ps_if (PW.pt (pw_or (pt_cmpR op_ge (pv 1) (pe_callB call_len_seq (by rfl) T.f_len PySem.boot_len (pa_cons (pv 0) pa_nil)) (nomark _)) (pw_or1 (pt_cmpR op_notInS (pe_ix ix_str (pe_ix ix_list (pv 0) (pv 1) (fun _ _ => rfl)) pe_int (fun _ _ => rfl)) pe_str rfl)))) (pss_one (ps_ret pe_non)) pss_nil)
      (pss_one (ps_ret (pe_tup (pa_cons (pe_op op_mul (pe_callTy call_int_str (by rfl) T.f_int (by decide +kernel) (pa_cons (pe_ix ix_list (pv 0) (pv 1) (fun _ _ => rfl)) pa_nil)) (pe_ix ix_list (pe_lst (pa_cons pe_int (pa_cons (pe_un un_neg pe_int) pa_nil))) (pe_callTy call_int1 (by rfl) T.f_int (by decide +kernel) (pa_cons (pv 2) pa_nil)) (fun _ _ => rfl))) (pa_cons (pe_op op_add (pv 1) pe_int) pa_nil)))))))), ?_⟩
  refine q_asg (v := .bl (decide ((toks ws n).head? = some (.op .less)))) (ev_is' (ev_cutEq (bs := [[45]]) (j := n + 1) (ev_var rfl) hl wd.ascs (ev_var rfl) (ev_op (ev_var rfl) ev_c rv_I0) (by rw [l_minus]; exact ea_cons ev_c ea_nil) asc_less (by decide)) (by rw [← take1_is wd .less (fun _ h => nomatch h)]; rfl)) fun H1 e1 => ?_
  obtain ⟨b, hb⟩ : ∃ b, b = decide ((toks ws n).head? = some (.op .less)) := ⟨_, rfl⟩
  rw [← hb]
  refine q_asg (v := .int ((n + (if b then 1 else 0) : Nat) : Int)) (ev_op (ev_var rfl) (ev_cb (ea_cons (ev_var rfl) ea_nil) (rc_intB (σ := []))) rv_I0) fun H2 e2 => ?_
  -- what a number there comes to
  have key : (∀ u i, ws[n + (if b then 1 else 0)]? = some u → tokOf u = .num i → numAt (toks ws n) = some (if b then -(i : Int) else i, toks ws (n + (if b then 1 else 0) + 1))) ∧
      ((∀ u i, ws[n + (if b then 1 else 0)]? = some u → tokOf u ≠ .num i) → numAt (toks ws n) = none) := by
    cases b with
    | true =>
      have h0 : (toks ws n).head? = some (.op .less) := of_decide_eq_true hb.symm
      cases e : ws[n]? with
      | none => rw [toks_nil e] at h0; cases h0
      | some v =>
        rw [toks_cons e] at h0 ⊢
        injection h0 with h0
        rw [h0]
        constructor
        · intro u i hu ht
          rw [toks_cons (n := n + 1) hu, ht]
          rfl
        · intro hno
          cases e2 : ws[n + 1]? with
          | none => rw [toks_nil e2]; rfl
          | some v2 =>
            rw [toks_cons e2]
            have := hno v2
            cases e3 : tokOf v2 <;> first | rfl | exact absurd e3 (this _ e2)
    | false =>
      have h0 : (toks ws n).head? ≠ some (.op .less) := of_decide_eq_false hb.symm
      constructor
      · intro u i hu ht
        rw [toks_cons (n := n) hu, ht]
        rfl
      · intro hno
        cases e2 : ws[n]? with
        | none => rw [toks_nil e2]; rfl
        | some v2 =>
          rw [toks_cons e2] at h0 ⊢
          have := hno v2
          cases e3 : tokOf v2 with
          | num i => exact absurd e3 (this _ e2)
          | op o =>
            rw [e3] at h0
            cases o <;> first | rfl | exact absurd rfl h0
          | _ => rfl
  obtain ⟨m, hm⟩ : ∃ m, m = n + (if b then 1 else 0) := ⟨_, rfl⟩
  have hmn : n ≤ m := by rw [hm]; omega
  rw [← hm] at key ⊢
  have hlen : ((ws.map wV).length : Int) = (ws.length : Int) := by rw [List.length_map]
  cases e : ws[m]? with
  | none =>
    have hge : ws.length ≤ m := List.getElem?_eq_none_iff.mp e
    refine q_when (b := true) (Evl.et_is (et_or (b := false) (et_test (ev_op (ev_var rfl) (Evl.ev_len (ev_var rfl) (Evl.sq_of (e2 _ _ (e1 _ _ hl)))) rv_I0)) fun h => ?_) ?_) (fun _ H3 e3 => ?_) (fun h => by cases h)
    · rw [hlen] at h
      have := of_decide_eq_false h
      omega
    · rw [hlen, decide_eq_true (by omega)]
      rfl
    · exact s_ret ev_c fun H4 e4 => k2 (key.2 fun u i hu => by rw [e] at hu; cases hu) H4 (((e1.trans e2).trans e3).trans e4)
  | some u =>
    have hlt : m < ws.length := (List.getElem?_eq_some_iff.mp e).1
    have q2 := wd.get e
    have hix : ∀ {σ : L2.St} {H'}, Ex H H' → σ[0]? = some (some (.ref l)) → σ[1]? = some (some (.int (m : Int))) → Ev (tOp (rIxL K) (tVar 0) (tVar 1)) σ H' (wV u) := fun ex h0 h1 =>
      ev_op (ev_var h0) (ev_var h1) (Evl.rv_ixL (Evl.sq_of (ex _ _ hl)) (atI_nat (by rw [List.getElem?_map, e]; rfl)))
    obtain ⟨c, r, rfl⟩ : ∃ c r, u = c :: r := by
      cases u with
      | nil => exact absurd rfl q2.ne
      | cons c r => exact ⟨c, r, rfl⟩
    have hfig := q2.figH
    have hzz : (mkS (c :: r)).length ≤ 100000 := by rw [mkS_len]; have := q2.small; omega
    refine q_when (b := !isFig c) (Evl.et_is (et_or (et_test (ev_op (ev_var rfl) (Evl.ev_len (ev_var rfl) (Evl.sq_of (e2 _ _ (e1 _ _ hl)))) rv_I0)) fun _ => et_test (ev_op (ev_op (hix (e1.trans e2) rfl rfl) ev_c (Evl.rv_ixS (c := c) hzz (by rw [mkS_list]; exact atI_nat (j := 0) rfl))) ev_c rv_notInS)) ?_) (fun h H3 e3 => ?_) (fun h H3 e3 => ?_)
    · rw [hlen, decide_eq_false (by omega), Bool.false_or, l_figs]
      rfl
    · have h : isFig c = false := by simpa using h
      refine s_ret ev_c fun H4 e4 => k2 (key.2 fun u i hu ht => ?_) H4 (((e1.trans e2).trans e3).trans e4)
      rw [e] at hu
      cases hu
      rw [ht] at hfig
      rw [hfig] at h
      cases h
    · have h : isFig c = true := by simpa using h
      obtain ⟨i, hi⟩ : ∃ i, tokOf (c :: r) = .num i := by
        rw [h] at hfig
        cases q : tokOf (c :: r) <;> rw [q] at hfig <;> first | exact ⟨_, rfl⟩ | cases hfig
      rw [hi] at q2
      have kk := key.1 _ i e hi
      have ex3 := (e1.trans e2).trans e3
      refine Evl.s_retU (Evl.eu_tup (ea_cons (x := .int (if b then -(i : Int) else i)) ?_ (ea_cons (x := .int ((m + 1 : Nat) : Int)) (ev_op (ev_var rfl) ev_c rv_I0) ea_nil)) (by simp)) fun p H4 hp e4 h4 => ?_
      · refine ev_op (ev_cb (ea_cons (hix ex3 rfl rfl) ea_nil) (rc_int q2)) (Evl.ev_opL1 (y := .int ((if b then 1 else 0 : Nat) : Int)) (z := .int (if b then -1 else 1)) (Evl.el_lst (ea_cons ev_c (ea_cons (ev_un ev_c Evl.ru_neg) ea_nil)) (by simp)) (fun H5 e5 => ev_cb (ea_cons (ev_var rfl) ea_nil) (rc_intB (σ := []))) fun p H5 h5 e5 => Evl.rv_ixL (Evl.sq_of h5) ?_) ?_
        · cases b <;> exact atI_nat rfl
        · refine fun H5 e5 Q q => ⟨_, _, rfl, rfl, Or.inr ?_, ?_⟩
          · cases b <;> decide
          · have := q H5 (Ex.refl H5)
            have e6 : (i : Int) * (if b then -1 else 1) = if b then -(i : Int) else i := by cases b <;> simp
            show Q (.int ((i : Int) * (if b then -1 else 1))) H5
            rw [e6]
            exact this
      · exact k1 _ _ (m + 1) kk rfl (by omega) (by omega) p H4 (ex_fresh ex3 hp) (ex3.trans e4) h4
end
end K83
end
section
set_option maxRecDepth 100000
set_option maxHeartbeats 4000000
namespace K83
open PySem PySem.Spec PyProof.Rows L2
open Evl (Ex Ev EvT EvA EvL EvU EvO RV RU RC ev_var ev_c ev_op ev_un ev_if ev_andV ev_orV ev_notV et_test et_B et_and et_or et_not ea_nil ea_cons ev_cb q_asg q_asgL q_asgU q_if q_when s_asg s_ret s_if s_when s_drop q_drop rv_I0 rv_I rv_eq rv_ne rv_val el_sl eo_none eo_some tCut pss_cut q_cut)
/-! ### a row's root at a place -/
theorem take_is : ∀ (us bs : List (List Nat)) (bt : List Tok), (∀ w ∈ us, WV w (tokOf w)) → (∀ w ∈ bs, WV w (tokOf w) ∧ ∀ k, tokOf w ≠ .num k) → bt = bs.map tokOf → decide (us.take bs.length = bs) = decide ((us.map tokOf).take bt.length = bt)
  | us, [], bt, h, g, e => by
    subst e
    simp
  | [], b :: bs, bt, h, g, e => by
    subst e
    simp
  | u :: us, b :: bs, bt, h, g, e => by
    subst e
    have ih := take_is us bs _ (fun w hw => h w (List.mem_cons_of_mem _ hw)) (fun w hw => g w (List.mem_cons_of_mem _ hw)) rfl
    have hb := g b (List.mem_cons_self ..)
    have hu := (h u (List.mem_cons_self ..)).is hb.1 hb.2
    have ih := decide_eq_decide.mp ih
    have hu := decide_eq_decide.mp hu
    refine decide_eq_decide.mpr ?_
    simp only [List.length_cons, List.take_succ_cons, List.map_cons, List.cons.injEq]
    rw [ih, hu]
theorem toks_take {ws : List (List Nat)} {n : Nat} {bs : List (List Nat)} {bt : List Tok} (wd : Wds ws) (g : ∀ w ∈ bs, WV w (tokOf w) ∧ ∀ k, tokOf w ≠ .num k) (e : bt = bs.map tokOf) (j : Nat) (hj : j - n = bs.length) :
    decide ((ws.drop n).take (j - n) = bs) = decide ((toks ws n).take bt.length = bt) := by
  rw [hj]
  exact take_is _ _ _ (fun w hw => wd.all w (List.mem_of_mem_drop hw)) g e
theorem lplb_ok : ∀ w ∈ [[40], [91]], WV w (tokOf w) ∧ ∀ k, tokOf w ≠ .num k := by
  intro w hw
  simp at hw
  rcases hw with h | h <;> subst h
  · exact ⟨.lp, fun k h => by cases h⟩
  · exact ⟨.lb, fun k h => by cases h⟩
theorem rbcm_ok : ∀ w ∈ [[93], [44]], WV w (tokOf w) ∧ ∀ k, tokOf w ≠ .num k := by
  intro w hw
  simp at hw
  rcases hw with h | h <;> subst h
  · exact ⟨.rb, fun k h => by cases h⟩
  · exact ⟨.comma, fun k h => by cases h⟩
theorem ascs_of {bs : List (List Nat)} (h : ∀ w ∈ bs, WV w (tokOf w) ∧ ∀ k, tokOf w ≠ .num k) : ∀ w ∈ bs, asc w = true := fun w hw => (h w hw).1.asc
/-- a small number's word -/
def numW (k : Nat) : List Nat := if k < 10 then [48 + k] else [48 + k / 10, 48 + k % 10]
theorem numW_str : ∀ k : Nat, k < 17 → (Str.ofString (toString (k : Int)) : Str) = mkS (numW k) := by
  decide +kernel
theorem numW_tok : ∀ k : Nat, k < 17 → tokOf (numW k) = .num k := by decide +kernel
def fewV : List V := (List.range 16).map fun i => wV (numW (i + 1))
theorem eqV_w (a b : List Nat) : eqV (wV a) (wV b) = decide (b = a) := by
  show (mkS a == mkS b) = decide (b = a)
  by_cases q : b = a
  · subst q
    simp
  · rw [decide_eq_false q]
    exact beq_eq_false_iff_ne.mpr fun z => q (mkS_inj z).symm
def isPlace : Tok → Bool
  | .num k => decide (1 ≤ k) && decide (k ≤ 16)
  | _ => false
theorem inV_any (x : V) : ∀ ys : List V, inV x ys = ys.any fun y => eqV y x
  | [] => rfl
  | y :: ys => by
    show (eqV y x || inV x ys) = _
    rw [inV_any x ys]
    rfl
theorem inV_few {w : List Nat} {t : Tok} (h : WV w t) : inV (wV w) fewV = isPlace t := by
  rw [inV_any]
  have e : fewV.any (fun y => eqV y (wV w)) = (List.range 16).any fun i => decide (w = numW (i + 1)) := by
    unfold fewV
    rw [List.any_map]
    congr 1
    funext i
    exact eqV_w _ _
  rw [e]
  have fwd : ∀ i, i < 16 → w = numW (i + 1) → t = .num (i + 1) := fun i hi q => by rw [← h.tok, q, numW_tok _ (by omega)]
  cases hp : isPlace t with
  | true =>
    cases t with
    | num k =>
      unfold isPlace at hp
      rw [Bool.and_eq_true] at hp
      have h1 := of_decide_eq_true hp.1
      have h2 := of_decide_eq_true hp.2
      refine List.any_eq_true.mpr ⟨k - 1, List.mem_range.mpr (by omega), decide_eq_true ?_⟩
      rw [h.few (by omega)]
      have : k - 1 + 1 = k := by omega
      rw [this]
      rfl
    | _ => cases hp
  | false =>
    cases q : (List.range 16).any fun i => decide (w = numW (i + 1)) with
    | false => rfl
    | true =>
      obtain ⟨i, hi, hq⟩ := List.any_eq_true.mp q
      have hi := List.mem_range.mp hi
      rw [fwd i hi (of_decide_eq_true hq)] at hp
      simp [isPlace] at hp
      omega
section
variable {K : PySem.W.Frag} {σ : L2.St} {H H' : Hp} {te : TE} {ta tb : TE} {l q : Addr}
/-- [.. for k in range(lo, hi)] -/
theorem el_lcRng {ta : TA} {j : Nat} {vs : List Nat} {lo : Int} {n : Nat} (v : Nat → V) (h : EvA ta σ H [.int lo, .int (lo + n)]) (hb : -1000 ≤ lo ∧ lo ≤ 1000 ∧ n ≤ 40000) (hw : ∀ x, wipe ((wipe σ vs).set j (some x)) vs = wipe σ vs)
    (he : ∀ (i : Nat) H1, Ex H H1 → i < n → Ev te ((wipe σ vs).set j (some (.int (lo + (i : Nat))))) H1 (v i)) : EvL (tLc (iRng2 ta) (gName j) tYes te vs) σ H ((List.range n).map v) := fun H0 e Q k => h H0 e _ fun H1 e1 =>
  ⟨lo, lo + n, rfl, ⟨by omega, by omega, by omega, by omega⟩, fun Dl hD => by
    have en : (lo + n - lo).toNat = n := by omega
    rw [en]
    exact lc_range (lo := lo) (n := n) (fun i H' => Ex H1 H' ∧ H' Dl = some (.lst ((List.range i).map v))) ⟨Ex.new hD, upd_same⟩ (fun i H' hi p => by
      refine ⟨hw _, ?_⟩
      show te _ _ _
      refine he i H' ((e.trans e1).trans p.1) hi _ (Ex.refl _) _ fun H4 e4 => ⟨_, e4 _ _ p.2, Evl.sz_lt (by simp; omega), Ex.mut (p.1.trans e4) hD, ?_⟩
      rw [upd_same, List.range_succ, List.map_append]
      rfl) (fun H' p => k Dl H' (fresh_back e1 hD) (e1.trans p.1) p.2)⟩
  where fresh_back {H H' : Hp} {p : Addr} (e : Ex H H') (h : H' p = none) : H p = none := ex_fresh e h
theorem dp_ints : ∀ (acc : List Int), DpAll K H (acc.map V.int) (acc.map PyData.int)
  | [] => .nil
  | i :: acc => .cons (.int i) (dp_ints acc)
theorem lay_ints : ∀ (acc : List Int), PyData.canLayAll0 (acc.map PyData.int) = true
  | [] => rfl
  | i :: acc => by
    rw [List.map_cons, PyData.canLayAll0, lay_ints acc, PyData.canLay0]
    rfl
theorem ev_intsEmpty {neg : Bool} {acc : List Int} (ha : Ev ta σ H (.ref l)) (h : H l = some (.lst (acc.map V.int))) : Ev (tOp (rEqX K neg) ta (tLst tNil)) σ H (.bl (if neg then !acc.isEmpty else acc.isEmpty)) :=
  Evl.ev_opL ha (Evl.el_lst ea_nil (by decide)) fun p H1 hp e => fun H2 e2 Q q => by
    refine ⟨.list (acc.map .int), .list [], .lst (Evl.sq_of (e2 _ _ (e _ _ h))) (dp_ints acc), .lst (Evl.sq_of (e2 _ _ hp)) .nil, ?_, rfl, ?_, ?_⟩
    · rw [PyData.canLay0]
      exact lay_ints acc
    · unfold Room1
      simp [PyData.depth, PyData.depthAll]
    · rw [eqv_nil, List.isEmpty_map]
      exact q H2 (Ex.refl H2)
theorem rc_str {i : Int} {w : List Nat} (h : i.natAbs ≤ 1000) (e : (Str.ofString (toString i) : Str) = mkS w) : RC (fun xs H Q => ∃ i, xs = [.int i] ∧ i.natAbs.log2 < 1920 ∧ Q (.str (toString i)) H) [.int i] H (wV w) := fun H1 _ Q q =>
  ⟨i, rfl, by
    have : i.natAbs.log2 ≤ i.natAbs := Nat.log2_le_self _
    omega, by
    have := q H1 (Ex.refl H1)
    show Q (.str (Str.ofString (toString i))) H1
    rw [e]
    exact this⟩
end
def spRootAt (K : PySem.W.Frag) : Sp := fun vs H Q _ => ∃ (l : Addr) (ws : List (List Nat)) (n : Nat), vs = [.ref l, .int (n : Nat)] ∧ H l = some (.lst (ws.map wV)) ∧ Wds ws ∧ n ≤ ws.length ∧
  (∀ x r n', rootAt (toks ws n) = some (x, r) → r = toks ws n' → n' ≤ ws.length → n < n' → ∀ p v H', Ex H H' → H' p = some (.tup [v, .int (n' : Nat)]) → Tp H' (xpD (.root x.1 x.2)) v → Q (.ref p) H') ∧ (rootAt (toks ws n) = none → ∀ H', Ex H H' → Q .non H')
section
variable {P : Program} {w : World} {K : PySem.W.Frag} {mg : Str → Option Value} {base : Heap}
abbrev N__law_root_at : List Str := ["_law_words_here", "_law_at", "_law_numbers", "_law_one", "_law_told_here", "_law_k"]
abbrev s__law_root_at : Stmt := top 55
theorem sc__law_root_at : FnScope N__law_root_at ["_law_words_here", "_law_at"] (defScope s__law_root_at) := ⟨rfl, rfl, rfl, by decide +kernel, rfl, by decide +kernel, by decide +kernel⟩
theorem ok_law_root_at (T : Txt w K mg) (A : DefAt K mg "_law_root_at" s__law_root_at) (D__law_number_at : DefOk P w K mg base CX0 "_law_number_at" 1 ["_law_words_here", "_law_at"] (spNumAt K)) : DefOk P w K mg base CX0 "_law_root_at" 2 ["_law_words_here", "_law_at"] (spRootAt K) := by
  refine mk_def0 A sc__law_root_at (fun _ _ _ _ _ _ us hl => match us, hl with | [_, _], _ => rfl) (fun vs H Q E ⟨_, _, _, h, _⟩ => by rw [h]; rfl) (fun f cdv A outer s H vs Q E hr h => ?_)
  obtain ⟨l, ws, n, rfl, hl, wd, hn, k1, k2⟩ := h
  refine ⟨_, (pss_cons (ps_if (pt_cmpR (op_neX hr.units) (pe_slice sl_list (pv 0) (po_some (pv 1)) (po_some (pe_op op_add (pv 1) pe_int))) (pe_lst (pa_cons pe_str (pa_cons pe_str pa_nil))) (nomark _)) (pss_one (ps_ret pe_non)) pss_nil)
      (pss_cons (ps_set (i := 2) sc__law_root_at.nd rfl (Or.inl rfl) (pe_lst pa_nil))
      (pss_cons (ps_set (i := 1) sc__law_root_at.nd rfl (Or.inl rfl) (pe_op op_add (pv 1) pe_int))
      (pss_cons (ps_while PassesOwn.never (PW.pt (pw_or (PW.pt (pw_and (pt_cmpR (op_eqX hr.units) (pe_slice sl_list (pv 0) (po_some (pv 1)) (po_some (pe_op op_add (pv 1) pe_int))) (pe_lst (pa_cons pe_str pa_nil)) (nomark _)) (pw_and1 (pt_cmpR (op_eqX hr.units) (pv 2) (pe_lst pa_nil) (nomark _))))) (pw_or1 (pt_cmpR (op_eqX hr.units) (pe_slice sl_list (pv 0) (po_some (pv 1)) (po_some (pe_op op_add (pv 1) pe_int))) (pe_lst (pa_cons pe_str pa_nil)) (nomark _))))) (pss_cons (ps_set (i := 3) sc__law_root_at.nd rfl (Or.inl rfl) (pe_def D__law_number_at (hr.mono (by decide)) rfl pass0 (pa_cons (pv 0) (pa_cons (pe_op op_add (pv 1) pe_int) pa_nil))))
      (pss_cons (ps_if (pt_cmpR op_isN (pv 3) pe_non (nomark _)) (pss_one (ps_ret pe_non)) pss_nil)
      (pss_cons (ps_expr (pe_bm PySem.F.plainAttrs_list PySem.F.slot_list_append PySem.F.type_list_append mt_append (pv 2) (pa_cons (pe_ix ix_tup (pv 3) pe_int (fun _ _ => rfl)) pa_nil)))
      (pss_one (ps_set (i := 1) sc__law_root_at.nd rfl (Or.inl rfl) (pe_ix ix_tup (pv 3) pe_int (fun _ _ => rfl))))))))
      (pss_cons (ps_set (i := 4) sc__law_root_at.nd rfl (Or.inl rfl) (pe_slice sl_list (pv 0) (po_some (pv 1)) (po_some (pe_op op_add (pv 1) pe_int))))
      (pss_cons (ps_if (PW.pt (pw_or (pt_cmpR op_gt (pe_callB call_len_seq (by rfl) T.f_len PySem.boot_len (pa_cons (pv 2) pa_nil)) pe_int (nomark _)) (pw_or (pt_cmpR op_eq (pe_ix ix_list (pv 2) (pe_un un_neg pe_int) (fun _ _ => rfl)) pe_int (nomark _)) (pw_or (pt_cmpR op_lt (pe_callB call_len_seq (by rfl) T.f_len PySem.boot_len (pa_cons (pv 4) pa_nil)) pe_int (nomark _)) (pw_or (pt_cmpR (op_neX hr.units) (pe_slice sl_list (pv 4) po_none (po_some pe_int)) (pe_lst (pa_cons pe_str (pa_cons pe_str pa_nil))) (nomark _)) (pw_or1 (pt_cmpR op_ne (pe_ix ix_list (pv 4) pe_int (fun _ _ => rfl)) pe_str (nomark _)))))))) (pss_one (ps_ret pe_non)) pss_nil)
      (pss_cons (ps_if (pt_cmpR op_notIn_seq (pe_ix ix_list (pv 4) pe_int (fun _ _ => rfl)) (pe_lc (own := [("_law_k", 5)]) (g := gName 5) (tt := tYes) rfl sc__law_root_at.nd (pi_range2 rfl T.f_range (pa_cons pe_int (pa_cons pe_int pa_nil))) (blkOk_by (own := [("_law_k", 5)]) (N := N__law_root_at) (sc := defScope s__law_root_at) (by decide +kernel)) (fun _ _ _ _ _ => (pg_name (i := 5) sc__law_root_at.nd rfl (Or.inl rfl))) (fun _ _ _ _ _ => pts_nil) (fun _ _ _ _ _ => (pe_callTy call_str_int (by rfl) T.f_str (by decide +kernel) (pa_cons (pv 5) pa_nil)))) rfl) (pss_one (ps_ret pe_non)) pss_nil)
      (pss_one (ps_ret (pe_tup (pa_cons (pe_tup (pa_cons pe_str (pa_cons (pe_callTy call_tuple_of (by rfl) T.f_tuple (by decide +kernel) (pa_cons (pv 2) pa_nil)) (pa_cons (pe_callTy call_int_str (by rfl) T.f_int (by decide +kernel) (pa_cons (pe_ix ix_list (pv 4) pe_int (fun _ _ => rfl)) pa_nil)) pa_nil)))) (pa_cons (pe_op op_add (pv 1) pe_int) pa_nil)))))))))))), ?_⟩
  have tk2 := toks_take (n := n) wd lplb_ok (bt := [.lp, .lb]) rfl (n + 2) (by show n + 2 - n = 2; omega)
  refine q_when (b := !decide ((toks ws n).take 2 = [.lp, .lb])) (Evl.et_is (et_test (ev_cutEq (bs := [[40], [91]]) (j := n + 2) (ev_var rfl) hl wd.ascs (ev_var rfl) (ev_op (ev_var rfl) ev_c rv_I0) (by rw [l_lp, l_lb]; exact ea_cons ev_c (ea_cons ev_c ea_nil)) (ascs_of lplb_ok) (by decide))) (by rw [tk2]; rfl)) (fun hb H1 e1 => ?_) (fun hb H1 e1 => ?_)
  · have hb : ¬ (toks ws n).take 2 = [.lp, .lb] := by simpa using hb
    exact s_ret ev_c fun H2 e2 => k2 (root_no fun t2 i t3 row k r' a1 _ _ _ _ _ _ => hb (by rw [a1]; rfl)) H2 (e1.trans e2)
  · have hb : (toks ws n).take 2 = [.lp, .lb] := by simpa using hb
    have ht : toks ws n = .lp :: .lb :: toks ws (n + 2) ∧ n + 2 ≤ ws.length := by
      cases e0 : ws[n]? with
      | none => rw [toks_nil e0] at hb; cases hb
      | some u =>
        rw [toks_cons e0] at hb ⊢
        cases e1 : ws[n + 1]? with
        | none => rw [toks_nil e1] at hb; simp at hb
        | some v =>
          rw [toks_cons e1] at hb ⊢
          simp only [List.take_succ_cons, List.take_zero] at hb
          injection hb with h1 hb
          injection hb with h2 _
          rw [h1, h2]
          exact ⟨rfl, (List.getElem?_eq_some_iff.mp e1).1⟩
    obtain ⟨ht, hn2⟩ := ht
    have ht1 : toks ws (n + 1) = .lb :: toks ws (n + 2) := by
      cases e0 : ws[n]? with
      | none => rw [toks_nil e0] at ht; cases ht
      | some u =>
        rw [toks_cons e0] at ht
        injection ht
    refine q_asgL (Evl.el_lst ea_nil (by decide)) fun pn H2 hpn e2 h2 => ?_
    have hpn0 := ex_fresh e1 hpn
    refine q_asg (v := .int ((n + 1 : Nat) : Int)) (ev_op (ev_var rfl) ev_c rv_I0) fun H3 e3 => ?_
    refine Evl.q_while (fun m σ' H' => ∃ (at' : Nat) (acc : List Int) (x3 : Option V), Ex H H' ∧ H' pn = some (.lst (acc.map V.int)) ∧ at' ≤ ws.length ∧ acc.length ≤ at' ∧
      ((acc = [] ∧ at' = n + 1 ∧ m = ws.length + 1) ∨ (acc ≠ [] ∧ (∃ i t3, numAt (toks ws (n + 2)) = some (i, t3) ∧ rowRest [i] t3 = rowRest acc (toks ws at')) ∧ m = ws.length - at' ∧ n < at')) ∧
      σ' = [some (.ref l), some (.int (at' : Nat)), some (.ref pn), x3, none, none]) (ws.length + 1) ⟨n + 1, [], none, (e1.trans e2).trans e3, e3 _ _ h2, by omega, by simp, Or.inl ⟨rfl, rfl, rfl⟩, rfl⟩ ?_
    rintro m σ' H' ⟨at', acc, x3, ex, hacc, hat, hal, hcase, rfl⟩
    have wl := wd.len
    refine ⟨(decide ((toks ws at').head? = some .lb) && acc.isEmpty) || decide ((toks ws at').head? = some .comma), Evl.et_is (et_or (et_and (et_test (ev_cutEq (bs := [[91]]) (j := at' + 1) (ev_var rfl) (ex _ _ hl) wd.ascs (ev_var rfl) (ev_op (ev_var rfl) ev_c rv_I0) (by rw [l_lb]; exact ea_cons ev_c ea_nil) (by decide) (by decide))) fun _ => et_test (ev_intsEmpty (ev_var rfl) hacc)) fun _ => et_test (ev_cutEq (bs := [[44]]) (j := at' + 1) (ev_var rfl) (ex _ _ hl) wd.ascs (ev_var rfl) (ev_op (ev_var rfl) ev_c rv_I0) (by rw [l_comma]; exact ea_cons ev_c ea_nil) (by decide) (by decide))) ?_, fun hg H4 e4 => ?_, fun hg H4 e4 => ?_⟩
    · rw [take1_is wd .lb (fun _ h => nomatch h), take1_is wd .comma (fun _ h => nomatch h)]
      rfl
    · -- one more number
      have tail : ∃ (t : Tok), toks ws at' = t :: toks ws (at' + 1) ∧ ((acc = [] ∧ at' = n + 1) ∨ (acc ≠ [] ∧ t = .comma)) := by
        rcases hcase with ⟨h1, h2, _⟩ | ⟨h1, _, _⟩
        · exact ⟨.lb, by rw [h2]; exact ht1, Or.inl ⟨h1, h2⟩⟩
        · have : acc.isEmpty = false := by
            cases acc with
            | nil => exact absurd rfl h1
            | cons _ _ => rfl
          rw [this, Bool.and_false, Bool.false_or] at hg
          have hg : (toks ws at').head? = some .comma := of_decide_eq_true hg
          cases e0 : ws[at']? with
          | none => rw [toks_nil e0] at hg; cases hg
          | some u =>
            refine ⟨tokOf u, toks_cons e0, Or.inr ⟨h1, ?_⟩⟩
            rw [toks_cons e0] at hg
            injection hg
      obtain ⟨t, htl, hor⟩ := tail
      refine ⟨fun σ2 H2 => ∃ m', m' < m ∧ ∃ (at' : Nat) (acc : List Int) (x3 : Option V), Ex H H2 ∧ H2 pn = some (.lst (acc.map V.int)) ∧ at' ≤ ws.length ∧ acc.length ≤ at' ∧
        ((acc = [] ∧ at' = n + 1 ∧ m' = ws.length + 1) ∨ (acc ≠ [] ∧ (∃ i t3, numAt (toks ws (n + 2)) = some (i, t3) ∧ rowRest [i] t3 = rowRest acc (toks ws at')) ∧ m' = ws.length - at' ∧ n < at')) ∧
        σ2 = [some (.ref l), some (.int (at' : Nat)), some (.ref pn), x3, none, none], fun _ _ h => h, ?_⟩
      refine q_asgC (ea_cons (ev_var rfl) (ea_cons (x := .int ((at' + 1 : Nat) : Int)) (ev_op (ev_var rfl) ev_c rv_I0) ea_nil)) fun H5 e5 => ⟨l, ws, at' + 1, rfl, e5 _ _ (e4 _ _ (ex _ _ hl)), wd, by omega, fun i r n' hnum hr1 hn' hlt p H6 hp e6 h6 => ?_, fun hnum H6 e6 => ?_⟩
      · have E6 := ((ex.trans e4).trans e5).trans e6
        refine q_when (b := false) (Evl.et_is (et_test (ev_op (ev_var rfl) ev_c rv_isN)) rfl) (fun h => by cases h) (fun _ H7 e7 => ?_)
        have hacc7 : H7 pn = some (.lst (acc.map V.int)) := e7 _ _ (e6 _ _ (e5 _ _ (e4 _ _ hacc)))
        refine Evl.q_app (v := .int i) hacc7 (ev_var rfl) (ev_op (ev_var rfl) ev_c (Evl.rv_ixT (Evl.st_of (e7 _ _ h6)) (atI_nat (j := 0) rfl))) (by simp; omega) fun H8 e8 => ?_
        have npn : p ≠ pn := by
          intro z
          rw [z] at hp
          rw [e5 _ _ (e4 _ _ hacc)] at hp
          cases hp
        refine s_asg (v := .int (n' : Nat)) (ev_op (ev_var rfl) ev_c (Evl.rv_ixT (Evl.st_of (xs := [.int i, .int (n' : Nat)]) (by rw [upd_ne npn]; exact e8 _ _ (e7 _ _ h6))) (atI_nat (j := 1) rfl))) fun H9 e9 => ?_
        refine ⟨ws.length - n', ?_, n', acc ++ [i], _, Ex.trans (Ex.mut ((E6.trans e7).trans e8) hpn0) e9, ?_, hn', by simp; omega, Or.inr ⟨by simp, ?_, rfl, by omega⟩, rfl⟩
        · rcases hcase with ⟨_, _, h⟩ | ⟨_, _, h, _⟩ <;> omega
        · refine e9 _ _ ?_
          rw [upd_same, List.map_append]
          rfl
        · rcases hor with ⟨h1, h2⟩ | ⟨h1, h2⟩
          · subst h1
            rw [h2] at hnum
            exact ⟨i, r, hnum, by rw [hr1]; rfl⟩
          · rcases hcase with ⟨h, _, _⟩ | ⟨_, ⟨i0, t3, h3, h4⟩, _, _⟩
            · exact absurd h h1
            · refine ⟨i0, t3, h3, ?_⟩
              rw [h4, htl, h2, rowRest_comma, hnum]
              show rowRest (acc ++ [i]) r = _
              rw [hr1]
      · refine q_when (b := true) (Evl.et_is (et_test (ev_op (ev_var rfl) ev_c rv_isN)) rfl) (fun _ H7 e7 => ?_) (fun h => by cases h)
        refine s_ret ev_c fun H8 e8 => k2 (root_no fun t2 i t3 row k r' a1 a2 a3 _ _ _ _ => ?_) H8 (((((ex.trans e4).trans e5).trans e6).trans e7).trans e8)
        rw [ht] at a1
        injection a1 with _ a1
        injection a1 with _ a1
        rcases hor with ⟨h1, h2⟩ | ⟨h1, h2⟩
        · rw [h2] at hnum
          rw [← a1, hnum] at a2
          cases a2
        · rcases hcase with ⟨h, _, _⟩ | ⟨_, ⟨i0, t3', h3, h4⟩, _, _⟩
          · exact absurd h h1
          · rw [a1] at h3
            rw [h3] at a2
            cases a2
            rw [h4, htl, h2, rowRest_comma, hnum] at a3
            cases a3
    · -- behind the numbers
      rcases hcase with ⟨h1, h2, _⟩ | ⟨hne, ⟨i0, t3, h3, h4⟩, _, hlt⟩
      · exfalso
        rw [h2, ht1, h1] at hg
        cases hg
      · have hcm : (toks ws at').head? ≠ some .comma := of_decide_eq_false (Bool.or_eq_false_iff.mp hg).2
        rw [rowRest_stop hcm] at h4
        have key : (∀ k r', toks ws at' = .rb :: .comma :: .num k :: .rp :: r' → acc.length ≤ 17 → acc.getLast? ≠ some 0 → 1 ≤ k → k ≤ 16 → rootAt (toks ws n) = some ((acc, k), r')) ∧
            ((∀ k r', toks ws at' = .rb :: .comma :: .num k :: .rp :: r' → acc.length ≤ 17 → acc.getLast? ≠ some 0 → 1 ≤ k → k ≤ 16 → False) → rootAt (toks ws n) = none) := by
          constructor
          · intro k r' q1 q2 q3 q4 q5
            rw [ht]
            unfold rootAt
            simp only [h3, h4]
            rw [if_pos ⟨q2, q3⟩, q1]
            simp only
            rw [if_pos ⟨q4, q5⟩]
          · intro hno
            refine root_no fun t2 i t3' row k r' a1 a2 a3 a4 a5 a6 a7 => ?_
            rw [ht] at a1
            injection a1 with _ a1
            injection a1 with _ a1
            rw [a1] at h3
            rw [h3] at a2
            cases a2
            rw [h4] at a3
            injection a3 with a3
            injection a3 with a3 a3'
            rw [← a3] at a4 a5
            exact hno k r' a3' a4 a5 a6 a7
        obtain ⟨acc0, lst, rfl⟩ : ∃ a l, acc = a ++ [l] := ⟨acc.dropLast, acc.getLast hne, (List.dropLast_concat_getLast hne).symm⟩
        have hgl : (acc0 ++ [lst]).getLast? = some lst := by simp
        rw [hgl] at key
        refine q_asgL (el_sl (ev_var rfl) (eo_some (ev_var rfl)) (eo_some (i := ((at' + 4 : Nat) : Int)) (ev_op (ev_var rfl) ev_c rv_I0)) (Evl.sq_of (e4 _ _ (ex _ _ hl)))) fun pt H5 hpt e5 h5 => ?_
        rw [cutV_nat, ← List.map_drop, ← List.map_take] at h5
        have h44 : at' + 4 - at' = 4 := by omega
        rw [h44] at h5
        have hacc5 := e5 _ _ (e4 _ _ hacc)
        have E5 := (ex.trans e4).trans e5
        obtain ⟨td, htd⟩ : ∃ td, td = (ws.drop at').take 4 := ⟨_, rfl⟩
        rw [← htd] at h5
        have tdw : ∀ w ∈ td, WV w (tokOf w) := fun w hw => wd.all w (List.mem_of_mem_drop (List.mem_of_mem_take (by rw [← htd]; exact hw)))
        have ttd : toks ws at' = td.map tokOf ++ toks ws (at' + td.length) := by
          unfold toks
          rw [htd, ← List.map_append]
          congr 1
          rw [← List.drop_drop, ]
          have : (ws.drop at').drop ((ws.drop at').take 4).length = (ws.drop at').drop 4 := by
            rw [List.length_take]
            by_cases q : 4 ≤ (ws.drop at').length
            · rw [Nat.min_eq_left q]
            · rw [Nat.min_eq_right (by omega), List.drop_eq_nil_iff.mpr (by omega), List.drop_eq_nil_iff.mpr (by omega)]
          rw [this, List.take_append_drop]
        have tdl : td.length ≤ 4 := by rw [htd, List.length_take]; omega
        have etk : decide (td.take 2 = [[93], [44]]) = decide ((td.map tokOf).take 2 = [.rb, .comma]) := take_is td _ _ tdw rbcm_ok rfl
        refine q_when (b := decide (17 < (acc0 ++ [lst]).length) || (decide (lst = 0) || (decide (td.length < 4) || (!decide ((td.map tokOf).take 2 = [.rb, .comma]) || !decide ((td[3]?.getD []) = [41])))))
          (Evl.et_is (et_or (et_test (ev_op (Evl.ev_len (ev_var rfl) (Evl.sq_of hacc5)) ev_c rv_I0)) fun _ => et_or (et_test (ev_op (ev_op (ev_var rfl) (ev_un ev_c Evl.ru_neg) (Evl.rv_ixL (v := .int lst) (Evl.sq_of hacc5) (by rw [List.map_append]; exact atI_last _ _))) ev_c (rv_eq rfl))) fun _ =>
            et_or (b := !decide ((td.map tokOf).take 2 = [.rb, .comma]) || !decide ((td[3]?.getD []) = [41])) (et_test (ev_op (Evl.ev_len (ev_var rfl) (Evl.sq_of h5)) ev_c rv_I0)) fun h4 => Evl.et_is (et_or (et_test (Evl.ev_opLL (el_sl (ev_var rfl) eo_none (eo_some (i := ((2 : Nat) : Int)) ev_c) (Evl.sq_of h5)) (Evl.el_lst (vs := [[93], [44]].map wV) (by rw [l_rb, l_comma]; exact ea_cons ev_c (ea_cons ev_c ea_nil)) (by decide)) fun p q H6 hp hq e6 => rv_words (neg := true) (as := td.take 2) (bs := [[93], [44]]) ?_ hq (fun w hw => (tdw w (List.mem_of_mem_take hw)).asc) (ascs_of rbcm_ok))) fun _ =>
              et_test (ev_op (ev_op (ev_var rfl) ev_c (Evl.rv_ixL (v := wV (td[3]?.getD [])) (Evl.sq_of h5) ?_)) ev_c (rv_ne rfl))) ?_) ?_) (fun hb2 H6 e6 => ?_) (fun hb2 H6 e6 => ?_)
        · rw [hp]
          congr 2
          unfold cutV
          rw [HT.sIx_none, HT.sIx_nat]
          simp
        · rw [List.length_map] at h4
          have : 3 < td.length := by have := of_decide_eq_false h4; omega
          refine atI_nat (j := 3) ?_
          rw [List.getElem?_map, List.getElem?_eq_getElem this]
          rfl
        · rw [etk, wV_dec _ l_rp]
          rfl
        · rw [List.length_map, List.length_map]
          congr 1
          · exact decide_eq_decide.mpr (by omega)
          · congr 1
            · exact decide_eq_decide.mpr ⟨fun h => by injection h, fun h => by rw [h]⟩
            · congr 1
              exact decide_eq_decide.mpr (by omega)
        · -- not told
          refine s_ret ev_c fun H7 e7 => k2 (key.2 fun k r' q1 q2 q3 q4 q5 => ?_) H7 ((E5.trans e6).trans e7)
          rw [decide_eq_false (by omega), Bool.false_or, decide_eq_false (by intro z; exact q3 (by rw [z])), Bool.false_or] at hb2
          have ha : ws[at']? = some [93] ∨ True := Or.inr trivial
          -- four words stand there
          have l4 : 4 ≤ (toks ws at').length := by rw [q1]; simp
          have l4 : 4 ≤ (ws.drop at').length := by unfold toks at l4; rwa [List.length_map] at l4
          have tl : td.length = 4 := by rw [htd, List.length_take]; omega
          rw [decide_eq_false (by omega), Bool.false_or] at hb2
          obtain ⟨a, b, c, d, rfl⟩ : ∃ a b c d, td = [a, b, c, d] := by
            match td, tl with
            | [a, b, c, d], _ => exact ⟨a, b, c, d, rfl⟩
          rw [ttd] at q1
          simp only [List.map_cons, List.map_nil, List.cons_append, List.nil_append] at q1
          injection q1 with z1 q1
          injection q1 with z2 q1
          injection q1 with z3 q1
          injection q1 with z4 q1
          have zd : d = [41] := (tdw d (by simp)).word (by rw [z4]; exact .rp) (fun k h => by rw [z4] at h; cases h)
          simp [z1, z2, zd] at hb2
        · have hb2 : ((acc0 ++ [lst]).length ≤ 17 ∧ lst ≠ 0) ∧ td.length = 4 ∧ (td.map tokOf).take 2 = [.rb, .comma] ∧ td[3]?.getD [] = [41] := by
            rw [Bool.or_eq_false_iff, Bool.or_eq_false_iff, Bool.or_eq_false_iff, Bool.or_eq_false_iff] at hb2
            obtain ⟨z1, z2, z3, z4, z5⟩ := hb2
            have := of_decide_eq_false z1
            have := of_decide_eq_false z3
            exact ⟨⟨by omega, of_decide_eq_false z2⟩, by omega, by simpa using z4, by simpa using z5⟩
          obtain ⟨⟨b1, b2⟩, b3, b4, b5⟩ := hb2
          obtain ⟨a, b, c, d, rfl⟩ : ∃ a b c d, td = [a, b, c, d] := by
            match td, b3 with
            | [a, b, c, d], _ => exact ⟨a, b, c, d, rfl⟩
          have b5 : d = [41] := b5
          simp only [List.map_cons, List.map_nil, List.take_succ_cons, List.take_zero] at b4
          injection b4 with z1 b4
          injection b4 with z2 _
          have hat4 : toks ws at' = .rb :: .comma :: tokOf c :: .rp :: toks ws (at' + 4) := by
            rw [ttd]
            simp only [List.map_cons, List.map_nil, List.cons_append, List.nil_append, z1, z2, b5]
            rfl
          have hlen4 : at' + 4 ≤ ws.length := by
            have : ([a, b, c, d] : List (List Nat)).length = ((ws.drop at').take 4).length := by rw [htd]
            simp at this
            omega
          have wc := tdw c (by simp)
          have h6 := e6 _ _ h5
          have evc : ∀ {σ : L2.St} {H7}, Ex H6 H7 → σ[4]? = some (some (.ref pt)) → Ev (tOp (rIxL K) (tVar 4) (tC (.int 2))) σ H7 (wV c) := fun ex7 h0 => ev_op (ev_var h0) ev_c (Evl.rv_ixL (Evl.sq_of (ex7 _ _ h6)) (atI_nat (j := 2) rfl))
          refine q_when (b := !isPlace (tokOf c)) (Evl.et_is (et_test (Evl.ev_opL (xs := fewV) (evc (Ex.refl _) rfl) ?_ fun p H7 hp e7 => Evl.rv_niL (Evl.sq_of hp) rfl ?_)) ?_) (fun hb3 H7 e7 => ?_) (fun hb3 H7 e7 => ?_)
          · refine el_lcRng (lo := 1) (n := 16) (fun i => wV (numW (i + 1))) (ea_cons ev_c (ea_cons ev_c ea_nil)) (by decide) (fun _ => rfl) fun i H8 e8 hi => ?_
            refine ev_cb (ea_cons (ev_var rfl) ea_nil) (rc_str (by omega) ?_)
            have : (1 : Int) + (i : Nat) = ((i + 1 : Nat) : Int) := by omega
            rw [this]
            exact numW_str _ (by omega)
          · rw [List.all_eq_true]
            intro x hx
            obtain ⟨i, _, rfl⟩ := List.mem_map.mp hx
            rfl
          · rw [inV_few wc]
          · have hb3 : isPlace (tokOf c) = false := by simpa using hb3
            refine s_ret ev_c fun H8 e8 => k2 (key.2 fun k r' q1 q2 q3 q4 q5 => ?_) H8 (((E5.trans e6).trans e7).trans e8)
            rw [hat4] at q1
            injection q1 with _ q1
            injection q1 with _ q1
            injection q1 with q1 _
            rw [q1] at hb3
            simp [isPlace] at hb3
            omega
          · have hb3 : isPlace (tokOf c) = true := by simpa using hb3
            obtain ⟨k, hk, p1, p2⟩ : ∃ k, tokOf c = .num k ∧ 1 ≤ k ∧ k ≤ 16 := by
              cases q : tokOf c with
              | num k =>
                rw [q] at hb3
                unfold isPlace at hb3
                rw [Bool.and_eq_true] at hb3
                exact ⟨k, rfl, of_decide_eq_true hb3.1, of_decide_eq_true hb3.2⟩
              | _ => rw [q] at hb3; cases hb3
            rw [hk] at wc hat4
            have root := key.1 k _ hat4 b1 (fun z => b2 (by injection z)) p1 p2
            have E7 := (E5.trans e6).trans e7
            have hacc7 := e7 _ _ (e6 _ _ hacc5)
            -- the answer
            refine ⟨_, rfl, pn, _, rfl, Or.inl ⟨Evl.sq_of hacc7, fun t1 ht1' => ?_⟩⟩
            have x1 : Ex H7 (upd H7 t1 (.tup ((acc0 ++ [lst]).map V.int))) := Ex.new ht1'
            refine (ev_cb (ea_cons (evc (e7.trans x1) rfl) ea_nil) (rc_int wc)) _ (Ex.refl _) _ fun H9 e9 => ?_
            refine ⟨Evl.sz_of (by simp), fun t2 ht2 => ?_⟩
            refine (ev_op (ev_var rfl) ev_c rv_I0 : Ev _ _ _ (.int ((at' + 4 : Nat) : Int))) _ (Ex.refl _) _ fun H10 e10 => ?_
            refine ⟨Evl.sz_of (by simp), fun t3 ht3 => ?_⟩
            have x2 : Ex H7 (upd H10 t3 (.tup [.ref t2, .int ((at' + 4 : Nat) : Int)])) := ((x1.trans e9).trans (Ex.new ht2)).trans (e10.trans (Ex.new ht3))
            refine k1 _ _ (at' + 4) root rfl hlen4 (by omega) t3 (.ref t2) _ (E7.trans x2) upd_same ?_
            have y1 : (upd H10 t3 (.tup [.ref t2, .int ((at' + 4 : Nat) : Int)])) t1 = some (.tup ((acc0 ++ [lst]).map V.int)) := (Ex.new ht3) _ _ (e10 _ _ ((Ex.new ht2) _ _ (e9 _ _ upd_same)))
            have y2 : (upd H10 t3 (.tup [.ref t2, .int ((at' + 4 : Nat) : Int)])) t2 = some (.tup [.str "root", .ref t1, .int (k : Int)]) := (Ex.new ht3) _ _ (e10 _ _ upd_same)
            exact Tp.ofTup y2 (Tps.cons (Tp.ofStr _) (Tps.cons (Tp.ofTup y1 (Tps.ints _)) (Tps.one (Tp.ofInt _))))
end
end K83
end
section
set_option maxRecDepth 100000
set_option maxHeartbeats 4000000
namespace K83
open PySem PySem.Spec PyProof.Rows L2
open Evl (Ex Ev EvT EvA EvL EvU EvO RV RU RC ev_var ev_c ev_op ev_un ev_if ev_andV ev_orV ev_notV et_test et_B et_and et_or et_not ea_nil ea_cons ev_cb q_asg q_asgL q_asgU q_if q_when s_asg s_ret s_if s_when s_drop q_drop rv_I0 rv_I rv_eq rv_ne rv_val el_sl eo_none eo_some tCut pss_cut q_cut)
/-! ### what evaluates to data -/
def EvD (te : TE) (σ : L2.St) (H : Hp) (d : PyData) : Prop := ∀ H1, Ex H H1 → ∀ Q : VK, (∀ v H2, Ex H1 H2 → Tp H2 d v → Q v H2) → te σ H1 Q
def EvDs (ta : TA) (σ : L2.St) (H : Hp) (ds : List PyData) : Prop := ∀ H1, Ex H H1 → ∀ Q : List V → Hp → Prop, (∀ vs H2, Ex H1 H2 → Tps H2 ds vs → Q vs H2) → ta σ H1 Q
section
variable {K : PySem.W.Frag} {σ : L2.St} {H H' : Hp} {ta tb te tx : TE} {tl : TA} {v : V} {d e : PyData} {ds : List PyData} {D : Ends} {tz : TS} {l : Addr} {xs : List V} {i j : Nat}
theorem Tp.ex {H H' : Hp} {d : PyData} {v : V} (h : Tp H d v) (e : Ex H H') : Tp H' d v := Tp.mono (Ex.tk e) _ _ h
theorem Tps.ex {H H' : Hp} {ds : List PyData} {vs : List V} (h : Tps H ds vs) (e : Ex H H') : Tps H' ds vs := Tps.mono (Ex.tk e) _ _ h
theorem ed_ev (h : Ev te σ H v) (t : Tp H d v) : EvD te σ H d := fun H1 e Q q => h H1 e _ fun H2 e2 => q v H2 e2 (t.ex (e.trans e2))
theorem ed_s {z : Str} : EvD (tC (.str z)) σ H (.str z) := ed_ev ev_c (Tp.ofStr z)
theorem ed_i {i : Int} (h : Ev te σ H (.int i)) : EvD te σ H (.int i) := ed_ev h (Tp.ofInt i)
theorem ed_var (h : σ[i]? = some (some v)) (t : Tp H d v) : EvD (tVar i) σ H d := ed_ev (ev_var h) t
theorem eds_nil : EvDs tNil σ H [] := fun H1 _ Q q => q [] H1 (Ex.refl _) Tps.nil
theorem eds_cons (h : EvD te σ H d) (hr : EvDs tl σ H ds) : EvDs (tCons te tl) σ H (d :: ds) := fun H1 e Q q =>
  h H1 e _ fun v H2 e2 t => hr H2 (e.trans e2) _ fun vs H3 e3 ts => q _ H3 (e2.trans e3) (Tps.cons (t.ex e3) ts)
theorem ed_tup (h : EvDs tl σ H ds) (hz : ds.length ≤ 1000) : EvD (tTup tl) σ H (.tuple ds) := fun H1 e Q q =>
  h H1 e _ fun vs H2 e2 ts => ⟨Evl.sz_of (by rw [ts.len]; omega), fun p hp => q _ _ (e2.trans (Ex.new hp)) (Tp.ofTup upd_same (ts.ex (Ex.new hp)))⟩
theorem ed_ixT (h : EvD ta σ H (.tuple ds)) (hd : ds[j]? = some d) : EvD (tOp (rIxT K) ta (tC (.int (j : Int)))) σ H d := fun H1 e Q q =>
  h H1 e _ fun v H2 e2 t => by
    obtain ⟨a, xs, rfl, ha, hs⟩ := t.tup
    obtain ⟨x, hx, tx⟩ := Tps.get hs hd
    exact ⟨a, xs, _, x, rfl, rfl, Evl.st_of ha, atI_nat hx, q x H2 e2 tx⟩
theorem ed_ixL (ha : Ev ta σ H (.ref l)) (hl : H l = some (.lst xs)) (hs : Tps H ds xs) (hi : Ev tb σ H (.int (j : Int))) (hd : ds[j]? = some d) : EvD (tOp (rIxL K) ta tb) σ H d := fun H1 e Q q =>
  ha H1 e _ fun H2 e2 => hi H2 (e.trans e2) _ fun H3 e3 => by
    obtain ⟨x, hx, tx⟩ := Tps.get hs hd
    exact ⟨l, xs, _, x, rfl, rfl, Evl.sq_of (e3 _ _ (e2 _ _ (e _ _ hl))), atI_nat hx, q x H3 (e2.trans e3) (tx.ex ((e.trans e2).trans e3))⟩
/-- the last one: xs[-1] -/
theorem ed_last (ha : Ev ta σ H (.ref l)) (hl : H l = some (.lst xs)) (hs : Tps H (ds ++ [d]) xs) : EvD (tOp (rIxL K) ta (tUn (fun x H Q => ∃ i, x = .int i ∧ Q (.int (-i)) H) (tC (.int 1)))) σ H d := fun H1 e Q q =>
  ha H1 e _ fun H2 e2 => by
    obtain ⟨ys, zs, rfl, h1, h2⟩ := Tps.split hs
    rw [Tps] at h2
    obtain ⟨x, r, rfl, tx, hr⟩ := h2
    rw [Tps] at hr
    subst hr
    exact ⟨1, rfl, l, _, _, x, rfl, rfl, Evl.sq_of (e2 _ _ (e _ _ hl)), atI_last _ _, q x H2 e2 (tx.ex (e.trans e2))⟩
theorem ev_eqD {neg : Bool} (ha : EvD ta σ H d) (hb : EvD tb σ H e) (cd : d.canLay0 = true) (ce : e.canLay0 = true) (hr : Room1 d e) : Ev (tOp (rEqX K neg) ta tb) σ H (.bl (if neg then !PyData.eqv d e else PyData.eqv d e)) := fun H1 x Q q =>
  ha H1 x _ fun v H2 x2 t => hb H2 (x.trans x2) _ fun u H3 x3 t2 => ⟨d, e, Tp.dp _ _ (t.ex x3), Tp.dp _ _ t2, cd, ce, hr, q H3 (x2.trans x3)⟩
theorem q_asgD (h : EvD te σ H d) (k : ∀ v H1, Ex H H1 → Tp H1 d v → tz D (σ.set i (some v)) H1) : tSeq (tAsg te (gName i)) tz D σ H := h H (Ex.refl H) _ fun v H1 e t => k v H1 e t
theorem s_asgD (h : EvD te σ H d) (k : ∀ v H1, Ex H H1 → Tp H1 d v → D.nx (σ.set i (some v)) H1) : tAsg te (gName i) D σ H := h H (Ex.refl H) _ fun v H1 e t => k v H1 e t
theorem s_retD (h : EvD te σ H d) (k : ∀ v H1, Ex H H1 → Tp H1 d v → D.rt v H1) : tRet te D σ H := h H (Ex.refl H) _ fun v H1 e t => k v H1 e t
theorem s_appD (hl : H l = some (.lst xs)) (ha : Ev ta σ H (.ref l)) (h : EvD te σ H d) (hz : xs.length < 100000) (k : ∀ v H1, Ex H H1 → Tp H1 d v → D.nx σ (upd H1 l (.lst (xs ++ [v])))) :
    tDrop (tBM K "list" rAppend ta (tCons te tNil)) D σ H := st_app_raw ha hl fun H1 e1 => h H1 e1 _ fun v H2 e2 t => ⟨l, xs, v, rfl, rfl, e2 _ _ (e1 _ _ hl), Evl.sz_lt hz, k v H2 (e1.trans e2) t⟩
theorem q_appD (hl : H l = some (.lst xs)) (ha : Ev ta σ H (.ref l)) (h : EvD te σ H d) (hz : xs.length < 100000) (k : ∀ v H1, Ex H H1 → Tp H1 d v → tz D σ (upd H1 l (.lst (xs ++ [v])))) :
    tSeq (tDrop (tBM K "list" rAppend ta (tCons te tNil))) tz D σ H := s_appD (D := { D with nx := tz D }) hl ha h hz k
theorem ed_if {t : TT} {b : Bool} (h : EvT t σ H b) (h1 : b = true → EvD ta σ H d) (h2 : b = false → EvD tb σ H d) : EvD (tIf t ta tb) σ H d := fun H1 e Q q => h H1 e _ fun H2 e2 => by
  cases b with
  | true =>
    show ta σ H2 Q
    exact h1 rfl H2 (e.trans e2) Q fun v H3 e3 => q v H3 (e2.trans e3)
  | false =>
    show tb σ H2 Q
    exact h2 rfl H2 (e.trans e2) Q fun v H3 e3 => q v H3 (e2.trans e3)
end
/-! ### items as data -/
def tokW : Tok → List Nat
  | .rt .sqrt => wSqrt
  | .rt .cbrt => wCbrt
  | .op .plus => [43]
  | .op .less => [45]
  | .op .times => [42]
  | .op .over => [47]
  | .hat => [94]
  | .lp => [40]
  | .rp => [41]
  | .lb => [91]
  | .rb => [93]
  | .comma => [44]
  | .root => wRoot
  | _ => []
def itemD : Item → PyData
  | .txt t => wD (tokW t)
  | .fig n => .tuple [.str "figures", xpD (.num n)]
  | .base e => .tuple [.str "base", xpD e]
  | .part e => .tuple [.str "part", xpD e]
theorem tokW_wv {t : Tok} (h : t.isPlain = true) : WV (tokW t) t ∧ ∀ k, t ≠ .num k := by
  cases t with
  | num n => cases h
  | name w => cases h
  | root => cases h
  | rt m =>
    refine ⟨?_, fun k h => by cases h⟩
    cases m
    · exact .sqrt
    · exact .cbrt
  | op o =>
    refine ⟨?_, fun k h => by cases h⟩
    cases o
    · exact .plus
    · exact .less
    · exact .times
    · exact .over
  | hat => exact ⟨.hat, fun k h => by cases h⟩
  | lp => exact ⟨.lp, fun k h => by cases h⟩
  | rp => exact ⟨.rp, fun k h => by cases h⟩
  | lb => exact ⟨.lb, fun k h => by cases h⟩
  | rb => exact ⟨.rb, fun k h => by cases h⟩
  | comma => exact ⟨.comma, fun k h => by cases h⟩
theorem tokW_of {w : List Nat} {t : Tok} (h : WV w t) (p : t.isPlain = true) : w = tokW t := h.word (tokW_wv p).1 (tokW_wv p).2
def okX (e : Xp) : Prop := (xpD e).canLay0 = true
def okI : Item → Prop
  | .txt t => t.isPlain = true
  | .fig _ => True
  | .base e => okX e
  | .part e => okX e
theorem strOk_dec {z : Str} (h : (z.cps.toList.all fun c => decide (c < 0x110000)) = true) : PyData.strOk z = true := strOk_all fun c hc => of_decide_eq_true (List.all_eq_true.mp h c hc)
theorem ok_num (n : Nat) : okX (.num n) := by
  show (xpD (.num n)).canLay0 = true
  rw [xpD, PyData.canLay0, PyData.canLayAll0, PyData.canLay0, strOk_dec (by decide +kernel)]
  simp [PyData.canLayAll0, PyData.canLay0]
theorem ok_tup2 {z : Str} {d : PyData} (hz : PyData.strOk z = true) (h : d.canLay0 = true) : (PyData.tuple [.str z, d]).canLay0 = true := by
  simp [PyData.canLay0, PyData.canLayAll0, hz, h]
theorem ok_tup3 {z : Str} {d e : PyData} (hz : PyData.strOk z = true) (h : d.canLay0 = true) (g : e.canLay0 = true) : (PyData.tuple [.str z, d, e]).canLay0 = true := by
  simp [PyData.canLay0, PyData.canLayAll0, hz, h, g]
theorem okI_lay {x : Item} (h : okI x) : (itemD x).canLay0 = true := by
  cases x with
  | txt t => exact lay_word (tokW_wv h).1.asc
  | fig n => exact ok_tup2 (strOk_dec (by decide +kernel)) (ok_num n)
  | base e => exact ok_tup2 (strOk_dec (by decide +kernel)) h
  | part e => exact ok_tup2 (strOk_dec (by decide +kernel)) h
def isT (x : Item) (t : Tok) : Bool := match x with
  | .txt u => decide (u = t)
  | _ => false
theorem eqv_isT {x : Item} (h : okI x) {t : Tok} (ht : t.isPlain = true) : PyData.eqv (itemD x) (wD (tokW t)) = isT x t := by
  cases x with
  | txt u =>
    show PyData.eqv (wD (tokW u)) (wD (tokW t)) = decide (u = t)
    rw [eqv_word]
    exact (tokW_wv h).1.is (tokW_wv ht).1 (tokW_wv ht).2
  | fig n => simp [itemD, wD, PyData.eqv, isT]
  | base e => simp [itemD, wD, PyData.eqv, isT]
  | part e => simp [itemD, wD, PyData.eqv, isT]
theorem depth_word (w : List Nat) : PyData.depth (wD w) = 0 := by simp [PyData.depth]
theorem room_word (d : PyData) (w : List Nat) : Room1 d (wD w) := by
  unfold Room1
  rw [depth_word]
  omega
section
variable {K : PySem.W.Frag} {σ : L2.St} {H H' : Hp} {ta tb te : TE} {x : Item} {t : Tok} {z : Str}
/-- item == sign -/
theorem ev_isT {neg : Bool} (ha : EvD ta σ H (itemD x)) (hx : okI x) (ht : t.isPlain = true) (hz : z = mkS (tokW t)) : Ev (tOp (rEqX K neg) ta (tC (.str z))) σ H (.bl (if neg then !isT x t else isT x t)) := by
  subst hz
  have := ev_eqD (K := K) (neg := neg) ha (ed_s (z := mkS (tokW t))) (okI_lay hx) (lay_word (tokW_wv ht).1.asc) (room_word _ _)
  rwa [show PyData.eqv (itemD x) (.str (mkS (tokW t))) = isT x t from eqv_isT hx ht] at this
end
def spIsText (K : PySem.W.Frag) : Sp := fun vs H Q _ => ∃ (x : Item) (v : V), vs = [v] ∧ Tp H (itemD x) v ∧ ∀ H', Ex H H' → Q (.bl x.isTxt) H'
theorem ev_isText {K : PySem.W.Frag} {σ : L2.St} {H : Hp} {te : TE} {x : Item} {E : XK} (h : EvD te σ H (itemD x)) : Ev (tCall (spIsText K) [] E (tCons te tNil)) σ H (.bl x.isTxt) := fun H1 e Q q =>
  h H1 e _ fun v H2 e2 t => ⟨x, v, rfl, t, fun H' e' => q H' (e2.trans e')⟩
/-! ### the items of words -/
def okT : Tok → Prop
  | .name w => PyData.strOk w = true
  | _ => True
theorem WV.okT {w : List Nat} {t : Tok} (h : WV w t) : okT t := by
  have a := h.asc
  cases h with
  | name c r h1 h2 h3 h4 =>
    have := lay_word a
    rwa [wD, PyData.canLay0] at this
  | _ => trivial
theorem okX_root (row : List Int) (k : Nat) : okX (.root row k) := by
  show (xpD (.root row k)).canLay0 = true
  rw [xpD]
  refine ok_tup3 (strOk_dec (by decide +kernel)) ?_ ?_
  · rw [PyData.canLay0]
    exact lay_ints row
  · rw [PyData.canLay0]
theorem rootAt_ok {ts r : List Tok} {x : List Int × Nat} (h : rootAt ts = some (x, r)) : ∃ a, ts = a ++ r := by
  obtain ⟨t2, i, t3, h1, h2, h3, _⟩ := root_inv h
  have num : ∀ {ts r : List Tok} {k : Int}, numAt ts = some (k, r) → ∃ a, ts = a ++ r := by
    intro ts r k h
    rcases numAt_cases ts with ⟨n, r', e, e2⟩ | ⟨n, r', e, e2⟩ | h'
    · rw [e2] at h
      cases h
      exact ⟨[.op .less, .num n], e⟩
    · rw [e2] at h
      cases h
      exact ⟨[.num n], e⟩
    · rw [h'.1] at h
      cases h
  have rest : ∀ {acc row : List Int} {ts r : List Tok}, rowRest acc ts = some (row, r) → ∃ a, ts = a ++ r := by
    intro acc row ts r h
    induction acc, ts using rowRest.induct generalizing row r with
    | case1 acc r0 h1 =>
      rw [rowRest_comma, h1] at h
      cases h
    | case2 acc r0 n r' h1 ih =>
      rw [rowRest_comma, h1] at h
      obtain ⟨a, e⟩ := ih h
      obtain ⟨b, e2⟩ := num h1
      exact ⟨.comma :: (b ++ a), by rw [e2, e]; simp⟩
    | case3 acc ts h1 =>
      rw [rowRest_stop (by
        intro q
        cases ts with
        | nil => cases q
        | cons t rs => injection q with q; exact h1 rs (by rw [q]))] at h
      cases h
      exact ⟨[], rfl⟩
  obtain ⟨a, ea⟩ := num h2
  obtain ⟨b, eb⟩ := rest h3
  exact ⟨.lp :: .lb :: (a ++ (b ++ [.rb, .comma, .num x.2, .rp])), by rw [h1, ea, eb]; simp⟩
theorem itemsF_ok : ∀ (f : Nat) (ts : List Tok) (is : List Item), (∀ t ∈ ts, okT t) → itemsF f ts = some is → ∀ x ∈ is, okI x
  | 0, ts, is, h, e => by
    cases e
    simp
  | f + 1, [], is, h, e => by
    cases e
    simp
  | f + 1, t :: ts, is, h, e => by
    have ht := h t (List.mem_cons_self ..)
    have hts : ∀ t ∈ ts, okT t := fun u hu => h u (List.mem_cons_of_mem _ hu)
    have step : ∀ (y : Item), okI y → (itemsF f ts).map (y :: ·) = some is → ∀ x ∈ is, okI x := by
      intro y hy q
      obtain ⟨js, h1, h2⟩ := Option.map_eq_some_iff.mp q
      subst h2
      intro x hx
      rcases List.mem_cons.mp hx with e | hx
      · rw [e]; exact hy
      · exact itemsF_ok f ts js hts h1 x hx
    cases t with
    | root =>
      rw [itemsF] at e
      split at e
      · cases e
      · rename_i x r' hr
        obtain ⟨js, h1, h2⟩ := Option.map_eq_some_iff.mp e
        subst h2
        obtain ⟨a, ea⟩ := rootAt_ok hr
        intro y hy
        rcases List.mem_cons.mp hy with e | hy
        · rw [e]
          exact okX_root _ _
        · exact itemsF_ok f r' js (fun u hu => hts u (by rw [ea]; exact List.mem_append_right _ hu)) h1 y hy
    | num n => exact step (.fig n) trivial e
    | name w =>
      refine step (.base (.name w)) ?_ e
      show (xpD (.name w)).canLay0 = true
      rw [xpD]
      exact ok_tup2 (strOk_dec (by decide +kernel)) (by rw [PyData.canLay0]; exact ht)
    | rt m => exact step (.txt (.rt m)) rfl e
    | op o => exact step (.txt (.op o)) rfl e
    | hat => exact step (.txt .hat) rfl e
    | lp => exact step (.txt .lp) rfl e
    | rp => exact step (.txt .rp) rfl e
    | lb => exact step (.txt .lb) rfl e
    | rb => exact step (.txt .rb) rfl e
    | comma => exact step (.txt .comma) rfl e
theorem Wds.okT {ws : List (List Nat)} (wd : Wds ws) (n : Nat) : ∀ t ∈ toks ws n, okT t := by
  intro t ht
  obtain ⟨w, hw, rfl⟩ := List.mem_map.mp ht
  exact (wd.all w (List.mem_of_mem_drop hw)).okT
def spItems (K : PySem.W.Frag) : Sp := fun vs H Q _ => ∃ (l : Addr) (ws : List (List Nat)), vs = [.ref l] ∧ H l = some (.lst (ws.map wV)) ∧ Wds ws ∧
  (∀ is, items (toks ws 0) = some is → is.length ≤ 200 → ∀ p xs H', H p = none → Ex H H' → H' p = some (.lst xs) → Tps H' (is.map itemD) xs → Q (.ref p) H') ∧ (items (toks ws 0) = none → ∀ H', Ex H H' → Q .non H')
section
variable {P : Program} {w : World} {K : PySem.W.Frag} {mg : Str → Option Value} {base : Heap}
abbrev N__law_is_text : List Str := ["_law_item"]
abbrev s__law_is_text : Stmt := top 57
theorem sc__law_is_text : FnScope N__law_is_text ["_law_item"] (defScope s__law_is_text) := ⟨rfl, rfl, rfl, by decide +kernel, rfl, by decide +kernel, by decide +kernel⟩
theorem ok_law_is_text (T : Txt w K mg) (A : DefAt K mg "_law_is_text" s__law_is_text) : DefOk P w K mg base CX0 "_law_is_text" 1 ["_law_item"] (spIsText K) := by
  refine mk_def0 A sc__law_is_text (fun _ _ _ _ _ _ us hl => match us, hl with | [_], _ => rfl) (fun vs H Q E ⟨_, _, h, _⟩ => by rw [h]; rfl) (fun f cdv A outer s H vs Q E hr h => ?_)
  obtain ⟨x, v, rfl, t, k⟩ := h
  refine ⟨_, (pss_one (ps_ret (pe_callB call_isX (by rfl) T.f_isinstance (by decide +kernel) (pa_cons (pv 0) (pa_cons (pe_bltn (v := .ty "str") (by rfl) T.f_str (by decide +kernel) rfl) pa_nil))))), ?_⟩
  refine s_ret (ev_cb (ea_cons (ev_var rfl) (ea_cons ev_c ea_nil)) (z := .bl x.isTxt) fun H1 e1 Q q => ⟨v, rfl, ?_⟩) k
  have t := t.ex e1
  cases x with
  | txt u =>
    obtain rfl := t.str
    exact Or.inl ⟨_, rfl, q H1 (Ex.refl _)⟩
  | fig n =>
    obtain ⟨a, xs, rfl, ha, _⟩ := t.tup
    exact Or.inr ⟨a, xs, rfl, ha, q H1 (Ex.refl _)⟩
  | base e =>
    obtain ⟨a, xs, rfl, ha, _⟩ := t.tup
    exact Or.inr ⟨a, xs, rfl, ha, q H1 (Ex.refl _)⟩
  | part e =>
    obtain ⟨a, xs, rfl, ha, _⟩ := t.tup
    exact Or.inr ⟨a, xs, rfl, ha, q H1 (Ex.refl _)⟩
abbrev N__law_items : List Str := ["_law_words_here", "_law_found", "_law_at", "_law_word_here", "_law_one"]
abbrev s__law_items : Stmt := top 56
theorem sc__law_items : FnScope N__law_items ["_law_words_here"] (defScope s__law_items) := ⟨rfl, rfl, rfl, by decide +kernel, rfl, by decide +kernel, by decide +kernel⟩
theorem ok_law_items (T : Txt w K mg) (A : DefAt K mg "_law_items" s__law_items) (D__law_root_at : DefOk P w K mg base CX0 "_law_root_at" 2 ["_law_words_here", "_law_at"] (spRootAt K)) : DefOk P w K mg base CX0 "_law_items" 3 ["_law_words_here"] (spItems K) := by
  refine mk_def0 A sc__law_items (fun _ _ _ _ _ _ us hl => match us, hl with | [_], _ => rfl) (fun vs H Q E ⟨_, _, h, _⟩ => by rw [h]; rfl) (fun f cdv A outer s H vs Q E hr h => ?_)
  obtain ⟨l, ws, rfl, hl, wd, k1, k2⟩ := h
  refine ⟨_, (pss_cons (ps_set (i := 1) sc__law_items.nd rfl (Or.inl rfl) (pe_lst pa_nil))
      (pss_cons (ps_set (i := 2) sc__law_items.nd rfl (Or.inl rfl) pe_int)
      (pss_cons (ps_while PassesOwn.never (pt_cmpR op_lt (pv 2) (pe_callB call_len_seq (by rfl) T.f_len PySem.boot_len (pa_cons (pv 0) pa_nil)) (nomark _)) (pss_cons (ps_set (i := 3) sc__law_items.nd rfl (Or.inl rfl) (pe_ix ix_list (pv 0) (pv 2) (fun _ _ => rfl)))
      (pss_cons (ps_set (i := 2) sc__law_items.nd rfl (Or.inl rfl) (pe_op op_add (pv 2) pe_int))
      (pss_one (ps_if (pt_cmpR op_eq (pv 3) pe_str (nomark _)) (pss_cons (ps_set (i := 4) sc__law_items.nd rfl (Or.inl rfl) (pe_def D__law_root_at (hr.mono (by decide)) rfl pass0 (pa_cons (pv 0) (pa_cons (pv 2) pa_nil))))
      (pss_cons (ps_if (pt_cmpR op_isN (pv 4) pe_non (nomark _)) (pss_one (ps_ret pe_non)) pss_nil)
      (pss_cons (ps_expr (pe_bm PySem.F.plainAttrs_list PySem.F.slot_list_append PySem.F.type_list_append mt_append (pv 1) (pa_cons (pe_tup (pa_cons pe_str (pa_cons (pe_ix ix_tup (pv 4) pe_int (fun _ _ => rfl)) pa_nil))) pa_nil)))
      (pss_one (ps_set (i := 2) sc__law_items.nd rfl (Or.inl rfl) (pe_ix ix_tup (pv 4) pe_int (fun _ _ => rfl))))))) (pss_one (ps_if (pt_cmpR op_inS (pe_ix ix_str (pv 3) pe_int (fun _ _ => rfl)) pe_str rfl) (pss_one (ps_expr (pe_bm PySem.F.plainAttrs_list PySem.F.slot_list_append PySem.F.type_list_append mt_append (pv 1) (pa_cons (pe_tup (pa_cons pe_str (pa_cons (pe_tup (pa_cons pe_str (pa_cons (pe_callTy call_int_str (by rfl) T.f_int (by decide +kernel) (pa_cons (pv 3) pa_nil)) pa_nil))) pa_nil))) pa_nil)))) (pss_one (ps_if (PW.pt (pw_and (pt_cmpR op_inS (pe_ix ix_str (pv 3) pe_int (fun _ _ => rfl)) pe_str rfl) (pw_and1 (pt_cmpR op_notIn_seq (pv 3) (pe_tup (pa_cons pe_str (pa_cons pe_str pa_nil))) rfl)))) (pss_one (ps_expr (pe_bm PySem.F.plainAttrs_list PySem.F.slot_list_append PySem.F.type_list_append mt_append (pv 1) (pa_cons (pe_tup (pa_cons pe_str (pa_cons (pe_tup (pa_cons pe_str (pa_cons (pv 3) pa_nil))) pa_nil))) pa_nil)))) (pss_one (ps_expr (pe_bm PySem.F.plainAttrs_list PySem.F.slot_list_append PySem.F.type_list_append mt_append (pv 1) (pa_cons (pv 3) pa_nil)))))))))))))
      (pss_one (ps_ret (pv 1)))))), ?_⟩
  have wl := wd.len
  refine q_asgL (Evl.el_lst ea_nil (by decide)) fun p H1 hp e1 h1 => ?_
  refine q_asg ev_c fun H2 e2 => ?_
  refine Evl.q_while (fun m σ' H' => ∃ (at' : Nat) (acc : List Item) (xs : List V) (x3 x4 : Option V), Ex H H' ∧ H' p = some (.lst xs) ∧ Tps H' (acc.map itemD) xs ∧ items (toks ws 0) = (items (toks ws at')).map (acc ++ ·) ∧ at' ≤ ws.length ∧ acc.length ≤ at' ∧ m = ws.length - at' ∧
    σ' = [some (.ref l), some (.ref p), some (.int (at' : Nat)), x3, x4]) ws.length ⟨0, [], [], none, none, e1.trans e2, e2 _ _ h1, Tps.nil, by simp, by omega, by simp, by omega, rfl⟩ ?_
  rintro m σ' H' ⟨at', acc, xs, x3, x4, ex, hacc, tacc, hit, hat, hal, rfl, rfl⟩
  have hxl : xs.length = acc.length := by rw [tacc.len, List.length_map]
  have hlen : ((ws.map wV).length : Int) = (ws.length : Int) := by rw [List.length_map]
  refine ⟨decide (at' < ws.length), Evl.et_is (et_test (ev_op (ev_var rfl) (Evl.ev_len (ev_var rfl) (Evl.sq_of (ex _ _ hl))) rv_I0)) (by rw [hlen]; exact decide_eq_decide.mpr (by omega)), fun hb H3 e3 => ?_, fun hb H3 e3 => ?_⟩
  · have hb : at' < ws.length := of_decide_eq_true hb
    have eu : ws[at']? = some ws[at'] := List.getElem?_eq_getElem hb
    revert eu
    generalize ws[at'] = u
    intro eu
    have q2 := wd.get eu
    have tc := toks_cons eu
    refine ⟨fun σ2 H2 => ∃ m', m' < ws.length - at' ∧ ∃ (at' : Nat) (acc : List Item) (xs : List V) (x3 x4 : Option V), Ex H H2 ∧ H2 p = some (.lst xs) ∧ Tps H2 (acc.map itemD) xs ∧ items (toks ws 0) = (items (toks ws at')).map (acc ++ ·) ∧ at' ≤ ws.length ∧ acc.length ≤ at' ∧ m' = ws.length - at' ∧
      σ2 = [some (.ref l), some (.ref p), some (.int (at' : Nat)), x3, x4], fun _ _ h => h, ?_⟩
    refine q_asg (v := wV u) (ev_op (ev_var rfl) (ev_var rfl) (Evl.rv_ixL (Evl.sq_of (e3 _ _ (ex _ _ hl))) (atI_nat (by rw [List.getElem?_map, eu]; rfl)))) fun H4 e4 => ?_
    refine q_asg (v := .int ((at' + 1 : Nat) : Int)) (ev_op (ev_var rfl) ev_c rv_I0) fun H5 e5 => ?_
    have E5 := ((ex.trans e3).trans e4).trans e5
    have X5 := (e3.trans e4).trans e5
    -- one item more
    have more : ∀ (y : Item) (n' : Nat) (vy : V) (H6 H7 : Hp) (x3 x4 : Option V), items (toks ws at') = (items (toks ws n')).map (y :: ·) → at' < n' → n' ≤ ws.length → Ex H5 H6 → Tp H6 (itemD y) vy → Ex (upd H6 p (.lst (xs ++ [vy]))) H7 →
        ∃ m', m' < ws.length - at' ∧ ∃ (at' : Nat) (acc : List Item) (xs : List V) (x3' x4' : Option V), Ex H H7 ∧ H7 p = some (.lst xs) ∧ Tps H7 (acc.map itemD) xs ∧ items (toks ws 0) = (items (toks ws at')).map (acc ++ ·) ∧ at' ≤ ws.length ∧ acc.length ≤ at' ∧ m' = ws.length - at' ∧
          [some (.ref l), some (.ref p), some (.int (n' : Nat)), x3, x4] = [some (.ref l), some (.ref p), some (.int (at' : Nat)), x3', x4'] := by
      intro y n' vy H6 H7 x3 x4 hy h1 h2 e6 ty e7
      have h6 := e6 _ _ (X5 _ _ hacc)
      refine ⟨ws.length - n', by omega, n', acc ++ [y], xs ++ [vy], x3, x4, Ex.trans (Ex.mut (E5.trans e6) hp) e7, e7 _ _ upd_same, ?_, ?_, h2, by simp; omega, rfl, rfl⟩
      · rw [List.map_append]
        exact Tps.ex (Tps.mono ((Tk.refl H6).lst h6) _ _ (Tps.append (tacc.ex (X5.trans e6)) (Tps.one ty))) e7
      · rw [hit, hy, Option.map_map]
        congr 1
        funext z
        simp
    refine s_if (b := decide (tokOf u = .root)) (Evl.et_is (et_test (ev_op (ev_var rfl) ev_c (rv_eq rfl))) (by rw [wV_dec _ l_root, q2.is .root (fun _ h => nomatch h)])) (fun hr H6 e6 => ?_) (fun hr H6 e6 => ?_)
    · have hr : tokOf u = .root := of_decide_eq_true hr
      rw [hr] at tc
      refine q_asgC (ea_cons (ev_var rfl) (ea_cons (ev_var rfl) ea_nil)) fun H7 e7 => ⟨l, ws, at' + 1, rfl, e7 _ _ (e6 _ _ (E5 _ _ hl)), wd, by omega, fun x r n' hroot hr1 hn' hlt p2 v H8 e8 h8 tv => ?_, fun hroot H8 e8 => ?_⟩
      · refine q_when (b := false) (Evl.et_is (et_test (ev_op (ev_var rfl) ev_c rv_isN)) rfl) (fun h => by cases h) (fun _ H9 e9 => ?_)
        have E9 := ((e6.trans e7).trans e8).trans e9
        have td : Tp H9 (.tuple [xpD (.root x.1 x.2), .int (n' : Nat)]) (.ref p2) := Tp.ofTup (e9 _ _ h8) (Tps.cons (tv.ex e9) (Tps.one (Tp.ofInt _)))
        refine q_appD (d := itemD (.base (.root x.1 x.2))) (E9 _ _ (X5 _ _ hacc)) (ev_var rfl) (ed_tup (eds_cons ed_s (eds_cons (ed_ixT (j := 0) (ed_var rfl td) rfl) eds_nil)) (by simp)) (by omega) fun v10 H10 e10 t10 => ?_
        have h10 : H10 p = some (.lst xs) := e10 _ _ (E9 _ _ (X5 _ _ hacc))
        have td2 := Tp.mono ((Tk.refl H10).lst (o := .lst (xs ++ [v10])) h10) _ _ (td.ex e10)
        refine s_asgD (d := .int (n' : Nat)) (ed_ixT (j := 1) (ed_var rfl td2) rfl) fun v11 H11 e11 t11 => ?_
        obtain rfl := t11.int
        refine more (.base (.root x.1 x.2)) n' v10 H10 H11 _ _ ?_ (by omega) hn' (E9.trans e10) t10 e11
        rw [tc, items_root, hroot]
        show (items r).map _ = _
        rw [hr1]
      · refine q_when (b := true) (Evl.et_is (et_test (ev_op (ev_var rfl) ev_c rv_isN)) rfl) (fun _ H9 e9 => ?_) (fun h => by cases h)
        refine s_ret ev_c fun H10 e10 => k2 ?_ H10 (((((E5.trans e6).trans e7).trans e8).trans e9).trans e10)
        rw [hit, tc, items_root, hroot]
        rfl
    · have hr : tokOf u ≠ .root := of_decide_eq_false hr
      obtain ⟨c, r, rfl⟩ : ∃ c r, u = c :: r := by
        cases u with
        | nil => exact absurd rfl q2.ne
        | cons c r => exact ⟨c, r, rfl⟩
      have hzz : (mkS (c :: r)).length ≤ 100000 := by rw [mkS_len]; have := q2.small; omega
      have evc : ∀ {σ : L2.St} {H}, σ[3]? = some (some (wV (c :: r))) → Ev (tOp rIxS (tVar 3) (tC (.int 0))) σ H (.str ⟨#[c]⟩) := fun h0 =>
        ev_op (ev_var h0) ev_c (Evl.rv_ixS (c := c) hzz (by rw [mkS_list]; exact atI_nat (j := 0) rfl))
      refine s_if (b := isFig c) (Evl.et_is (et_test (ev_op (evc rfl) ev_c rv_inS)) (by rw [l_figs]; rfl)) (fun hf H7 e7 => ?_) (fun hf H7 e7 => ?_)
      · have hfig := q2.figH
        rw [hf] at hfig
        obtain ⟨i, hi⟩ : ∃ i, tokOf (c :: r) = .num i := by
          cases q : tokOf (c :: r) <;> rw [q] at hfig <;> first | exact ⟨_, rfl⟩ | cases hfig
        rw [hi] at q2 tc
        refine s_appD (d := itemD (.fig i)) (e7 _ _ (e6 _ _ (X5 _ _ hacc))) (ev_var rfl) (ed_tup (eds_cons ed_s (eds_cons (ed_tup (eds_cons ed_s (eds_cons (ed_i (ev_cb (ea_cons (ev_var rfl) ea_nil) (rc_int q2))) eds_nil)) (by simp)) eds_nil)) (by simp)) (by omega) fun v8 H8 e8 t8 => ?_
        exact more (.fig i) (at' + 1) v8 H8 _ _ _ (by rw [tc, items_num]) (by omega) (by omega) ((e6.trans e7).trans e8) t8 (Ex.refl _)
      · have hfig := q2.figH
        rw [hf] at hfig
        have hlet := q2.lett
        refine s_if (b := isLet c && !isRtH [tokOf (c :: r)]) (Evl.et_is (et_and (et_test (ev_op (evc rfl) ev_c rv_inS)) fun _ => et_test (Evl.ev_niU (ev_var rfl) (Evl.eu_tup (ea_cons ev_c (ea_cons ev_c ea_nil)) (by simp)) rfl rfl)) ?_) (fun hg H8 e8 => ?_) (fun hg H8 e8 => ?_)
        · rw [l_lets, inV_roots, q2.is .sqrt (fun _ h => nomatch h), q2.is .cbrt (fun _ h => nomatch h)]
          have : (decide (tokOf (c :: r) = .rt .sqrt) || decide (tokOf (c :: r) = .rt .cbrt)) = isRtH [tokOf (c :: r)] := by
            cases tokOf (c :: r) <;> try rfl
            rename_i m
            cases m <;> rfl
          rw [this]
          rfl
        · rw [Bool.and_eq_true] at hg
          have hl2 := q2.letH
          rw [hg.1] at hl2
          obtain ⟨v, hv⟩ : ∃ v, tokOf (c :: r) = .name v := by
            have hg2 := hg.2
            cases q : tokOf (c :: r) <;> rw [q] at hl2 hg2 <;> first | exact ⟨_, rfl⟩ | exact absurd q hr | (cases hl2; done) | (cases hg2; done)
          rw [hv] at q2 tc
          have ev := q2.nameS
          refine s_appD (d := itemD (.base (.name v))) (e8 _ _ (e7 _ _ (e6 _ _ (X5 _ _ hacc)))) (ev_var rfl) (ed_tup (eds_cons ed_s (eds_cons (ed_tup (eds_cons ed_s (eds_cons (ed_var rfl (by rw [ev]; exact Tp.ofStr _)) eds_nil)) (by simp)) eds_nil)) (by simp)) (by omega) fun v8 H9 e9 t8 => ?_
          exact more (.base (.name v)) (at' + 1) v8 H9 _ _ _ (by rw [tc, items_name]) (by omega) (by omega) (((e6.trans e7).trans e8).trans e9) t8 (Ex.refl _)
        · have hp : (tokOf (c :: r)).isPlain = true := by
            have hl2 := q2.letH
            cases q : tokOf (c :: r) with
            | num i => rw [q] at hfig; cases hfig
            | root => exact absurd q hr
            | name v => rw [q] at hl2 hg; rw [hl2] at hg; cases hg
            | _ => rfl
          have ew := tokW_of q2 hp
          refine s_appD (d := itemD (.txt (tokOf (c :: r)))) (e8 _ _ (e7 _ _ (e6 _ _ (X5 _ _ hacc)))) (ev_var rfl) (ed_var rfl (by
            show Tp _ (wD (tokW (tokOf (c :: r)))) _
            rw [← ew]
            exact Tp.ofStr _)) (by omega) fun v8 H9 e9 t8 => ?_
          exact more (.txt (tokOf (c :: r))) (at' + 1) v8 H9 _ _ _ (by rw [tc, items_txt _ hp]) (by omega) (by omega) (((e6.trans e7).trans e8).trans e9) t8 (Ex.refl _)
  · have hb : ¬ at' < ws.length := of_decide_eq_false hb
    have et : toks ws at' = [] := toks_nil (List.getElem?_eq_none_iff.mpr (by omega))
    rw [et] at hit
    have hit : items (toks ws 0) = some acc := by
      rw [hit]
      show (some []).map (acc ++ ·) = _
      simp
    exact s_ret (ev_var rfl) fun H4 e4 => k1 acc hit (by omega) p xs H4 hp ((ex.trans e3).trans e4) (e4 _ _ (e3 _ _ hacc)) (tacc.ex (e3.trans e4))
end
end K83
end
section
set_option maxRecDepth 100000
set_option maxHeartbeats 4000000
namespace K83
open PySem PySem.Spec PyProof.Rows L2
open Evl (Ex Ev EvT EvA EvL EvU EvO RV RU RC ev_var ev_c ev_op ev_un ev_if ev_andV ev_orV ev_notV et_test et_B et_and et_or et_not ea_nil ea_cons ev_cb q_asg q_asgL q_asgU q_if q_when s_asg s_ret s_if s_when s_drop q_drop rv_I0 rv_I rv_eq rv_ne rv_val el_sl eo_none eo_some tCut pss_cut q_cut)
def itemTag : Item → Str
  | .txt _ => ""
  | .fig _ => "figures"
  | .base _ => "base"
  | .part _ => "part"
theorem itemD_tup {x : Item} (h : x.isTxt = false) : itemD x = .tuple [.str (itemTag x), xpD x.ex] := by
  cases x with
  | txt t => cases h
  | _ => rfl
theorem ev_intD {te : TE} {σ : L2.St} {H : Hp} {i : Int} (h : EvD te σ H (.int i)) : Ev te σ H (.int i) := fun H1 e Q q => h H1 e _ fun v H2 e2 t => by
  obtain rfl := t.int
  exact q H2 e2
theorem lay_items {is : List Item} (h : ∀ x ∈ is, okI x) : PyData.canLayAll0 (is.map itemD) = true := by
  induction is with
  | nil => rfl
  | cons x is ih =>
    rw [List.map_cons, PyData.canLayAll0, okI_lay (h x (List.mem_cons_self ..)), ih fun y hy => h y (List.mem_cons_of_mem _ hy)]
    rfl
section
variable {K : PySem.W.Frag} {σ : L2.St} {H H' : Hp} {ta tb te : TE} {l : Addr} {xs : List V} {is : List Item} {t : Tok} {z : Str}
/-- items == [] -/
theorem ev_itemsEmpty {neg : Bool} (ha : Ev ta σ H (.ref l)) (h : H l = some (.lst xs)) (ts : Tps H (is.map itemD) xs) (ok : ∀ x ∈ is, okI x) : Ev (tOp (rEqX K neg) ta (tLst tNil)) σ H (.bl (if neg then !is.isEmpty else is.isEmpty)) :=
  Evl.ev_opL ha (Evl.el_lst ea_nil (by decide)) fun p H1 hp e => fun H2 e2 Q q => by
    refine ⟨.list (is.map itemD), .list [], .lst (Evl.sq_of (e2 _ _ (e _ _ h))) (Tps.dp _ _ (ts.ex (e.trans e2))), .lst (Evl.sq_of (e2 _ _ hp)) .nil, ?_, rfl, ?_, ?_⟩
    · rw [PyData.canLay0]
      exact lay_items ok
    · unfold Room1
      simp [PyData.depth, PyData.depthAll]
    · rw [eqv_nil, List.isEmpty_map]
      exact q H2 (Ex.refl H2)
theorem drop_take1G {α : Type} {ws : List α} {n : Nat} : (ws.drop n).take (n + 1 - n) = match ws[n]? with | none => [] | some w => [w] := by
  have : n + 1 - n = 1 := by omega
  rw [this]
  cases e : ws[n]? with
  | none =>
    rw [List.drop_eq_nil_iff.mpr (List.getElem?_eq_none_iff.mp e)]
    rfl
  | some w =>
    obtain ⟨hn, e⟩ := List.getElem?_eq_some_iff.mp e
    rw [List.drop_eq_getElem_cons hn, e]
    rfl
def atT (is : List Item) (n : Nat) (t : Tok) : Bool := match is[n]? with
  | none => false
  | some x => isT x t
/-- items[i:i+1] == [sign] -/
theorem ev_itemAt {i : Nat} (h : Ev te σ H (.ref l)) (hl : H l = some (.lst xs)) (ts : Tps H (is.map itemD) xs) (ok : ∀ x ∈ is, okI x) (hi : Ev ta σ H (.int (i : Int))) (hj : Ev tb σ H (.int ((i + 1 : Nat) : Int))) (ht : t.isPlain = true) (hz : z = mkS (tokW t)) :
    Ev (tOp (rEqX K false) (tSl (rSlL K) te (tPart ta) (tPart tb)) (tLst (tCons (tC (.str z)) tNil))) σ H (.bl (atT is i t)) := by
  subst hz
  refine Evl.ev_opLL (el_sl h (eo_some hi) (eo_some hj) (Evl.sq_of hl)) (Evl.el_lst (ea_cons ev_c ea_nil) (by simp)) fun p q H1 hp hq e => fun H2 e2 Q k => ?_
  rw [cutV_nat] at hp
  have tp : Tps H2 (((is.drop i).take (i + 1 - i)).map itemD) ((xs.drop i).take (i + 1 - i)) := by
    rw [List.map_take, List.map_drop]
    exact Tps.take _ (Tps.drop _ (ts.ex (e.trans e2)))
  refine ⟨.list (((is.drop i).take (i + 1 - i)).map itemD), .list [wD (tokW t)], .lst (Evl.sq_of (e2 _ _ hp)) (Tps.dp _ _ tp), .lst (Evl.sq_of (e2 _ _ hq)) (dp_words [tokW t]), ?_, ?_, ?_, ?_⟩
  · rw [PyData.canLay0]
    exact lay_items fun x hx => ok x (List.mem_of_mem_drop (List.mem_of_mem_take hx))
  · rw [PyData.canLay0]
    exact lay_words (ws := [tokW t]) fun w hw => by
      rw [List.mem_singleton.mp hw]
      exact (tokW_wv ht).1.asc
  · unfold Room1
    simp [PyData.depth, PyData.depthAll]
  · have ev : PyData.eqv (.list (((is.drop i).take (i + 1 - i)).map itemD)) (.list [wD (tokW t)]) = atT is i t := by
      rw [drop_take1G, PyData.eqv]
      unfold atT
      cases e : is[i]? with
      | none => simp [PyData.eqvAll]
      | some x =>
        have := eqv_isT (ok x (List.mem_of_getElem? e)) ht
        simp [PyData.eqvAll, this]
    rw [ev]
    exact k H2 (Ex.refl H2)
end
theorem q_setLast {D : Ends} {tz : TS} {d d0 : PyData} {ds : List PyData} {te ta : TE} {σ : L2.St} {H : Hp} {l : Addr} {xs : List V} (h : EvD te σ H d) (ho : Ev ta σ H (.ref l)) (hl : H l = some (.lst xs)) (hx : Tps H (ds ++ [d0]) xs)
    (k : ∀ v ys H1, Ex H H1 → Tp H1 d v → Tps H1 ds ys → H1 l = some (.lst xs) → tz D σ (upd H1 l (.lst (ys ++ [v])))) : tSeq (tAsg te (gSub ta (tUn (fun x H Q => ∃ i, x = .int i ∧ Q (.int (-i)) H) (tC (.int 1))) rSetL)) tz D σ H :=
  h H (Ex.refl H) _ fun v H1 e1 t1 => ho H1 e1 _ fun H2 e2 => by
    obtain ⟨ys0, zs, rfl, t0, tz2⟩ := Tps.split hx
    have zl : zs.length = 1 := by rw [tz2.len]; rfl
    have eix : ixN (ys0 ++ zs).length (-1) = some ys0.length := by
      unfold ixN
      have : (ys0 ++ zs).length = ys0.length + 1 := by rw [List.length_append, zl]
      rw [this, if_neg (by decide), if_pos (by omega)]
      congr 1
      omega
    have es : (ys0 ++ zs).set ys0.length v = ys0 ++ [v] := by
      rw [List.set_append_right _ _ (by simp)]
      match zs, zl with
      | [z], _ => simp
    refine ⟨1, rfl, l, _, _, ys0.length, rfl, rfl, e2 _ _ (e1 _ _ hl), eix, ?_⟩
    rw [es]
    exact k v ys0 H2 (e1.trans e2) (t1.ex e2) (t0.ex (e1.trans e2)) (e2 _ _ (e1 _ _ hl))
/-! ### powers -/
theorem mul_sign {H : Hp} (n : Nat) (b : Bool) : RV (rI CMul fun i j => .int (i * j)) (.int (n : Int)) (.int (if b then -1 else 1)) H (.int (if b then -(n : Int) else n)) := fun H5 e5 Q q => ⟨_, _, rfl, rfl, Or.inr (by cases b <;> decide), by
  have := q H5 (Ex.refl H5)
  have e6 : (n : Int) * (if b then -1 else 1) = if b then -(n : Int) else n := by cases b <;> simp
  show Q (.int ((n : Int) * (if b then -1 else 1))) H5
  rw [e6]
  exact this⟩
theorem powers_nil (acc : List Item) : powers [] acc = some acc.reverse := by simp [powers]
theorem powers_other {x : Item} (h : isT x .hat = false) (r acc : List Item) : powers (x :: r) acc = powers r (x :: acc) := by
  cases x with
  | txt t =>
    have : t ≠ .hat := of_decide_eq_false h
    cases t <;> first | exact absurd rfl this | rfl | simp [powers]
  | fig n => simp [powers]
  | base e => simp [powers]
  | part e => simp [powers]
theorem powers_hat0 (r : List Item) : powers (.txt .hat :: r) [] = none := by
  cases r with
  | nil => simp [powers]
  | cons x r => cases x <;> simp [powers]
def powB : List Item → Bool
  | [] => false
  | x :: _ => isT x (.op .less)
theorem powers_hat (r : List Item) (a : Item) (acc : List Item) : powers (.txt .hat :: r) (a :: acc) = match (if powB r then r.tail else r) with
    | .fig n :: r' => if a.isBase ∧ n ≤ 8 then powers r' (.part (.pow a.ex (if powB r then -(n : Int) else n)) :: acc) else none
    | _ => none := by
  cases r with
  | nil => simp [powers, powB]
  | cons x r =>
    cases x with
    | fig n => simp [powers, powB, isT]
    | base e => simp [powers, powB, isT]
    | part e => simp [powers, powB, isT]
    | txt t =>
      by_cases h : t = .op .less
      · subst h
        have hb : powB (.txt (.op .less) :: r) = true := rfl
        rw [hb]
        cases r with
        | nil => simp [powers]
        | cons y r => cases y <;> simp [powers]
      · have hb : powB (.txt t :: r) = false := decide_eq_false h
        rw [hb]
        simp only [Bool.false_eq_true, if_false]
        cases t with
        | op o => cases o <;> first | exact absurd rfl h | simp [powers]
        | _ => simp [powers]
def spItemsF (f : List Item → Option (List Item)) (K : PySem.W.Frag) : Sp := fun vs H Q _ => ∃ (l : Addr) (xs : List V) (is : List Item), vs = [.ref l] ∧ H l = some (.lst xs) ∧ Tps H (is.map itemD) xs ∧ (∀ x ∈ is, okI x) ∧ is.length ≤ 2000 ∧
  (∀ out, f is = some out → (∀ x ∈ out, okI x) → out.length ≤ is.length → ∀ p ys H', H p = none → Ex H H' → H' p = some (.lst ys) → Tps H' (out.map itemD) ys → Q (.ref p) H') ∧ (f is = none → ∀ H', Ex H H' → Q .non H')
theorem ok_pow {e : Xp} (h : okX e) (k : Int) : okX (.pow e k) := by
  show (xpD (.pow e k)).canLay0 = true
  rw [xpD]
  exact ok_tup3 (strOk_dec (by decide +kernel)) h (by rw [PyData.canLay0])
theorem okI_ex {x : Item} (h : okI x) : okX x.ex := by
  cases x with
  | txt t => exact ok_num 0
  | fig n => exact ok_num n
  | base e => exact h
  | part e => exact h
theorem tag_part {x : Item} (h : x.isTxt = false) : PyData.eqv (.str (itemTag x)) (.str "part") = !x.isBase := by
  cases x with
  | txt t => cases h
  | fig n => rw [PyData.eqv]; show (("figures" : Str) == "part") = false; decide +kernel
  | base n => rw [PyData.eqv]; show (("base" : Str) == "part") = false; decide +kernel
  | part n => rw [PyData.eqv]; show (("part" : Str) == "part") = true; decide +kernel
def isFigI : Item → Bool
  | .fig _ => true
  | _ => false
theorem tag_fig {x : Item} (h : x.isTxt = false) : PyData.eqv (.str (itemTag x)) (.str "figures") = isFigI x := by
  cases x with
  | txt t => cases h
  | fig n => rw [PyData.eqv]; show (("figures" : Str) == "figures") = true; decide +kernel
  | base n => rw [PyData.eqv]; show (("base" : Str) == "figures") = false; decide +kernel
  | part n => rw [PyData.eqv]; show (("part" : Str) == "figures") = false; decide +kernel
theorem lay_tag (x : Item) : (PyData.str (itemTag x)).canLay0 = true := by
  rw [PyData.canLay0]
  match x with
  | .txt _ => exact strOk_dec (z := "") (by decide +kernel)
  | .fig _ => exact strOk_dec (z := "figures") (by decide +kernel)
  | .base _ => exact strOk_dec (z := "base") (by decide +kernel)
  | .part _ => exact strOk_dec (z := "part") (by decide +kernel)
theorem lay_part : (PyData.str "part").canLay0 = true := by rw [PyData.canLay0]; exact strOk_dec (by decide +kernel)
theorem lay_figures : (PyData.str "figures").canLay0 = true := by rw [PyData.canLay0]; exact strOk_dec (by decide +kernel)
theorem room_str (d : PyData) (z : Str) : Room1 d (.str z) := by
  unfold Room1
  simp [PyData.depth]
section
variable {P : Program} {w : World} {K : PySem.W.Frag} {mg : Str → Option Value} {base : Heap}
abbrev N__law_powers : List Str := ["_law_items_here", "_law_found", "_law_at", "_law_one", "_law_is_below"]
abbrev s__law_powers : Stmt := top 58
theorem sc__law_powers : FnScope N__law_powers ["_law_items_here"] (defScope s__law_powers) := ⟨rfl, rfl, rfl, by decide +kernel, rfl, by decide +kernel, by decide +kernel⟩
theorem ok_law_powers (T : Txt w K mg) (A : DefAt K mg "_law_powers" s__law_powers) (D__law_is_text : DefOk P w K mg base CX0 "_law_is_text" 1 ["_law_item"] (spIsText K)) : DefOk P w K mg base CX0 "_law_powers" 2 ["_law_items_here"] (spItemsF (fun is => powers is []) K) := by
  refine mk_def0 A sc__law_powers (fun _ _ _ _ _ _ us hl => match us, hl with | [_], _ => rfl) (fun vs H Q E ⟨_, _, _, h, _⟩ => by rw [h]; rfl) (fun f cdv A outer s H vs Q E hr h => ?_)
  obtain ⟨l, xs, is, rfl, hl, tis, ok, hz, k1, k2⟩ := h
  refine ⟨_, (pss_cons (ps_set (i := 1) sc__law_powers.nd rfl (Or.inl rfl) (pe_lst pa_nil))
      (pss_cons (ps_set (i := 2) sc__law_powers.nd rfl (Or.inl rfl) pe_int)
      (pss_cons (ps_while PassesOwn.never (pt_cmpR op_lt (pv 2) (pe_callB call_len_seq (by rfl) T.f_len PySem.boot_len (pa_cons (pv 0) pa_nil)) (nomark _)) (pss_cons (ps_set (i := 3) sc__law_powers.nd rfl (Or.inl rfl) (pe_ix ix_list (pv 0) (pv 2) (fun _ _ => rfl)))
      (pss_cons (ps_set (i := 2) sc__law_powers.nd rfl (Or.inl rfl) (pe_op op_add (pv 2) pe_int))
      (pss_cons (ps_if (pt_cmpR (op_neX hr.units) (pv 3) pe_str (nomark _)) (pss_cons (ps_expr (pe_bm PySem.F.plainAttrs_list PySem.F.slot_list_append PySem.F.type_list_append mt_append (pv 1) (pa_cons (pv 3) pa_nil)))
      (pss_one ps_continue)) pss_nil)
      (pss_cons (ps_set (i := 4) sc__law_powers.nd rfl (Or.inl rfl) (pe_cmpR (op_eqX hr.units) (pe_slice sl_list (pv 0) (po_some (pv 2)) (po_some (pe_op op_add (pv 2) pe_int))) (pe_lst (pa_cons pe_str pa_nil)) (nomark _)))
      (pss_cons (ps_set (i := 2) sc__law_powers.nd rfl (Or.inl rfl) (pe_op op_add (pv 2) (pe_callTy call_int1 (by rfl) T.f_int (by decide +kernel) (pa_cons (pv 4) pa_nil))))
      (pss_cons (ps_if (PW.pt (pw_or (pt_cmpR (op_eqX hr.units) (pv 1) (pe_lst pa_nil) (nomark _)) (pw_or (pt_val (pe_def D__law_is_text (hr.mono (by decide)) rfl pass0 (pa_cons (pe_ix ix_list (pv 1) (pe_un un_neg pe_int) (fun _ _ => rfl)) pa_nil))) (pw_or (pt_cmpR (op_eqX hr.units) (pe_ix ix_tup (pe_ix ix_list (pv 1) (pe_un un_neg pe_int) (fun _ _ => rfl)) pe_int (fun _ _ => rfl)) pe_str (nomark _)) (pw_or1 (pt_cmpR op_ge (pv 2) (pe_callB call_len_seq (by rfl) T.f_len PySem.boot_len (pa_cons (pv 0) pa_nil)) (nomark _))))))) (pss_one (ps_ret pe_non)) pss_nil)
      (pss_cons (ps_if (PW.pt (pw_or (pt_val (pe_def D__law_is_text (hr.mono (by decide)) rfl pass0 (pa_cons (pe_ix ix_list (pv 0) (pv 2) (fun _ _ => rfl)) pa_nil))) (pw_or (pt_cmpR (op_neX hr.units) (pe_ix ix_tup (pe_ix ix_list (pv 0) (pv 2) (fun _ _ => rfl)) pe_int (fun _ _ => rfl)) pe_str (nomark _)) (pw_or1 (pt_cmpR op_gt (pe_ix ix_tup (pe_ix ix_tup (pe_ix ix_list (pv 0) (pv 2) (fun _ _ => rfl)) pe_int (fun _ _ => rfl)) pe_int (fun _ _ => rfl)) pe_int (nomark _)))))) (pss_one (ps_ret pe_non)) pss_nil)
      (pss_cons (ps_asg (pe_tup (pa_cons pe_str (pa_cons (pe_tup (pa_cons pe_str (pa_cons (pe_ix ix_tup (pe_ix ix_list (pv 1) (pe_un un_neg pe_int) (fun _ _ => rfl)) pe_int (fun _ _ => rfl)) (pa_cons (pe_op op_mul (pe_ix ix_tup (pe_ix ix_tup (pe_ix ix_list (pv 0) (pv 2) (fun _ _ => rfl)) pe_int (fun _ _ => rfl)) pe_int (fun _ _ => rfl)) (pe_ix ix_list (pe_lst (pa_cons pe_int (pa_cons (pe_un un_neg pe_int) pa_nil))) (pe_callTy call_int1 (by rfl) T.f_int (by decide +kernel) (pa_cons (pv 4) pa_nil)) (fun _ _ => rfl))) pa_nil)))) pa_nil))) (pg_sub (pv 1) (pe_un un_neg pe_int) set_list))
      (pss_one (ps_set (i := 2) sc__law_powers.nd rfl (Or.inl rfl) (pe_op op_add (pv 2) pe_int))))))))))))
      (pss_one (ps_ret (pv 1)))))), ?_⟩
  have hxl : xs.length = is.length := by rw [tis.len, List.length_map]
  refine q_asgL (Evl.el_lst ea_nil (by decide)) fun p H1 hp e1 h1 => ?_
  refine q_asg ev_c fun H2 e2 => ?_
  refine Evl.q_while (fun m σ' H' => ∃ (at' : Nat) (acc : List Item) (ys : List V) (x3 x4 : Option V), Ex H H' ∧ H' p = some (.lst ys) ∧ Tps H' (acc.reverse.map itemD) ys ∧ powers is [] = powers (is.drop at') acc ∧ at' ≤ is.length ∧ acc.length ≤ at' ∧ (∀ x ∈ acc, okI x) ∧ m = is.length - at' ∧
    σ' = [some (.ref l), some (.ref p), some (.int (at' : Nat)), x3, x4]) is.length ⟨0, [], [], none, none, e1.trans e2, e2 _ _ h1, Tps.nil, rfl, by omega, by simp, by simp, by omega, rfl⟩ ?_
  rintro m σ' H' ⟨at', acc, ys, x3, x4, ex, hacc, tacc, hpw, hat, hal, oka, rfl, rfl⟩
  have hyl : ys.length = acc.length := by rw [tacc.len, List.length_map, List.length_reverse]
  have hlen : (xs.length : Int) = (is.length : Int) := by rw [hxl]
  refine ⟨decide (at' < is.length), Evl.et_is (et_test (ev_op (ev_var rfl) (Evl.ev_len (ev_var rfl) (Evl.sq_of (ex _ _ hl))) rv_I0)) (by rw [hlen]; exact decide_eq_decide.mpr (by omega)), fun hb H3 e3 => ?_, fun hb H3 e3 => ?_⟩
  · have hb : at' < is.length := of_decide_eq_true hb
    have ex1 : is[at']? = some is[at'] := List.getElem?_eq_getElem hb
    have hdrop : is.drop at' = is[at'] :: is.drop (at' + 1) := List.drop_eq_getElem_cons hb
    have okx : okI is[at'] := ok _ (List.getElem_mem hb)
    revert ex1 hdrop okx
    generalize is[at'] = x
    intro ex1 hdrop okx
    refine ⟨fun σ2 H2 => ∃ m', m' < is.length - at' ∧ ∃ (at' : Nat) (acc : List Item) (ys : List V) (x3 x4 : Option V), Ex H H2 ∧ H2 p = some (.lst ys) ∧ Tps H2 (acc.reverse.map itemD) ys ∧ powers is [] = powers (is.drop at') acc ∧ at' ≤ is.length ∧ acc.length ≤ at' ∧ (∀ x ∈ acc, okI x) ∧ m' = is.length - at' ∧
      σ2 = [some (.ref l), some (.ref p), some (.int (at' : Nat)), x3, x4], fun _ _ h => h, ?_⟩
    have E3 := ex.trans e3
    refine q_asgD (d := itemD x) (ed_ixL (ev_var rfl) (E3 _ _ hl) (tis.ex E3) (ev_var rfl) (by rw [List.getElem?_map, ex1]; rfl)) fun v H4 e4 tv => ?_
    refine q_asg (v := .int ((at' + 1 : Nat) : Int)) (ev_op (ev_var rfl) ev_c rv_I0) fun H5 e5 => ?_
    have E5 := (E3.trans e4).trans e5
    have X5 := (e3.trans e4).trans e5
    refine q_when (b := !isT x .hat) (et_test (ev_isT (neg := true) (t := .hat) (ed_var rfl (tv.ex e5)) okx rfl l_hat)) (fun hh H6 e6 => ?_) (fun hh H6 e6 => ?_)
    · have hh : isT x .hat = false := by simpa using hh
      refine q_appD (d := itemD x) (e6 _ _ (X5 _ _ hacc)) (ev_var rfl) (ed_var rfl (tv.ex (e5.trans e6))) (by omega) fun v7 H7 e7 t7 => ?_
      have h7 := e7 _ _ (e6 _ _ (X5 _ _ hacc))
      refine ⟨is.length - (at' + 1), by omega, at' + 1, x :: acc, ys ++ [v7], _, _, Ex.mut ((E5.trans e6).trans e7) hp, upd_same, ?_, ?_, by omega, by simp; omega, ?_, rfl, rfl⟩
      · rw [List.reverse_cons, List.map_append]
        exact Tps.mono ((Tk.refl H7).lst h7) _ _ (Tps.append (tacc.ex ((X5.trans e6).trans e7)) (Tps.one t7))
      · rw [hpw, hdrop, powers_other hh]
      · intro y hy
        rcases List.mem_cons.mp hy with e | hy
        · rw [e]; exact okx
        · exact oka y hy
    · have hh : isT x .hat = true := by simpa using hh
      obtain rfl : x = .txt .hat := by
        cases x with
        | txt t => rw [show t = .hat from of_decide_eq_true hh]
        | _ => cases hh
      have E6 := E5.trans e6
      have X6 := X5.trans e6
      obtain ⟨b, hbb⟩ : ∃ b, b = atT is (at' + 1) (.op .less) := ⟨_, rfl⟩
      refine q_asg (v := .bl b) (by rw [hbb]; exact ev_itemAt (i := at' + 1) (t := .op .less) (ev_var rfl) (E6 _ _ hl) (tis.ex E6) ok (ev_var rfl) (ev_op (ev_var rfl) ev_c rv_I0) rfl l_minus) fun H7 e7 => ?_
      refine q_asg (v := .int ((at' + 1 + (if b then 1 else 0) : Nat) : Int)) (ev_op (ev_var rfl) (ev_cb (ea_cons (ev_var rfl) ea_nil) (rc_intB (σ := []))) rv_I0) fun H8 e8 => ?_
      have E8 := (E6.trans e7).trans e8
      have X8 := (X6.trans e7).trans e8
      have pb : powB (is.drop (at' + 1)) = b := by
        rw [hbb]
        unfold atT
        cases q : is[at' + 1]? with
        | none =>
          rw [List.drop_eq_nil_iff.mpr (List.getElem?_eq_none_iff.mp q)]
          rfl
        | some y =>
          obtain ⟨hn, q2⟩ := List.getElem?_eq_some_iff.mp q
          rw [List.drop_eq_getElem_cons hn, q2]
          rfl
      have rest : (if b then (is.drop (at' + 1)).tail else is.drop (at' + 1)) = is.drop (at' + 1 + (if b then 1 else 0)) := by
        cases b with
        | true =>
          show (is.drop (at' + 1)).tail = is.drop (at' + 1 + 1)
          rw [List.tail_drop]
        | false => rfl
      obtain ⟨m, hm⟩ : ∃ m, m = at' + 1 + (if b then 1 else 0) := ⟨_, rfl⟩
      have hmm : at' + 1 ≤ m := by rw [hm]; omega
      rw [← hm] at rest ⊢
      match acc, hacc, tacc, hpw, hal, oka, hyl with
      | [], hacc, tacc, hpw, hal, oka, hyl =>
        refine q_when (b := true) (Evl.et_is (et_or (b := false) (et_test (ev_itemsEmpty (neg := false) (is := []) (ev_var rfl) (X8 _ _ hacc) (tacc.ex X8) (by simp))) fun h => by cases h) rfl) (fun _ H9 e9 => ?_) (fun h => by cases h)
        refine s_ret ev_c fun H10 e10 => k2 ?_ H10 ((E8.trans e9).trans e10)
        show powers is [] = none
        rw [hpw, hdrop, powers_hat0]
      | a :: acc, hacc, tacc, hpw, hal, oka, hyl =>
        have hpw2 : powers is [] = match is.drop m with | .fig n :: r' => if a.isBase ∧ n ≤ 8 then powers r' (.part (.pow a.ex (if b then -(n : Int) else n)) :: acc) else none | _ => none := by
          rw [hpw, hdrop, powers_hat, pb, rest]
        have oka1 := oka a (List.mem_cons_self ..)
        have tl : ∀ {H'}, Ex H8 H' → Tps H' (acc.reverse.map itemD ++ [itemD a]) ys := fun e => by
          have := tacc.ex (X8.trans e)
          rwa [List.reverse_cons, List.map_append] at this
        have hacc8 := X8 _ _ hacc
        have okall : ∀ x ∈ (a :: acc).reverse, okI x := fun x hx => oka x (List.mem_reverse.mp hx)
        have last : ∀ {σ : L2.St} {H9}, Ex H8 H9 → σ[1]? = some (some (.ref p)) → EvD (tOp (rIxL K) (tVar 1) (tUn (fun x H Q => ∃ i, x = .int i ∧ Q (.int (-i)) H) (tC (.int 1)))) σ H9 (itemD a) := fun e h0 =>
          ed_last (ev_var h0) (e _ _ hacc8) (tl e)
        have eme : ((a :: acc).reverse).isEmpty = false := by
          cases q : (a :: acc).reverse with
          | nil => simp at q
          | cons _ _ => rfl
        refine q_when (b := a.isTxt || (!a.isBase || decide (is.length ≤ m))) (Evl.et_is (et_or (b := a.isTxt || (!a.isBase || decide (is.length ≤ m))) (et_test (ev_itemsEmpty (neg := false) (ev_var rfl) hacc8 (tacc.ex X8) okall)) fun _ => et_or (et_B (ev_isText (last (Ex.refl _) rfl))) fun h2 => Evl.et_is (et_or (b := decide (is.length ≤ m)) (et_test (ev_eqD (neg := false) (ed_ixT (j := 0) (d := .str (itemTag a)) (by rw [← itemD_tup h2]; exact last (Ex.refl _) rfl) rfl) ed_s (lay_tag a) lay_part (room_str _ _))) fun _ => Evl.et_is (et_test (ev_op (ev_var rfl) (Evl.ev_len (ev_var rfl) (Evl.sq_of (E8 _ _ hl))) rv_I0)) ?_) ?_) ?_) (fun hg H9 e9 => ?_) (fun hg H9 e9 => ?_)
        · rw [hlen]
          exact decide_eq_decide.mpr (by omega)
        · show (PyData.eqv (.str (itemTag a)) (.str "part") || decide (is.length ≤ m)) = _
          rw [tag_part h2]
        · show (((a :: acc).reverse).isEmpty || _) = _
          rw [eme, Bool.false_or]
        · refine s_ret ev_c fun H10 e10 => k2 ?_ H10 ((E8.trans e9).trans e10)
          show powers is [] = none
          rw [hpw2]
          by_cases hle : is.length ≤ m
          · rw [List.drop_eq_nil_iff.mpr hle]
          · rw [decide_eq_false hle, Bool.or_false] at hg
            have nb : a.isBase = false := by
              cases a <;> first | rfl | (cases hg; done)
            rw [nb]
            split
            · rw [if_neg (fun q => by cases q.1)]
            · rfl
        · rw [Bool.or_eq_false_iff, Bool.or_eq_false_iff] at hg
          have ab : a.isBase = true := by simpa using hg.2.1
          have hml : m < is.length := by have := of_decide_eq_false hg.2.2; omega
          have ey : is[m]? = some is[m] := List.getElem?_eq_getElem hml
          have hdm : is.drop m = is[m] :: is.drop (m + 1) := List.drop_eq_getElem_cons hml
          have oky : okI is[m] := ok _ (List.getElem_mem hml)
          revert ey hdm oky
          generalize is[m] = y
          intro ey hdm oky
          rw [hdm] at hpw2
          have X9 := X8.trans e9
          have E9 := E8.trans e9
          have ity : ∀ {σ : L2.St} {H10}, Ex H9 H10 → σ[0]? = some (some (.ref l)) → σ[2]? = some (some (.int (m : Nat))) → EvD (tOp (rIxL K) (tVar 0) (tVar 2)) σ H10 (itemD y) := fun e h0 h2 =>
            ed_ixL (ev_var h0) ((E9.trans e) _ _ hl) (tis.ex (E9.trans e)) (ev_var h2) (by rw [List.getElem?_map, ey]; rfl)
          have big : Bool := match y with | .fig n => decide (8 < n) | _ => true
          obtain ⟨g, hgd⟩ : ∃ g : Bool, g = (match y with | .fig n => decide (8 < n) | _ => true) := ⟨_, rfl⟩
          refine q_when (b := g) (Evl.et_is (et_or (b := g) (et_B (ev_isText (ity (Ex.refl _) rfl rfl))) fun h2 => Evl.et_is (et_or (b := g) (et_test (ev_eqD (neg := true) (ed_ixT (j := 0) (d := .str (itemTag y)) (by rw [← itemD_tup h2]; exact ity (Ex.refl _) rfl rfl) rfl) ed_s (lay_tag y) lay_figures (room_str _ _))) fun h3 => ?_) ?_) ?_) (fun hq H10 e10 => ?_) (fun hq H10 e10 => ?_)
          · have h3 : (!PyData.eqv (.str (itemTag y)) (.str "figures")) = false := h3
            rw [tag_fig h2] at h3
            cases y with
            | fig n =>
              rw [hgd]
              refine Evl.et_is (et_test (ev_op (ev_intD (i := (n : Int)) (ed_ixT (j := 1) (ds := [.str "number", .int n]) (ed_ixT (j := 1) (ds := [.str "figures", .tuple [.str "number", .int n]]) (ity (Ex.refl _) rfl rfl) rfl) rfl)) ev_c rv_I0)) ?_
              exact decide_eq_decide.mpr (by omega)
            | _ => cases h3
          · show ((!PyData.eqv (.str (itemTag y)) (.str "figures")) || g) = g
            rw [tag_fig h2, hgd]
            cases y <;> rfl
          · rw [hgd]
            cases y <;> rfl
          · refine s_ret ev_c fun H11 e11 => k2 ?_ H11 ((E9.trans e10).trans e11)
            show powers is [] = none
            rw [hpw2]
            cases y with
            | fig n =>
              rw [hgd] at hq
              have := of_decide_eq_true hq
              show (if _ then _ else none) = none
              rw [if_neg (by omega)]
            | _ => rfl
          · obtain ⟨n, rfl⟩ : ∃ n, y = .fig n := by
              rw [hgd] at hq
              cases y with
              | fig n => exact ⟨n, rfl⟩
              | _ => cases hq
            have hn8 : n ≤ 8 := by
              rw [hgd] at hq
              have := of_decide_eq_false hq
              omega
            have hpw3 : powers is [] = powers (is.drop (m + 1)) (.part (.pow a.ex (if b then -(n : Int) else n)) :: acc) := by
              rw [hpw2]
              show (if _ then _ else none) = _
              rw [if_pos ⟨ab, hn8⟩]
            have X10 := e9.trans e10
            have hta : a.isTxt = false := hg.1
            refine q_setLast (d := itemD (.part (.pow a.ex (if b then -(n : Int) else n)))) (ed_tup (eds_cons ed_s (eds_cons (ed_tup (eds_cons ed_s (eds_cons (ed_ixT (j := 1) (ds := [.str (itemTag a), xpD a.ex]) (by rw [← itemD_tup hta]; exact last X10 rfl) rfl) (eds_cons (ed_i (ev_op (x := .int (n : Int)) (ev_intD (ed_ixT (j := 1) (ds := [.str "number", .int n]) (ed_ixT (j := 1) (ds := [.str "figures", .tuple [.str "number", .int n]]) (ity e10 rfl rfl) rfl) rfl))
              (Evl.ev_opL1 (y := .int ((if b then 1 else 0 : Nat) : Int)) (z := .int (if b then -1 else 1)) (Evl.el_lst (ea_cons ev_c (ea_cons (ev_un ev_c Evl.ru_neg) ea_nil)) (by simp)) (fun H5 e5 => ev_cb (ea_cons (ev_var rfl) ea_nil) (rc_intB (σ := []))) fun p H5 h5 e5 => Evl.rv_ixL (Evl.sq_of h5) (by cases b <;> exact atI_nat rfl)) (mul_sign n b))) eds_nil))) (by simp)) eds_nil)) (by simp)) (ev_var rfl) (X10 _ _ hacc8) (tl X10) fun nv ys0 H11 e11 tn t0 hacc11 => ?_
            refine s_asg (v := .int ((m + 1 : Nat) : Int)) (ev_op (ev_var rfl) ev_c rv_I0) fun H12 e12 => ?_
            refine ⟨is.length - (m + 1), by omega, m + 1, _ :: acc, ys0 ++ [nv], _, _, Ex.trans (Ex.mut ((E9.trans e10).trans e11) hp) e12, e12 _ _ upd_same, ?_, hpw3, by omega, by simp at hal ⊢; omega, ?_, rfl, rfl⟩
            · rw [List.reverse_cons, List.map_append]
              exact Tps.ex (Tps.mono ((Tk.refl H11).lst hacc11) _ _ (Tps.append t0 (Tps.one tn))) e12
            · intro z hz'
              rcases List.mem_cons.mp hz' with e | hz'
              · rw [e]
                exact ok_pow (okI_ex oka1) _
              · exact oka z (List.mem_cons_of_mem _ hz')
  · have hb : ¬ at' < is.length := of_decide_eq_false hb
    rw [List.drop_eq_nil_iff.mpr (by omega), powers_nil] at hpw
    exact s_ret (ev_var rfl) fun H4 e4 => k1 acc.reverse hpw (fun x hx => oka x (List.mem_reverse.mp hx)) (by simp; omega) p ys H4 hp ((ex.trans e3).trans e4) (e4 _ _ (e3 _ _ hacc)) (tacc.ex (e3.trans e4))
end
end K83
end
section
set_option maxRecDepth 100000
set_option maxHeartbeats 1000000
namespace K83
open PySem PySem.Spec PyProof.Rows L2
open Evl (Ex Ev EvT EvA EvL EvU EvO RV RU RC ev_var ev_c ev_op ev_un ev_if ev_andV ev_orV ev_notV et_test et_B et_and et_or et_not ea_nil ea_cons ev_cb q_asg q_asgL q_asgU q_if q_when s_asg s_ret s_if s_when s_drop q_drop rv_I0 rv_I rv_eq rv_ne rv_val el_sl eo_none eo_some tCut pss_cut q_cut)
section
variable {K : PySem.W.Frag} {σ : L2.St} {H H' : Hp} {D : Ends} {tu tz : TS} {ta tb tc to : TE} {tl : TA} {l : Addr} {xs : List V} {ds : List PyData}
theorem q_forDown {ta : TA} {j n : Nat} (h : EvA ta σ H [.int ((n : Int) - 1), .int (-1), .int (-1)]) (hn : n ≤ 100000) (Pv : Nat → L2.St → Hp → Prop) (h0 : ∀ H1, Ex H H1 → Pv 0 σ H1)
    (hs : ∀ i σ' H', i < n → Pv i σ' H' → tu { D with nx := Pv (i + 1), ct := Pv (i + 1), bk := tz D } (σ'.set j (some (.int ((n - 1 - i : Nat) : Int)))) H') (hd : ∀ σ' H', Pv n σ' H' → tz D σ' H') : tSeq (tFor (iRng3 ta) (gName j) tu) tz D σ H :=
  h H (Ex.refl H) _ fun H1 e => ⟨_, _, _, ((n : Int) - 1 - (-1)).toNat, rfl, RgC.neg (by omega) (by omega) (by omega) (by omega), by
    have en : ((n : Int) - 1 - (-1)).toNat = n := by omega
    rw [en]
    exact for_rangeC (D := { D with nx := tz D }) Pv (h0 H1 e) (fun i σ' H' hi p => by
      have := hs i σ' H' hi p
      have e2 : ((n - 1 - i : Nat) : Int) = (n : Int) - 1 + (i : Nat) * (-1) := by omega
      rw [e2] at this
      exact this) hd⟩
theorem st_setSl {a c : Nat} (hv : EvDs tl σ H ds) (ho : Ev to σ H (.ref l)) (hl : H l = some (.lst xs)) (ha : Ev ta σ H (.int (a : Int))) (hc : Ev tc σ H (.int (c : Int))) (h1 : a ≤ c) (h2 : c ≤ xs.length) (h3 : ds.length ≤ 1000) (h4 : xs.length ≤ 50000)
    (k : ∀ vs H1, Ex H H1 → Tps H1 ds vs → H1 l = some (.lst xs) → D.nx σ (upd H1 l (.lst (xs.take a ++ vs ++ xs.drop c)))) : sSetSl (tLst tl) to ta tc D σ H :=
  hv H (Ex.refl H) _ fun vs H1 e1 ts => ⟨Evl.sz_of (by rw [ts.len]; omega), fun p hp => by
    have X1 : Ex H (upd H1 p (.lst vs)) := e1.trans (Ex.new hp)
    refine ho _ X1 _ fun H2 e2 => ha H2 (X1.trans e2) _ fun H3 e3 => hc H3 ((X1.trans e2).trans e3) _ fun H4 e4 => ?_
    have X4 := ((X1.trans e2).trans e3).trans e4
    refine ⟨l, p, xs, vs, a, c, rfl, rfl, rfl, rfl, X4 _ _ hl, (e4 _ _ (e3 _ _ (e2 _ _ upd_same))), ?_, h1, h2, ?_, ?_⟩
    · exact ne_of_none (e1 _ _ hl) hp
    · have := sizeLine_eq
      rw [ts.len]
      omega
    · exact k vs H4 X4 (ts.ex ((((Ex.new hp).trans e2).trans e3).trans e4)) (X4 _ _ hl)⟩
end
/-! ### minuses -/
def pf (is : List Item) (k : Nat) : Bool := match k with
  | 0 => true
  | k + 1 => match is[k]? with
    | none => true
    | some x => x.isTxt
def negStep (x : Item) (m : Nat) : List Item → Option (List Item × Nat)
  | [] => some ([x], 0)
  | y :: r => if y.isTxt then none else if m + 1 > 20 then none else some (.part (.neg y.ex) :: r, m + 1)
theorem minuses_cons (prev : Bool) (x : Item) (xs : List Item) : minuses prev (x :: xs) = match minuses x.isTxt xs with
    | none => none
    | some (ys, m) => if (isT x (.op .less) && prev) = true then negStep x m ys else some (x :: ys, 0) := by
  rw [minuses]
  cases minuses x.isTxt xs with
  | none => rfl
  | some q =>
    obtain ⟨ys, m⟩ := q
    cases x with
    | txt t =>
      by_cases h : t = .op .less
      · subst h
        cases prev with
        | true => cases ys <;> rfl
        | false => cases ys <;> rfl
      · have : isT (.txt t) (.op .less) = false := decide_eq_false h
        rw [this]
        cases t with
        | op o => cases o <;> first | exact absurd rfl h | rfl
        | _ => rfl
    | _ => rfl
theorem minuses_down (is : List Item) : ∀ k, k ≤ is.length → minuses (pf is k) (is.drop k) = none → minuses true is = none
  | 0, _, h => h
  | k + 1, hk, h => by
    refine minuses_down is k (by omega) ?_
    have hk' : k < is.length := by omega
    rw [List.drop_eq_getElem_cons hk', minuses_cons]
    have : pf is (k + 1) = is[k].isTxt := by
      show (match is[k]? with | none => true | some x => x.isTxt) = _
      rw [List.getElem?_eq_getElem hk']
    rw [← this, h]
theorem ok_neg {e : Xp} (h : okX e) : okX (.neg e) := by
  show (xpD (.neg e)).canLay0 = true
  rw [xpD]
  exact ok_tup2 (strOk_dec (by decide +kernel)) h
section
variable {P : Program} {w : World} {K : PySem.W.Frag} {mg : Str → Option Value} {base : Heap}
abbrev N__law_minuses : List Str := ["_law_items_here", "_law_found", "_law_many", "_law_at"]
abbrev s__law_minuses : Stmt := top 59
theorem sc__law_minuses : FnScope N__law_minuses ["_law_items_here"] (defScope s__law_minuses) := ⟨rfl, rfl, rfl, by decide +kernel, rfl, by decide +kernel, by decide +kernel⟩
theorem ok_law_minuses (T : Txt w K mg) (A : DefAt K mg "_law_minuses" s__law_minuses) (D__law_is_text : DefOk P w K mg base CX0 "_law_is_text" 1 ["_law_item"] (spIsText K)) : DefOk P w K mg base CX0 "_law_minuses" 2 ["_law_items_here"] (spItemsF (fun is => (minuses true is).map (·.1)) K) := by
  refine mk_def0 A sc__law_minuses (fun _ _ _ _ _ _ us hl => match us, hl with | [_], _ => rfl) (fun vs H Q E ⟨_, _, _, h, _⟩ => by rw [h]; rfl) (fun f cdv A outer s H vs Q E hr h => ?_)
  obtain ⟨l, xs, is, rfl, hl, tis, ok, hz, k1, k2⟩ := h
  refine ⟨_, (pss_cons (ps_set (i := 1) sc__law_minuses.nd rfl (Or.inl rfl) (pe_callTy call_list_of (by rfl) T.f_list (by decide +kernel) (pa_cons (pv 0) pa_nil)))
      (pss_cons (ps_set (i := 2) sc__law_minuses.nd rfl (Or.inl rfl) pe_int)
      (pss_cons (ps_for PassesOwn.never rfl (pi_range3 rfl T.f_range (pa_cons (pe_op op_sub (pe_callB call_len_seq (by rfl) T.f_len PySem.boot_len (pa_cons (pv 0) pa_nil)) pe_int) (pa_cons (pe_un un_neg pe_int) (pa_cons (pe_un un_neg pe_int) pa_nil)))) (pg_name (i := 3) sc__law_minuses.nd rfl (Or.inl rfl)) (pss_one (ps_if (PW.pt (pw_and (pt_cmpR (op_eqX hr.units) (pe_ix ix_list (pv 0) (pv 3) (fun _ _ => rfl)) pe_str (nomark _)) (pw_and (PW.pt (pw_or (pt_cmpR op_eq (pv 3) pe_int (nomark _)) (pw_or1 (pt_val (pe_def D__law_is_text (hr.mono (by decide)) rfl pass0 (pa_cons (pe_ix ix_list (pv 0) (pe_op op_sub (pv 3) pe_int) (fun _ _ => rfl)) pa_nil)))))) (pw_and1 (pt_cmpR op_lt (pe_op op_add (pv 3) pe_int) (pe_callB call_len_seq (by rfl) T.f_len PySem.boot_len (pa_cons (pv 1) pa_nil)) (nomark _)))))) (pss_cons (ps_if (pt_val (pe_def D__law_is_text (hr.mono (by decide)) rfl pass0 (pa_cons (pe_ix ix_list (pv 1) (pe_op op_add (pv 3) pe_int) (fun _ _ => rfl)) pa_nil))) (pss_one (ps_ret pe_non)) pss_nil)
      (pss_cons (ps_set (i := 2) sc__law_minuses.nd rfl (Or.inl rfl) (pe_op op_add (pv 2) pe_int))
      (pss_cons (ps_if (pt_cmpR op_gt (pv 2) pe_int (nomark _)) (pss_one (ps_ret pe_non)) pss_nil)
      (pss_one (ps_setSl (pe_lst (pa_cons (pe_tup (pa_cons pe_str (pa_cons (pe_tup (pa_cons pe_str (pa_cons (pe_ix ix_tup (pe_ix ix_list (pv 1) (pe_op op_add (pv 3) pe_int) (fun _ _ => rfl)) pe_int (fun _ _ => rfl)) pa_nil))) pa_nil))) pa_nil)) (pv 1) (pv 3) (pe_op op_add (pv 3) pe_int)))))) (pss_one (ps_set (i := 2) sc__law_minuses.nd rfl (Or.inl rfl) pe_int)))))
      (pss_one (ps_ret (pv 1)))))), ?_⟩
  have hxl : xs.length = is.length := by rw [tis.len, List.length_map]
  refine q_asgL (Evl.el_list (ev_var rfl) (Evl.sq_of hl)) fun p H1 hp e1 h1 => ?_
  refine q_asg ev_c fun H2 e2 => ?_
  have E2 := e1.trans e2
  refine q_forDown (n := is.length) (ea_cons (ev_is' (ev_op (Evl.ev_len (ev_var rfl) (Evl.sq_of (E2 _ _ hl))) ev_c rv_I0) (by rw [hxl])) (ea_cons (ev_un ev_c Evl.ru_neg) (ea_cons (ev_un ev_c Evl.ru_neg) ea_nil))) (by omega)
    (fun i σ' H' => ∃ (ys : List Item) (m : Nat) (fs : List V) (x3 : Option V), Ex H H' ∧ H' p = some (.lst fs) ∧ Tps H' ((is.take (is.length - i) ++ ys).map itemD) fs ∧ minuses (pf is (is.length - i)) (is.drop (is.length - i)) = some (ys, m) ∧ (∀ x ∈ ys, okI x) ∧ ys.length ≤ i ∧ i ≤ is.length ∧
      σ' = [some (.ref l), some (.ref p), some (.int (m : Nat)), x3])
    (fun H3 e3 => ⟨[], 0, xs, none, E2.trans e3, e3 _ _ (e2 _ _ h1), by simp; exact tis.ex (E2.trans e3), by simp [minuses], by simp, by simp, by omega, rfl⟩) ?_ ?_
  · rintro i σ' H' hi ⟨ys, m, fs, x3, ex, hf, tf, hmin, oky, hyl, hil, rfl⟩
    obtain ⟨k, hk⟩ : ∃ k, k = is.length - 1 - i := ⟨_, rfl⟩
    have hk1 : is.length - i = k + 1 := by omega
    have hk2 : is.length - (i + 1) = k := by omega
    rw [hk1] at tf hmin
    rw [← hk]
    have hkl : k < is.length := by omega
    have exx : is[k]? = some is[k] := List.getElem?_eq_getElem hkl
    have hdrop : is.drop k = is[k] :: is.drop (k + 1) := List.drop_eq_getElem_cons hkl
    have okx : okI is[k] := ok _ (List.getElem_mem hkl)
    have hpf : pf is (k + 1) = is[k].isTxt := by
      show (match is[k]? with | none => true | some x => x.isTxt) = _
      rw [exx]
    have htake : is.take (k + 1) = is.take k ++ [is[k]] := by rw [List.take_succ, exx]; rfl
    revert exx hdrop okx hpf htake
    generalize is[k] = x
    intro exx hdrop okx hpf htake
    rw [hpf] at hmin
    have hmk : minuses (pf is k) (is.drop k) = if (isT x (.op .less) && pf is k) = true then negStep x m ys else some (x :: ys, 0) := by
      rw [hdrop, minuses_cons, hmin]
    have fl : fs.length = k + 1 + ys.length := by
      rw [tf.len, List.length_map, List.length_append, List.length_take]
      omega
    have fail : minuses (pf is k) (is.drop k) = none → ∀ H', Ex H H' → Q .non H' := fun h H' e => k2 (by
      show (minuses true is).map _ = none
      rw [minuses_down is k (by omega) h]
      rfl) H' e
    have keep : (minuses (pf is k) (is.drop k) = some (x :: ys, 0)) → ∀ H4, Ex H' H4 → ∃ (ys : List Item) (m : Nat) (fs : List V) (x3 : Option V), Ex H H4 ∧ H4 p = some (.lst fs) ∧ Tps H4 ((is.take k ++ ys).map itemD) fs ∧ minuses (pf is k) (is.drop k) = some (ys, m) ∧ (∀ x ∈ ys, okI x) ∧ ys.length ≤ i + 1 ∧ i + 1 ≤ is.length ∧ [some (.ref l), some (.ref p), some (.int 0), some (.int (k : Nat))] = [some (.ref l), some (.ref p), some (.int (m : Nat)), x3] := by
      intro hm H4 e4
      refine ⟨x :: ys, 0, fs, _, ex.trans e4, e4 _ _ hf, ?_, hm, ?_, by simp; omega, by omega, rfl⟩
      · rw [htake, List.append_assoc] at tf
        exact tf.ex e4
      · intro y hy
        rcases List.mem_cons.mp hy with e | hy
        · rw [e]; exact okx
        · exact oky y hy
    rw [hk2]
    refine s_if (b := isT x (.op .less) && (pf is k && decide (k + 1 < fs.length))) (Evl.et_is (et_and (et_test (ev_isT (neg := false) (t := .op .less) (ed_ixL (ev_var rfl) (ex _ _ hl) (tis.ex ex) (ev_var rfl) (by rw [List.getElem?_map, exx]; rfl)) okx rfl l_minus)) fun _ => et_and (a := pf is k) (b := decide (k + 1 < fs.length)) (Evl.et_is (et_or (b := pf is k) (et_test (ev_op (ev_var rfl) ev_c (rv_eq rfl))) fun hk0 => ?_) ?_) fun _ => Evl.et_is (et_test (ev_op (ev_op (ev_var rfl) ev_c rv_I0) (Evl.ev_len (ev_var rfl) (Evl.sq_of hf)) rv_I0)) ?_) ?_) (fun hg H3 e3 => ?_) (fun hg H3 e3 => ?_)
    · have hk0 : ¬ V.int (k : Int) = V.int 0 := of_decide_eq_false hk0
      obtain ⟨k', rfl⟩ : ∃ k', k = k' + 1 := ⟨k - 1, by
        have : k ≠ 0 := fun z => hk0 (by rw [z]; rfl)
        omega⟩
      have e1 : is[k']? = some is[k'] := List.getElem?_eq_getElem (by omega)
      have hp1 : pf is (k' + 1) = is[k'].isTxt := by
        show (match is[k']? with | none => true | some x => x.isTxt) = _
        rw [e1]
      rw [hp1]
      refine et_B (ev_isText (ed_ixL (j := k') (ev_var rfl) (ex _ _ hl) (tis.ex ex) (ev_is' (ev_op (ev_var rfl) ev_c rv_I0) ?_) (by rw [List.getElem?_map, e1]; rfl)))
      show V.int (((k' + 1 : Nat) : Int) - 1) = _
      congr 1
      omega
    · cases k with
      | zero => rfl
      | succ k' =>
        have : decide (V.int ((k' + 1 : Nat) : Int) = V.int 0) = false := decide_eq_false fun z => by injection z with z; omega
        rw [this, Bool.false_or]
    · exact decide_eq_decide.mpr (by omega)
    · rfl
    · rw [Bool.and_eq_true, Bool.and_eq_true] at hg
      obtain ⟨g1, g2, g3⟩ := hg
      have g3 : k + 1 < fs.length := of_decide_eq_true g3
      rw [if_pos (by rw [g1, g2]; rfl)] at hmk
      cases ys with
      | nil => simp at fl; omega
      | cons y r =>
        have hmk : minuses (pf is k) (is.drop k) = if y.isTxt then none else if m + 1 > 20 then none else some (.part (.neg y.ex) :: r, m + 1) := hmk
        have hty : ((is.take (k + 1) ++ y :: r).map itemD)[k + 1]? = some (itemD y) := by
          rw [List.getElem?_map, List.getElem?_append_right (by rw [List.length_take]; omega), List.length_take]
          have : k + 1 - min (k + 1) is.length = 0 := by omega
          rw [this]
          rfl
        have E3 := ex.trans e3
        have yat : ∀ {σ : L2.St} {H4}, Ex H3 H4 → σ[1]? = some (some (.ref p)) → σ[3]? = some (some (.int (k : Nat))) → EvD (tOp (rIxL K) (tVar 1) (tOp (rI0 fun i j => .int (i + j)) (tVar 3) (tC (.int 1)))) σ H4 (itemD y) := fun e h1 h3 =>
          ed_ixL (j := k + 1) (ev_var h1) ((e3.trans e) _ _ hf) (tf.ex (e3.trans e)) (ev_op (ev_var h3) ev_c rv_I0) hty
        refine q_when (b := y.isTxt) (et_B (ev_isText (yat (Ex.refl _) rfl rfl))) (fun hy H4 e4 => ?_) (fun hy H4 e4 => ?_)
        · rw [hy, if_pos rfl] at hmk
          exact s_ret ev_c fun H5 e5 => fail hmk H5 ((E3.trans e4).trans e5)
        · rw [hy, if_neg (by decide)] at hmk
          refine q_asg (v := .int ((m + 1 : Nat) : Int)) (ev_op (ev_var rfl) ev_c rv_I0) fun H5 e5 => ?_
          refine q_when (b := decide (20 < m + 1)) (Evl.et_is (et_test (ev_op (ev_var rfl) ev_c rv_I0)) (decide_eq_decide.mpr (by omega))) (fun hq H6 e6 => ?_) (fun hq H6 e6 => ?_)
          · have hq : m + 1 > 20 := of_decide_eq_true hq
            rw [if_pos hq] at hmk
            exact s_ret ev_c fun H7 e7 => fail hmk H7 ((((E3.trans e4).trans e5).trans e6).trans e7)
          · have hq : ¬ m + 1 > 20 := of_decide_eq_false hq
            rw [if_neg hq] at hmk
            have X6 := (e4.trans e5).trans e6
            refine st_setSl (a := k) (c := k + 2) (ds := [itemD (.part (.neg y.ex))]) (eds_cons (ed_tup (eds_cons ed_s (eds_cons (ed_tup (eds_cons ed_s (eds_cons (ed_ixT (j := 1) (ds := [.str (itemTag y), xpD y.ex]) (by rw [← itemD_tup hy]; exact yat X6 rfl rfl) rfl) eds_nil)) (by simp)) eds_nil)) (by simp)) eds_nil) (ev_var rfl) ((e3.trans X6) _ _ hf) (ev_var rfl) (ev_op (ev_var rfl) ev_c rv_I0) (by omega) (by omega) (by simp) (by simp at hyl fl; omega) fun nvs H7 e7 tn h7 => ?_
            refine ⟨.part (.neg y.ex) :: r, m + 1, fs.take k ++ nvs ++ fs.drop (k + 2), _, Ex.mut ((E3.trans X6).trans e7) hp, upd_same, ?_, hmk, ?_, by simp at hyl ⊢; omega, by omega, rfl⟩
            · have t2 := Tps.mono ((Tk.refl H7).lst (o := .lst (fs.take k ++ nvs ++ fs.drop (k + 2))) h7) _ _ (tf.ex ((e3.trans X6).trans e7))
              have tn2 := Tps.mono ((Tk.refl H7).lst (o := .lst (fs.take k ++ nvs ++ fs.drop (k + 2))) h7) _ _ tn
              have ta := Tps.take k t2
              have td := Tps.drop (k + 2) t2
              have ea : ((is.take (k + 1) ++ y :: r).map itemD).take k = (is.take k).map itemD := by
                rw [← List.map_take, List.take_append_of_le_length (by rw [List.length_take]; omega), List.take_take]
                have : min k (k + 1) = k := by omega
                rw [this]
              have ed : ((is.take (k + 1) ++ y :: r).map itemD).drop (k + 2) = r.map itemD := by
                rw [← List.map_drop, List.drop_append, List.length_take]
                have : k + 2 - min (k + 1) is.length = 1 := by omega
                rw [this, List.drop_eq_nil_iff.mpr (by rw [List.length_take]; omega)]
                rfl
              rw [ea] at ta
              rw [ed] at td
              have := Tps.append (Tps.append ta tn2) td
              rw [List.map_append, List.map_cons]
              rw [List.append_assoc (List.map itemD (List.take k is))] at this
              exact this
            · intro z hz'
              rcases List.mem_cons.mp hz' with e | hz'
              · rw [e]
                exact ok_neg (okI_ex (oky y (List.mem_cons_self ..)))
              · exact oky z (List.mem_cons_of_mem _ hz')
    · refine s_asg ev_c fun H4 e4 => keep ?_ H4 (e3.trans e4)
      rw [hmk]
      by_cases q : (isT x (.op .less) && pf is k) = true
      · rw [if_pos q]
        rw [Bool.and_eq_true] at q
        rw [q.1, q.2, Bool.true_and, Bool.true_and] at hg
        have hg := of_decide_eq_false hg
        have : ys = [] := by
          cases ys with
          | nil => rfl
          | cons _ _ => simp at fl; omega
        rw [this]
        rfl
      · rw [if_neg q]
  · rintro σ' H' ⟨ys, m, fs, x3, ex, hf, tf, hmin, oky, hyl, hil, rfl⟩
    rw [Nat.sub_self] at tf hmin
    refine s_ret (ev_var rfl) fun H3 e3 => k1 ys ?_ oky hyl p fs H3 hp (ex.trans e3) (e3 _ _ hf) ?_
    · show (minuses true is).map _ = _
      have : minuses true is = some (ys, m) := hmin
      rw [this]
      rfl
    · have := tf.ex e3
      simpa using this
end
end K83
end
section
set_option maxRecDepth 100000
set_option maxHeartbeats 1000000
namespace K83
open PySem PySem.Spec PyProof.Rows L2
open Evl (Ex Ev EvT EvA EvL EvU EvO RV RU RC ev_var ev_c ev_op ev_un ev_if ev_andV ev_orV ev_notV et_test et_B et_and et_or et_not ea_nil ea_cons ev_cb q_asg q_asgL q_asgU q_if q_when s_asg s_ret s_if s_when s_drop q_drop rv_I0 rv_I rv_eq rv_ne rv_val el_sl eo_none eo_some tCut pss_cut q_cut)
theorem fits_small {i : Int} (h : -1000000 ≤ i ∧ i ≤ 1000000) : Builtin.Range.rangeFitsLong i = true := by
  have e : (2 : Int) ^ 63 = 9223372036854775808 := by decide
  unfold Builtin.Range.rangeFitsLong
  rw [Bool.and_eq_true, decide_eq_true_eq, decide_eq_true_eq, e]
  omega
theorem small_odd {q : Nat} (hn : q ≤ 50000) (rs : Builtin.Range.rangeSize 1 ((2 * q + 1 : Nat) + 1 : Int) 2 = ((q + 1 : Nat) : Int)) : Builtin.Range.small 1 ((2 * q + 1 : Nat) + 1 : Int) 2 = true := by
  unfold Builtin.Range.small
  rw [rs, fits_small (by omega), fits_small (by omega), fits_small (by omega), fits_small (by omega), if_pos (by decide), fits_small (by omega), Bool.or_true]
  rfl
section
variable {K : PySem.W.Frag} {σ : L2.St} {H H' : Hp} {D : Ends} {tu tz : TS} {ta tb te : TE} {tl : TA} {l : Addr} {xs : List V}
theorem q_forOdd {ta : TA} {j q : Nat} (h : EvA ta σ H [.int 1, .int ((2 * q + 1 : Nat) + 1 : Int), .int 2]) (hn : q ≤ 50000) (Pv : Nat → L2.St → Hp → Prop) (h0 : ∀ H1, Ex H H1 → Pv 0 σ H1)
    (hs : ∀ i σ' H', i < q + 1 → Pv i σ' H' → tu { D with nx := Pv (i + 1), ct := Pv (i + 1), bk := tz D } (σ'.set j (some (.int ((2 * i + 1 : Nat) : Int)))) H') (hd : ∀ σ' H', Pv (q + 1) σ' H' → tz D σ' H') : tSeq (tFor (iRng3 ta) (gName j) tu) tz D σ H :=
  h H (Ex.refl H) _ fun H1 e => ⟨1, ((2 * q + 1 : Nat) + 1 : Int), 2, q + 1, rfl, by
    have rs : Builtin.Range.rangeSize 1 ((2 * q + 1 : Nat) + 1 : Int) 2 = ((q + 1 : Nat) : Int) := by
      unfold Builtin.Range.rangeSize
      rw [if_pos (by decide), if_pos (by omega)]
      omega
    refine ⟨by decide, by decide, ?_, rs⟩
    exact small_odd hn rs, for_rangeC (D := { D with nx := tz D }) Pv (h0 H1 e) (fun i σ' H' hi p => by
      have := hs i σ' H' hi p
      have e2 : ((2 * i + 1 : Nat) : Int) = 1 + (i : Nat) * 2 := by omega
      rw [e2] at this
      exact this) hd⟩
/-- for k, x in enumerate(xs) -/
theorem q_forEnum {ta : TA} {j1 j2 : Nat} (h : EvA ta σ H [.ref l]) (hl : H l = some (.lst xs)) (Pv : Nat → L2.St → Hp → Prop) (h0 : ∀ H1, Ex H H1 → Pv 0 σ H1) (hP : ∀ i σ' H', Pv i σ' H' → H' l = some (.lst xs))
    (hs : ∀ i x σ' H' H2, xs[i]? = some x → Pv i σ' H' → Ex H' H2 → tu { D with nx := Pv (i + 1), ct := Pv (i + 1), bk := tz D } ((σ'.set j1 (some (.int (i : Nat)))).set j2 (some x)) H2) (hd : ∀ σ' H', Pv xs.length σ' H' → tz D σ' H') :
    tSeq (tFor (iEnum K ta) (gTup K 2 (gCons (gName j1) (gCons (gName j2) gNil))) tu) tz D σ H :=
  h H (Ex.refl H) _ fun H1 e => ⟨l, xs, rfl, Evl.sq_of (e _ _ hl), for_it (D := { D with nx := tz D }) (walk_enum (K := K) (a := l) (xs := xs)) Pv (h0 H1 e) (fun i σ' H' _ p => Evl.sq_of (hP i σ' H' p)) (fun i x σ' H2 H3 hi p ⟨T, x1, x2, ev, hT, e3, e4, e5⟩ => by
    subst ev
    subst e3
    injection e4 with e4
    subst e4
    exact ⟨T, [.int (i : Nat), x2], rfl, Evl.st_of upd_same, rfl, _, _, rfl, _, _, rfl, rfl, hs i x2 σ' H2 _ e5 p (Ex.new hT)⟩) hd⟩
theorem ev_pick {x y : V} {b : Bool} (h : Ev te σ H (.bl b)) : Ev (tOp (rIxL K) (tLst (tCons (tC x) (tCons (tC y) tNil))) (tCB (fun xs H Q => (∃ i, xs = [.int i] ∧ Q (.int i) H) ∨ ∃ k, xs = [.bl k] ∧ Q (.int (if k then 1 else 0)) H) (tCons te tNil))) σ H (if b then y else x) :=
  Evl.ev_opL1 (y := .int ((if b then 1 else 0 : Nat) : Int)) (Evl.el_lst (ea_cons ev_c (ea_cons ev_c ea_nil)) (by simp)) (fun H5 e5 => ev_cb (ea_cons (h.mono e5) ea_nil) (rc_intB (σ := []))) fun p H5 h5 e5 => Evl.rv_ixL (Evl.sq_of h5) (by cases b <;> exact atI_nat rfl)
end
/-! ### an item among signs -/
theorem any_isT {x : Item} (h : okI x) : ∀ (ts : List Tok), (∀ t ∈ ts, t.isPlain = true) → ((ts.map fun t => wD (tokW t)).any fun z => PyData.eqv z (itemD x)) = ts.any fun t => isT x t
  | [], _ => rfl
  | t :: ts, ht => by
    rw [List.map_cons, List.any_cons, List.any_cons, any_isT h ts fun u hu => ht u (List.mem_cons_of_mem _ hu), PySem.W.eqv_comm, eqv_isT h (ht t (List.mem_cons_self ..))]
section
variable {K : PySem.W.Frag} {σ : L2.St} {H : Hp} {ta : TE} {tl : TA} {x : Item} {ts : List Tok}
theorem ev_isIn {neg : Bool} (ha : EvD ta σ H (itemD x)) (hx : okI x) (ht : ∀ t ∈ ts, t.isPlain = true) (hz : ts.length ≤ 10) (hl : EvA tl σ H (ts.map fun t => wV (tokW t))) : Ev (tOp (rInX K neg) ta (tTup tl)) σ H (.bl (if neg then !ts.any (isT x) else ts.any (isT x))) := fun H1 e1 Q q =>
  ha H1 e1 _ fun v H2 e2 tv => hl H2 (e1.trans e2) _ fun H3 e3 => ⟨Evl.sz_of (by rw [List.length_map]; omega), fun p hp => by
    have ew : ∀ ts : List Tok, (ts.map fun t => wV (tokW t)) = (ts.map tokW).map wV := fun ts => by rw [List.map_map]; rfl
    have ed : ∀ ts : List Tok, (ts.map fun t => wD (tokW t)) = (ts.map tokW).map wD := fun ts => by rw [List.map_map]; rfl
    refine ⟨itemD x, ts.map fun t => wD (tokW t), Tp.dp _ _ ((tv.ex e3).ex (Ex.new hp)), Or.inr (.tup (Evl.st_of upd_same) (by rw [ew, ed]; exact dp_words _)), okI_lay hx, ?_, ?_, ?_⟩
    · rw [ed]
      exact lay_words fun w hw => by
        obtain ⟨t, h1, rfl⟩ := List.mem_map.mp hw
        exact (tokW_wv (ht t h1)).1.asc
    · rw [ed, depthAll_words]
      omega
    · rw [any_isT hx ts ht]
      exact q _ ((e2.trans e3).trans (Ex.new hp))⟩
end
/-! ### parts and marks by turns -/
def isOpI : Item → Bool
  | .txt (.op _) => true
  | _ => false
def goodAt (i : Nat) (x : Item) : Bool := (x.isTxt == (i % 2 == 1)) && (!(i % 2 == 1) || isOpI x)
theorem alt_good : ∀ (n : Nat) (ys : List Item), ys.length = 2 * n + 1 → (∀ i x, ys[i]? = some x → goodAt i x = true) → ∃ e l, alt ys = some (e, l) ∧ l.length = n ∧ (∃ x, ys[0]? = some x ∧ x.isTxt = false ∧ x.ex = e) ∧
    ∀ i o e', l[i]? = some (o, e') → ys[2 * i + 1]? = some (.txt (.op o)) ∧ ∃ x, ys[2 * i + 2]? = some x ∧ x.isTxt = false ∧ x.ex = e'
  | 0, ys, h, g => by
    match ys, h with
    | [x], _ =>
      have hx : x.isTxt = false := by
        have := g 0 x rfl
        unfold goodAt at this
        cases q : x.isTxt with
        | false => rfl
        | true => rw [q] at this; cases this
      exact ⟨x.ex, [], alt_one x hx, rfl, ⟨x, rfl, hx, rfl⟩, fun i o e' h => by simp at h⟩
  | n + 1, ys, h, g => by
    match ys, h with
    | x :: y :: r, h =>
      have hx : x.isTxt = false := by
        have := g 0 x rfl
        unfold goodAt at this
        cases q : x.isTxt with
        | false => rfl
        | true => rw [q] at this; cases this
      obtain ⟨o, rfl⟩ : ∃ o, y = .txt (.op o) := by
        have := g 1 y rfl
        unfold goodAt at this
        rw [Bool.and_eq_true] at this
        have h2 : isOpI y = true := this.2
        cases y with
        | txt t => cases t <;> first | exact ⟨_, rfl⟩ | cases h2
        | _ => cases h2
      obtain ⟨e, l, h1, h2, ⟨x2, h3, h4, h5⟩, h6⟩ := alt_good n r (by simp at h; omega) (fun i z hz => by
        have := g (i + 2) z hz
        unfold goodAt at this ⊢
        have em : (i + 2) % 2 = i % 2 := by omega
        rwa [em] at this)
      refine ⟨x.ex, (o, e) :: l, by rw [alt_two x hx, h1]; rfl, by simp [h2], ⟨x, rfl, hx, rfl⟩, ?_⟩
      intro i o' e' hi
      cases i with
      | zero =>
        simp at hi
        obtain ⟨rfl, rfl⟩ := hi
        exact ⟨rfl, x2, h3, h4, h5⟩
      | succ i =>
        obtain ⟨q1, q2⟩ := h6 i o' e' (by simpa using hi)
        refine ⟨?_, ?_⟩
        · rw [← q1]
          have : 2 * (i + 1) + 1 = (2 * i + 1) + 1 + 1 := by omega
          rw [this]
          simp
        · obtain ⟨z, hz, hz2⟩ := q2
          refine ⟨z, ?_, hz2⟩
          rw [← hz]
          have : 2 * (i + 1) + 2 = (2 * i + 2) + 1 + 1 := by omega
          rw [this]
          simp
theorem alt_bad : ∀ (n : Nat) (ys : List Item) (e : Xp) (l : List (Op × Xp)), ys.length ≤ n → alt ys = some (e, l) → ys.length % 2 = 1 ∧ ∀ i x, ys[i]? = some x → goodAt i x = true
  | 0, ys, e, l, hn, h => by
    match ys, hn with
    | [], _ => cases h
  | n + 1, ys, e, l, hn, h => by
    match ys with
    | [] => cases h
    | [x] =>
      refine ⟨rfl, ?_⟩
      intro i y hy
      cases i with
      | zero =>
        simp at hy
        subst hy
        cases q : x.isTxt with
        | true => rw [alt_txt x q] at h; cases h
        | false =>
          unfold goodAt
          rw [q]
          rfl
      | succ i => simp at hy
    | x :: y :: r =>
      cases q : x.isTxt with
      | true => rw [alt_txt x q] at h; cases h
      | false =>
        by_cases hy : ∃ o, y = .txt (.op o)
        · obtain ⟨o, rfl⟩ := hy
          rw [alt_two x q] at h
          obtain ⟨z, h1, h2⟩ := Option.map_eq_some_iff.mp h
          obtain ⟨h3, h4⟩ := alt_bad n r z.1 z.2 (by simp at hn; omega) h1
          refine ⟨by simp; omega, ?_⟩
          intro i y hy
          match i with
          | 0 =>
            simp at hy
            subst hy
            unfold goodAt
            rw [q]
            rfl
          | 1 =>
            simp at hy
            subst hy
            rfl
          | i + 2 =>
            have := h4 i y (by simpa using hy)
            unfold goodAt at this ⊢
            have em : (i + 2) % 2 = i % 2 := by omega
            rwa [em]
        · rw [alt_no x y (fun o e => hy ⟨o, e⟩)] at h
          cases h
theorem flat_eq (is : List Item) : flat is = match powers is [] with
    | none => none
    | some ps => match (minuses true ps).map (·.1) with
      | none => none
      | some ys => match alt ys with
        | none => none
        | some (e, l) => some (sums none e l) := by
  unfold flat
  cases powers is [] with
  | none => rfl
  | some ps =>
    cases h : minuses true ps with
    | none => simp [h]
    | some q =>
      simp [h]
      all_goals (cases alt q.1 <;> rfl)
theorem ok_bin {a b : Xp} (o : Op) (ha : okX a) (hb : okX b) : okX (.bin o a b) := by
  show (xpD (.bin o a b)).canLay0 = true
  rw [xpD]
  refine ok_tup3 ?_ ha hb
  cases o <;> exact strOk_dec (by decide +kernel)
theorem ok_rt {a : Xp} (m : Rt) (ha : okX a) : okX (.rt m a) := by
  show (xpD (.rt m a)).canLay0 = true
  rw [xpD]
  refine ok_tup2 ?_ ha
  cases m <;> exact strOk_dec (by decide +kernel)
def joinT (st : Option (Xp × Op)) (w : Xp) : Xp := match st with | none => w | some (t, m) => .bin m t w
theorem sums_cons (st : Option (Xp × Op)) (w : Xp) (o : Op) (e : Xp) (r : List (Op × Xp)) : sums st w ((o, e) :: r) = if o.isSum then sums (some (joinT st w, o)) e r else sums st (.bin o w e) r := by
  cases st with
  | none => rw [sums.eq_def]; rfl
  | some q =>
    obtain ⟨t, m⟩ := q
    rw [sums.eq_def]
    rfl
theorem sums_ok : ∀ (l : List (Op × Xp)) (st : Option (Xp × Op)) (w : Xp), okX w → (∀ p, st = some p → okX p.1) → (∀ p ∈ l, okX p.2) → okX (sums st w l)
  | [], none, w, hw, _, _ => hw
  | [], some (t, m), w, hw, hs, _ => ok_bin m (hs _ rfl) hw
  | (o, e) :: r, st, w, hw, hs, hl => by
    rw [sums_cons]
    split
    · refine sums_ok r _ e (hl _ (List.mem_cons_self ..)) ?_ (fun p hp => hl p (List.mem_cons_of_mem _ hp))
      rintro p hp
      cases hp
      cases st with
      | none => exact hw
      | some q => exact ok_bin _ (hs _ rfl) hw
    · exact sums_ok r st _ (ok_bin o hw (hl _ (List.mem_cons_self ..))) hs (fun p hp => hl p (List.mem_cons_of_mem _ hp))
end K83
end
section
set_option maxRecDepth 100000
set_option maxHeartbeats 1000000
namespace K83
open PySem PySem.Spec PyProof.Rows L2
open Evl (Ex Ev EvT EvA EvL EvU EvO RV RU RC ev_var ev_c ev_op ev_un ev_if ev_andV ev_orV ev_notV et_test et_B et_and et_or et_not ea_nil ea_cons ev_cb q_asg q_asgL q_asgU q_if q_when s_asg s_ret s_if s_when s_drop q_drop rv_I0 rv_I rv_eq rv_ne rv_val el_sl eo_none eo_some tCut pss_cut q_cut)
def spFlat (K : PySem.W.Frag) : Sp := fun vs H Q _ => ∃ (l : Addr) (xs : List V) (is : List Item), vs = [.ref l] ∧ H l = some (.lst xs) ∧ Tps H (is.map itemD) xs ∧ (∀ x ∈ is, okI x) ∧ is.length ≤ 2000 ∧
  (∀ e, flat is = some e → okX e → ∀ v H', Ex H H' → Tp H' (xpD e) v → Q v H') ∧ (flat is = none → ∀ H', Ex H H' → Q .non H')
theorem rv_notN {H : Hp} {x : V} : RV (fun x y H Q => y = .non ∧ Q (.bl (!decide (x = .non))) H) x .non H (.bl (!decide (x = .non))) := fun H1 _ _ q => ⟨rfl, q H1 (Ex.refl H1)⟩
theorem rv_mod {H : Hp} {i j : Int} (h : 0 < j) : RV (rI (fun _ j => 0 < j) fun i j => .int (i % j)) (.int i) (.int j) H (.int (i % j)) := rv_I h
theorem opI_any {x : Item} : [Tok.op .plus, .op .less, .op .times, .op .over].any (isT x) = isOpI x := by
  cases x with
  | txt t =>
    cases t with
    | op o => cases o <;> rfl
    | _ => rfl
  | _ => rfl
theorem xp_ne {e : Xp} {v : V} {H : Hp} (h : Tp H (xpD e) v) : v ≠ .non := by
  obtain ⟨ds, hd⟩ := xpD_tup e
  rw [hd] at h
  obtain ⟨a, _, rfl, _⟩ := h.tup
  exact fun z => nomatch z
/-- what is held of the sum so far -/
def TotV (H : Hp) (st : Option (Xp × Op)) (v4 v5 : V) : Prop := match st with
  | none => v4 = .non ∧ v5 = .str "+"
  | some (t, m) => Tp H (xpD t) v4 ∧ v5 = wV (tokW (.op m)) ∧ m.isSum = true
theorem TotV.ex {H H' : Hp} {st : Option (Xp × Op)} {v4 v5 : V} (h : TotV H st v4 v5) (e : Ex H H') : TotV H' st v4 v5 := by
  cases st with
  | none => exact h
  | some q => exact ⟨Tp.ex h.1 e, h.2⟩
section
variable {P : Program} {w : World} {K : PySem.W.Frag} {mg : Str → Option Value} {base : Heap}
abbrev N__law_flat : List Str := ["_law_items_here", "_law_found", "_law_at", "_law_one", "_law_total", "_law_mark", "_law_whole", "_law_word_here"]
abbrev s__law_flat : Stmt := top 60
theorem sc__law_flat : FnScope N__law_flat ["_law_items_here"] (defScope s__law_flat) := ⟨rfl, rfl, rfl, by decide +kernel, rfl, by decide +kernel, by decide +kernel⟩
theorem ok_law_flat (T : Txt w K mg) (A : DefAt K mg "_law_flat" s__law_flat) (D__law_is_text : DefOk P w K mg base CX0 "_law_is_text" 1 ["_law_item"] (spIsText K)) (D__law_powers : DefOk P w K mg base CX0 "_law_powers" 2 ["_law_items_here"] (spItemsF (fun is => powers is []) K))
    (D__law_minuses : DefOk P w K mg base CX0 "_law_minuses" 2 ["_law_items_here"] (spItemsF (fun is => (minuses true is).map (·.1)) K)) : DefOk P w K mg base CX0 "_law_flat" 3 ["_law_items_here"] (spFlat K) := by
  refine mk_def0 A sc__law_flat (fun _ _ _ _ _ _ us hl => match us, hl with | [_], _ => rfl) (fun vs H Q E ⟨_, _, _, h, _⟩ => by rw [h]; rfl) (fun f cdv A outer s H vs Q E hr h => ?_)
  obtain ⟨l, xs, is, rfl, hl, tis, ok, hz, k1, k2⟩ := h
  refine ⟨_, (pss_cons (ps_set (i := 1) sc__law_flat.nd rfl (Or.inl rfl) (pe_def D__law_powers (hr.mono (by decide)) rfl pass0 (pa_cons (pv 0) pa_nil)))
      (pss_cons (ps_if (pt_cmpR op_notN (pv 1) pe_non (nomark _)) (pss_one (ps_set (i := 1) sc__law_flat.nd rfl (Or.inl rfl) (pe_def D__law_minuses (hr.mono (by decide)) rfl pass0 (pa_cons (pv 1) pa_nil)))) pss_nil)
      (pss_cons (ps_if (PW.pt (pw_or (pt_cmpR op_isN (pv 1) pe_non (nomark _)) (pw_or1 (pt_cmpR op_eq (pe_op op_mod (pe_callB call_len_seq (by rfl) T.f_len PySem.boot_len (pa_cons (pv 1) pa_nil)) pe_int) pe_int (nomark _))))) (pss_one (ps_ret pe_non)) pss_nil)
      (pss_cons (ps_for PassesOwn.never rfl (pi_enum (by rfl) T.f_enumerate (pa_cons (pv 1) pa_nil)) (pg_tup rfl (pgs_cons (pg_name (i := 2) sc__law_flat.nd rfl (Or.inl rfl)) (pgs_cons (pg_name (i := 3) sc__law_flat.nd rfl (Or.inl rfl)) pgs_nil))) (pss_one (ps_if (PW.pt (pw_or (pt_cmpR op_ne (pe_def D__law_is_text (hr.mono (by decide)) rfl pass0 (pa_cons (pv 3) pa_nil)) (pe_cmpR op_eq (pe_op op_mod (pv 2) pe_int) pe_int (nomark _)) (nomark _)) (pw_or1 (PW.pt (pw_and (pt_cmpR op_eq (pe_op op_mod (pv 2) pe_int) pe_int (nomark _)) (pw_and1 (pt_cmpR (op_notInX hr.units) (pv 3) (pe_tup (pa_cons pe_str (pa_cons pe_str (pa_cons pe_str (pa_cons pe_str pa_nil))))) rfl))))))) (pss_one (ps_ret pe_non)) pss_nil)))
      (pss_cons (ps_set (i := 4) sc__law_flat.nd rfl (Or.inl rfl) pe_non)
      (pss_cons (ps_set (i := 5) sc__law_flat.nd rfl (Or.inl rfl) pe_str)
      (pss_cons (ps_set (i := 6) sc__law_flat.nd rfl (Or.inl rfl) (pe_ix ix_tup (pe_ix ix_list (pv 1) pe_int (fun _ _ => rfl)) pe_int (fun _ _ => rfl)))
      (pss_cons (ps_for PassesOwn.never rfl (pi_range3 rfl T.f_range (pa_cons pe_int (pa_cons (pe_op op_add (pe_callB call_len_seq (by rfl) T.f_len PySem.boot_len (pa_cons (pv 1) pa_nil)) pe_int) (pa_cons pe_int pa_nil)))) (pg_name (i := 2) sc__law_flat.nd rfl (Or.inl rfl)) (pss_cons (ps_set (i := 7) sc__law_flat.nd rfl (Or.inl rfl) (pe_ifExp (pt_cmpR op_lt (pv 2) (pe_callB call_len_seq (by rfl) T.f_len PySem.boot_len (pa_cons (pv 1) pa_nil)) (nomark _)) (pe_ix ix_list (pv 1) (pv 2) (fun _ _ => rfl)) pe_str))
      (pss_cons (ps_if (pt_cmpR (op_inX hr.units) (pv 7) (pe_tup (pa_cons pe_str (pa_cons pe_str pa_nil))) rfl) (pss_cons (ps_set (i := 6) sc__law_flat.nd rfl (Or.inl rfl) (pe_tup (pa_cons (pe_ix ix_list (pe_lst (pa_cons pe_str (pa_cons pe_str pa_nil))) (pe_callTy call_int1 (by rfl) T.f_int (by decide +kernel) (pa_cons (pe_cmpR (op_eqX hr.units) (pv 7) pe_str (nomark _)) pa_nil)) (fun _ _ => rfl)) (pa_cons (pv 6) (pa_cons (pe_ix ix_tup (pe_ix ix_list (pv 1) (pe_op op_add (pv 2) pe_int) (fun _ _ => rfl)) pe_int (fun _ _ => rfl)) pa_nil)))))
      (pss_one ps_continue)) pss_nil)
      (pss_cons (ps_set (i := 4) sc__law_flat.nd rfl (Or.inl rfl) (pe_ifExp (pt_cmpR op_isN (pv 4) pe_non (nomark _)) (pv 6) (pe_tup (pa_cons (pe_ix ix_list (pe_lst (pa_cons pe_str (pa_cons pe_str pa_nil))) (pe_callTy call_int1 (by rfl) T.f_int (by decide +kernel) (pa_cons (pe_cmpR (op_eqX hr.units) (pv 5) pe_str (nomark _)) pa_nil)) (fun _ _ => rfl)) (pa_cons (pv 4) (pa_cons (pv 6) pa_nil))))))
      (pss_cons (ps_set (i := 5) sc__law_flat.nd rfl (Or.inl rfl) (pv 7))
      (pss_one (ps_set (i := 6) sc__law_flat.nd rfl (Or.inl rfl) (pe_ifExp (pt_cmpR op_lt (pv 2) (pe_callB call_len_seq (by rfl) T.f_len PySem.boot_len (pa_cons (pv 1) pa_nil)) (nomark _)) (pe_ix ix_tup (pe_ix ix_list (pv 1) (pe_op op_add (pv 2) pe_int) (fun _ _ => rfl)) pe_int (fun _ _ => rfl)) pe_non))))))))
      (pss_one (ps_ret (pv 4))))))))))), ?_⟩
  -- nothing is found
  have no : flat is = none → ∀ H2, Ex H H2 → ∀ tz : TS, (tSeq (tIfS (tOr (tTest (tOp (fun x y H Q => y = .non ∧ Q (.bl (decide (x = .non))) H) (tVar 1) (tC .non))) (tTest (tOp rEq (tOp (rI (fun _ j => 0 < j) fun i j => .int (i % j)) (tCB (fun xs H Q => ∃ p ys, xs = [.ref p] ∧ (SqL K H p ys ∨ SqT K H p ys) ∧ Q (.int ys.length) H) (tCons (tVar 1) tNil)) (tC (.int 2))) (tC (.int 0))))) (tRet (tC .non)) tNext) tz
      { nx := fun _ H' => Q .non H', rt := Q } [some (.ref l), some .non, none, none, none, none, none, none] H2) := by
    intro hno H2 e2 tz
    exact q_when (b := true) (Evl.et_is (et_or (b := false) (et_test (ev_op (ev_var rfl) ev_c rv_isN)) (fun h => by cases h)) rfl) (fun _ H3 e3 => s_ret ev_c fun H4 e4 => k2 hno H4 ((e2.trans e3).trans e4)) (fun h => by cases h)
  refine q_asgC (ea_cons (ev_var rfl) ea_nil) fun H1 e1 => ⟨l, xs, is, rfl, e1 _ _ hl, tis.ex e1, ok, hz, fun ps hps okp lenp p1 ys1 H2 hp1 e2 h2 t2 => ?_, fun hps H2 e2 => ?_⟩
  · refine q_when (b := true) (Evl.et_is (et_test (ev_op (ev_var rfl) ev_c rv_notN)) rfl) (fun _ H3 e3 => ?_) (fun h => by cases h)
    have E3 := (e1.trans e2).trans e3
    refine s_asgC (ea_cons (ev_var rfl) ea_nil) fun H4 e4 => ⟨p1, ys1, ps, rfl, e4 _ _ (e3 _ _ h2), (t2.ex e3).ex e4, okp, by omega, fun ys hys oky leny p zs H5 hp e5 h5 t5 => ?_, fun hys H5 e5 => ?_⟩
    · have E5 := (E3.trans e4).trans e5
      have fl : flat is = match alt ys with | none => none | some (e, l) => some (sums none e l) := by
        have a1 : powers is [] = some ps := hps
        have a2 : (minuses true ps).map (·.1) = some ys := hys
        rw [flat_eq, a1]
        simp only [a2]
        all_goals (cases alt ys <;> rfl)
      have zl : zs.length = ys.length := by rw [t5.len, List.length_map]
      have bad : (¬ (ys.length % 2 = 1 ∧ ∀ i x, ys[i]? = some x → goodAt i x = true)) → flat is = none := fun h => by
        rw [fl]
        cases q : alt ys with
        | none => rfl
        | some z => exact absurd (alt_bad _ ys z.1 z.2 (Nat.le_refl _) q) h
      refine q_when (b := decide (ys.length % 2 = 0)) (Evl.et_is (et_or (et_test (ev_op (ev_var rfl) ev_c rv_isN)) fun _ => et_test (ev_op (ev_op (Evl.ev_len (ev_var rfl) (Evl.sq_of h5)) ev_c (rv_mod (by decide))) ev_c (rv_eq rfl))) ?_) (fun hg H6 e6 => ?_) (fun hg H6 e6 => ?_)
      · show (false || decide (V.int ((zs.length : Int) % 2) = V.int 0)) = _
        rw [Bool.false_or, zl]
        exact decide_eq_decide.mpr ⟨fun h => by injection h with h; omega, fun h => by congr 1; omega⟩
      · have hg := of_decide_eq_true hg
        exact s_ret ev_c fun H7 e7 => k2 (bad fun z => by omega) H7 ((E5.trans e6).trans e7)
      · have hodd : ys.length % 2 = 1 := by have := of_decide_eq_false hg; omega
        have E6 := E5.trans e6
        have X6 := e6
        refine q_forEnum (ea_cons (ev_var rfl) ea_nil) (e6 _ _ h5) (fun i σ' H' => ∃ x2 x3, Ex H6 H' ∧ (∀ j x, j < i → ys[j]? = some x → goodAt j x = true) ∧ σ' = [some (.ref l), some (.ref p), x2, x3, none, none, none, none]) (fun H7 e7 => ⟨none, none, e7, fun j x h => by omega, rfl⟩)
          (fun i σ' H' ⟨_, _, e, _⟩ => e _ _ (e6 _ _ h5)) ?_ ?_
        · rintro i v σ' H' H7 hv ⟨x2, x3, ex, hgood, rfl⟩ e7
          have hi : i < ys.length := by rw [← zl]; exact (List.getElem?_eq_some_iff.mp hv).1
          have ex1 : ys[i]? = some ys[i] := List.getElem?_eq_getElem hi
          have okx := oky _ (List.getElem_mem hi)
          obtain ⟨v', hv', tv⟩ := Tps.get t5 (i := i) (d := itemD ys[i]) (by rw [List.getElem?_map, ex1]; rfl)
          rw [hv] at hv'
          cases hv'
          revert ex1 okx tv
          generalize ys[i] = x
          intro ex1 okx tv
          have E7 := ex.trans e7
          have tv7 := tv.ex (e6.trans E7)
          have evm : ∀ {σ : L2.St} {H}, σ[2]? = some (some (.int (i : Nat))) → Ev (tOp rEq (tOp (rI (fun _ j => 0 < j) fun i j => .int (i % j)) (tVar 2) (tC (.int 2))) (tC (.int 1))) σ H (.bl (i % 2 == 1)) := fun h0 => by
            refine ev_is' (ev_op (ev_op (ev_var h0) ev_c (rv_mod (by decide))) ev_c (rv_eq rfl)) ?_
            congr 1
            have : (i % 2 == 1) = decide (i % 2 = 1) := rfl
            rw [this]
            exact decide_eq_decide.mpr ⟨fun h => by injection h with h; omega, fun h => by congr 1; omega⟩
          refine s_when (b := !goodAt i x) (Evl.et_is (et_or (et_test (ev_op (ev_isText (ed_var rfl tv7)) (evm rfl) (rv_ne rfl))) fun _ => et_and (et_test (evm rfl)) fun _ => et_test (ev_isIn (neg := true) (ts := [.op .plus, .op .less, .op .times, .op .over]) (ed_var rfl tv7) okx (by decide) (by decide) (by rw [l_plus, l_minus, l_times, l_over]; exact ea_cons ev_c (ea_cons ev_c (ea_cons ev_c (ea_cons ev_c ea_nil)))))) ?_) (fun hb H8 e8 => ?_) (fun hb H8 e8 => ?_)
          · rw [opI_any]
            unfold goodAt
            cases x.isTxt <;> cases (i % 2 == 1) <;> cases isOpI x <;> rfl
          · have hb : goodAt i x = false := by simpa using hb
            exact s_ret ev_c fun H9 e9 => k2 (bad fun z => by have := z.2 i x ex1; rw [hb] at this; cases this) H9 (((E6.trans E7).trans e8).trans e9)
          · have hb : goodAt i x = true := by simpa using hb
            refine ⟨_, _, E7.trans e8, fun j y hj hy => ?_, rfl⟩
            by_cases q : j = i
            · subst q
              rw [ex1] at hy
              cases hy
              exact hb
            · exact hgood j y (by omega) hy
        · rintro σ' H' ⟨x2, x3, ex, hgood, rfl⟩
          have hgood : ∀ i x, ys[i]? = some x → goodAt i x = true := fun i x h => hgood i x (by rw [zl]; exact (List.getElem?_eq_some_iff.mp h).1) h
          obtain ⟨q, hq⟩ : ∃ q, ys.length = 2 * q + 1 := ⟨ys.length / 2, by omega⟩
          obtain ⟨e, lp, ha, hll, ⟨x0, hx0, hx0t, hx0e⟩, hpairs⟩ := alt_good q ys hq hgood
          rw [ha] at fl
          have fl : flat is = some (sums none e lp) := fl
          have okat : ∀ (i : Nat) (x : Item), ys[i]? = some x → okX x.ex := fun i x h => okI_ex (oky x (List.mem_of_getElem? h))
          have oks : okX (sums none e lp) := sums_ok lp none e (by rw [← hx0e]; exact okat _ _ hx0) (fun p h => by cases h) (fun p hp => by
            obtain ⟨i, hi⟩ := List.mem_iff_getElem?.mp hp
            obtain ⟨_, x, hx, _, hxe⟩ := hpairs i p.1 p.2 hi
            rw [← hxe]
            exact okat _ _ hx)
          have h7 := ex _ _ (e6 _ _ h5)
          have t7 := t5.ex (e6.trans ex)
          have E7 := E6.trans ex
          have at' : ∀ {σ : L2.St} {Ha : Hp} {ti : TE} {j : Nat} {x : Item}, Ex H' Ha → σ[1]? = some (some (.ref p)) → Ev ti σ Ha (.int (j : Int)) → ys[j]? = some x → EvD (tOp (rIxL K) (tVar 1) ti) σ Ha (itemD x) := fun e h1 hi hx =>
            ed_ixL (ev_var h1) (e _ _ h7) (t7.ex e) hi (by rw [List.getElem?_map, hx]; rfl)
          have exat : ∀ {σ : L2.St} {Ha : Hp} {ti : TE} {j : Nat} {x : Item}, Ex H' Ha → σ[1]? = some (some (.ref p)) → Ev ti σ Ha (.int (j : Int)) → ys[j]? = some x → x.isTxt = false → EvD (tOp (rIxT K) (tOp (rIxL K) (tVar 1) ti) (tC (.int 1))) σ Ha (xpD x.ex) := fun e h1 hi hx ht =>
            ed_ixT (j := 1) (ds := [.str (itemTag _), xpD _]) (by rw [← itemD_tup ht]; exact at' e h1 hi hx) rfl
          refine q_asg ev_c fun H8 e8 => ?_
          refine q_asg ev_c fun H9 e9 => ?_
          refine q_asgD (d := xpD e) (by rw [← hx0e]; exact exat (e8.trans e9) rfl (ev_c (v := .int ((0 : Nat) : Int))) hx0 hx0t) fun v6 H10 e10 t10 => ?_
          have X10 := (e8.trans e9).trans e10
          have slen : ∀ {Ha : Hp} {σ : L2.St}, Ex H' Ha → σ[1]? = some (some (.ref p)) → Ev (tCB (fun xs H Q => ∃ p ys, xs = [.ref p] ∧ (SqL K H p ys ∨ SqT K H p ys) ∧ Q (.int ys.length) H) (tCons (tVar 1) tNil)) σ Ha (.int ((2 * q + 1 : Nat) : Int)) := fun ex h1 => by
            have := Evl.ev_len (K := K) (ev_var h1) (Evl.sq_of (ex _ _ h7))
            rw [zl, hq] at this
            exact this
          refine q_forOdd (q := q) (ea_cons ev_c (ea_cons (ev_op (slen X10 rfl) ev_c rv_I0) (ea_cons ev_c ea_nil))) (by omega) (fun i σ' Ha => Ex H' Ha ∧ ∃ v4 v5 v6 x2 x3 x7, σ' = [some (.ref l), some (.ref p), x2, x3, some v4, some v5, some v6, x7] ∧
              ((i ≤ q ∧ ∃ st w, sums none e lp = sums st w (lp.drop i) ∧ TotV Ha st v4 v5 ∧ Tp Ha (xpD w) v6) ∨ (i = q + 1 ∧ Tp Ha (xpD (sums none e lp)) v4)))
            (fun H11 e11 => ⟨X10.trans e11, .non, .str "+", v6, x2, x3, none, rfl, Or.inl ⟨by omega, none, e, rfl, ⟨rfl, rfl⟩, t10.ex e11⟩⟩) ?_ ?_
          · rintro i σ' Ha hi ⟨xa, v4, v5, v6, x2, x3, x7, rfl, hor⟩
            rcases hor with ⟨hiq, st, w, hs, htot, tw⟩ | ⟨h, _⟩
            · -- the sign there
              obtain ⟨o, ho⟩ : ∃ o, o = match lp[i]? with | some (o, _) => o | none => Op.plus := ⟨_, rfl⟩
              have odd : (i < q → ys[2 * i + 1]? = some (.txt (.op o))) := fun h => by
                have e1 : lp[i]? = some lp[i] := List.getElem?_eq_getElem (by omega)
                rw [e1] at ho
                rw [(hpairs i lp[i].1 lp[i].2 e1).1, ho]
              refine q_asgD (d := wD (tokW (.op o))) (ed_if (b := decide (i < q)) (Evl.et_is (et_test (ev_op (ev_var rfl) (slen xa rfl) rv_I0)) (decide_eq_decide.mpr (by omega))) (fun h => at' xa rfl (ev_var rfl) (odd (of_decide_eq_true h))) (fun h => ?_)) fun v7 Hb eb tb => ?_
              · have hno : lp[i]? = none := List.getElem?_eq_none_iff.mpr (by have := of_decide_eq_false h; omega)
                rw [hno] at ho
                subst ho
                refine ed_ev ev_c ?_
                show Tp _ (wD [43]) _
                rw [l_plus]
                exact Tp.ofStr _
              · have tb := tb
                have ov : okI (.txt (.op o)) := rfl
                have tw := tw.ex eb
                have htot := htot.ex eb
                have xb := xa.trans eb
                refine q_when (b := !o.isSum) (Evl.et_is (et_test (ev_isIn (neg := false) (x := .txt (.op o)) (ts := [.op .times, .op .over]) (ed_var rfl tb) ov (by decide) (by decide) (by rw [l_times, l_over]; exact ea_cons ev_c (ea_cons ev_c ea_nil)))) (by cases o <;> rfl)) (fun hb Hc ec => ?_) (fun hb Hc ec => ?_)
                · -- a factor
                  have os : o.isSum = false := by simpa using hb
                  have hlt : i < q := by
                    refine Nat.lt_of_not_le fun h => ?_
                    have hno : lp[i]? = none := List.getElem?_eq_none_iff.mpr (by omega)
                    rw [hno] at ho
                    subst ho
                    cases hb
                  have e1 : lp[i]? = some lp[i] := List.getElem?_eq_getElem (by omega)
                  have e2 : lp.drop i = lp[i] :: lp.drop (i + 1) := List.drop_eq_getElem_cons (by omega)
                  rw [e1] at ho
                  obtain ⟨_, x, hx, hxt, hxe⟩ := hpairs i lp[i].1 lp[i].2 e1
                  have ho : o = lp[i].1 := ho
                  refine q_asgD (d := xpD (.bin o w lp[i].2)) (ed_tup (eds_cons (ed_ev (v := .str (opS o)) (ev_is' (ev_pick (ev_isT (neg := false) (x := .txt (.op o)) (t := .op .over) (ed_var rfl (tb.ex ec)) ov rfl l_over)) ?_) (Tp.ofStr _)) (eds_cons (ed_var rfl (tw.ex ec)) (eds_cons (by rw [← hxe]; exact exat (xb.trans ec) rfl (ev_op (ev_var rfl) ev_c rv_I0) hx hxt) eds_nil))) (by simp)) fun v8 Hd ed td => ?_
                  · cases o <;> first | rfl | (cases hb; done)
                  · refine ⟨(xb.trans ec).trans ed, v4, v5, v8, _, x3, _, rfl, Or.inl ⟨by omega, st, .bin o w lp[i].2, ?_, (htot.ex ec).ex ed, td⟩⟩
                    rw [hs, e2, show lp[i] = (lp[i].1, lp[i].2) from rfl, sums_cons, ← ho, if_neg (by rw [os]; decide)]
                · have hb : o.isSum = true := by simpa using hb
                  refine q_asgD (d := xpD (joinT st w)) (ed_if (b := st.isNone) (Evl.et_is (et_test (ev_op (ev_var rfl) ev_c rv_isN)) ?_) (fun h => ?_) (fun h => ?_)) fun v8 Hd ed td => ?_
                  · cases st with
                    | none => rw [htot.1]; rfl
                    | some z => exact decide_eq_false (xp_ne htot.1)
                  · cases st with
                    | none => exact ed_var rfl (tw.ex ec)
                    | some z => cases h
                  · cases st with
                    | none => cases h
                    | some z =>
                      obtain ⟨t, m⟩ := z
                      obtain ⟨h4, h5, h6⟩ := htot
                      have tm : Tp Hc (itemD (.txt (.op m))) v5 := by rw [h5]; exact Tp.ofStr _
                      refine ed_tup (eds_cons (ed_ev (v := .str (opS m)) (ev_is' (ev_pick (ev_isT (neg := false) (x := .txt (.op m)) (t := .op .less) (ed_var rfl tm) rfl rfl l_minus)) ?_) (Tp.ofStr _)) (eds_cons (ed_var rfl (h4.ex ec)) (eds_cons (ed_var rfl (tw.ex ec)) eds_nil))) (by simp)
                      cases m <;> first | rfl | (cases h6; done)
                  · refine q_asg (ev_var rfl) fun He ee => ?_
                    have ev7 : v7 = wV (tokW (.op o)) := tb.str
                    by_cases hlt : i < q
                    · have e1 : lp[i]? = some lp[i] := List.getElem?_eq_getElem (by omega)
                      have e2 : lp.drop i = lp[i] :: lp.drop (i + 1) := List.drop_eq_getElem_cons (by omega)
                      rw [e1] at ho
                      have ho : o = lp[i].1 := ho
                      obtain ⟨_, x, hx, hxt, hxe⟩ := hpairs i lp[i].1 lp[i].2 e1
                      refine s_asgD (d := xpD lp[i].2) (ed_if (b := true) (Evl.et_is (et_test (ev_op (ev_var rfl) (slen (((xb.trans ec).trans ed).trans ee) rfl) rv_I0)) (decide_eq_true (by omega))) (fun _ => by rw [← hxe]; exact exat (((xb.trans ec).trans ed).trans ee) rfl (ev_op (ev_var rfl) ev_c rv_I0) hx hxt) (fun h => by cases h)) fun v9 Hf ef tf => ?_
                      refine ⟨(((xb.trans ec).trans ed).trans ee).trans ef, v8, v7, v9, _, x3, _, rfl, Or.inl ⟨by omega, some (_, o), lp[i].2, ?_, ⟨(td.ex ee).ex ef, ev7, hb⟩, tf⟩⟩
                      rw [hs, e2, show lp[i] = (lp[i].1, lp[i].2) from rfl, sums_cons, ← ho, if_pos hb]
                    · have hqi : i = q := by omega
                      refine s_asg (v := .non) (ev_if (b := false) (Evl.et_is (et_test (ev_op (ev_var rfl) (slen (((xb.trans ec).trans ed).trans ee) rfl) rv_I0)) (decide_eq_false (by omega))) (fun h => by cases h) (fun _ => ev_c)) fun Hf ef => ?_
                      refine ⟨(((xb.trans ec).trans ed).trans ee).trans ef, v8, v7, .non, _, x3, _, rfl, Or.inr ⟨by omega, ?_⟩⟩
                      have : sums none e lp = joinT st w := by
                        rw [hs, List.drop_eq_nil_iff.mpr (by omega)]
                        cases st with
                        | none => rfl
                        | some z => rfl
                      rw [this]
                      exact (td.ex ee).ex ef
            · omega
          · rintro σ' Ha ⟨xa, v4, v5, v6, x2, x3, x7, rfl, hor⟩
            rcases hor with ⟨h, _⟩ | ⟨_, tt⟩
            · omega
            · exact s_retD (ed_var rfl tt) fun v Hb eb tv => k1 _ fl oks v Hb ((E7.trans xa).trans eb) tv
    · have fl : flat is = none := by
        have a1 : powers is [] = some ps := hps
        have a2 : (minuses true ps).map (·.1) = none := hys
        rw [flat_eq, a1]
        simp only [a2]
      exact no fl _ ((E3.trans e4).trans e5) _
  · have fl : flat is = none := by
      have a1 : powers is [] = none := hps
      rw [flat_eq, a1]
    refine q_when (b := false) (Evl.et_is (et_test (ev_op (ev_var rfl) ev_c rv_notN)) rfl) (fun h => by cases h) (fun _ H3 e3 => ?_)
    exact no fl _ ((e1.trans e2).trans e3) _
end
end K83
end
section
set_option maxRecDepth 100000
set_option maxHeartbeats 1000000
namespace K83
open PySem PySem.Spec PyProof.Rows L2
open Evl (Ex Ev EvT EvA EvL EvU EvO RV RU RC ev_var ev_c ev_op ev_un ev_if ev_andV ev_orV ev_notV et_test et_B et_and et_or et_not ea_nil ea_cons ev_cb q_asg q_asgL q_asgU q_if q_when s_asg s_ret s_if s_when s_drop q_drop rv_I0 rv_I rv_eq rv_ne rv_val el_sl eo_none eo_some tCut pss_cut q_cut)
/-! ### new lists of data -/
def EvLD (te : TE) (σ : L2.St) (H : Hp) (ds : List PyData) : Prop := ∀ H1, Ex H H1 → ∀ Q : VK, (∀ p xs H2, H1 p = none → Ex H1 H2 → H2 p = some (.lst xs) → Tps H2 ds xs → Q (.ref p) H2) → te σ H1 Q
section
variable {K : PySem.W.Frag} {σ : L2.St} {H H' : Hp} {ta tb te : TE} {tl : TA} {lo hi : TO} {ds es : List PyData} {l : Addr} {xs : List V} {D : Ends} {tz : TS} {i : Nat}
theorem eld_lst (h : EvDs tl σ H ds) (hz : ds.length ≤ 1000) : EvLD (tLst tl) σ H ds := fun H1 e Q q => h H1 e _ fun vs H2 e2 ts => ⟨Evl.sz_of (by rw [ts.len]; omega), fun p hp => q p vs _ (ex_fresh e2 hp) (e2.trans (Ex.new hp)) upd_same (ts.ex (Ex.new hp))⟩
theorem cutV_lo (xs : List V) (j : Nat) : cutV xs none (some (j : Int)) = xs.take j := by
  unfold cutV
  rw [HT.sIx_none, HT.sIx_nat, List.drop_zero, Nat.sub_zero, ← List.take_take, List.take_length]
theorem cutV_hi (xs : List V) (i : Nat) : cutV xs (some (i : Int)) none = xs.drop i := by
  unfold cutV
  rw [HT.sIx_none, HT.sIx_nat]
  by_cases h : i ≤ xs.length
  · have e : min i xs.length = i := by omega
    rw [e, List.take_of_length_le (by rw [List.length_drop]; omega)]
  · rw [List.drop_eq_nil_iff.mpr (show xs.length ≤ min i xs.length by omega), List.drop_eq_nil_iff.mpr (show xs.length ≤ i by omega), List.take_nil]
theorem eld_take {j : Nat} (h : Ev te σ H (.ref l)) (hl : H l = some (.lst xs)) (ts : Tps H ds xs) (hj : Ev tb σ H (.int (j : Int))) : EvLD (tSl (rSlL K) te tNoPart (tPart tb)) σ H (ds.take j) := fun H1 e Q q =>
  el_sl h eo_none (eo_some hj) (Evl.sq_of hl) H1 e Q fun p H2 hp e2 h2 => by
    rw [cutV_lo] at h2
    exact q p _ H2 hp e2 h2 (Tps.take j (ts.ex (e.trans e2)))
theorem eld_drop {j : Nat} (h : Ev te σ H (.ref l)) (hl : H l = some (.lst xs)) (ts : Tps H ds xs) (hj : Ev tb σ H (.int (j : Int))) : EvLD (tSl (rSlL K) te (tPart tb) tNoPart) σ H (ds.drop j) := fun H1 e Q q =>
  el_sl h (eo_some hj) eo_none (Evl.sq_of hl) H1 e Q fun p H2 hp e2 h2 => by
    rw [cutV_hi] at h2
    exact q p _ H2 hp e2 h2 (Tps.drop j (ts.ex (e.trans e2)))
theorem eld_mid {j k : Nat} (h : Ev te σ H (.ref l)) (hl : H l = some (.lst xs)) (ts : Tps H ds xs) (hj : Ev ta σ H (.int (j : Int))) (hk : Ev tb σ H (.int (k : Int))) : EvLD (tSl (rSlL K) te (tPart ta) (tPart tb)) σ H ((ds.drop j).take (k - j)) := fun H1 e Q q =>
  el_sl h (eo_some hj) (eo_some hk) (Evl.sq_of hl) H1 e Q fun p H2 hp e2 h2 => by
    rw [cutV_nat] at h2
    exact q p _ H2 hp e2 h2 (Tps.take _ (Tps.drop j (ts.ex (e.trans e2))))
theorem eld_cat (ha : EvLD ta σ H ds) (hb : EvLD tb σ H es) (hz : ds.length + es.length ≤ 100000) : EvLD (tOp rCat ta tb) σ H (ds ++ es) := fun H1 e Q q =>
  ha H1 e _ fun p xs H2 hp e2 h2 t2 => hb H2 (e.trans e2) _ fun p' ys H3 hp' e3 h3 t3 => ⟨p, p', xs, ys, rfl, rfl, e3 _ _ h2, h3, Evl.sz_of (by rw [t2.len, t3.len]; omega), fun r hr =>
    q r _ _ (ex_fresh (e2.trans e3) hr) ((e2.trans e3).trans (Ex.new hr)) upd_same ((Tps.append (t2.ex e3) t3).ex (Ex.new hr))⟩
theorem q_asgLD (h : EvLD te σ H ds) (k : ∀ p xs H1, H p = none → Ex H H1 → H1 p = some (.lst xs) → Tps H1 ds xs → tz D (σ.set i (some (.ref p))) H1) : tSeq (tAsg te (gName i)) tz D σ H := h H (Ex.refl H) _ k
theorem s_asgLD (h : EvLD te σ H ds) (k : ∀ p xs H1, H p = none → Ex H H1 → H1 p = some (.lst xs) → Tps H1 ds xs → D.nx (σ.set i (some (.ref p))) H1) : tAsg te (gName i) D σ H := h H (Ex.refl H) _ k
end
/-! ### brackets -/
def deepV (is : List Item) : Int := match deepF is 0 0 with | some d => (d : Int) | none => -1
theorem not_t {b : Bool} (h : (!b) = true) : b = false := by cases b <;> first | rfl | cases h
theorem not_f {b : Bool} (h : (!b) = false) : b = true := by cases b <;> first | rfl | cases h
theorem any_mem {α : Type} {f g : α → Bool} : ∀ (l : List α), (∀ x ∈ l, f x = g x) → l.any f = l.any g
  | [], _ => rfl
  | x :: l, h => by rw [List.any_cons, List.any_cons, h x (List.mem_cons_self ..), any_mem l fun y hy => h y (List.mem_cons_of_mem _ hy)]
def spDeep (K : PySem.W.Frag) : Sp := fun vs H Q _ => ∃ (l : Addr) (xs : List V) (is : List Item), vs = [.ref l] ∧ H l = some (.lst xs) ∧ Tps H (is.map itemD) xs ∧ (∀ x ∈ is, okI x) ∧ is.length ≤ 2000 ∧
  ∀ H', Ex H H' → Q (.int (deepV is)) H'
theorem deepF_step (x : Item) (r : List Item) (n m : Nat) (h : n ≤ m) : deepF (x :: r) n m = if n + (if isT x .lp then 1 else 0) < (if isT x .rp then 1 else 0) then none else deepF r (n + (if isT x .lp then 1 else 0) - (if isT x .rp then 1 else 0)) (max m (n + (if isT x .lp then 1 else 0) - (if isT x .rp then 1 else 0))) := by
  have e : max m n = m := by omega
  cases x with
  | txt t =>
    cases t with
    | lp => simp [deepF, isT]
    | rp =>
      by_cases h0 : n = 0
      · subst h0; simp [deepF, isT]
      · have : max m (n - 1) = m := by omega
        simp [deepF, isT, h0, this]
    | _ => simp [deepF, isT, e]
  | _ => simp [deepF, isT, e]
section
variable {P : Program} {w : World} {K : PySem.W.Frag} {mg : Str → Option Value} {base : Heap}
abbrev N__law_deep : List Str := ["_law_items_here", "_law_now", "_law_most", "_law_item"]
abbrev s__law_deep : Stmt := top 61
theorem sc__law_deep : FnScope N__law_deep ["_law_items_here"] (defScope s__law_deep) := ⟨rfl, rfl, rfl, by decide +kernel, rfl, by decide +kernel, by decide +kernel⟩
theorem ok_law_deep (T : Txt w K mg) (A : DefAt K mg "_law_deep" s__law_deep) : DefOk P w K mg base CX0 "_law_deep" 1 ["_law_items_here"] (spDeep K) := by
  refine mk_def0 A sc__law_deep (fun _ _ _ _ _ _ us hl => match us, hl with | [_], _ => rfl) (fun vs H Q E ⟨_, _, _, h, _⟩ => by rw [h]; rfl) (fun f cdv A outer s H vs Q E hr h => ?_)
  obtain ⟨l, xs, is, rfl, hl, tis, ok, hz, k⟩ := h
  refine ⟨_, (pss_cons (ps_set (i := 1) sc__law_deep.nd rfl (Or.inl rfl) pe_int)
      (pss_cons (ps_set (i := 2) sc__law_deep.nd rfl (Or.inl rfl) pe_int)
      (pss_cons (ps_for PassesOwn.never rfl (pi_list (pv 0)) (pg_name (i := 3) sc__law_deep.nd rfl (Or.inl rfl)) (pss_cons (ps_set (i := 1) sc__law_deep.nd rfl (Or.inl rfl) (pe_op op_sub (pe_op op_add (pv 1) (pe_callTy call_int1 (by rfl) T.f_int (by decide +kernel) (pa_cons (pe_cmpR (op_eqX hr.units) (pv 3) pe_str (nomark _)) pa_nil))) (pe_callTy call_int1 (by rfl) T.f_int (by decide +kernel) (pa_cons (pe_cmpR (op_eqX hr.units) (pv 3) pe_str (nomark _)) pa_nil))))
      (pss_cons (ps_set (i := 2) sc__law_deep.nd rfl (Or.inl rfl) (pe_callB (call_max2 rfl) (by rfl) T.f_max (by decide +kernel) (pa_cons (pv 2) (pa_cons (pv 1) pa_nil))))
      (pss_one (ps_if (pt_cmpR op_lt (pv 1) pe_int (nomark _)) (pss_one (ps_ret (pe_un un_neg pe_int))) pss_nil)))))
      (pss_one (ps_ret (pe_ifExp (pt_cmpR op_eq (pv 1) pe_int (nomark _)) (pv 2) (pe_un un_neg pe_int))))))), ?_⟩
  have hxl : xs.length = is.length := by rw [tis.len, List.length_map]
  refine q_asg ev_c fun H1 e1 => ?_
  refine q_asg ev_c fun H2 e2 => ?_
  have E2 := e1.trans e2
  refine Evl.q_forLn (ev_var rfl) (Evl.sq_of (E2 _ _ hl)) (fun i σ' H' => ∃ (n m : Nat) (x3 : Option V), Ex H H' ∧ deepF is 0 0 = deepF (is.drop i) n m ∧ n ≤ m ∧ σ' = [some (.ref l), some (.int (n : Nat)), some (.int (m : Nat)), x3]) (fun H3 e3 => ⟨0, 0, none, E2.trans e3, rfl, Nat.le_refl _, rfl⟩)
    (fun i σ' H' _ ⟨_, _, _, e, _⟩ => Evl.sq_of (e _ _ hl)) ?_ ?_
  · rintro i v σ' H' hv ⟨n, m, x3, ex, hd, hnm, rfl⟩
    have hi : i < is.length := by rw [← hxl]; exact (List.getElem?_eq_some_iff.mp hv).1
    have hdrop : is.drop i = is[i] :: is.drop (i + 1) := List.drop_eq_getElem_cons hi
    have okx := ok _ (List.getElem_mem hi)
    obtain ⟨v', hv', tv⟩ := Tps.get tis (i := i) (d := itemD is[i]) (by rw [List.getElem?_map, List.getElem?_eq_getElem hi]; rfl)
    rw [hv] at hv'
    cases hv'
    rw [hdrop] at hd
    revert hd okx tv
    generalize is[i] = x
    intro hd okx tv
    have tv := tv.ex ex
    rw [deepF_step x _ n m hnm] at hd
    obtain ⟨b1, hb1⟩ : ∃ b, b = isT x .lp := ⟨_, rfl⟩
    obtain ⟨b2, hb2⟩ : ∃ b, b = isT x .rp := ⟨_, rfl⟩
    rw [← hb1, ← hb2] at hd
    refine q_asg (v := .int ((n : Int) + ((if b1 then 1 else 0 : Nat) : Int) - ((if b2 then 1 else 0 : Nat) : Int))) (ev_op (ev_op (ev_var rfl) (ev_cb (ea_cons (ev_is' (ev_isT (neg := false) (t := .lp) (ed_var rfl tv) okx rfl l_lp) (by rw [hb1]; rfl)) ea_nil) (rc_intB (σ := []))) rv_I0) (ev_cb (ea_cons (ev_is' (ev_isT (neg := false) (t := .rp) (ed_var rfl tv) okx rfl l_rp) (by rw [hb2]; rfl)) ea_nil) (rc_intB (σ := []))) rv_I0) fun H3 e3 => ?_
    refine q_asg (Evl.ev_max2 (ev_var rfl) (ev_var rfl)) fun H4 e4 => ?_
    have E4 := (ex.trans e3).trans e4
    by_cases hlt : n + (if b1 then 1 else 0) < (if b2 then 1 else 0)
    · rw [if_pos hlt] at hd
      refine s_when (b := true) (Evl.et_is (et_test (ev_op (ev_var rfl) ev_c rv_I0)) (decide_eq_true (by omega))) (fun _ H5 e5 => ?_) (fun h => by cases h)
      refine s_ret (ev_un ev_c Evl.ru_neg) fun H6 e6 => ?_
      have := k H6 ((E4.trans e5).trans e6)
      unfold deepV at this
      rwa [hd] at this
    · rw [if_neg hlt] at hd
      refine s_when (b := false) (Evl.et_is (et_test (ev_op (ev_var rfl) ev_c rv_I0)) (decide_eq_false (by omega))) (fun h => by cases h) (fun _ H5 e5 => ?_)
      refine ⟨n + (if b1 then 1 else 0) - (if b2 then 1 else 0), max m (n + (if b1 then 1 else 0) - (if b2 then 1 else 0)), some v, E4.trans e5, hd, by omega, ?_⟩
      have a1 : (n : Int) + ((if b1 then 1 else 0 : Nat) : Int) - ((if b2 then 1 else 0 : Nat) : Int) = ((n + (if b1 then 1 else 0) - (if b2 then 1 else 0) : Nat) : Int) := by omega
      have a2 : (if ((n + (if b1 then 1 else 0) - (if b2 then 1 else 0) : Nat) : Int) > (m : Int) then ((n + (if b1 then 1 else 0) - (if b2 then 1 else 0) : Nat) : Int) else (m : Int)) = ((max m (n + (if b1 then 1 else 0) - (if b2 then 1 else 0)) : Nat) : Int) := by
        split <;> omega
      rw [a1, a2]
      rfl
  · rintro σ' H' ⟨n, m, x3, ex, hd, hnm, rfl⟩
    rw [hxl, List.drop_length] at hd
    have hd : deepF is 0 0 = if n = 0 then some m else none := hd
    refine s_ret (v := .int (deepV is)) (ev_if (b := decide (n = 0)) (Evl.et_is (et_test (ev_op (ev_var rfl) ev_c (rv_eq rfl))) (decide_eq_decide.mpr ⟨fun h => by injection h with h; omega, fun h => by rw [h]; rfl⟩)) (fun h => ?_) (fun h => ?_)) fun H3 e3 => k H3 (ex.trans e3)
    · unfold deepV
      rw [hd, if_pos (of_decide_eq_true h)]
      exact ev_var rfl
    · unfold deepV
      rw [hd, if_neg (of_decide_eq_false h)]
      exact ev_un ev_c Evl.ru_neg
end
/-! ### the innermost brackets -/
theorem cut_view (is : List Item) (hb : bal is 0 = some 0) : (∀ x ∈ is, x.isRp = false) ∧ cut is = none ∨ ∃ a seg post, cut is = some (a, seg, post) ∧ is = a ++ .txt .lp :: (seg ++ .txt .rp :: post) ∧ (∀ x ∈ seg, x.isLp = false) ∧ (∀ x ∈ seg, x.isRp = false) ∧ (∀ x ∈ a, x.isRp = false) ∧
    (∀ (a' : List Item) (y : Xp), bal a' 0 = bal a 0 → bal (a' ++ .base y :: post) 0 = some 0) := by
  cases hc : cut is with
  | none =>
    rcases cutF_none is none [] hc with q | q
    · exact Or.inl ⟨q, rfl⟩
    · rw [hb] at q
      cases q.2
  | some p =>
    obtain ⟨a, seg, post⟩ := p
    obtain ⟨e, s1, s2, s3⟩ := cutF_some is none [] a seg post hc (by simp) (by simp)
    have e : is = a ++ .txt .lp :: seg ++ .txt .rp :: post := e
    refine Or.inr ⟨a, seg, post, rfl, by rw [e]; simp, s1, s2, s3 (by simp [held]), ?_⟩
    intro a' y h
    rw [bal_append, h]
    rw [e, List.append_assoc, bal_append] at hb
    cases ha : bal a 0 with
    | none =>
      rw [ha] at hb
      cases hb
    | some k =>
      rw [ha] at hb
      have h1 : bal (seg ++ .txt .rp :: post) (k + 1) = some 0 := hb
      rw [bal_append, bal_free seg _ s1 s2] at h1
      exact h1
theorem isT_lp (x : Item) : isT x .lp = x.isLp := by
  cases x with
  | txt t => cases t <;> rfl
  | _ => rfl
theorem isT_rp (x : Item) : isT x .rp = x.isRp := by
  cases x with
  | txt t => cases t <;> rfl
  | _ => rfl
theorem idx_app {p : Item → Bool} {y : Item} {v : List Item} (hy : p y = true) : ∀ (u : List Item), (∀ x ∈ u, p x = false) → ((u ++ y :: v).map p).idxOf true = u.length
  | [], _ => by simp [List.idxOf_cons, hy]
  | x :: u, h => by
    have := idx_app (v := v) hy u fun z hz => h z (List.mem_cons_of_mem _ hz)
    rw [List.cons_append, List.map_cons, List.idxOf_cons, h x (List.mem_cons_self ..), this]
    rfl
def readOn (f : Nat) (a post : List Item) (e : Xp) : Option Xp := match a.reverse with
  | .txt (.rt m) :: a' => readF f (a'.reverse ++ .base (.rt m e) :: post)
  | _ => readF f (a ++ .base e :: post)
theorem readF_step (f : Nat) (is : List Item) : readF (f + 1) is = match cut is with
    | none => flat is
    | some (a, seg, post) => match flat seg with
      | none => none
      | some e => readOn f a post e := by
  rw [readF]
  cases cut is with
  | none => rfl
  | some p =>
    obtain ⟨a, seg, post⟩ := p
    rfl
theorem rt_word (m : Rt) : wD (tokW (.rt m)) = .str (rtS m) := by
  cases m
  · show PyData.str (mkS wSqrt) = .str "sqrt"
    rw [l_sqrt]
  · show PyData.str (mkS wCbrt) = .str "cbrt"
    rw [l_cbrt]
end K83
end
section
set_option maxRecDepth 100000
set_option maxHeartbeats 1000000
namespace K83
open PySem PySem.Spec PyProof.Rows L2
open Evl (Ex Ev EvT EvA EvL EvU EvO RV RU RC ev_var ev_c ev_op ev_un ev_if ev_andV ev_orV ev_notV et_test et_B et_and et_or et_not ea_nil ea_cons ev_cb q_asg q_asgL q_asgU q_if q_when s_asg s_ret s_if s_when s_drop q_drop rv_I0 rv_I rv_eq rv_ne rv_val el_sl eo_none eo_some tCut pss_cut q_cut)
def spRead (K : PySem.W.Frag) : Sp := fun vs H Q _ => ∃ cs : List Nat, vs = [.str (mkS cs)] ∧ cs.length ≤ 30000 ∧
  (∀ e, progRead cs = some e → okX e → ∀ v H', Ex H H' → Tp H' (xpD e) v → Q v H') ∧ (progRead cs = none → ∀ H', Ex H H' → Q .non H')
section
variable {P : Program} {w : World} {K : PySem.W.Frag} {mg : Str → Option Value} {base : Heap}
abbrev N__law_read : List Str := ["_law_text", "_law_words_here", "_law_items_here", "_law_last", "_law_first", "_law_told_here", "_law_at"]
abbrev s__law_read : Stmt := top 62
theorem sc__law_read : FnScope N__law_read ["_law_text"] (defScope s__law_read) := ⟨rfl, rfl, rfl, by decide +kernel, rfl, by decide +kernel, by decide +kernel⟩
theorem ok_law_read (T : Txt w K mg) (A : DefAt K mg "_law_read" s__law_read) (D__law_words : DefOk P w K mg base CX0 "_law_words" 1 ["_law_text"] (spLWords K)) (D__law_are_words : DefOk P w K mg base CX0 "_law_are_words" 1 ["_law_words_here"] (spAreW K))
    (D__law_items : DefOk P w K mg base CX0 "_law_items" 3 ["_law_words_here"] (spItems K)) (D__law_deep : DefOk P w K mg base CX0 "_law_deep" 1 ["_law_items_here"] (spDeep K)) (D__law_flat : DefOk P w K mg base CX0 "_law_flat" 3 ["_law_items_here"] (spFlat K)) :
    DefOk P w K mg base CX0 "_law_read" 4 ["_law_text"] (spRead K) := by
  refine mk_def0 A sc__law_read (fun _ _ _ _ _ _ us hl => match us, hl with | [_], _ => rfl) (fun vs H Q E ⟨_, h, _⟩ => by rw [h]; rfl) (fun f cdv A outer s H vs Q E hr h => ?_)
  obtain ⟨cs, rfl, hz, k1, k2⟩ := h
  refine ⟨_, (pss_cons (ps_set (i := 1) sc__law_read.nd rfl (Or.inl rfl) (pe_def D__law_words (hr.mono (by decide)) rfl pass0 (pa_cons (pv 0) pa_nil)))
      (pss_cons (ps_if (PW.pt (pw_or (pt_cmpR op_isN (pv 1) pe_non (nomark _)) (pw_or1 (pt_not (pt_val (pe_def D__law_are_words (hr.mono (by decide)) rfl pass0 (pa_cons (pv 1) pa_nil))))))) (pss_one (ps_ret pe_non)) pss_nil)
      (pss_cons (ps_set (i := 2) sc__law_read.nd rfl (Or.inr rfl) (pe_def D__law_items (hr.mono (by decide)) rfl pass0 (pa_cons (pv 1) pa_nil)))
      (pss_cons (ps_if (PW.pt (pw_or (pt_cmpR op_isN (pv 2) pe_non (nomark _)) (pw_or1 (pt_not (pt_chain op_le op_le pe_int (pe_def D__law_deep (hr.mono (by decide)) rfl pass0 (pa_cons (pv 2) pa_nil)) pe_int))))) (pss_one (ps_ret pe_non)) pss_nil)
      (pss_cons (ps_while PassesOwn.never (pt_cmpR (op_inX hr.units) pe_str (pv 2) rfl) (pss_cons (ps_set (i := 3) sc__law_read.nd rfl (Or.inl rfl) (pe_bm PySem.F.plainAttrs_list PySem.F.slot_list_index PySem.F.type_list_index (mt_indexX hr.units) (pv 2) (pa_cons pe_str pa_nil)))
      (pss_cons (ps_set (i := 4) sc__law_read.nd rfl (Or.inl rfl) (pe_callB (cr_max rfl) (by rfl) T.f_max (by decide +kernel) (pa_cons (pe_lc (own := [("_law_at", 6)]) (g := gName 6) (tt := tTest (tOp (rEqX K false) (tOp (rIxL K) (tVar 2) (tVar 6)) (tC (.str "(")))) rfl sc__law_read.nd (pi_range1 rfl T.f_range (pa_cons (pv 3) pa_nil)) (blkOk_by (own := [("_law_at", 6)]) (N := N__law_read) (sc := defScope s__law_read) (by decide +kernel)) (fun _ _ _ _ _ => (pg_name (i := 6) sc__law_read.nd rfl (Or.inl rfl))) (fun _ _ _ _ _ => (pts_one (pt_cmpR (op_eqX hr.units) (pe_ix ix_list (pv 2) (pv 6) (fun _ _ => rfl)) pe_str (nomark _)))) (fun _ _ _ _ _ => (pv 6))) pa_nil)))
      (pss_cons (ps_set (i := 5) sc__law_read.nd rfl (Or.inl rfl) (pe_def D__law_flat (hr.mono (by decide)) rfl pass0 (pa_cons (pe_slice sl_list (pv 2) (po_some (pe_op op_add (pv 4) pe_int)) (po_some (pv 3))) pa_nil)))
      (pss_cons (ps_if (pt_cmpR op_isN (pv 5) pe_non (nomark _)) (pss_one (ps_ret pe_non)) pss_nil)
      (pss_cons (ps_if (PW.pt (pw_and (pt_cmpR op_gt (pv 4) pe_int (nomark _)) (pw_and1 (pt_cmpR (op_inX hr.units) (pe_ix ix_list (pv 2) (pe_op op_sub (pv 4) pe_int) (fun _ _ => rfl)) (pe_tup (pa_cons pe_str (pa_cons pe_str pa_nil))) rfl)))) (pss_cons (ps_set (i := 4) sc__law_read.nd rfl (Or.inl rfl) (pe_op op_sub (pv 4) pe_int))
      (pss_one (ps_set (i := 5) sc__law_read.nd rfl (Or.inl rfl) (pe_tup (pa_cons (pe_ix ix_list (pv 2) (pv 4) (fun _ _ => rfl)) (pa_cons (pv 5) pa_nil)))))) pss_nil)
      (pss_one (ps_set (i := 2) sc__law_read.nd rfl (Or.inr rfl) (pe_op op_cat (pe_op op_cat (pe_slice sl_list (pv 2) po_none (po_some (pv 4))) (pe_lst (pa_cons (pe_tup (pa_cons pe_str (pa_cons (pv 5) pa_nil))) pa_nil))) (pe_slice sl_list (pv 2) (po_some (pe_op op_add (pv 3) pe_int)) po_none))))))))))
      (pss_one (ps_ret (pe_def D__law_flat (hr.mono (by decide)) rfl pass0 (pa_cons (pv 2) pa_nil))))))))), ?_⟩
  have ws0 := words_same cs
  refine q_asgC (ea_cons (ev_var rfl) ea_nil) fun H1 e1 => ⟨cs, rfl, hz, fun ws hlw p H2 hp e2 h2 => ?_, fun hlw H2 e2 => ?_⟩
  · obtain ⟨sm, wl⟩ := lw_small cs 0 [] ws 0 hlw (by simp)
    have E2 := e1.trans e2
    refine q_when (b := !(ws.all goodW && decide (ws.length ≤ 200))) (Evl.et_is (et_or (et_test (ev_op (ev_var rfl) ev_c rv_isN)) fun _ => et_not (et_B (Evl.ev_call (z := .bl (ws.all goodW && decide (ws.length ≤ 200))) (ea_cons (ev_var rfl) ea_nil) fun H3 e3 Q' q' _ => ⟨p, ws, rfl, e3 _ _ h2, fun w hw => ⟨(sm w hw).1, by have := (sm w hw).2; omega⟩, by simp at wl; omega, q'⟩))) rfl) (fun hb H3 e3 => ?_) (fun hb H3 e3 => ?_)
    · have hb := not_t hb
      refine s_ret ev_c fun H4 e4 => k2 ?_ H4 ((E2.trans e3).trans e4)
      unfold progRead
      rw [← ws0]
      unfold lawWords
      rw [hlw]
      simp only
      rw [if_neg (fun q => by rw [q.1, decide_eq_true q.2] at hb; cases hb)]
    · have hb : ws.all goodW = true ∧ ws.length ≤ 200 := by
        have hb := not_f hb
        rw [Bool.and_eq_true] at hb
        exact ⟨hb.1, of_decide_eq_true hb.2⟩
      have pw0 : progWords cs = some ws := by
        rw [← ws0]
        unfold lawWords
        rw [hlw]
        simp only
        rw [if_pos hb]
      have wd := progWords_wds pw0
      have pr : progRead cs = lawRead (toks ws 0) := by
        unfold progRead
        rw [pw0]
        rfl
      refine q_asgC (ea_cons (ev_var rfl) ea_nil) fun H4 e4 => ⟨p, ws, rfl, e4 _ _ (e3 _ _ h2), wd, fun is hit hil pi xs H5 hpi e5 h5 t5 => ?_, fun hit H5 e5 => ?_⟩
      · have E5 := ((E2.trans e3).trans e4).trans e5
        have okis : ∀ x ∈ is, okI x := itemsF_ok _ _ _ (wd.okT 0) hit
        have npis : ∀ x ∈ is, x.isPart = false := items_noPart _ _ _ hit
        have lr : lawRead (toks ws 0) = match deepF is 0 0 with | none => none | some d => if d ≤ 20 then readF (is.length + 1) is else none := by
          unfold lawRead
          rw [hit]
          all_goals rfl
        obtain ⟨dv, hdv⟩ : ∃ dv : Int, dv = deepV is := ⟨_, rfl⟩
        refine q_when (b := !(decide (0 ≤ dv) && decide (dv ≤ 20))) (Evl.et_is (et_or (et_test (ev_op (ev_var rfl) ev_c rv_isN)) fun _ => et_not (et_test (ev_chain ev_c (Evl.ev_call (z := .int dv) (ea_cons (ev_var rfl) ea_nil) fun H6 e6 Q' q' _ => ⟨pi, xs, is, rfl, e6 _ _ h5, t5.ex e6, okis, by omega, fun H' e' => by rw [← hdv]; exact q' H' e'⟩) rv_I0 (fun _ => ev_c) (fun _ => rv_I0)))) rfl) (fun hg H6 e6 => ?_) (fun hg H6 e6 => ?_)
        · have hg := not_t hg
          unfold deepV at hdv
          refine s_ret ev_c fun H7 e7 => k2 ?_ H7 ((E5.trans e6).trans e7)
          rw [pr, lr]
          cases q : deepF is 0 0 with
          | none => rfl
          | some d =>
            rw [q] at hdv
            have hdv : dv = (d : Int) := hdv
            show (if d ≤ 20 then _ else none) = none
            rw [if_neg]
            intro h
            rw [decide_eq_true (by omega), decide_eq_true (by omega)] at hg
            cases hg
        · have hg := not_f hg
          unfold deepV at hdv
          rw [Bool.and_eq_true] at hg
          have g1 := of_decide_eq_true hg.1
          have g2 := of_decide_eq_true hg.2
          obtain ⟨d, hd⟩ : ∃ d, deepF is 0 0 = some d := by
            cases q : deepF is 0 0 with
            | none => rw [q] at hdv; have hdv : dv = -1 := hdv; omega
            | some d => exact ⟨d, rfl⟩
          have hd20 : d ≤ 20 := by
            rw [hd] at hdv
            have hdv : dv = (d : Int) := hdv
            omega
          have hb0 := deep_bal is 0 0 d hd
          rw [hd] at lr
          have lr : lawRead (toks ws 0) = if d ≤ 20 then readF (is.length + 1) is else none := lr
          rw [if_pos hd20] at lr
          rw [lr] at pr
          have E6 := E5.trans e6
          refine Evl.q_while (fun m σ' H' => ∃ (ja : Addr) (js : List Item) (ys : List V) (f : Nat) (x3 x4 x5 : Option V), Ex H H' ∧ H' ja = some (.lst ys) ∧ Tps H' (js.map itemD) ys ∧ (∀ x ∈ js, okI x) ∧ js.length ≤ 200 ∧ bal js 0 = some 0 ∧ progRead cs = readF (f + 1) js ∧ js.length ≤ f ∧ m = js.length ∧
            σ' = [some (.str (mkS cs)), some (.ref p), some (.ref ja), x3, x4, x5, none]) is.length ⟨pi, is, xs, is.length, none, none, none, E6, e6 _ _ h5, t5.ex e6, okis, hil, hb0, pr, Nat.le_refl _, rfl, rfl⟩ ?_
          rintro m σ' H' ⟨ja, js, ys, f, x3, x4, x5, ex, hja, tjs, okj, jl, hbj, hrd, hf, rfl, rfl⟩
          have yl : ys.length = js.length := by rw [tjs.len, List.length_map]
          have lw : PyData.canLay0 (wD [41]) = true := lay_word (by decide)
          have anyr : (js.map itemD).any (fun z => PyData.eqv z (wD [41])) = js.any (fun x => isT x .rp) := by
            rw [List.any_map]
            exact any_mem _ fun x hx => eqv_isT (t := .rp) (okj x hx) rfl
          refine ⟨js.any fun x => isT x .rp, et_test fun H7 e7 Q' q' => ?_, fun hq H7 e7 => ?_, fun hq H7 e7 => ?_⟩
          · refine ⟨_, rfl, ?_⟩
            refine ⟨wD [41], js.map itemD, ?_, Or.inl (.lst (Evl.sq_of (e7 _ _ hja)) (Tps.dp _ _ (tjs.ex e7))), lw, lay_items okj, ?_, ?_⟩
            · rw [l_rp]
              exact .str _
            · rw [depth_word]
              omega
            · rw [anyr]
              exact q' H7 (Ex.refl _)
          · obtain ⟨x0, hx0, hx1⟩ := List.any_eq_true.mp hq
            rw [isT_rp] at hx1
            rcases cut_view js hbj with ⟨q, _⟩ | ⟨a, seg, post, hcut, hjs, s1, s2, s3, hbal⟩
            · rw [q x0 hx0] at hx1
              cases hx1
            · have E7 := ex.trans e7
              have oka : ∀ x ∈ a, okI x := fun x hx => okj x (by rw [hjs]; simp [hx])
              have oks : ∀ x ∈ seg, okI x := fun x hx => okj x (by rw [hjs]; simp [hx])
              have okp : ∀ x ∈ post, okI x := fun x hx => okj x (by rw [hjs]; simp [hx])
              have jll : js.length = a.length + 1 + (seg.length + 1 + post.length) := by rw [hjs]; simp; omega
              have hstep : progRead cs = match flat seg with | none => none | some e => readOn f a post e := by
                rw [hrd, readF_step, hcut]
                all_goals (cases hfs : flat seg <;> simp [hfs])
              obtain ⟨last, hlast⟩ : ∃ last, last = a.length + 1 + seg.length := ⟨_, rfl⟩
              have hidx : (js.map fun d => PyData.eqv (itemD d) (wD [41])).idxOf true = last := by
                have e1 : (js.map fun d => PyData.eqv (itemD d) (wD [41])) = js.map fun x => isT x .rp := List.map_congr_left fun x hx => eqv_isT (t := .rp) (okj x hx) rfl
                rw [e1, hjs, show a ++ Item.txt .lp :: (seg ++ Item.txt .rp :: post) = (a ++ Item.txt .lp :: seg) ++ Item.txt .rp :: post by simp, idx_app rfl]
                · rw [hlast]; simp; omega
                · intro x hx
                  rw [isT_rp]
                  rcases List.mem_append.mp hx with h | h
                  · exact s3 x h
                  · rcases List.mem_cons.mp h with h | h
                    · rw [h]; rfl
                    · exact s2 x h
              refine ⟨fun σ2 H2 => ∃ m', m' < js.length ∧ ∃ (ja : Addr) (js : List Item) (ys : List V) (f : Nat) (x3 x4 x5 : Option V), Ex H H2 ∧ H2 ja = some (.lst ys) ∧ Tps H2 (js.map itemD) ys ∧ (∀ x ∈ js, okI x) ∧ js.length ≤ 200 ∧ bal js 0 = some 0 ∧ progRead cs = readF (f + 1) js ∧ js.length ≤ f ∧ m' = js.length ∧ σ2 = [some (.str (mkS cs)), some (.ref p), some (.ref ja), x3, x4, x5, none], fun _ _ h => h, ?_⟩
              refine q_asg (v := .int (last : Nat)) (fun H8 e8 Q' q' => ?_) fun H8 e8 => ?_
              · refine ⟨_, rfl, Or.inl ⟨rfl, _, Evl.sq_of ((e7.trans e8) _ _ hja)⟩, ja, mkS [41], js.map itemD, rfl, by rw [l_rp], .lst (Evl.sq_of ((e7.trans e8) _ _ hja)) (Tps.dp _ _ (tjs.ex (e7.trans e8))), lay_items okj, lw, ?_, ?_⟩
                · rw [List.map_map]
                  refine List.mem_map.mpr ⟨x0, hx0, ?_⟩
                  show PyData.eqv (itemD x0) (wD (tokW .rp)) = true
                  rw [eqv_isT (okj x0 hx0) rfl, isT_rp]
                  exact hx1
                · rw [List.map_map]
                  have : (List.map ((fun d => PyData.eqv d (.str (mkS [41]))) ∘ itemD) js).idxOf true = last := hidx
                  rw [this]
                  exact q' H8 (Ex.refl _)
              · have X8 := e7.trans e8
                have itat : ∀ {σ : L2.St} {Ha : Hp} {ti : TE} {j : Nat} {x : Item}, Ex H' Ha → σ[2]? = some (some (.ref ja)) → Ev ti σ Ha (.int (j : Int)) → js[j]? = some x → EvD (tOp (rIxL K) (tVar 2) ti) σ Ha (itemD x) := fun e h1 hi hx =>
                  ed_ixL (ev_var h1) (e _ _ hja) (tjs.ex e) hi (by rw [List.getElem?_map, hx]; rfl)
                refine q_asg (v := .int (a.length : Nat)) (fun H9 e9 Q' q' => ?_) fun H9 e9 => ?_
                · show tLc (iRng1 (tCons (tVar 3) tNil)) (gName 6) (tTest (tOp (rEqX K false) (tOp (rIxL K) (tVar 2) (tVar 6)) (tC (.str "(")))) (tVar 6) [6] [some (.str (mkS cs)), some (.ref p), some (.ref ja), some (.int (last : Nat)), x4, x5, none] H9 fun v H' => rMax K [v] H' Q'
                  refine Evl.el_lcR1 (H := H8) (j := 6) (vs := [6]) (n := ((last : Nat) : Int)) (σ := [some (.str (mkS cs)), some (.ref p), some (.ref ja), some (.int (last : Nat)), x4, x5, none]) (fun i => match js[i]? with | some x => isT x .lp | none => false) (fun i => .int (i : Nat)) (ea_cons (ev_var (i := 3) rfl) ea_nil) (by omega) (fun _ => rfl) (fun i Ha ea hi => ?_) (fun i Ha ea hi _ => ev_var (i := 6) rfl) H9 e9 _ fun pm Hb hpm eb hb' => ?_
                  · have hi' : i < js.length := by omega
                    have e1 : js[i]? = some js[i] := List.getElem?_eq_getElem hi'
                    have okx := okj _ (List.getElem_mem hi')
                    rw [e1]
                    exact et_test (ev_isT (neg := false) (t := .lp) (itat (X8.trans ea) rfl (ev_var (i := 6) rfl) e1) okx rfl l_lp)
                  · have en : ((last : Nat) : Int).toNat = last := by omega
                    rw [en] at hb'
                    have hget : ∀ i, i < last → (match js[i]? with | some x => isT x .lp | none => false) = true → i ≤ a.length := by
                      intro i hi h
                      refine Nat.le_of_not_lt fun hlt => ?_
                      have : js[i]? = seg[i - a.length - 1]? := by
                        rw [hjs, List.getElem?_append_right (by omega)]
                        have e : i - a.length = (i - a.length - 1) + 1 := by omega
                        rw [e, List.getElem?_cons_succ, List.getElem?_append_left (by omega)]
                        congr 1
                      rw [this] at h
                      cases q : seg[i - a.length - 1]? with
                      | none => rw [q] at h; cases h
                      | some x =>
                        rw [q] at h
                        have := s1 x (List.mem_of_getElem? q)
                        rw [← isT_lp] at this
                        rw [show isT x .lp = true from h] at this
                        cases this
                    have hfirst : (match js[a.length]? with | some x => isT x .lp | none => false) = true := by
                      rw [hjs, List.getElem?_append_right (Nat.le_refl _), Nat.sub_self]
                      rfl
                    have hmem : (a.length : Int) ∈ ((List.range last).filter fun i => match js[i]? with | some x => isT x .lp | none => false).map fun i => ((i : Nat) : Int) :=
                      List.mem_map.mpr ⟨a.length, List.mem_filter.mpr ⟨List.mem_range.mpr (by omega), hfirst⟩, rfl⟩
                    refine ⟨pm, ((List.range last).filter fun i => match js[i]? with | some x => isT x .lp | none => false).map fun i => ((i : Nat) : Int), rfl, Evl.sq_of ?_, List.length_pos_of_mem hmem, fun m hm hmax => ?_⟩
                    · rw [hb', List.map_map]
                      rfl
                    · obtain ⟨i, hi, rfl⟩ := List.mem_map.mp hm
                      obtain ⟨h1, h2⟩ := List.mem_filter.mp hi
                      have h3 := hget i (List.mem_range.mp h1) h2
                      have h4 := hmax _ hmem
                      have : i = a.length := by omega
                      rw [this]
                      exact q' Hb eb
                · have X9 := X8.trans e9
                  have E9 := ex.trans X9
                  have hseg : ((js.map itemD).drop (a.length + 1)).take (last - (a.length + 1)) = seg.map itemD := by
                    rw [← List.map_drop, ← List.map_take]
                    congr 1
                    rw [hjs, List.drop_append, List.drop_eq_nil_iff.mpr (by omega), List.nil_append]
                    have e1 : a.length + 1 - a.length = 1 := by omega
                    have e2 : last - (a.length + 1) = seg.length := by omega
                    rw [e1, e2]
                    show (seg ++ Item.txt Tok.rp :: post).take seg.length = seg
                    exact List.take_left
                  refine (eld_mid (j := a.length + 1) (k := last) (ev_var rfl) (X9 _ _ hja) (tjs.ex X9) (ev_op (ev_var rfl) ev_c rv_I0) (ev_var rfl)) H9 (Ex.refl _) _ fun ps zs H10 hps e10 h10 t10 => ?_
                  rw [hseg] at t10
                  refine ⟨ps, zs, seg, rfl, h10, t10, oks, by omega, fun e hfl oke v H11 e11 tv => ?_, fun hfl H11 e11 => ?_⟩
                  · rw [hfl] at hstep
                    have hstep : progRead cs = readOn f a post e := hstep
                    have X11 := (X9.trans e10).trans e11
                    refine q_when (b := false) (Evl.et_is (et_test (ev_op (ev_var rfl) ev_c rv_isN)) (decide_eq_false (xp_ne tv))) (fun h => by cases h) (fun _ H12 e12 => ?_)
                    have X12 := X11.trans e12
                    -- the rest: what stands ahead now, what is told
                    have rest : ∀ (a' : List Item) (y : Xp) (v' : V) (Ha : Hp), a'.length ≤ a.length → js.take a'.length = a' → okX y → (∀ x ∈ a', okI x) → bal a' 0 = bal a 0 → progRead cs = readF f (a' ++ .base y :: post) → Ex H12 Ha → Tp Ha (xpD y) v' →
                        tAsg (tOp rCat (tOp rCat (tSl (rSlL K) (tVar 2) tNoPart (tPart (tVar 4))) (tLst (tCons (tTup (tCons (tC (.str "base")) (tCons (tVar 5) tNil))) tNil))) (tSl (rSlL K) (tVar 2) (tPart (tOp (rI0 fun i j => .int (i + j)) (tVar 3) (tC (.int 1)))) tNoPart)) (gName 2)
                          { nx := fun σ2 H2 => ∃ m', m' < js.length ∧ ∃ (ja : Addr) (js : List Item) (ys : List V) (f : Nat) (x3 x4 x5 : Option V), Ex H H2 ∧ H2 ja = some (.lst ys) ∧ Tps H2 (js.map itemD) ys ∧ (∀ x ∈ js, okI x) ∧ js.length ≤ 200 ∧ bal js 0 = some 0 ∧ progRead cs = readF (f + 1) js ∧ js.length ≤ f ∧ m' = js.length ∧ σ2 = [some (.str (mkS cs)), some (.ref p), some (.ref ja), x3, x4, x5, none], rt := Q }
                          [some (.str (mkS cs)), some (.ref p), some (.ref ja), some (.int (last : Nat)), some (.int (a'.length : Nat)), some v', none] Ha := by
                      intro a' y v' Ha hal htk oky oka' hba hpr ea tv'
                      have Xa := X12.trans ea
                      refine s_asgLD (ds := ((js.map itemD).take a'.length ++ [itemD (.base y)]) ++ (js.map itemD).drop (last + 1)) (eld_cat (eld_cat (eld_take (ev_var rfl) (Xa _ _ hja) (tjs.ex Xa) (ev_var rfl)) (eld_lst (eds_cons (ed_tup (eds_cons ed_s (eds_cons (ed_var rfl tv') eds_nil)) (by simp)) eds_nil) (by simp)) (by simp; omega)) (eld_drop (ev_var rfl) (Xa _ _ hja) (tjs.ex Xa) (ev_op (ev_var rfl) ev_c rv_I0)) (by simp; omega)) fun pn ws' Hb hpn eb hb tb => ?_
                      have edrop : js.drop (last + 1) = post := by
                        rw [hjs, show a ++ Item.txt .lp :: (seg ++ Item.txt .rp :: post) = (a ++ Item.txt .lp :: (seg ++ [Item.txt .rp])) ++ post by simp]
                        have : last + 1 = (a ++ Item.txt .lp :: (seg ++ [Item.txt .rp])).length := by simp; omega
                        rw [this]
                        exact List.drop_left
                      have ed : ((js.map itemD).take a'.length ++ [itemD (.base y)]) ++ (js.map itemD).drop (last + 1) = (a' ++ Item.base y :: post).map itemD := by
                        rw [← List.map_take, ← List.map_drop, htk, edrop]
                        simp
                      rw [ed] at tb
                      have nl : (a' ++ Item.base y :: post).length = a'.length + 1 + post.length := by simp; omega
                      obtain ⟨f', rfl⟩ : ∃ f', f = f' + 1 := ⟨f - 1, by omega⟩
                      refine ⟨(a' ++ Item.base y :: post).length, by omega, pn, a' ++ Item.base y :: post, ws', f', _, _, _, (ex.trans Xa).trans eb, hb, tb, ?_, by omega, hbal a' y hba, hpr, by omega, rfl, rfl⟩
                      intro x hx
                      rcases List.mem_append.mp hx with h | h
                      · exact oka' x h
                      · rcases List.mem_cons.mp h with h | h
                        · rw [h]; exact oky
                        · exact okp x h
                    rcases List.eq_nil_or_concat a with ha0 | ⟨a', x, hax⟩
                    · subst ha0
                      refine q_when (b := false) (Evl.et_is (et_and (b := false) (et_test (ev_op (ev_var rfl) ev_c rv_I0)) fun h => ?_) ?_) (fun h => by cases h) (fun _ H13 e13 => ?_)
                      · have := of_decide_eq_true h
                        simp at this
                      · simp
                      · exact rest [] e v H13 (Nat.le_refl _) rfl oke (by simp) rfl hstep e13 ((tv.ex e12).ex e13)
                    · have hax : a = a' ++ [x] := by rw [hax]; simp
                      subst hax
                      have hxat : js[a'.length]? = some x := by
                        rw [hjs, List.append_assoc, List.getElem?_append_right (Nat.le_refl _), Nat.sub_self]
                        rfl
                      have okx : okI x := oka x (by simp)
                      have e1 : ((a' ++ [x]).length : Int) - 1 = ((a'.length : Nat) : Int) := by simp
                      obtain ⟨b, hb⟩ : ∃ b, b = [Tok.rt .sqrt, .rt .cbrt].any (isT x) := ⟨_, rfl⟩
                      refine q_when (b := b) (Evl.et_is (et_and (et_test (ev_op (ev_var rfl) ev_c rv_I0)) fun _ => et_test (ev_isIn (neg := false) (ts := [.rt .sqrt, .rt .cbrt]) (itat X12 rfl (ev_is' (ev_op (ev_var rfl) ev_c rv_I0) (by rw [e1])) hxat) okx (by decide) (by decide) (by rw [l_sqrt, l_cbrt]; exact ea_cons ev_c (ea_cons ev_c ea_nil)))) ?_) (fun hbt H13 e13 => ?_) (fun hbt H13 e13 => ?_)
                      · have : decide ((0 : Int) < ((a' ++ [x]).length : Int)) = true := decide_eq_true (by rw [List.length_append]; show (0 : Int) < ((a'.length + 1 : Nat) : Int); omega)
                        rw [this, Bool.true_and, hb]
                        rfl
                      · obtain ⟨m, rfl⟩ : ∃ m, x = .txt (.rt m) := by
                          rw [hb] at hbt
                          cases x with
                          | txt t =>
                            cases t with
                            | rt m => exact ⟨m, rfl⟩
                            | _ => simp [isT] at hbt
                          | _ => simp [isT] at hbt
                        refine q_asg (v := .int ((a'.length : Nat) : Int)) (ev_is' (ev_op (ev_var rfl) ev_c rv_I0) (by rw [e1])) fun H14 e14 => ?_
                        refine s_asgD (d := xpD (.rt m e)) (by
                          rw [xpD]
                          refine ed_tup (eds_cons ?_ (eds_cons (ed_var rfl (((tv.ex e12).ex e13).ex e14)) eds_nil)) (by simp)
                          have := itat ((X12.trans e13).trans e14) (σ := [some (.str (mkS cs)), some (.ref p), some (.ref ja), some (.int (last : Nat)), some (.int (a'.length : Nat)), some v, none]) rfl (ev_var (i := 4) rfl) hxat
                          rw [← rt_word m]
                          exact this) fun v15 H15 e15 t15 => ?_
                        refine rest a' (.rt m e) v15 H15 (by simp) ?_ (ok_rt m oke) (fun z hz => oka z (by simp [hz])) ?_ ?_ ((e13.trans e14).trans e15) t15
                        · rw [hjs, List.append_assoc]
                          exact List.take_left
                        · rw [bal_append]
                          cases bal a' 0 <;> rfl
                        · rw [hstep]
                          unfold readOn
                          rw [List.reverse_append]
                          show readF f (a'.reverse.reverse ++ _) = _
                          rw [List.reverse_reverse]
                      · refine rest (a' ++ [x]) e v H13 (Nat.le_refl _) ?_ oke oka rfl ?_ e13 ((tv.ex e12).ex e13)
                        · rw [hjs]
                          exact List.take_left
                        · rw [hstep]
                          unfold readOn
                          split
                          · rename_i m a'' heq
                            rw [List.reverse_append] at heq
                            injection heq with h1 _
                            rw [h1] at hb
                            rw [hb] at hbt
                            cases m <;> cases hbt
                          · rfl
                  · rw [hfl] at hstep
                    refine q_when (b := true) (Evl.et_is (et_test (ev_op (ev_var rfl) ev_c rv_isN)) rfl) (fun _ H12 e12 => ?_) (fun h => by cases h)
                    exact s_ret ev_c fun H13 e13 => k2 hstep H13 ((((E9.trans e10).trans e11).trans e12).trans e13)
          · have nrp : ∀ x ∈ js, x.isRp = false := by
              intro x hx
              cases q : x.isRp with
              | false => rfl
              | true =>
                have : js.any (fun x => isT x .rp) = true := List.any_eq_true.mpr ⟨x, hx, by rw [isT_rp]; exact q⟩
                rw [hq] at this
                cases this
            rcases cut_view js hbj with ⟨_, hcut⟩ | ⟨a, seg, post, hcut, hjs, _⟩
            · have hfin : progRead cs = flat js := by
                rw [hrd, readF_step, hcut]
              have E7 := ex.trans e7
              refine s_retC (ea_cons (ev_var rfl) ea_nil) fun H8 e8 => ⟨ja, ys, js, rfl, e8 _ _ (e7 _ _ hja), (tjs.ex e7).ex e8, okj, by omega, fun e hfl oke v H9 e9 tv => ?_, fun hfl H9 e9 => ?_⟩
              · exact k1 e (by rw [hfin]; exact hfl) oke v H9 ((E7.trans e8).trans e9) tv
              · exact k2 (by rw [hfin]; exact hfl) H9 ((E7.trans e8).trans e9)
            · have := nrp (.txt .rp) (by rw [hjs]; simp)
              cases this
      · have : progRead cs = none := by
          rw [pr]
          unfold lawRead
          rw [hit]
        refine q_when (b := true) (Evl.et_is (et_or (b := false) (et_test (ev_op (ev_var rfl) ev_c rv_isN)) (fun h => by cases h)) rfl) (fun _ H6 e6 => ?_) (fun h => by cases h)
        exact s_ret ev_c fun H7 e7 => k2 this H7 (((((E2.trans e3).trans e4).trans e5).trans e6).trans e7)
  · have : progRead cs = none := by
      unfold progRead
      rw [← ws0]
      unfold lawWords
      rw [hlw]
    refine q_when (b := true) (Evl.et_is (et_or (b := false) (et_test (ev_op (ev_var rfl) ev_c rv_isN)) (fun h => by cases h)) rfl) (fun _ H3 e3 => ?_) (fun h => by cases h)
    exact s_ret ev_c fun H4 e4 => k2 this H4 (((e1.trans e2).trans e3).trans e4)
end
end K83
end
section
set_option maxRecDepth 100000
set_option maxHeartbeats 1000000
namespace K83
open PySem PySem.Spec PyProof.Rows L2
open Evl (Ex Ev EvT EvA EvL EvU EvO RV RU RC ev_var ev_c ev_op ev_un ev_if ev_andV ev_orV ev_notV et_test et_B et_and et_or et_not ea_nil ea_cons ev_cb q_asg q_asgL q_asgU q_if q_when s_asg s_ret s_if s_when s_drop q_drop rv_I0 rv_I rv_eq rv_ne rv_val el_sl eo_none eo_some tCut pss_cut q_cut)
theorem huR {k : Nat} {A : Around} (hr : Room k A) : A.units + 1 < cLine := by
  have := hr.units
  omega
theorem cmR {i j : Int} (h : -1000000000000000 ≤ j ∧ j ≤ 1000000000000000) : CMul i j := by
  have e : (2 : Int) ^ 64 = 18446744073709551616 := by decide
  refine Or.inr ?_
  rw [e]
  omega
theorem cmL {i j : Int} (h : -1000000000000000 ≤ i ∧ i ≤ 1000000000000000) : CMul i j := by
  have e : (2 : Int) ^ 64 = 18446744073709551616 := by decide
  refine Or.inl ?_
  rw [e]
  omega
theorem rv_mul {H : Hp} {i j : Int} (h : (-1000000000000000 ≤ j ∧ j ≤ 1000000000000000) ∨ (-1000000000000000 ≤ i ∧ i ≤ 1000000000000000)) : RV (rI CMul fun i j => .int (i * j)) (.int i) (.int j) H (.int (i * j)) := rv_I (h.elim cmR cmL)
theorem rv_fdiv {H : Hp} {i j : Int} (h : 0 < j ∧ j ≤ 1000000) : RV (rI CDiv fun i j => .int (i / j)) (.int i) (.int j) H (.int (i / j)) := rv_I ⟨by omega, by omega⟩
def spMixed : Sp := fun vs H Q _ => ∃ c k : Int, vs = [.int c, .int k] ∧ 0 ≤ k ∧ k ≤ 1100000 ∧ ∀ (r : Int) H', 0 ≤ r → Ex H H' → Q (.int r) H'
section
variable {P : Program} {w : World} {K : PySem.W.Frag} {mg : Str → Option Value} {base : Heap}
abbrev N__law_mixed : List Str := ["_law_cell", "_law_k", "_law_number"]
abbrev s__law_mixed : Stmt := top 41
theorem sc__law_mixed : FnScope N__law_mixed ["_law_cell", "_law_k"] (defScope s__law_mixed) := ⟨rfl, rfl, rfl, by decide +kernel, rfl, by decide +kernel, by decide +kernel⟩
theorem ok_law_mixed (T : Txt w K mg) (A : DefAt K mg "_law_mixed" s__law_mixed) : DefOk P w K mg base CX0 "_law_mixed" 1 ["_law_cell", "_law_k"] spMixed := by
  refine mk_def0 A sc__law_mixed (fun _ _ _ _ _ _ us hl => match us, hl with | [_, _], _ => rfl) (fun vs H Q E ⟨_, _, h, _⟩ => by rw [h]; rfl) (fun f cdv A outer s H vs Q E hr h => ?_)
  obtain ⟨c, k, rfl, h1, h2, kk⟩ := h
  refine ⟨_, (pss_cons (ps_set (i := 2) sc__law_mixed.nd rfl (Or.inl rfl) (pe_op op_add (pe_op op_add (pe_op op_mod (pe_op op_mul (pe_op op_mul (pv 0) (pe_op op_add pe_int (pe_op op_mul pe_int (pv 1)))) pe_int) pe_int) (pe_op op_mul (pe_op op_mul pe_int (pv 1)) (pv 1))) (pe_op op_mul pe_int (pv 1))))
      (pss_one (ps_ret (pe_op op_fdiv (pe_op op_mod (pe_op op_mul (pv 2) pe_int) pe_int) pe_int)))), ?_⟩
  refine q_asg (ev_op (ev_op (ev_op (ev_op (ev_op (ev_var rfl) (ev_op ev_c (ev_op ev_c (ev_var rfl) (rv_mul (Or.inr (by decide)))) rv_I0) (rv_mul (Or.inl (by omega)))) ev_c (rv_mul (Or.inl (by decide)))) ev_c (rv_mod (by decide))) (ev_op (ev_op ev_c (ev_var rfl) (rv_mul (Or.inr (by decide)))) (ev_var rfl) (rv_mul (Or.inl (by omega)))) rv_I0) (ev_op ev_c (ev_var rfl) (rv_mul (Or.inr (by decide)))) rv_I0) fun H1 e1 => ?_
  refine s_ret (ev_op (ev_op (ev_op (ev_var rfl) ev_c (rv_mul (Or.inl (by decide)))) ev_c (rv_mod (by decide))) ev_c (rv_fdiv (by decide))) fun H2 e2 => kk _ H2 ?_ (e1.trans e2)
  exact Int.ediv_nonneg (Int.emod_nonneg _ (by decide)) (by decide)
end
/-! ### the drawer -/
structure GC where
  dm : Addr
  lc : Addr
  ld : Addr
def mK (G : GC) (n : Nat) : List (Key × V) := [(.inr "cells", .ref G.lc), (.inr "digits", .ref G.ld), (.inr "at", .int n)]
structure MAt (G : GC) (n : Nat) (H : Hp) : Prop where
  ne : G.lc ≠ G.ld
  dict : H G.dm = some (.dK (mK G n))
  cells : ∃ cs : List Int, H G.lc = some (.lst (cs.map .int)) ∧ cs.length = 64
  digits : ∃ ds : List Int, H G.ld = some (.lst (ds.map .int))
abbrev GC.S (G : GC) : List Addr := [G.dm, G.ld]
theorem MAt.ex {G : GC} {n : Nat} {H H' : Hp} (m : MAt G n H) (e : Ex H H') : MAt G n H' := by
  obtain ⟨cs, h1, h2⟩ := m.cells
  obtain ⟨ds, h3⟩ := m.digits
  exact ⟨m.ne, e _ _ m.dict, ⟨cs, e _ _ h1, h2⟩, ⟨ds, e _ _ h3⟩⟩
theorem mK_at (G : GC) (n : Nat) : valV (mK G n) (.inr "at") = some (.int n) := rfl
theorem mK_cells (G : GC) (n : Nat) : valV (mK G n) (.inr "cells") = some (.ref G.lc) := rfl
theorem mK_digits (G : GC) (n : Nat) : valV (mK G n) (.inr "digits") = some (.ref G.ld) := rfl
theorem mK_put (G : GC) (n : Nat) : putK (mK G n) (.inr "at") (.int ((n : Int) + 1)) = mK G (n + 1) := rfl
section
variable {G : GC} {n : Nat} {H H' : Hp} {σ : L2.St} {td : TE}
theorem ev_dget {k : Str} {v : V} {a : Addr} {kvs : List (Key × V)} (h : Ev td σ H (.ref a)) (hd : H a = some (.dK kvs)) (hv : valV kvs (.inr k) = some v) : Ev (tDGet td (tC (.str k))) σ H v := fun H1 e Q q =>
  h H1 e _ fun H2 e2 => ⟨a, v, rfl, Or.inl ⟨kvs, .inr k, Or.inl (e2 _ _ (e _ _ hd)), rfl, hv.symm⟩, q H2 e2⟩
theorem ev_mat (m : MAt G n H) (h : Ev td σ H (.ref G.dm)) : Ev (tDGet td (tC (.str "at"))) σ H (.int (n : Nat)) := ev_dget h m.dict (mK_at G n)
theorem ev_mcells (m : MAt G n H) (h : Ev td σ H (.ref G.dm)) : Ev (tDGet td (tC (.str "cells"))) σ H (.ref G.lc) := ev_dget h m.dict (mK_cells G n)
theorem ev_mdigits (m : MAt G n H) (h : Ev td σ H (.ref G.dm)) : Ev (tDGet td (tC (.str "digits"))) σ H (.ref G.ld) := ev_dget h m.dict (mK_digits G n)
end
def spDraw (K : PySem.W.Frag) : Sp := fun vs H Q _ => ∃ (G : GC) (n many : Nat), vs = [.ref G.dm, .int (many : Nat)] ∧ MAt G n H ∧ 0 < many ∧ many ≤ 100000 ∧ n ≤ 1000000 ∧ ∀ (r : Nat) H', r < many → Fr G.S H H' → MAt G (n + 1) H' → Q (.int (r : Nat)) H'
theorem mod_nat {i : Int} {m : Nat} (h : 0 < m) : ∃ r : Nat, r < m ∧ i % (m : Int) = (r : Nat) := by
  have h1 := Int.emod_nonneg i (show (m : Int) ≠ 0 by omega)
  have h2 := Int.emod_lt_of_pos i (show (0 : Int) < (m : Int) by omega)
  exact ⟨(i % (m : Int)).toNat, by omega, by omega⟩
section
variable {P : Program} {w : World} {K : PySem.W.Frag} {mg : Str → Option Value} {base : Heap}
abbrev N__law_draw : List Str := ["_law_m", "_law_many", "_law_k", "_law_at", "_law_cell"]
abbrev s__law_draw : Stmt := top 43
theorem sc__law_draw : FnScope N__law_draw ["_law_m", "_law_many"] (defScope s__law_draw) := ⟨rfl, rfl, rfl, by decide +kernel, rfl, by decide +kernel, by decide +kernel⟩
theorem ok_law_draw (T : Txt w K mg) (A : DefAt K mg "_law_draw" s__law_draw) (D__law_mixed : DefOk P w K mg base CX0 "_law_mixed" 1 ["_law_cell", "_law_k"] spMixed) : DefOk P w K mg base CX0 "_law_draw" 2 ["_law_m", "_law_many"] (spDraw K) := by
  refine mk_def0 A sc__law_draw (fun _ _ _ _ _ _ us hl => match us, hl with | [_, _], _ => rfl) (fun vs H Q E ⟨_, _, _, h, _⟩ => by rw [h]; rfl) (fun f cdv A outer s H vs Q E hr h => ?_)
  obtain ⟨G, n, many, rfl, m, h1, h2, h3, kk⟩ := h
  refine ⟨_, (pss_cons (ps_set (i := 2) sc__law_draw.nd rfl (Or.inl rfl) (pe_dget (huR hr) (pv 0) pe_str (fun _ _ => rfl)))
      (pss_cons (ps_dput (huR hr) (pv 0) pe_str (pe_op op_add (pv 2) pe_int) rfl)
      (pss_cons (ps_if (pt_cmpR (op_neX hr.units) (pe_dget (huR hr) (pv 0) pe_str (fun _ _ => rfl)) (pe_lst pa_nil) (nomark _)) (pss_cons (ps_set (i := 3) sc__law_draw.nd rfl (Or.inl rfl) (pe_op op_mod (pv 2) (pe_callB call_len_seq (by rfl) T.f_len PySem.boot_len (pa_cons (pe_dget (huR hr) (pv 0) pe_str (fun _ _ => rfl)) pa_nil))))
      (pss_cons (ps_set (i := 4) sc__law_draw.nd rfl (Or.inl rfl) (pe_ix ix_list (pe_dget (huR hr) (pv 0) pe_str (fun _ _ => rfl)) (pv 3) (fun _ _ => rfl)))
      (pss_one (ps_if (pt_cmpR op_notIn_seq (pv 4) (pe_tup (pa_cons pe_int (pa_cons (pe_un un_neg pe_int) pa_nil))) rfl) (pss_cons (ps_asg (pe_op op_fdiv (pv 4) (pv 1)) (pg_sub (pe_dget (huR hr) (pv 0) pe_str (fun _ _ => rfl)) (pv 3) set_list))
      (pss_one (ps_ret (pe_op op_mod (pv 4) (pv 1))))) pss_nil)))) pss_nil)
      (pss_one (ps_ret (pe_op op_mod (pe_def D__law_mixed (hr.mono (by decide)) rfl pass0 (pa_cons (pe_def D__law_mixed (hr.mono (by decide)) rfl pass0 (pa_cons (pe_op op_add (pe_ix ix_list (pe_dget (huR hr) (pv 0) pe_str (fun _ _ => rfl)) (pe_op op_mod (pv 2) pe_int) (fun _ _ => rfl)) (pe_op op_mul pe_int (pe_op op_fdiv (pv 2) pe_int))) (pa_cons (pv 2) pa_nil))) (pa_cons (pe_op op_add (pv 2) pe_int) pa_nil))) (pv 1))))))), ?_⟩
  refine q_asg (ev_mat m (ev_var rfl)) fun H1 e1 => ?_
  have m1 := m.ex e1
  refine (ev_op (ev_var rfl) ev_c rv_I0) H1 (Ex.refl _) _ fun H2 e2 => ?_
  have m2 := m1.ex e2
  refine ⟨_, rfl, G.dm, _, rfl, Or.inl ⟨mK G n, .inr "at", m2.dict, rfl, Nat.lt_of_lt_of_le (by decide : 3 < 4) (by have := sizeLine_eq; omega), rfl⟩, ?_⟩
  rw [mK_put]
  -- behind the counting
  have ndl : G.ld ≠ G.dm := by
    obtain ⟨ds, h⟩ := m2.digits
    exact ne_of h m2.dict (fun z => nomatch z)
  have ncl : G.lc ≠ G.dm := by
    obtain ⟨cs, h, _⟩ := m2.cells
    exact ne_of h m2.dict (fun z => nomatch z)
  have m3 : MAt G (n + 1) (upd H2 G.dm (.dK (mK G (n + 1)))) := by
    obtain ⟨cs, hc, hc2⟩ := m2.cells
    obtain ⟨ds, hd⟩ := m2.digits
    exact ⟨m2.ne, upd_same, ⟨cs, by rw [upd_ne ncl]; exact hc, hc2⟩, ⟨ds, by rw [upd_ne ndl]; exact hd⟩⟩
  have f3 : Fr G.S H (upd H2 G.dm (.dK (mK G (n + 1)))) := Fr.upd (Fr.of (e1.trans e2)) (Or.inl (by simp))
  revert m3 f3
  generalize upd H2 G.dm (.dK (mK G (n + 1))) = H3
  intro m3 f3
  have last : ∀ H4 x3 x4, Ex H3 H4 → tRet (tOp (rI (fun _ j => 0 < j) fun i j => .int (i % j)) (tCall spMixed [] E0 (tCons (tCall spMixed [] E0 (tCons (tOp (rI0 fun i j => .int (i + j)) (tOp (rIxL K) (tDGet (tVar 0) (tC (.str "cells"))) (tOp (rI (fun _ j => 0 < j) fun i j => .int (i % j)) (tVar 2) (tC (.int 64)))) (tOp (rI CMul fun i j => .int (i * j)) (tC (.int 31)) (tOp (rI CDiv fun i j => .int (i / j)) (tVar 2) (tC (.int 64))))) (tCons (tVar 2) tNil)))
      (tCons (tOp (rI0 fun i j => .int (i + j)) (tVar 2) (tC (.int 7))) tNil))) (tVar 1)) { nx := fun _ H' => Q .non H', rt := Q } [some (.ref G.dm), some (.int (many : Nat)), some (.int (n : Nat)), x3, x4] H4 := by
    intro H4 x3 x4 e4
    have m4 := m3.ex e4
    obtain ⟨cs, hc, hc2⟩ := m4.cells
    obtain ⟨r64, hr1, hr2⟩ := mod_nat (i := (n : Int)) (m := 64) (by decide)
    have hr2 : (n : Int) % 64 = (r64 : Nat) := hr2
    refine (ev_op (ev_op (ev_mcells m4 (ev_var rfl)) (ev_is' (ev_op (ev_var rfl) ev_c (rv_mod (by decide))) (by rw [hr2])) (Evl.rv_ixL (v := .int cs[r64]) (Evl.sq_of hc) (atI_nat (by rw [List.getElem?_map, List.getElem?_eq_getElem (by omega)]; rfl)))) (ev_op ev_c (ev_op (ev_var rfl) ev_c (rv_fdiv (by decide))) (rv_mul (Or.inr (by decide)))) rv_I0) H4 (Ex.refl _) _ fun H5 e5 => ?_
    refine (ev_var rfl : Ev (tVar 2) _ H5 (.int (n : Nat))) H5 (Ex.refl _) _ fun H6 e6 => ?_
    refine ⟨_, _, rfl, by omega, by omega, fun c2 H7 hc2' e7 => ?_⟩
    refine (ev_op (ev_var rfl) ev_c rv_I0 : Ev (tOp _ (tVar 2) (tC (.int 7))) _ H7 (.int ((n : Int) + 7))) H7 (Ex.refl _) _ fun H8 e8 => ?_
    refine ⟨_, _, rfl, by omega, by omega, fun c3 H9 hc3 e9 => ?_⟩
    refine (ev_var rfl : Ev (tVar 1) _ H9 (.int (many : Nat))) H9 (Ex.refl _) _ fun H10 e10 => ?_
    obtain ⟨r, hr1', hr2'⟩ := mod_nat (i := c3) (m := many) h1
    refine ⟨_, _, rfl, rfl, by show (0 : Int) < (many : Int); omega, ?_⟩
    have e := ((((e4.trans e5).trans e6).trans e7).trans e8).trans (e9.trans e10)
    show Q (.int (c3 % (many : Int))) H10
    rw [hr2']
    exact kk r H10 hr1' (f3.trans (Fr.of e)) (m3.ex e)
  obtain ⟨ds, hd⟩ := m3.digits
  refine q_when (et_test (ev_intsEmpty (neg := true) (ev_mdigits m3 (ev_var rfl)) hd)) (fun hb H4 e4 => ?_) (fun hb H4 e4 => last H4 _ _ e4)
  have m4 := m3.ex e4
  have hd4 := e4 _ _ hd
  have dl : 0 < ds.length := by
    cases ds with
    | nil => cases hb
    | cons _ _ => simp
  obtain ⟨i, hi1, hi2⟩ := mod_nat (i := (n : Int)) (m := ds.length) dl
  refine q_asg (v := .int (i : Nat)) (ev_is' (ev_op (ev_var rfl) (Evl.ev_len (ev_mdigits m4 (ev_var rfl)) (Evl.sq_of hd4)) (rv_mod (by rw [List.length_map]; omega))) (by rw [List.length_map, hi2])) fun H5 e5 => ?_
  have m5 := m4.ex e5
  have hd5 := e5 _ _ hd4
  refine q_asg (v := .int ds[i]) (ev_op (ev_mdigits m5 (ev_var rfl)) (ev_var rfl) (Evl.rv_ixL (Evl.sq_of hd5) (atI_nat (by rw [List.getElem?_map, List.getElem?_eq_getElem hi1]; rfl)))) fun H6 e6 => ?_
  have m6 := m5.ex e6
  have hd6 := e6 _ _ hd5
  generalize ds[i] = cell
  refine s_when (et_test (Evl.ev_niU (ev_var rfl) (Evl.eu_tup (ea_cons ev_c (ea_cons (ev_un ev_c Evl.ru_neg) ea_nil)) (by simp)) rfl rfl)) (fun _ H7 e7 => ?_) (fun _ H7 e7 => last H7 _ _ (((e4.trans e5).trans e6).trans e7))
  have m7 := m6.ex e7
  have hd7 := e7 _ _ hd6
  refine Evl.q_setL (l := G.ld) (j := i) hd7 (ev_op (ev_var rfl) (ev_var rfl) (rv_fdiv (by omega))) (ev_mdigits m7 (ev_var rfl)) (ev_var rfl) (by rw [List.length_map]; exact hi1) fun H8 e8 => ?_
  obtain ⟨r, hr1, hr2⟩ := mod_nat (i := cell) (m := many) h1
  refine s_ret (v := .int (r : Nat)) (ev_is' (ev_op (ev_var rfl) (ev_var rfl) (rv_mod (by omega))) (by rw [hr2])) fun H9 e9 => ?_
  have x8 := (((e4.trans e5).trans e6).trans e7).trans e8
  have m8 := m3.ex x8
  have m8u : MAt G (n + 1) (upd H8 G.ld (.lst ((ds.map V.int).set i (.int (cell / (many : Int)))))) := by
    obtain ⟨cs, hc, hc2⟩ := m8.cells
    refine ⟨m8.ne, by rw [upd_ne (Ne.symm ndl)]; exact m8.dict, ⟨cs, by rw [upd_ne m8.ne]; exact hc, hc2⟩, ⟨ds.set i (cell / (many : Int)), ?_⟩⟩
    rw [upd_same, List.map_set]
  refine kk r H9 hr1 ?_ (m8u.ex e9)
  exact (Fr.upd (f3.trans (Fr.of x8)) (Or.inl (by simp))).trans (Fr.of e9)
end
end K83
end
section
set_option maxRecDepth 100000
set_option maxHeartbeats 1000000
namespace K83
open PySem PySem.Spec PyProof.Rows L2
open Evl (Ex Ev EvT EvA EvL EvU EvO RV RU RC ev_var ev_c ev_op ev_un ev_if ev_andV ev_orV ev_notV et_test et_B et_and et_or et_not ea_nil ea_cons ev_cb q_asg q_asgL q_asgU q_if q_when s_asg s_ret s_if s_when s_drop q_drop rv_I0 rv_I rv_eq rv_ne rv_val el_sl eo_none eo_some tCut pss_cut q_cut)
section
variable {K : PySem.W.Frag} {σ : L2.St} {H H' : Hp} {D : Ends} {tu tz : TS} {l : Addr} {xs : List V} {ta te tb : TE} {acc : List Int}
theorem q_forEnumS {ta : TA} {j1 j2 : Nat} (h : EvA ta σ H [.ref l]) (hl : SqL K H l xs) (Pv : Nat → L2.St → Hp → Prop) (h0 : ∀ H1, Ex H H1 → Pv 0 σ H1) (hP : ∀ i σ' H', Pv i σ' H' → SqL K H' l xs)
    (hs : ∀ i x σ' H' H2, xs[i]? = some x → Pv i σ' H' → Ex H' H2 → tu { D with nx := Pv (i + 1), ct := Pv (i + 1), bk := tz D } ((σ'.set j1 (some (.int (i : Nat)))).set j2 (some x)) H2) (hd : ∀ σ' H', Pv xs.length σ' H' → tz D σ' H') :
    tSeq (tFor (iEnum K ta) (gTup K 2 (gCons (gName j1) (gCons (gName j2) gNil))) tu) tz D σ H :=
  h H (Ex.refl H) _ fun H1 e => ⟨l, xs, rfl, Evl.ex_l e hl, for_it (D := { D with nx := tz D }) (walk_enum (K := K) (a := l) (xs := xs)) Pv (h0 H1 e) (fun i σ' H' _ p => hP i σ' H' p) (fun i x σ' H2 H3 hi p ⟨T, x1, x2, ev, hT, e3, e4, e5⟩ => by
    subst ev
    subst e3
    injection e4 with e4
    subst e4
    exact ⟨T, [.int (i : Nat), x2], rfl, Evl.st_of upd_same, rfl, _, _, rfl, _, _, rfl, rfl, hs i x2 σ' H2 _ e5 p (Ex.new hT)⟩) hd⟩
theorem ev_intsEmptyS {neg : Bool} (ha : Ev ta σ H (.ref l)) (h : SqL K H l (acc.map V.int)) : Ev (tOp (rEqX K neg) ta (tLst tNil)) σ H (.bl (if neg then !acc.isEmpty else acc.isEmpty)) :=
  Evl.ev_opL ha (Evl.el_lst ea_nil (by decide)) fun p H1 hp e => fun H2 e2 Q q => by
    refine ⟨.list (acc.map .int), .list [], .lst (Evl.ex_l (e.trans e2) h) (dp_ints acc), .lst (Evl.sq_of (e2 _ _ hp)) .nil, ?_, rfl, ?_, ?_⟩
    · rw [PyData.canLay0]
      exact lay_ints acc
    · unfold Room1
      simp [PyData.depth, PyData.depthAll]
    · rw [eqv_nil, List.isEmpty_map]
      exact q H2 (Ex.refl H2)
theorem dput_raw {tv td : TE} {k : Str} (h : tv σ H fun v H1 => td σ H1 fun x H2 => ∃ a H4, x = .ref a ∧ DPut H2 a (.str k) v H4 ∧ D.nx σ H4) : sDPut td (tC (.str k)) tv D σ H := h
theorem op_runL {r : R2} {Q : VK} (ha : EvL ta σ H xs) (k : ∀ p H1, H p = none → Ex H H1 → H1 p = some (.lst xs) → tb σ H1 fun y H2 => r (.ref p) y H2 Q) : tOp r ta tb σ H Q := ha H (Ex.refl H) _ k
theorem et_yes : EvT tYes σ H true := fun H1 _ Q q => q H1 (Ex.refl H1)
theorem given_all (n : Nat) (v : Nat → V) : Evl.given n (fun _ => true) v = (List.range n).map v := by
  unfold Evl.given
  congr 1
  exact List.filter_eq_self.mpr fun _ _ => rfl
end
def spFolded (K : PySem.W.Frag) : Sp := fun vs H Q _ => ∃ (l : Addr) (sc : List Int), vs = [.ref l] ∧ SqL K H l (sc.map .int) ∧ ∀ p (cs : List Int) H', H p = none → Ex H H' → H' p = some (.lst (cs.map .int)) → cs.length = 64 → Q (.ref p) H'
def spBegun (K : PySem.W.Frag) : Sp := fun vs H Q _ => ∃ (l : Addr) (sc : List Int), vs = [.ref l] ∧ SqL K H l (sc.map .int) ∧ sc.length ≤ 100000 ∧ ∀ (G : GC) H', MAt G 0 H' → Ex H H' → H G.dm = none → H G.ld = none → Q (.ref G.dm) H'
section
variable {P : Program} {w : World} {K : PySem.W.Frag} {mg : Str → Option Value} {base : Heap}
abbrev N__law_folded : List Str := ["_law_script", "_law_k", "_law_found", "_law_cell"]
abbrev s__law_folded : Stmt := top 42
theorem sc__law_folded : FnScope N__law_folded ["_law_script"] (defScope s__law_folded) := ⟨rfl, rfl, rfl, by decide +kernel, rfl, by decide +kernel, by decide +kernel⟩
theorem ok_law_folded (T : Txt w K mg) (A : DefAt K mg "_law_folded" s__law_folded) : DefOk P w K mg base CX0 "_law_folded" 1 ["_law_script"] (spFolded K) := by
  refine mk_def0 A sc__law_folded (fun _ _ _ _ _ _ us hl => match us, hl with | [_], _ => rfl) (fun vs H Q E ⟨_, _, h, _⟩ => by rw [h]; rfl) (fun f cdv A outer s H vs Q E hr h => ?_)
  obtain ⟨l, sc, rfl, hl, kk⟩ := h
  refine ⟨_, (pss_cons (ps_setLc (i := 2) (own := [("_law_k", 1)]) (g := gName 1) (tt := tYes) rfl sc__law_folded.nd rfl rfl (sw_true rfl rfl rfl (by decide +kernel)) (pi_range1 rfl T.f_range (pa_cons pe_int pa_nil)) (blkOk_by (own := [("_law_k", 1)]) (N := N__law_folded) (sc := defScope s__law_folded) (by decide +kernel)) (fun _ _ _ _ _ => (pg_name (i := 1) sc__law_folded.nd rfl (Or.inl rfl))) (fun _ _ _ _ _ => pts_nil) (fun _ _ _ _ _ => (pe_op op_add pe_int (pv 1))))
      (pss_cons (ps_for PassesOwn.never rfl (pi_enum (by rfl) T.f_enumerate (pa_cons (pv 0) pa_nil)) (pg_tup rfl (pgs_cons (pg_name (i := 1) sc__law_folded.nd rfl (Or.inl rfl)) (pgs_cons (pg_name (i := 3) sc__law_folded.nd rfl (Or.inl rfl)) pgs_nil))) (pss_one (ps_asg (pe_op op_mod (pe_op op_add (pe_op op_mul (pe_ix ix_list (pv 2) (pe_op op_mod (pv 1) pe_int) (fun _ _ => rfl)) pe_int) (pv 3)) pe_int) (pg_sub (pv 2) (pe_op op_mod (pv 1) pe_int) set_list))))
      (pss_cons (ps_for PassesOwn.never rfl (pi_range2 rfl T.f_range (pa_cons pe_int (pa_cons pe_int pa_nil))) (pg_name (i := 1) sc__law_folded.nd rfl (Or.inl rfl)) (pss_one (ps_asg (pe_op op_mod (pe_op op_add (pe_ix ix_list (pv 2) (pv 1) (fun _ _ => rfl)) (pe_op op_mul (pe_ix ix_list (pv 2) (pe_op op_sub (pv 1) pe_int) (fun _ _ => rfl)) pe_int)) pe_int) (pg_sub (pv 2) (pv 1) set_list))))
      (pss_one (ps_ret (pv 2)))))), ?_⟩
  refine q_asgL (i := 2) (xs := ((List.range 64).map fun i : Nat => (17 + (i : Int))).map V.int) (fun H1 e1 Q' q' => ?_) fun p H1 hp e1 h1 => ?_
  · refine Evl.el_lcR1 (fun _ => true) (fun i => .int (17 + (i : Nat))) (ea_cons ev_c ea_nil) (by decide) (fun _ => rfl) (fun i Ha ea hi => et_yes) (fun i Ha ea hi _ => ev_op ev_c (ev_var (i := 1) rfl) rv_I0) H1 e1 _ fun p H2 hp e2 h2 => q' p H2 hp e2 ?_
    rw [h2, given_all, List.map_map]
    rfl
  · refine q_forEnumS (ea_cons (ev_var rfl) ea_nil) (Evl.ex_l e1 hl) (fun i σ' H' => ∃ (cs : List Int) (x1 x3 : Option V), Ex H H' ∧ H' p = some (.lst (cs.map .int)) ∧ cs.length = 64 ∧ σ' = [some (.ref l), x1, some (.ref p), x3]) (fun H2 e2 => ⟨_, none, none, e1.trans e2, e2 _ _ h1, by simp, rfl⟩)
      (fun i σ' H' ⟨_, _, _, e, _⟩ => Evl.ex_l e hl) ?_ ?_
    · rintro i x σ' H' H2 hx ⟨cs, x1, x3, ex, hc, hcl, rfl⟩ e2
      rw [List.getElem?_map] at hx
      obtain ⟨c, _, rfl⟩ := Option.map_eq_some_iff.mp hx
      obtain ⟨r, hr1, hr2⟩ := mod_nat (i := (i : Int)) (m := 64) (by decide)
      have hr2 : (i : Int) % 64 = (r : Nat) := hr2
      have hc2 := e2 _ _ hc
      have em : ∀ {σ : L2.St} {Ha}, σ[1]? = some (some (.int (i : Nat))) → Ev (tOp (rI (fun _ j => 0 < j) fun i j => .int (i % j)) (tVar 1) (tC (.int 64))) σ Ha (.int (r : Nat)) := fun h => ev_is' (ev_op (ev_var h) ev_c (rv_mod (by decide))) (by rw [hr2])
      refine Evl.s_setL (l := p) (j := r) hc2 (ev_op (ev_op (ev_op (ev_op (ev_var rfl) (em rfl) (Evl.rv_ixL (v := .int cs[r]) (Evl.sq_of hc2) (atI_nat (by rw [List.getElem?_map, List.getElem?_eq_getElem (by omega)]; rfl)))) ev_c (rv_mul (Or.inl (by decide)))) (ev_var rfl) rv_I0) ev_c (rv_mod (by decide))) (ev_var rfl) (em rfl) (by rw [List.length_map]; omega) fun H3 e3 => ?_
      refine ⟨cs.set r ((cs[r] * 48271 + c) % 2147483647), _, _, Ex.mut ((ex.trans e2).trans e3) hp, ?_, by rw [List.length_set]; exact hcl, rfl⟩
      rw [upd_same, List.map_set]
    · rintro σ' H' ⟨cs, x1, x3, ex, hc, hcl, rfl⟩
      refine Evl.q_forR2 (lo := 1) (n := 64) (ea_cons ev_c (ea_cons ev_c ea_nil)) (by decide) (fun i σ' H' => ∃ (cs : List Int) (x1 x3 : Option V), Ex H H' ∧ H' p = some (.lst (cs.map .int)) ∧ cs.length = 64 ∧ σ' = [some (.ref l), x1, some (.ref p), x3]) (fun H2 e2 => ⟨cs, x1, x3, ex.trans e2, e2 _ _ hc, hcl, rfl⟩) ?_ ?_
      · rintro i σ' H' hi ⟨cs, x1, x3, ex, hc, hcl, rfl⟩
        have e1i : (1 : Int) + (i : Nat) = ((i + 1 : Nat) : Int) := by omega
        rw [e1i]
        refine Evl.s_setL (l := p) (j := i + 1) hc (ev_op (ev_op (ev_op (ev_var rfl) (ev_var rfl) (Evl.rv_ixL (v := .int cs[i + 1]) (Evl.sq_of hc) (atI_nat (by rw [List.getElem?_map, List.getElem?_eq_getElem (by omega)]; rfl)))) (ev_op (ev_op (ev_var rfl) (ev_is' (ev_op (ev_var rfl) ev_c rv_I0) (x := .int (i : Nat)) (by show V.int (((i + 1 : Nat) : Int) - 1) = _; congr 1; omega)) (Evl.rv_ixL (v := .int cs[i]) (Evl.sq_of hc) (atI_nat (by rw [List.getElem?_map, List.getElem?_eq_getElem (by omega)]; rfl)))) ev_c (rv_mul (Or.inl (by decide)))) rv_I0) ev_c (rv_mod (by decide))) (ev_var rfl) (ev_var rfl) (by rw [List.length_map]; omega) fun H3 e3 => ?_
        refine ⟨cs.set (i + 1) ((cs[i + 1] + cs[i] * 16807) % 2147483647), _, _, Ex.mut (ex.trans e3) hp, ?_, by rw [List.length_set]; exact hcl, rfl⟩
        rw [upd_same, List.map_set]
      · rintro σ' H' ⟨cs, x1, x3, ex, hc, hcl, rfl⟩
        exact s_ret (ev_var rfl) fun H2 e2 => kk p cs H2 hp (ex.trans e2) (e2 _ _ hc) hcl
abbrev N__law_begun : List Str := ["_law_script", "_law_m"]
abbrev s__law_begun : Stmt := top 44
theorem sc__law_begun : FnScope N__law_begun ["_law_script"] (defScope s__law_begun) := ⟨rfl, rfl, rfl, by decide +kernel, rfl, by decide +kernel, by decide +kernel⟩
theorem mK_putD (G : GC) (n : Nat) (d : Addr) : putK (mK G n) (.inr "digits") (.ref d) = mK { G with ld := d } n := rfl
theorem ok_law_begun (T : Txt w K mg) (A : DefAt K mg "_law_begun" s__law_begun) (D__law_folded : DefOk P w K mg base CX0 "_law_folded" 1 ["_law_script"] (spFolded K)) : DefOk P w K mg base CX0 "_law_begun" 2 ["_law_script"] (spBegun K) := by
  refine mk_def0 A sc__law_begun (fun _ _ _ _ _ _ us hl => match us, hl with | [_], _ => rfl) (fun vs H Q E ⟨_, _, h, _⟩ => by rw [h]; rfl) (fun f cdv A outer s H vs Q E hr h => ?_)
  obtain ⟨l, sc, rfl, hl, hz, kk⟩ := h
  refine ⟨_, (pss_cons (ps_set (i := 1) sc__law_begun.nd rfl (Or.inl rfl) (pe_disp (pps_cons pe_str (pe_def D__law_folded (hr.mono (by decide)) rfl pass0 (pa_cons (pv 0) pa_nil)) (pps_cons pe_str (pe_lst pa_nil) (pps_cons pe_str pe_int pps_nil))) (by rfl) (by rfl) (fun z => by cases z) (by decide)))
      (pss_cons (ps_if (PW.pt (pw_and (pt_cmpR (op_neX hr.units) (pv 0) (pe_lst pa_nil) (nomark _)) (pw_and1 (pt_cmpR op_eq (pe_op op_mod (pe_ix ix_list (pv 0) pe_int (fun _ _ => rfl)) pe_int) pe_int (nomark _))))) (pss_one (ps_dput (huR hr) (pv 1) pe_str (pe_op op_cat (pe_lst (pa_cons (pe_op op_fdiv (pe_ix ix_list (pv 0) pe_int (fun _ _ => rfl)) pe_int) pa_nil)) (pe_slice sl_list (pv 0) (po_some pe_int) po_none)) rfl)) pss_nil)
      (pss_one (ps_ret (pv 1))))), ?_⟩
  refine fun dm hdm => ?_
  have x0 : Ex H (upd H dm (.dK [])) := Ex.new hdm
  refine ⟨_, rfl, l, sc, rfl, Evl.ex_l x0 hl, fun lc cs H1 hlc e1 h1 hcl => ?_⟩
  refine ⟨Evl.sz_of (by simp), fun ld hld => ?_⟩
  have x2 : Ex (upd H dm (.dK [])) (upd H1 ld (.lst [])) := e1.trans (Ex.new hld)
  refine ⟨x2 _ _ upd_same, [(.inr "cells", .ref lc), (.inr "digits", .ref ld), (.inr "at", .int 0)], rfl, by simp, ?_⟩
  have dm_ne_ld : dm ≠ ld := ne_of_none (e1 _ _ upd_same) hld
  have dm_ne_lc : dm ≠ lc := ne_of_none upd_same hlc
  have lc_ne_ld : lc ≠ ld := ne_of_none h1 hld
  obtain ⟨H2, hH2⟩ : ∃ H2, H2 = upd (upd H1 ld (.lst [])) dm (.dK (mK ⟨dm, lc, ld⟩ 0)) := ⟨_, rfl⟩
  have goal : ∀ H2, H2 = upd (upd H1 ld (.lst [])) dm (.dK (mK ⟨dm, lc, ld⟩ 0)) → tSeq (tIfS (tAnd (tTest (tOp (rEqX K true) (tVar 0) (tLst tNil))) (tTest (tOp rEq (tOp (rI (fun _ j => 0 < j) fun i j => .int (i % j)) (tOp (rIxL K) (tVar 0) (tC (.int 0))) (tC (.int 2))) (tC (.int 1)))))
      (sDPut (tVar 1) (tC (.str "digits")) (tOp rCat (tLst (tCons (tOp (rI CDiv fun i j => .int (i / j)) (tOp (rIxL K) (tVar 0) (tC (.int 0))) (tC (.int 2))) tNil)) (tSl (rSlL K) (tVar 0) (tPart (tC (.int 1))) tNoPart))) tNext) (tRet (tVar 1)) { nx := fun _ H' => Q .non H', rt := Q } [some (.ref l), some (.ref dm)] H2 := by
    intro H2 hH2
    have m2 : MAt ⟨dm, lc, ld⟩ 0 H2 := by
      subst hH2
      exact ⟨lc_ne_ld, upd_same, ⟨cs, by rw [upd_ne (Ne.symm dm_ne_lc)]; exact Ex.new hld _ _ h1, hcl⟩, ⟨[], by rw [upd_ne (Ne.symm dm_ne_ld)]; exact upd_same⟩⟩
    have X2 : Ex H H2 := by
      subst hH2
      exact Ex.mut (x0.trans x2) hdm
    have hl2 := Evl.ex_l X2 hl
    have hld0 : H ld = none := ex_fresh (x0.trans e1) hld
    refine q_when (b := match sc with | [] => false | c :: _ => decide (c % 2 = 1)) (Evl.et_is (et_and (b := match sc with | [] => false | c :: _ => decide (c % 2 = 1)) (et_test (ev_intsEmptyS (neg := true) (ev_var rfl) hl2)) fun h => ?_) ?_) (fun hb H3 e3 => ?_) (fun hb H3 e3 => ?_)
    · cases sc with
      | nil => cases h
      | cons c r =>
        refine Evl.et_is (et_test (ev_op (ev_op (ev_op (ev_var rfl) ev_c (Evl.rv_ixL (v := .int c) hl2 (atI_nat (j := 0) rfl))) ev_c (rv_mod (by decide))) ev_c (rv_eq rfl))) ?_
        exact decide_eq_decide.mpr ⟨fun h => by injection h, fun h => by rw [h]⟩
    · cases sc with
      | nil => rfl
      | cons c r => rfl
    · cases sc with
      | nil => cases hb
      | cons c r =>
        have hl3 := Evl.ex_l e3 hl2
        have m3 := m2.ex e3
        refine dput_raw (op_runL (xs := [.int (c / 2)]) (Evl.el_lst (ea_cons (ev_op (ev_op (ev_var rfl) ev_c (Evl.rv_ixL (v := .int c) hl3 (atI_nat (j := 0) rfl))) ev_c (rv_fdiv (by decide))) ea_nil) (by simp)) fun p1 H4 hp1 e4 h4 => ?_)
        refine (el_sl (σ := [some (.ref l), some (.ref dm)]) (ev_var (i := 0) rfl) (eo_some (i := ((1 : Nat) : Int)) ev_c) eo_none (Evl.ex_l e4 hl3)) H4 (Ex.refl _) _ fun p2 H5 hp2 e5 h5 => ?_
        rw [cutV_hi] at h5
        refine ⟨p1, p2, _, _, rfl, rfl, e5 _ _ h4, h5, ?_, fun p3 hp3 => ?_⟩
        · refine Evl.sz_of ?_
          simp at hz ⊢
          omega
        · have m6 := (m3.ex (e4.trans e5)).ex (Ex.new (o := .lst ([V.int (c / 2)] ++ (((c :: r).map V.int).drop 1))) hp3)
          refine ⟨_, rfl, dm, _, rfl, Or.inl ⟨mK ⟨dm, lc, ld⟩ 0, .inr "digits", m6.dict, rfl, Nat.lt_of_lt_of_le (by decide : 3 < 4) (by have := sizeLine_eq; omega), rfl⟩, ?_⟩
          rw [mK_putD]
          have X5 := (X2.trans e3).trans (e4.trans e5)
          have n3 : p3 ≠ dm := fun z => by rw [z] at hp3; rw [(e4.trans e5) _ _ (e3 _ _ m2.dict)] at hp3; cases hp3
          have n4 : lc ≠ dm := Ne.symm dm_ne_lc
          have n5 : lc ≠ p3 := by
            obtain ⟨cs', hc', _⟩ := (m3.ex (e4.trans e5)).cells
            exact ne_of_none hc' hp3
          refine s_ret (ev_var rfl) fun H7 e7 => ?_
          refine kk ⟨dm, lc, p3⟩ H7 ?_ ?_ hdm (ex_fresh X5 hp3)
          · refine MAt.ex (H := upd (upd H5 p3 (.lst ([V.int (c / 2)] ++ (((c :: r).map V.int).drop 1)))) dm (.dK (mK ⟨dm, lc, p3⟩ 0))) ⟨n5, upd_same, ?_, ⟨c / 2 :: r, ?_⟩⟩ e7
            · obtain ⟨cs', hc', hc2'⟩ := m6.cells
              exact ⟨cs', by rw [upd_ne n4]; exact hc', hc2'⟩
            · rw [upd_ne n3, upd_same]
              rfl
          · exact (Ex.mut (X5.trans (Ex.new hp3)) hdm).trans e7
    · exact s_ret (ev_var rfl) fun H4 e4 => kk ⟨dm, lc, ld⟩ H4 (m2.ex (e3.trans e4)) ((X2.trans e3).trans e4) hdm hld0
  exact goal _ rfl
end
end K83
end
section
set_option maxRecDepth 100000
set_option maxHeartbeats 1000000
namespace K83
open PySem PySem.Spec PyProof.Rows L2
open Evl (Ex Ev EvT EvA EvL EvU EvO RV RU RC ev_var ev_c ev_op ev_un ev_if ev_andV ev_orV ev_notV et_test et_B et_and et_or et_not ea_nil ea_cons ev_cb q_asg q_asgL q_asgU q_if q_when s_asg s_ret s_if s_when s_drop q_drop rv_I0 rv_I rv_eq rv_ne rv_val el_sl eo_none eo_some tCut pss_cut q_cut)
theorem join_mk (a : List Nat) (ws : List (List Nat)) : Txt.join (mkS a) (ws.map mkS) = mkS (TL.joinL a ws) := by
  have e := TL.tl_join (mkS a) (ws.map mkS)
  rw [← TL.join_eq] at e
  have e1 : TL.tl (mkS a) = a := mkS_list a
  have e2 : (ws.map mkS).map TL.tl = ws := by
    rw [List.map_map]
    have : (TL.tl ∘ mkS) = id := funext fun l => mkS_list l
    rw [this, List.map_id]
  rw [e1, e2] at e
  rw [mkS_eq (Txt.join (mkS a) (ws.map mkS))]
  congr 1
theorem joinL_nil : ∀ (ws : List (List Nat)), TL.joinL [] ws = ws.flatten
  | [] => rfl
  | [p] => by simp [TL.joinL]
  | p :: q :: r => by
    rw [TL.joinL, joinL_nil (q :: r)]
    simp
theorem joinL_len (a : List Nat) : ∀ (ws : List (List Nat)), (TL.joinL a ws).length ≤ (ws.map List.length).sum + ws.length * a.length
  | [] => by simp [TL.joinL]
  | [p] => by simp [TL.joinL]
  | p :: q :: r => by
    have := joinL_len a (q :: r)
    rw [TL.joinL]
    simp only [List.length_append, List.map_cons, List.sum_cons, List.length_cons] at this ⊢
    have e : (r.length + 1 + 1) * a.length = (r.length + 1) * a.length + a.length := Nat.succ_mul _ _
    omega
section
variable {K : PySem.W.Frag} {σ : L2.St} {H H' : Hp} {G : GC} {n many i : Nat} {E : XK} {Q : VK} {D : Ends} {tz : TS} {te ta tb : TE} {l : Addr} {xs : List V}
theorem draw_run (many : Nat) (h0 : σ[i]? = some (some (.ref G.dm))) (m : MAt G n H) (h1 : 0 < many ∧ many ≤ 100000) (hn : n ≤ 1000000) (k : ∀ (r : Nat) H', r < many → Fr G.S H H' → MAt G (n + 1) H' → Q (.int (r : Nat)) H') :
    tCall (spDraw K) [] E (tCons (tVar i) (tCons (tC (.int (many : Nat))) tNil)) σ H Q := ⟨_, h0, G, n, many, rfl, m, h1.1, h1.2, hn, k⟩
/-- what the drawer leaves alone -/
theorem Fr.at_ {S : List Addr} {H H' : Hp} {a : Addr} {o : HO} (f : Fr S H H') (h : H a = some o) (n : a ∉ S) : H' a = some o := f a o n h
theorem MAt.fresh {p : Addr} (m : MAt G n H) (h : H p = none) : p ∉ G.S := by
  intro q
  rcases List.mem_cons.mp q with e | q
  · rw [e, m.dict] at h
    cases h
  · obtain ⟨ds, hd⟩ := m.digits
    rw [List.mem_singleton.mp q, hd] at h
    cases h
theorem MAt.new {p : Addr} {o : HO} (m : MAt G n H) (h : H p = none) : MAt G n (upd H p o) := m.ex (Ex.new h)
/-- an object of one's own changes -/
theorem MAt.mut {p : Addr} {o : HO} (m : MAt G n H) (h : p ∉ G.S) (hc : p ≠ G.lc) : MAt G n (upd H p o) := by
  obtain ⟨cs, h1, h2⟩ := m.cells
  obtain ⟨ds, h3⟩ := m.digits
  have n1 : G.dm ≠ p := fun e => h (by rw [← e]; simp)
  have n2 : G.ld ≠ p := fun e => h (by rw [← e]; simp)
  exact ⟨m.ne, by rw [upd_ne n1]; exact m.dict, ⟨cs, by rw [upd_ne (Ne.symm hc)]; exact h1, h2⟩, ⟨ds, by rw [upd_ne n2]; exact h3⟩⟩
theorem MAt.lcfresh {p : Addr} (m : MAt G n H) (h : H p = none) : p ≠ G.lc := by
  intro e
  obtain ⟨cs, h1, _⟩ := m.cells
  rw [e, h1] at h
  cases h
end
def lowW (l : List Nat) : Prop := l.all isLet = true ∧ 1 ≤ l.length ∧ l.length ≤ 8
def spName (K : PySem.W.Frag) : Sp := fun vs H Q _ => ∃ (G : GC) (n : Nat), vs = [.ref G.dm] ∧ MAt G n H ∧ n ≤ 900000 ∧ ∀ (l : List Nat) H' n', lowW l → Fr G.S H H' → MAt G n' H' → n' ≤ n + 11 → Q (wV l) H'
theorem low_of {z : Str} (h : (z.cps.toList.all isLet && decide (1 ≤ z.cps.toList.length) && decide (z.cps.toList.length ≤ 8)) = true) : V.str z = wV z.cps.toList ∧ lowW z.cps.toList := by
  rw [Bool.and_eq_true, Bool.and_eq_true] at h
  exact ⟨by show V.str z = V.str (mkS _); rw [← mkS_eq], h.1.1, of_decide_eq_true h.1.2, of_decide_eq_true h.2⟩
section
variable {P : Program} {w : World} {K : PySem.W.Frag} {mg : Str → Option Value} {base : Heap}
abbrev N__law_name : List Str := ["_law_m", "_law_letters", "_law_some", "_law_word_here", "_law_k"]
abbrev s__law_name : Stmt := top 45
theorem sc__law_name : FnScope N__law_name ["_law_m"] (defScope s__law_name) := ⟨rfl, rfl, rfl, by decide +kernel, rfl, by decide +kernel, by decide +kernel⟩
theorem lets_low {i : Nat} (h : i < 26) : ∃ c, lets[i]? = some c ∧ isLet c = true := by
  have hl : i < lets.length := h
  exact ⟨lets[i], List.getElem?_eq_getElem hl, decide_eq_true (List.getElem_mem hl)⟩
theorem letS_len : ("abcdefghijklmnopqrstuvwxyz" : Str).length ≤ sizeLine := by
  have := sizeLine_eq
  have e : ("abcdefghijklmnopqrstuvwxyz" : Str).length = 26 := by decide +kernel
  omega
theorem ok_law_name (T : Txt w K mg) (A : DefAt K mg "_law_name" s__law_name) (D__law_draw : DefOk P w K mg base CX0 "_law_draw" 2 ["_law_m", "_law_many"] (spDraw K)) : DefOk P w K mg base CX0 "_law_name" 3 ["_law_m"] (spName K) := by
  refine mk_def0 A sc__law_name (fun _ _ _ _ _ _ us hl => match us, hl with | [_], _ => rfl) (fun vs H Q E ⟨_, _, h, _⟩ => by rw [h]; rfl) (fun f cdv A outer s H vs Q E hr h => ?_)
  obtain ⟨G, n, rfl, m, hn, kk⟩ := h
  refine ⟨_, (pss_cons (ps_set (i := 1) sc__law_name.nd rfl (Or.inr rfl) pe_str)
      (pss_cons (ps_set (i := 2) sc__law_name.nd rfl (Or.inl rfl) (pe_lst (pa_cons pe_str (pa_cons pe_str (pa_cons pe_str (pa_cons pe_str (pa_cons pe_str (pa_cons pe_str pa_nil))))))))
      (pss_cons (ps_if (pt_cmpR op_eq (pe_def D__law_draw (hr.mono (by decide)) rfl pass0 (pa_cons (pv 0) (pa_cons pe_int pa_nil))) pe_int (nomark _)) (pss_one (ps_ret (pe_ix ix_list (pv 2) (pe_def D__law_draw (hr.mono (by decide)) rfl pass0 (pa_cons (pv 0) (pa_cons pe_int pa_nil))) (fun _ _ => rfl)))) pss_nil)
      (pss_cons (ps_set (i := 3) sc__law_name.nd rfl (Or.inl rfl) (pe_bm PySem.F.plainAttrs_str PySem.F.slot_str_join PySem.F.type_str_join mt_join pe_str (pa_cons (pe_lc (own := [("_law_k", 4)]) (g := gName 4) (tt := tYes) (te := tOp rIxS (tVar 1) (tCall (spDraw K) [] E0 (tCons (tVar 0) (tCons (tC (.int 26)) tNil)))) rfl sc__law_name.nd (pi_range1 rfl T.f_range (pa_cons (pe_op op_add pe_int (pe_def D__law_draw (hr.mono (by decide)) rfl pass0 (pa_cons (pv 0) (pa_cons pe_int pa_nil)))) pa_nil)) (blkOk_by (own := [("_law_k", 4)]) (N := N__law_name) (sc := defScope s__law_name) (by decide +kernel)) (fun _ _ _ _ _ => (pg_name (i := 4) sc__law_name.nd rfl (Or.inl rfl))) (fun _ _ _ _ _ => pts_nil) (fun _ _ _ _ _ => (pe_ix ix_str (pv 1) (pe_def D__law_draw (hr.mono (by decide)) rfl pass0 (pa_cons (pv 0) (pa_cons pe_int pa_nil))) (fun _ _ => rfl)))) pa_nil)))
      (pss_one (ps_ret (pe_ifExp (pt_cmpR op_in_seq (pv 3) (pe_tup (pa_cons pe_str (pa_cons pe_str (pa_cons pe_str pa_nil)))) rfl) pe_str (pv 3)))))))), ?_⟩
  refine q_asg ev_c fun H1 e1 => ?_
  refine q_asgL (xs := [.str "x", .str "r", .str "roots", .str "sqr", .str "cbrtx", .str "sqrtsqrt"]) (Evl.el_lst (ea_cons ev_c (ea_cons ev_c (ea_cons ev_c (ea_cons ev_c (ea_cons ev_c (ea_cons ev_c ea_nil)))))) (by simp)) fun ps H2 hps e2 h2 => ?_
  have m2 := m.ex (e1.trans e2)
  have nps : ps ∉ G.S := (m.ex e1).fresh hps
  refine draw_run (i := 0) 3 rfl m2 (by decide) (by omega) fun r3 H3 hr3 f3 m3 => ?_
  refine (ev_c : Ev (tC (.int 0)) _ H3 _) H3 (Ex.refl _) _ fun H4 e4 => ⟨rfl, decide (V.int (r3 : Nat) = V.int 0), rfl, ?_⟩
  have m4 := m3.ex e4
  have f4 := ((Fr.of (e1.trans e2)).trans f3).trans (Fr.of e4)
  have h4 := e4 _ _ (f3.at_ h2 nps)
  by_cases hz : V.int (r3 : Nat) = V.int 0
  · rw [decide_eq_true hz]
    refine iteT ?_
    refine ⟨_, rfl, draw_run (i := 0) 6 rfl m4 (by decide) (by omega) fun r5 H5 hr5 f5 m5 => ?_⟩
    have h5 := f5.at_ h4 nps
    have hall : ∀ i, i < 6 → ∃ l, ([V.str "x", .str "r", .str "roots", .str "sqr", .str "cbrtx", .str "sqrtsqrt"] : List V)[i]? = some (wV l) ∧ lowW l := by
      intro i hi
      match i, hi with
      | 0, _ => exact ⟨_, by rw [← (low_of (z := "x") (by decide +kernel)).1]; rfl, (low_of (z := "x") (by decide +kernel)).2⟩
      | 1, _ => exact ⟨_, by rw [← (low_of (z := "r") (by decide +kernel)).1]; rfl, (low_of (z := "r") (by decide +kernel)).2⟩
      | 2, _ => exact ⟨_, by rw [← (low_of (z := "roots") (by decide +kernel)).1]; rfl, (low_of (z := "roots") (by decide +kernel)).2⟩
      | 3, _ => exact ⟨_, by rw [← (low_of (z := "sqr") (by decide +kernel)).1]; rfl, (low_of (z := "sqr") (by decide +kernel)).2⟩
      | 4, _ => exact ⟨_, by rw [← (low_of (z := "cbrtx") (by decide +kernel)).1]; rfl, (low_of (z := "cbrtx") (by decide +kernel)).2⟩
      | 5, _ => exact ⟨_, by rw [← (low_of (z := "sqrtsqrt") (by decide +kernel)).1]; rfl, (low_of (z := "sqrtsqrt") (by decide +kernel)).2⟩
    obtain ⟨w5, hw1, hw2⟩ := hall r5 hr5
    exact ⟨ps, _, _, _, rfl, rfl, Evl.sq_of h5, atI_nat hw1, kk w5 H5 _ hw2 (f4.trans f5) m5 (by omega)⟩
  · rw [decide_eq_false hz]
    refine iteF ?_
    refine ⟨rfl, ?_⟩
    refine draw_run (i := 0) 8 rfl m4 (by decide) (by omega) fun r5 H5 hr5 f5 m5 => ?_
    refine ⟨1, (r5 : Nat), rfl, rfl, ?_⟩
    refine ⟨((1 + r5 : Nat) : Int), by show [V.int ((1 : Int) + (r5 : Nat))] = [V.int ((1 + r5 : Nat) : Int)]; rw [show ((1 + r5 : Nat) : Int) = (1 : Int) + (r5 : Nat) by omega], by omega, by omega, fun Dl hD => ?_⟩
    have en : (((1 + r5 : Nat) : Int)).toNat = 1 + r5 := by omega
    rw [en]
    have nD := m5.fresh hD
    have nC := m5.lcfresh hD
    refine lc_range (lo := 0) (n := 1 + r5) (fun i H' => ∃ (n' : Nat) (ws : List (List Nat)), Fr G.S H5 H' ∧ MAt G n' H' ∧ n' ≤ n + 1 + 1 + i ∧ H' Dl = some (.lst (ws.map wV)) ∧ ws.length = i ∧ ∀ w ∈ ws, ∃ c, w = [c] ∧ isLet c = true)
      ⟨_, [], Fr.upd (Fr.refl _ _) (Or.inr hD), m5.new hD, Nat.le_refl _, upd_same, rfl, by simp⟩ ?_ ?_
    · rintro i H6 hi ⟨n', ws, f6, m6, hn', hw6, hwl, hws⟩
      refine ⟨rfl, ?_⟩
      refine ⟨_, rfl, draw_run (i := 0) 26 rfl m6 (by decide) (by omega) fun r7 H7 hr7 f7 m7 => ?_⟩
      obtain ⟨c, hc1, hc2⟩ := lets_low hr7
      refine ⟨_, (r7 : Nat), c, rfl, rfl, letS_len, by rw [l_lets]; exact atI_nat hc1, ?_⟩
      have h7 := f7.at_ hw6 nD
      refine ⟨_, h7, Evl.sz_lt (by rw [List.length_map]; omega), n' + 1, ws ++ [[c]], ?_, ?_, by omega, by rw [upd_same, List.map_append]; rfl, by simp [hwl], ?_⟩
      · intro a o ha h
        have h2 := f7 a o ha (f6 a o ha h)
        have : a ≠ Dl := fun z => by rw [z] at h; rw [hD] at h; cases h
        rw [upd_ne this]
        exact h2
      · exact m7.mut nD nC
      · intro w hw
        rcases List.mem_append.mp hw with h | h
        · exact hws w h
        · exact ⟨c, List.mem_singleton.mp h, hc2⟩
    · rintro H6 ⟨n', ws, f6, m6, hn', hw6, hwl, hws⟩
      have hfl : (ws.flatten).all isLet = true ∧ ws.flatten.length = ws.length := by
        clear hw6 hwl
        induction ws with
        | nil => exact ⟨rfl, rfl⟩
        | cons w ws ih =>
          obtain ⟨c, rfl, hc⟩ := hws w (List.mem_cons_self ..)
          obtain ⟨i1, i2⟩ := ih fun z hz => hws z (List.mem_cons_of_mem _ hz)
          refine ⟨by rw [List.flatten_cons, List.all_append, i1]; simp [hc], by rw [List.flatten_cons, List.length_append, i2]; simp; omega⟩
      have jn : Txt.join "" (ws.map mkS) = mkS ws.flatten := by rw [l_empty, join_mk, joinL_nil]
      refine ⟨_, Dl, ws.map mkS, rfl, rfl, Or.inl (Evl.sq_of (by rw [List.map_map]; exact hw6)), ?_, ?_⟩
      · have : ((ws.map mkS).map (·.length)).sum = ws.length := by
          clear hw6 hwl hfl jn
          induction ws with
          | nil => rfl
          | cons w ws ih =>
            obtain ⟨c, rfl, hc⟩ := hws w (List.mem_cons_self ..)
            simp only [List.map_cons, List.sum_cons, List.length_cons]
            rw [ih fun z hz => hws z (List.mem_cons_of_mem _ hz), mkS_len]
            simp
            omega
        rw [this, List.length_map]
        have : ("" : Str).length = 0 := rfl
        rw [this]
        omega
      · rw [jn]
        have lw : lowW ws.flatten := ⟨hfl.1, by omega, by omega⟩
        have F : Fr G.S H H6 := (f4.trans f5).trans f6
        obtain ⟨b, hb⟩ : ∃ b, b = inV (wV ws.flatten) [.str "root", .str "sqrt", .str "cbrt"] := ⟨_, rfl⟩
        refine s_ret (v := wV (if b then [122] else ws.flatten)) (ev_if (b := b) (Evl.et_is (et_test (Evl.ev_inU (ev_var rfl) (Evl.eu_tup (ea_cons ev_c (ea_cons ev_c (ea_cons ev_c ea_nil))) (by simp)) rfl rfl)) hb.symm) (fun h => ?_) (fun h => ?_)) fun H7 e7 => kk (if b then [122] else ws.flatten) H7 n' ?_ (F.trans (Fr.of e7)) (m6.ex e7) (by omega)
        · rw [h]
          exact ev_is' ev_c (by rw [show ("z" : Str) = mkS [122] from by decide +kernel]; rfl)
        · rw [h]
          exact ev_var rfl
        · cases b with
          | true => exact (show lowW [122] from ⟨by decide, by decide, by decide⟩)
          | false => exact lw
end
end K83
end
section
set_option maxRecDepth 100000
set_option maxHeartbeats 1000000
namespace K83
open PySem PySem.Spec PyProof.Rows L2
open Evl (Ex Ev EvT EvA EvL EvU EvO RV RU RC ev_var ev_c ev_op ev_un ev_if ev_andV ev_orV ev_notV et_test et_B et_and et_or et_not ea_nil ea_cons ev_cb q_asg q_asgL q_asgU q_if q_when s_asg s_ret s_if s_when s_drop q_drop rv_I0 rv_I rv_eq rv_ne rv_val el_sl eo_none eo_some tCut pss_cut q_cut)
def gx : Xp → Prop
  | .num n => n < 10 ^ 30
  | .name w => ∃ l, w = mkS l ∧ lowW l
  | .root row k => ∃ a b, row = a ++ [b] ∧ a.length ≤ 16 ∧ (∀ i ∈ a, i.natAbs ≤ 9) ∧ b.natAbs < 10 ^ 30 ∧ 1 ≤ k ∧ k ≤ 16
  | .bin _ a b => gx a ∧ gx b
  | .neg a => gx a
  | .pow a k => gx a ∧ k.natAbs ≤ 8
  | .rt _ a => gx a
def wb : Xp → Nat
  | .bin _ a b => wb a + wb b + 10
  | .neg a => wb a + 10
  | .pow a _ => wb a + 10
  | .rt _ a => wb a + 10
  | _ => 130
def spLeaf (K : PySem.W.Frag) : Sp := fun vs H Q _ => ∃ (G : GC) (n : Nat), vs = [.ref G.dm] ∧ MAt G n H ∧ n ≤ 800000 ∧ ∀ (e : Xp) (v : V) H' n', gx e → wb e = 130 → Fr G.S H H' → MAt G n' H' → n' ≤ n + 30 → Tp H' (xpD e) v → Q v H'
theorem rv_pow {H : Hp} : RV (rI CPow fun i j => .int (i ^ j.toNat)) (.int 10) (.int 30) H (.int (10 ^ 30)) := rv_I ⟨by decide, by decide, by decide⟩
section
variable {P : Program} {w : World} {K : PySem.W.Frag} {mg : Str → Option Value} {base : Heap}
abbrev N__law_leaf : List Str := ["_law_m", "_law_way", "_law_numbers", "_law_k"]
abbrev s__law_leaf : Stmt := top 46
theorem sc__law_leaf : FnScope N__law_leaf ["_law_m"] (defScope s__law_leaf) := ⟨rfl, rfl, rfl, by decide +kernel, rfl, by decide +kernel, by decide +kernel⟩
theorem ok_law_leaf (T : Txt w K mg) (A : DefAt K mg "_law_leaf" s__law_leaf) (D__law_draw : DefOk P w K mg base CX0 "_law_draw" 2 ["_law_m", "_law_many"] (spDraw K)) (D__law_name : DefOk P w K mg base CX0 "_law_name" 3 ["_law_m"] (spName K)) : DefOk P w K mg base CX0 "_law_leaf" 4 ["_law_m"] (spLeaf K) := by
  refine mk_def0 A sc__law_leaf (fun _ _ _ _ _ _ us hl => match us, hl with | [_], _ => rfl) (fun vs H Q E ⟨_, _, h, _⟩ => by rw [h]; rfl) (fun f cdv A outer s H vs Q E hr h => ?_)
  obtain ⟨G, n, rfl, m, hn, kk⟩ := h
  refine ⟨_, (pss_cons (ps_set (i := 1) sc__law_leaf.nd rfl (Or.inl rfl) (pe_def D__law_draw (hr.mono (by decide)) rfl pass0 (pa_cons (pv 0) (pa_cons pe_int pa_nil))))
      (pss_cons (ps_if (pt_cmpR op_eq (pv 1) pe_int (nomark _)) (pss_one (ps_ret (pe_tup (pa_cons pe_str (pa_cons (pe_def D__law_name (hr.mono (by decide)) rfl pass0 (pa_cons (pv 0) pa_nil)) pa_nil))))) pss_nil)
      (pss_cons (ps_if (pt_cmpR op_eq (pv 1) pe_int (nomark _)) (pss_cons (ps_setLc (i := 2) (own := [("_law_k", 3)]) (g := gName 3) (tt := tYes) (te := tOp (rI0 fun i j => .int (i - j)) (tCall (spDraw K) [] E0 (tCons (tVar 0) (tCons (tC (.int 19)) tNil))) (tC (.int 9))) rfl sc__law_leaf.nd rfl rfl (sw_true rfl rfl rfl (by decide +kernel)) (pi_range1 rfl T.f_range (pa_cons (pe_ix ix_list (pe_lst (pa_cons pe_int (pa_cons pe_int (pa_cons pe_int (pa_cons pe_int pa_nil))))) (pe_def D__law_draw (hr.mono (by decide)) rfl pass0 (pa_cons (pv 0) (pa_cons pe_int pa_nil))) (fun _ _ => rfl)) pa_nil)) (blkOk_by (own := [("_law_k", 3)]) (N := N__law_leaf) (sc := defScope s__law_leaf) (by decide +kernel)) (fun _ _ _ _ _ => (pg_name (i := 3) sc__law_leaf.nd rfl (Or.inl rfl))) (fun _ _ _ _ _ => pts_nil) (fun _ _ _ _ _ => (pe_op op_sub (pe_def D__law_draw (hr.mono (by decide)) rfl pass0 (pa_cons (pv 0) (pa_cons pe_int pa_nil))) pe_int)))
      (pss_one (ps_ret (pe_tup (pa_cons pe_str (pa_cons (pe_callTy call_tuple_of (by rfl) T.f_tuple (by decide +kernel) (pa_cons (pe_op op_cat (pv 2) (pe_lst (pa_cons (pe_ix ix_list (pe_lst (pa_cons pe_int (pa_cons (pe_un un_neg pe_int) (pa_cons pe_int (pa_cons (pe_op op_sub (pe_op op_pow pe_int pe_int) pe_int) pa_nil))))) (pe_def D__law_draw (hr.mono (by decide)) rfl pass0 (pa_cons (pv 0) (pa_cons pe_int pa_nil))) (fun _ _ => rfl)) pa_nil))) pa_nil)) (pa_cons (pe_op op_add pe_int (pe_def D__law_draw (hr.mono (by decide)) rfl pass0 (pa_cons (pv 0) (pa_cons pe_int pa_nil)))) pa_nil))))))) pss_nil)
      (pss_one (ps_ret (pe_tup (pa_cons pe_str (pa_cons (pe_ix ix_list (pe_lst (pa_cons pe_int (pa_cons pe_int (pa_cons pe_int (pa_cons (pe_op op_sub (pe_op op_pow pe_int pe_int) pe_int) (pa_cons (pe_def D__law_draw (hr.mono (by decide)) rfl pass0 (pa_cons (pv 0) (pa_cons pe_int pa_nil))) pa_nil)))))) (pe_def D__law_draw (hr.mono (by decide)) rfl pass0 (pa_cons (pv 0) (pa_cons pe_int pa_nil))) (fun _ _ => rfl)) pa_nil)))))))), ?_⟩
  refine draw_run (i := 0) 4 rfl m (by decide) (by omega) fun r1 H1 hr1 f1 m1 => ?_
  refine q_when (b := decide (r1 = 0)) (Evl.et_is (et_test (ev_op (ev_var rfl) ev_c (rv_eq rfl))) (decide_eq_decide.mpr ⟨fun h => by injection h with h; omega, fun h => by rw [h]; rfl⟩)) (fun _ H2 e2 => ?_) (fun _ H2 e2 => ?_)
  · have m2 := m1.ex e2
    refine ⟨_, rfl, G, n + 1, rfl, m2, by omega, fun l H3 n3 hl f3 m3 hn3 => ?_⟩
    refine ⟨Evl.sz_of (by simp), fun p hp => ?_⟩
    exact kk (.name (mkS l)) (.ref p) _ n3 ⟨l, rfl, hl⟩ rfl (((f1.trans (Fr.of e2)).trans f3).trans (Fr.of (Ex.new hp))) (m3.new hp) (by omega) (Tp.ofTup upd_same (Tps.cons (Tp.ofStr _) (Tps.one (Tp.ofStr _))))
  · have m2 := m1.ex e2
    have f2 := f1.trans (Fr.of e2)
    refine q_when (b := decide (r1 = 1)) (Evl.et_is (et_test (ev_op (ev_var rfl) ev_c (rv_eq rfl))) (decide_eq_decide.mpr ⟨fun h => by injection h with h; omega, fun h => by rw [h]; rfl⟩)) (fun _ H3 e3 => ?_) (fun _ H3 e3 => ?_)
    · have m3 := m2.ex e3
      have f3 := f2.trans (Fr.of e3)
      -- how many small ones
      refine op_runL (xs := [.int 0, .int 1, .int 2, .int 16]) (Evl.el_lst (ea_cons ev_c (ea_cons ev_c (ea_cons ev_c (ea_cons ev_c ea_nil)))) (by simp)) fun p4 H4 hp4 e4 h4 => ?_
      have m4 := m3.ex e4
      have n4 := m3.fresh hp4
      refine draw_run (i := 0) 4 rfl m4 (by decide) (by omega) fun r5 H5 hr5 f5 m5 => ?_
      have h5 := f5.at_ h4 n4
      obtain ⟨c, hc1, hc2⟩ : ∃ c : Nat, ([V.int 0, .int 1, .int 2, .int 16] : List V)[r5]? = some (.int (c : Nat)) ∧ c ≤ 16 := by
        match r5, hr5 with
        | 0, _ => exact ⟨0, rfl, by decide⟩
        | 1, _ => exact ⟨1, rfl, by decide⟩
        | 2, _ => exact ⟨2, rfl, by decide⟩
        | 3, _ => exact ⟨16, rfl, by decide⟩
      refine ⟨p4, _, _, _, rfl, rfl, Evl.sq_of h5, atI_nat hc1, ?_⟩
      refine ⟨(c : Nat), rfl, by omega, by omega, fun Dl hD => ?_⟩
      have en : ((c : Nat) : Int).toNat = c := by omega
      rw [en]
      have nD := m5.fresh hD
      have nC := m5.lcfresh hD
      refine lc_range (lo := 0) (n := c) (fun i H' => ∃ (n' : Nat) (a : List Int), Fr G.S H5 H' ∧ MAt G n' H' ∧ n' ≤ n + 1 + 1 + i ∧ H' Dl = some (.lst (a.map .int)) ∧ a.length = i ∧ ∀ i ∈ a, i.natAbs ≤ 9)
        ⟨_, [], Fr.upd (Fr.refl _ _) (Or.inr hD), m5.new hD, Nat.le_refl _, upd_same, rfl, by simp⟩ ?_ ?_
      · rintro i H6 hi ⟨n', a, f6, m6, hn', ha6, hal, ha9⟩
        refine ⟨rfl, ?_⟩
        refine draw_run (i := 0) 19 rfl m6 (by decide) (by omega) fun r7 H7 hr7 f7 m7 => ?_
        refine ⟨_, _, rfl, rfl, ?_⟩
        have h7 := f7.at_ ha6 nD
        refine ⟨_, h7, Evl.sz_lt (by rw [List.length_map]; omega), n' + 1, a ++ [(r7 : Int) - 9], ?_, m7.mut nD nC, by omega, by rw [upd_same, List.map_append]; rfl, by simp [hal], ?_⟩
        · intro b o hb h
          have h2 := f7 b o hb (f6 b o hb h)
          have : b ≠ Dl := fun z => by rw [z] at h; rw [hD] at h; cases h
          rw [upd_ne this]
          exact h2
        · intro z hz
          rcases List.mem_append.mp hz with h | h
          · exact ha9 z h
          · rw [List.mem_singleton.mp h]
            omega
      · rintro H6 ⟨n', a, f6, m6, hn', ha6, hal, ha9⟩
        -- the answer
        have fa := (f3.trans (Fr.of e4)).trans (f5.trans f6)
        refine ⟨_, rfl, ?_⟩
        refine op_runL (xs := [.int 1, .int (-1), .int 7, .int (10 ^ 30 - 1)]) (Evl.el_lst (ea_cons ev_c (ea_cons (ev_un ev_c Evl.ru_neg) (ea_cons ev_c (ea_cons (ev_op (ev_op ev_c ev_c rv_pow) ev_c rv_I0) ea_nil)))) (by simp)) fun p7 H7 hp7 e7 h7 => ?_
        have m7 := m6.ex e7
        have n7 := m6.fresh hp7
        refine draw_run (i := 0) 4 rfl m7 (by decide) (by omega) fun r8 H8 hr8 f8 m8 => ?_
        have h8 := f8.at_ h7 n7
        obtain ⟨b, hb1, hb2⟩ : ∃ b : Int, ([V.int 1, .int (-1), .int 7, .int (10 ^ 30 - 1)] : List V)[r8]? = some (.int b) ∧ b.natAbs < 10 ^ 30 := by
          match r8, hr8 with
          | 0, _ => exact ⟨1, rfl, by decide⟩
          | 1, _ => exact ⟨-1, rfl, by decide⟩
          | 2, _ => exact ⟨7, rfl, by decide⟩
          | 3, _ => exact ⟨10 ^ 30 - 1, rfl, by decide⟩
        refine ⟨p7, _, _, _, rfl, rfl, Evl.sq_of h8, atI_nat hb1, Evl.sz_of (by simp), fun p9 hp9 => ?_⟩
        have m9 := m8.new (o := .lst [.int b]) hp9
        have hDl : (upd H8 p9 (.lst [.int b])) Dl = some (.lst (a.map .int)) := Ex.new hp9 _ _ (f8.at_ (e7 _ _ ha6) nD)
        refine ⟨Dl, p9, _, _, rfl, rfl, hDl, upd_same, Evl.sz_of (by simp; omega), fun p10 hp10 => ?_⟩
        have m10 := m9.new (o := .lst (a.map V.int ++ [.int b])) hp10
        refine ⟨p10, _, rfl, Or.inl ⟨Evl.sq_of upd_same, fun p11 hp11 => ?_⟩⟩
        have m11 := m10.new (o := .tup (a.map V.int ++ [.int b])) hp11
        have n11 := m10.fresh hp11
        refine draw_run (i := 0) 16 rfl m11 (by decide) (by omega) fun r12 H12 hr12 f12 m12 => ?_
        refine ⟨1, (r12 : Nat), rfl, rfl, Evl.sz_of (by simp), fun p13 hp13 => ?_⟩
        have h12 := f12.at_ (upd_same : (upd (upd (upd H8 p9 (.lst [.int b])) p10 (.lst (a.map V.int ++ [.int b]))) p11 (.tup (a.map V.int ++ [.int b]))) p11 = _) n11
        refine kk (.root (a ++ [b]) (1 + r12)) (.ref p13) _ _ ⟨a, b, rfl, by omega, ha9, hb2, by omega, by omega⟩ rfl (((fa.trans (Fr.of e7)).trans f8).trans ((Fr.of ((Ex.new hp9).trans ((Ex.new hp10).trans (Ex.new hp11)))).trans (f12.trans (Fr.of (Ex.new hp13))))) (m12.new hp13) (by omega) ?_
        have e13 : (1 : Int) + (r12 : Nat) = ((1 + r12 : Nat) : Int) := by omega
        refine Tp.ofTup upd_same (Tps.cons (Tp.ofStr _) (Tps.cons (Tp.ofTup (Ex.new hp13 _ _ h12) ?_) (Tps.one (by show Tp _ (.int ((1 + r12 : Nat) : Int)) (.int ((1 : Int) + (r12 : Nat))); rw [e13]; exact Tp.ofInt _))))
        have := Tps.ints (H := upd H12 p13 (.tup [.str "root", .ref p11, .int ((1 : Int) + (r12 : Nat))])) (a ++ [b])
        rw [List.map_append, List.map_append] at this
        rw [List.map_append]
        exact this
    · have m3 := m2.ex e3
      have f3 := f2.trans (Fr.of e3)
      refine (ev_op (ev_op ev_c ev_c rv_pow) ev_c rv_I0 : Ev (tOp _ (tOp _ (tC (.int 10)) (tC (.int 30))) (tC (.int 1))) [some (.ref G.dm), some (.int (r1 : Nat)), none, none] H3 (.int (10 ^ 30 - 1))) H3 (Ex.refl _) _ fun H4 e4 => ?_
      have m4 := m3.ex e4
      refine draw_run (i := 0) 1000 rfl m4 (by decide) (by omega) fun r5 H5 hr5 f5 m5 => ?_
      refine ⟨Evl.sz_of (by simp), fun p6 hp6 => ?_⟩
      have m6 := m5.new (o := .lst [.int 0, .int 1, .int 10, .int (10 ^ 30 - 1), .int (r5 : Nat)]) hp6
      have n6 := m5.fresh hp6
      refine draw_run (i := 0) 5 rfl m6 (by decide) (by omega) fun r7 H7 hr7 f7 m7 => ?_
      have h7 := f7.at_ (upd_same : (upd H5 p6 (.lst [.int 0, .int 1, .int 10, .int (10 ^ 30 - 1), .int (r5 : Nat)])) p6 = _) n6
      obtain ⟨c, hc1, hc2⟩ : ∃ c : Nat, ([V.int 0, .int 1, .int 10, .int (10 ^ 30 - 1), .int (r5 : Nat)] : List V)[r7]? = some (.int (c : Nat)) ∧ c < 10 ^ 30 := by
        match r7, hr7 with
        | 0, _ => exact ⟨0, rfl, by decide⟩
        | 1, _ => exact ⟨1, rfl, by decide⟩
        | 2, _ => exact ⟨10, rfl, by decide⟩
        | 3, _ => exact ⟨10 ^ 30 - 1, rfl, by decide⟩
        | 4, _ => exact ⟨r5, rfl, by omega⟩
      refine ⟨p6, _, _, _, rfl, rfl, Evl.sq_of h7, atI_nat hc1, Evl.sz_of (by simp), fun p8 hp8 => ?_⟩
      exact kk (.num c) (.ref p8) _ _ hc2 rfl (((f3.trans (Fr.of e4)).trans f5).trans ((Fr.of (Ex.new hp6)).trans (f7.trans (Fr.of (Ex.new hp8))))) (m7.new hp8) (by omega) (Tp.ofTup upd_same (Tps.cons (Tp.ofStr _) (Tps.one (Tp.ofInt _))))
end
end K83
end
section
set_option maxRecDepth 100000
set_option maxHeartbeats 1000000
namespace K83
open PySem PySem.Spec PyProof.Rows L2
open Evl (Ex Ev EvT EvA EvL EvU EvO RV RU RC ev_var ev_c ev_op ev_un ev_if ev_andV ev_orV ev_notV et_test et_B et_and et_or et_not ea_nil ea_cons ev_cb q_asg q_asgL q_asgU q_if q_when s_asg s_ret s_if s_when s_drop q_drop rv_I0 rv_I rv_eq rv_ne rv_val el_sl eo_none eo_some tCut pss_cut q_cut)
theorem gx_ok : ∀ (e : Xp), gx e → okX e
  | .num n, _ => ok_num n
  | .name w, h => by
    obtain ⟨l, rfl, hl⟩ := h
    show (xpD (.name (mkS l))).canLay0 = true
    rw [xpD]
    refine ok_tup2 (strOk_dec (by decide +kernel)) (lay_word (w := l) ?_)
    unfold asc
    rw [List.all_eq_true]
    intro c hc
    have := let_lt (List.all_eq_true.mp hl.1 c hc)
    exact decide_eq_true (by omega)
  | .root row k, _ => okX_root row k
  | .bin o a b, h => ok_bin o (gx_ok a h.1) (gx_ok b h.2)
  | .neg a, h => ok_neg (gx_ok a h)
  | .pow a k, h => ok_pow (gx_ok a h.1) k
  | .rt m a, h => ok_rt m (gx_ok a h)
section
variable {K : PySem.W.Frag} {σ : L2.St} {H H' : Hp} {ta : TE} {l : Addr} {xs : List V} {ds : List PyData}
theorem ev_dataEmpty {neg : Bool} (ha : Ev ta σ H (.ref l)) (h : H l = some (.lst xs)) (ts : Tps H ds xs) (ok : PyData.canLayAll0 ds = true) : Ev (tOp (rEqX K neg) ta (tLst tNil)) σ H (.bl (if neg then !ds.isEmpty else ds.isEmpty)) :=
  Evl.ev_opL ha (Evl.el_lst ea_nil (by decide)) fun p H1 hp e => fun H2 e2 Q q => by
    refine ⟨.list ds, .list [], .lst (Evl.sq_of (e2 _ _ (e _ _ h))) (Tps.dp _ _ (ts.ex (e.trans e2))), .lst (Evl.sq_of (e2 _ _ hp)) .nil, ?_, rfl, ?_, ?_⟩
    · rw [PyData.canLay0]
      exact ok
    · unfold Room1
      simp [PyData.depth, PyData.depthAll]
    · rw [eqv_nil]
      exact q H2 (Ex.refl H2)
theorem lay_xps : ∀ (es : List Xp), (∀ e ∈ es, gx e) → PyData.canLayAll0 (es.map xpD) = true
  | [], _ => rfl
  | e :: es, h => by
    rw [List.map_cons, PyData.canLayAll0, show (xpD e).canLay0 = true from gx_ok e (h e (List.mem_cons_self ..)), lay_xps es fun x hx => h x (List.mem_cons_of_mem _ hx)]
    rfl
end
theorem fr_tk {G : GC} {n : Nat} {H H' : Hp} (m : MAt G n H) (f : Fr G.S H H') : Tk H H' := fun a xs h => f a _ (by
  intro q
  rcases List.mem_cons.mp q with e | q
  · rw [e, m.dict] at h
    cases h
  · obtain ⟨ds, hd⟩ := m.digits
    rw [List.mem_singleton.mp q, hd] at h
    cases h) h
structure Wt (G : GC) (H0 : Hp) (pw : Addr) (n : Nat) (stk : List Xp) (vs : List V) (H : Hp) : Prop where
  fr : Fr G.S H0 H
  mm : MAt G n H
  at_ : H pw = some (.lst vs)
  tp : Tps H (stk.map xpD) vs
  new : H0 pw = none
  nS : pw ∉ G.S
  nC : pw ≠ G.lc
  good : ∀ e ∈ stk, gx e
section
variable {G : GC} {H0 H H' : Hp} {pw : Addr} {n n' : Nat} {stk : List Xp} {vs : List V}
theorem Wt.ex (w : Wt G H0 pw n stk vs H) (e : Ex H H') : Wt G H0 pw n stk vs H' := ⟨w.fr.trans (Fr.of e), w.mm.ex e, e _ _ w.at_, w.tp.ex e, w.new, w.nS, w.nC, w.good⟩
theorem Wt.go (w : Wt G H0 pw n stk vs H) (f : Fr G.S H H') (m : MAt G n' H') : Wt G H0 pw n' stk vs H' := ⟨w.fr.trans f, m, f.at_ w.at_ w.nS, Tps.mono (fr_tk w.mm f) _ _ w.tp, w.new, w.nS, w.nC, w.good⟩
theorem Wt.set {stk' : List Xp} {vs' : List V} (w : Wt G H0 pw n stk vs H) (h : Tps H (stk'.map xpD) vs') (g : ∀ e ∈ stk', gx e) : Wt G H0 pw n stk' vs' (upd H pw (.lst vs')) :=
  ⟨Fr.upd w.fr (Or.inr w.new), w.mm.mut w.nS w.nC, upd_same, Tps.mono ((Tk.refl H).lst w.at_) _ _ h, w.new, w.nS, w.nC, g⟩
theorem Wt.len (w : Wt G H0 pw n stk vs H) : vs.length = stk.length := by rw [w.tp.len, List.length_map]
theorem Wt.top {a : Xp} (w : Wt G H0 pw n (stk ++ [a]) vs H) : ∃ ys y, vs = ys ++ [y] ∧ Tps H (stk.map xpD) ys ∧ Tp H (xpD a) y := by
  have h := w.tp
  rw [List.map_append] at h
  obtain ⟨ys, zs, e, h1, h2⟩ := Tps.split h
  have h2 : Tps H [xpD a] zs := h2
  rw [Tps] at h2
  obtain ⟨y, r, e2, h3, h4⟩ := h2
  rw [Tps] at h4
  subst h4
  exact ⟨ys, y, by rw [e, e2], h1, h3⟩
end
def wsum (stk : List Xp) : Nat := (stk.map wb).sum
theorem wsum_app (a b : List Xp) : wsum (a ++ b) = wsum a + wsum b := by simp [wsum]
theorem wsum_one (e : Xp) : wsum [e] = wb e := by simp [wsum]
def spTree (K : PySem.W.Frag) : Sp := fun vs H Q _ => ∃ (G : GC) (n steps : Nat), vs = [.ref G.dm, .int (steps : Nat)] ∧ MAt G n H ∧ n ≤ 700000 ∧ steps ≤ 12 ∧ ∀ (e : Xp) (v : V) H' n', gx e → wb e ≤ 2000 → Fr G.S H H' → MAt G n' H' → n' ≤ n + 1000 → Tp H' (xpD e) v → Q v H'
theorem snoc_of {α : Type} {l : List α} (h : l ≠ []) : ∃ a b, l = a ++ [b] := ⟨l.dropLast, l.getLast h, (List.dropLast_concat_getLast h).symm⟩
def ops4 : List Op := [.plus, .less, .times, .over]
theorem ops4_at {i : Nat} (h : i < 4) : ∃ o, ([V.str "plus", .str "less", .str "times", .str "over"] : List V)[i]? = some (.str (opS o)) := by
  match i, h with
  | 0, _ => exact ⟨.plus, rfl⟩
  | 1, _ => exact ⟨.less, rfl⟩
  | 2, _ => exact ⟨.times, rfl⟩
  | 3, _ => exact ⟨.over, rfl⟩
section
variable {P : Program} {w : World} {K : PySem.W.Frag} {mg : Str → Option Value} {base : Heap}
abbrev N__law_tree : List Str := ["_law_m", "_law_steps", "_law_waiting", "_law_k", "_law_way", "_law_one"]
abbrev s__law_tree : Stmt := top 47
theorem sc__law_tree : FnScope N__law_tree ["_law_m", "_law_steps"] (defScope s__law_tree) := ⟨rfl, rfl, rfl, by decide +kernel, rfl, by decide +kernel, by decide +kernel⟩
theorem ok_law_tree (T : Txt w K mg) (A : DefAt K mg "_law_tree" s__law_tree) (D__law_draw : DefOk P w K mg base CX0 "_law_draw" 2 ["_law_m", "_law_many"] (spDraw K)) (D__law_leaf : DefOk P w K mg base CX0 "_law_leaf" 4 ["_law_m"] (spLeaf K)) : DefOk P w K mg base CX0 "_law_tree" 5 ["_law_m", "_law_steps"] (spTree K) := by
  refine mk_def0 A sc__law_tree (fun _ _ _ _ _ _ us hl => match us, hl with | [_, _], _ => rfl) (fun vs H Q E ⟨_, _, _, h, _⟩ => by rw [h]; rfl) (fun f cdv A outer s H vs Q E hr h => ?_)
  obtain ⟨G, n, steps, rfl, m, hn, hst, kk⟩ := h
  refine ⟨_, (pss_cons (ps_set (i := 2) sc__law_tree.nd rfl (Or.inl rfl) (pe_lst (pa_cons (pe_def D__law_leaf (hr.mono (by decide)) rfl pass0 (pa_cons (pv 0) pa_nil)) pa_nil)))
      (pss_cons (ps_for PassesOwn.never rfl (pi_range1 rfl T.f_range (pa_cons (pv 1) pa_nil)) (pg_name (i := 3) sc__law_tree.nd rfl (Or.inl rfl)) (pss_cons (ps_set (i := 4) sc__law_tree.nd rfl (Or.inl rfl) (pe_def D__law_draw (hr.mono (by decide)) rfl pass0 (pa_cons (pv 0) (pa_cons pe_int pa_nil))))
      (pss_cons (ps_set (i := 5) sc__law_tree.nd rfl (Or.inl rfl) (pe_bm0 PySem.F.plainAttrs_list PySem.F.slot_list_pop PySem.F.type_list_pop mt_pop (pv 2)))
      (pss_one (ps_if (PW.pt (pw_and (pt_cmpR op_lt (pv 4) pe_int (nomark _)) (pw_and1 (pt_cmpR (op_neX hr.units) (pv 2) (pe_lst pa_nil) (nomark _))))) (pss_one (ps_expr (pe_bm PySem.F.plainAttrs_list PySem.F.slot_list_append PySem.F.type_list_append mt_append (pv 2) (pa_cons (pe_tup (pa_cons (pe_ix ix_list (pe_lst (pa_cons pe_str (pa_cons pe_str (pa_cons pe_str (pa_cons pe_str pa_nil))))) (pv 4) (fun _ _ => rfl)) (pa_cons (pe_bm0 PySem.F.plainAttrs_list PySem.F.slot_list_pop PySem.F.type_list_pop mt_pop (pv 2)) (pa_cons (pv 5) pa_nil)))) pa_nil)))) (pss_one (ps_if (pt_cmpR op_lt (pv 4) pe_int (nomark _)) (pss_one (ps_expr (pe_bm PySem.F.plainAttrs_list PySem.F.slot_list_extend PySem.F.type_list_extend mt_extend (pv 2) (pa_cons (pe_lst (pa_cons (pv 5) (pa_cons (pe_def D__law_leaf (hr.mono (by decide)) rfl pass0 (pa_cons (pv 0) pa_nil)) pa_nil))) pa_nil)))) (pss_one (ps_if (pt_cmpR op_eq (pv 4) pe_int (nomark _)) (pss_one (ps_expr (pe_bm PySem.F.plainAttrs_list PySem.F.slot_list_append PySem.F.type_list_append mt_append (pv 2) (pa_cons (pe_tup (pa_cons pe_str (pa_cons (pv 5) pa_nil))) pa_nil)))) (pss_one (ps_if (pt_cmpR op_eq (pv 4) pe_int (nomark _)) (pss_one (ps_expr (pe_bm PySem.F.plainAttrs_list PySem.F.slot_list_append PySem.F.type_list_append mt_append (pv 2) (pa_cons (pe_tup (pa_cons pe_str (pa_cons (pv 5) (pa_cons (pe_op op_sub (pe_def D__law_draw (hr.mono (by decide)) rfl pass0 (pa_cons (pv 0) (pa_cons pe_int pa_nil))) pe_int) pa_nil)))) pa_nil)))) (pss_one (ps_expr (pe_bm PySem.F.plainAttrs_list PySem.F.slot_list_append PySem.F.type_list_append mt_append (pv 2) (pa_cons (pe_tup (pa_cons (pe_ix ix_list (pe_lst (pa_cons pe_str (pa_cons pe_str pa_nil))) (pe_def D__law_draw (hr.mono (by decide)) rfl pass0 (pa_cons (pv 0) (pa_cons pe_int pa_nil))) (fun _ _ => rfl)) (pa_cons (pv 5) pa_nil))) pa_nil)))))))))))))))
      (pss_cons (ps_while PassesOwn.never (pt_cmpR op_gt (pe_callB call_len_seq (by rfl) T.f_len PySem.boot_len (pa_cons (pv 2) pa_nil)) pe_int (nomark _)) (pss_cons (ps_set (i := 5) sc__law_tree.nd rfl (Or.inl rfl) (pe_bm0 PySem.F.plainAttrs_list PySem.F.slot_list_pop PySem.F.type_list_pop mt_pop (pv 2)))
      (pss_one (ps_expr (pe_bm PySem.F.plainAttrs_list PySem.F.slot_list_append PySem.F.type_list_append mt_append (pv 2) (pa_cons (pe_tup (pa_cons (pe_ix ix_list (pe_lst (pa_cons pe_str (pa_cons pe_str (pa_cons pe_str (pa_cons pe_str pa_nil))))) (pe_def D__law_draw (hr.mono (by decide)) rfl pass0 (pa_cons (pv 0) (pa_cons pe_int pa_nil))) (fun _ _ => rfl)) (pa_cons (pe_bm0 PySem.F.plainAttrs_list PySem.F.slot_list_pop PySem.F.type_list_pop mt_pop (pv 2)) (pa_cons (pv 5) pa_nil)))) pa_nil))))))
      (pss_one (ps_ret (pe_ix ix_list (pv 2) pe_int (fun _ _ => rfl))))))), ?_⟩
  refine ⟨_, rfl, G, n, rfl, m, by omega, fun e0 v0 H1 n1 g0 b0 f1 m1 hn1 t0 => ⟨Evl.sz_of (by simp), fun pw hpw => ?_⟩⟩
  have hpw0 : H pw = none := by
    cases q : H pw with
    | none => rfl
    | some o =>
      have := f1 pw o (m1.fresh hpw) q
      rw [hpw] at this
      cases this
  have w0 : Wt G H pw n1 [e0] [v0] (upd H1 pw (.lst [v0])) := ⟨f1.trans (Fr.of (Ex.new hpw)), m1.new hpw, upd_same, Tps.one (t0.ex (Ex.new hpw)), hpw0, m1.fresh hpw, m1.lcfresh hpw, fun e he => by rw [List.mem_singleton.mp he]; exact g0⟩
  refine Evl.q_forR1 (n := ((steps : Nat) : Int)) (ea_cons (ev_var rfl) ea_nil) (by omega) (fun i σ' H' => ∃ (n' : Nat) (stk : List Xp) (vs : List V) (x3 x4 x5 : Option V), Wt G H pw n' stk vs H' ∧ stk ≠ [] ∧ stk.length ≤ 1 + i ∧ wsum stk ≤ 130 + 140 * i ∧ n' ≤ n + 30 + 40 * i ∧
    σ' = [some (.ref G.dm), some (.int (steps : Nat)), some (.ref pw), x3, x4, x5]) (fun H2 e2 => ⟨n1, [e0], [v0], none, none, none, w0.ex e2, by simp, by simp, by rw [wsum_one, b0]; omega, by omega, rfl⟩) ?_ ?_
  · rintro i σ' H' hi ⟨n', stk, vs, x3, x4, x5, wt, hne, hsl, hsum, hn', rfl⟩
    obtain ⟨s0, one, rfl⟩ := snoc_of hne
    refine draw_run (i := 0) 10 rfl wt.mm (by decide) (by omega) fun r H2 hr2 f2 m2 => ?_
    have w2 := wt.go f2 m2
    obtain ⟨ys, y, rfl, tys, ty⟩ := w2.top
    refine pop_run (ev_var rfl) w2.at_ fun H3 e3 => ?_
    have w3 := (w2.ex e3).set (stk' := s0) (tys.ex e3) (fun e he => wt.good e (List.mem_append_left _ he))
    have ty3 : Tp (upd H3 pw (.lst ys)) (xpD one) y := Tp.mono ((Tk.refl H3).lst (w2.ex e3).at_) _ _ (ty.ex e3)
    have gone : gx one := wt.good one (by simp)
    have sl : s0.length + 1 ≤ 1 + i := by simpa using hsl
    have ss : wsum s0 + wb one ≤ 130 + 140 * i := by rw [wsum_app, wsum_one] at hsum; exact hsum
    have fin : ∀ (stk : List Xp) (vs : List V) (n2 : Nat) (H9 : Hp) (x3 x4 x5 : Option V), Wt G H pw n2 stk vs H9 → stk ≠ [] → stk.length ≤ s0.length + 2 → wsum stk ≤ wsum s0 + wb one + 140 → n2 ≤ n' + 40 →
        ∃ (n' : Nat) (stk : List Xp) (vs : List V) (x3' x4' x5' : Option V), Wt G H pw n' stk vs H9 ∧ stk ≠ [] ∧ stk.length ≤ 1 + (i + 1) ∧ wsum stk ≤ 130 + 140 * (i + 1) ∧ n' ≤ n + 30 + 40 * (i + 1) ∧ [some (.ref G.dm), some (.int (steps : Nat)), some (.ref pw), x3, x4, x5] = [some (.ref G.dm), some (.int (steps : Nat)), some (.ref pw), x3', x4', x5'] :=
      fun stk vs n2 H9 x3 x4 x5 w9 h1 h2 h3 h4 => ⟨n2, stk, vs, _, _, _, w9, h1, by omega, by omega, by omega, rfl⟩
    have lt4 : ∀ {k : Nat}, EvT (tTest (tOp (rI0 fun i j => .bl (decide (i < j))) (tVar 4) (tC (.int (k : Nat))))) [some (.ref G.dm), some (.int (steps : Nat)), some (.ref pw), some (.int (i : Nat)), some (.int (r : Nat)), some y] (upd H3 pw (.lst ys)) (decide (r < k)) := fun {k} =>
      Evl.et_is (et_test (ev_op (ev_var rfl) ev_c rv_I0)) (decide_eq_decide.mpr (by omega))
    have iem : (s0.map xpD).isEmpty = s0.isEmpty := by cases s0 <;> rfl
    refine s_if (b := decide (r < 4) && !s0.isEmpty) (Evl.et_is (et_and (lt4 (k := 4)) fun _ => et_test (ev_dataEmpty (neg := true) (ev_var rfl) w3.at_ w3.tp (lay_xps _ w3.good))) (by show (decide (r < 4) && !(s0.map xpD).isEmpty) = _; rw [iem])) (fun hb H4 e4 => ?_) (fun hb H4 e4 => ?_)
    · rw [Bool.and_eq_true] at hb
      have hr4 : r < 4 := of_decide_eq_true hb.1
      have hne0 : s0 ≠ [] := by
        intro z
        rw [z] at hb
        cases hb.2
      obtain ⟨s1, a, rfl⟩ := snoc_of hne0
      have w4 := w3.ex e4
      refine st_app_raw (ev_var rfl) w4.at_ fun H5 e5 => ?_
      have w5 := w4.ex e5
      obtain ⟨o, ho⟩ := ops4_at hr4
      refine op_runL (xs := [.str "plus", .str "less", .str "times", .str "over"]) (Evl.el_lst (ea_cons ev_c (ea_cons ev_c (ea_cons ev_c (ea_cons ev_c ea_nil)))) (by simp)) fun p6 H6 hp6 e6 h6 => ?_
      have w6 := w5.ex e6
      refine ⟨_, rfl, p6, _, _, _, rfl, rfl, Evl.sq_of h6, atI_nat ho, ?_⟩
      obtain ⟨us, u, rfl, tus, tu⟩ := w6.top
      refine pop_run (ev_var rfl) w6.at_ fun H7 e7 => ?_
      have w7 := (w6.ex e7).set (stk' := s1) (tus.ex e7) (fun e he => w3.good e (List.mem_append_left _ he))
      have tk7 : Tk H6 (upd H7 pw (.lst us)) := (Ex.tk e7).lst (w6.ex e7).at_
      refine ⟨_, rfl, Evl.sz_of (by simp), fun p8 hp8 => ?_⟩
      have w8 := w7.ex (Ex.new (o := .tup [.str (opS o), u, y]) hp8)
      refine ⟨pw, us, .ref p8, rfl, rfl, w8.at_, Evl.sz_lt (by rw [w8.len]; simp at sl; omega), ?_⟩
      have tu8 := (Tp.mono tk7 _ _ tu).ex (Ex.new (o := .tup [.str (opS o), u, y]) hp8)
      have ty8 := (Tp.mono ((Ex.tk ((e4.trans e5).trans e6)).trans tk7) _ _ ty3).ex (Ex.new (o := .tup [.str (opS o), u, y]) hp8)
      refine fin (s1 ++ [.bin o a one]) _ _ _ _ _ _ (w8.set (stk' := s1 ++ [.bin o a one]) (by rw [List.map_append]; exact Tps.append w8.tp (Tps.one (Tp.ofTup upd_same (Tps.cons (Tp.ofStr _) (Tps.cons tu8 (Tps.one ty8)))))) ?_) (by simp) (by simp) ?_ (by omega)
      · intro e he
        rcases List.mem_append.mp he with h | h
        · exact w8.good e h
        · rw [List.mem_singleton.mp h]
          exact ⟨w3.good a (by simp), gone⟩
      · rw [wsum_app, wsum_app, wsum_one, wsum_one]
        show wsum s1 + (wb a + wb one + 10) ≤ _
        omega
    · have w4 := w3.ex e4
      have ty4 := ty3.ex e4
      refine s_if (b := decide (r < 7)) ((lt4 (k := 7)).mono e4) (fun _ H5 e5 => ?_) (fun _ H5 e5 => ?_)
      · have w5 := w4.ex e5
        refine ⟨_, rfl, Or.inl ⟨rfl, _, Evl.sq_of w5.at_⟩, _, rfl, _, rfl, G, _, rfl, w5.mm, by omega, fun e v H6 n6 ge be f6 m6 hn6 te => ⟨Evl.sz_of (by simp), fun p7 hp7 => ?_⟩⟩
        have w6 := w5.go f6 m6
        have w7 := w6.ex (Ex.new (o := .lst [y, v]) hp7)
        have ty7 := (Tp.mono (fr_tk w5.mm f6) _ _ (ty4.ex e5)).ex (Ex.new (o := .lst [y, v]) hp7)
        refine ⟨pw, p7, _, _, rfl, rfl, w7.at_, upd_same, Evl.sz_of (by rw [w7.len]; simp; omega), ?_⟩
        refine fin (s0 ++ [one, e]) _ n6 _ _ _ _ (w7.set (stk' := s0 ++ [one, e]) (by rw [List.map_append]; exact Tps.append w7.tp (Tps.cons ty7 (Tps.one (te.ex (Ex.new hp7))))) ?_) (by simp) (by simp) ?_ (by omega)
        · intro z hz
          rcases List.mem_append.mp hz with h | h
          · exact w7.good z h
          · simp at h
            rcases h with h | h <;> rw [h]
            · exact gone
            · exact ge
        · rw [wsum_app]
          show wsum s0 + (wb one + (wb e + 0)) ≤ _
          omega
      · have w5 := w4.ex e5
        have ty5 := ty4.ex e5
        have one1 : ∀ (e' : Xp) (v : V) (n2 : Nat) (H9 : Hp), Wt G H pw n2 s0 ys H9 → Tp H9 (xpD e') v → gx e' → wb e' = wb one + 10 → n2 ≤ n' + 2 → ∃ (n' : Nat) (stk : List Xp) (vs : List V) (x3' x4' x5' : Option V), Wt G H pw n' stk vs (upd H9 pw (.lst (ys ++ [v]))) ∧ stk ≠ [] ∧ stk.length ≤ 1 + (i + 1) ∧ wsum stk ≤ 130 + 140 * (i + 1) ∧ n' ≤ n + 30 + 40 * (i + 1) ∧ [some (.ref G.dm), some (.int (steps : Nat)), some (.ref pw), some (.int (i : Nat)), some (.int (r : Nat)), some y] = [some (.ref G.dm), some (.int (steps : Nat)), some (.ref pw), x3', x4', x5'] := by
          intro e' v n2 H9 w9 tv ge hw hn2
          refine fin (s0 ++ [e']) _ n2 _ _ _ _ (w9.set (stk' := s0 ++ [e']) (by rw [List.map_append]; exact Tps.append w9.tp (Tps.one tv)) ?_) (by simp) (by simp) (by rw [wsum_app, wsum_one]; omega) (by omega)
          intro z hz
          rcases List.mem_append.mp hz with h | h
          · exact w9.good z h
          · rw [List.mem_singleton.mp h]; exact ge
        have eqr : ∀ {k : Nat} {Ha : Hp}, EvT (tTest (tOp rEq (tVar 4) (tC (.int (k : Nat))))) [some (.ref G.dm), some (.int (steps : Nat)), some (.ref pw), some (.int (i : Nat)), some (.int (r : Nat)), some y] Ha (decide (r = k)) := fun {k Ha} =>
          Evl.et_is (et_test (ev_op (ev_var rfl) ev_c (rv_eq rfl))) (decide_eq_decide.mpr ⟨fun h => by injection h with h; omega, fun h => by rw [h]⟩)
        have yl : ys.length < 100000 := by rw [w5.len]; omega
        refine s_if (b := decide (r = 7)) (eqr (k := 7)) (fun _ H6 e6 => ?_) (fun _ H6 e6 => ?_)
        · have w6 := w5.ex e6
          refine s_appD (d := xpD (.neg one)) w6.at_ (ev_var rfl) (ed_tup (eds_cons ed_s (eds_cons (ed_var rfl (ty5.ex e6)) eds_nil)) (by simp)) yl fun v H7 e7 tv => ?_
          exact one1 (.neg one) v _ H7 (w6.ex e7) tv gone rfl (by omega)
        · refine s_if (b := decide (r = 8)) (eqr (k := 8)) (fun _ H7 e7 => ?_) (fun _ H7 e7 => ?_)
          · have w7 := (w5.ex e6).ex e7
            refine st_app_raw (ev_var rfl) w7.at_ fun H8 e8 => ?_
            have w8 := w7.ex e8
            refine ⟨_, rfl, draw_run (i := 0) 17 rfl w8.mm (by decide) (by omega) fun r9 H9 hr9 f9 m9 => ⟨_, _, rfl, rfl, Evl.sz_of (by simp), fun p10 hp10 => ?_⟩⟩
            have w9 := w8.go f9 m9
            have w10 := w9.ex (Ex.new (o := .tup [.str "power", y, .int ((r9 : Int) - 8)]) hp10)
            have ty10 := (Tp.mono (fr_tk w8.mm f9) _ _ (((ty5.ex e6).ex e7).ex e8)).ex (Ex.new (o := .tup [.str "power", y, .int ((r9 : Int) - 8)]) hp10)
            refine ⟨pw, ys, .ref p10, rfl, rfl, w10.at_, Evl.sz_lt yl, ?_⟩
            exact one1 (.pow one ((r9 : Int) - 8)) (.ref p10) _ _ w10 (Tp.ofTup upd_same (Tps.cons (Tp.ofStr _) (Tps.cons ty10 (Tps.one (Tp.ofInt _))))) ⟨gone, by omega⟩ rfl (by omega)
          · have w7 := (w5.ex e6).ex e7
            refine st_app_raw (ev_var rfl) w7.at_ fun H8 e8 => ?_
            have w8 := w7.ex e8
            refine op_runL (xs := [.str "sqrt", .str "cbrt"]) (Evl.el_lst (ea_cons ev_c (ea_cons ev_c ea_nil)) (by simp)) fun p9 H9 hp9 e9 h9 => ?_
            have w9 := w8.ex e9
            refine draw_run (i := 0) 2 rfl w9.mm (by decide) (by omega) fun r10 H10 hr10 f10 m10 => ?_
            have w10 := w9.go f10 m10
            have h10 := f10.at_ h9 (w8.mm.fresh hp9)
            obtain ⟨mm, hm⟩ : ∃ mm : Rt, ([V.str "sqrt", .str "cbrt"] : List V)[r10]? = some (.str (rtS mm)) := by
              match r10, hr10 with
              | 0, _ => exact ⟨.sqrt, rfl⟩
              | 1, _ => exact ⟨.cbrt, rfl⟩
            refine ⟨p9, _, _, _, rfl, rfl, Evl.sq_of h10, atI_nat hm, _, rfl, Evl.sz_of (by simp), fun p11 hp11 => ?_⟩
            have w11 := w10.ex (Ex.new (o := .tup [.str (rtS mm), y]) hp11)
            have ty11 := (Tp.mono (fr_tk w9.mm f10) _ _ ((((ty5.ex e6).ex e7).ex e8).ex e9)).ex (Ex.new (o := .tup [.str (rtS mm), y]) hp11)
            refine ⟨pw, ys, .ref p11, rfl, rfl, w11.at_, Evl.sz_lt yl, ?_⟩
            exact one1 (.rt mm one) (.ref p11) _ _ w11 (Tp.ofTup upd_same (Tps.cons (Tp.ofStr _) (Tps.one ty11))) gone rfl (by omega)
  · rintro σ' H' ⟨n', stk, vs, x3, x4, x5, wt, hne, hsl, hsum, hn', rfl⟩
    have est : ((steps : Nat) : Int).toNat = steps := by omega
    rw [est] at hsl hsum hn'
    refine Evl.q_while (fun k σ' H' => ∃ (n' : Nat) (stk : List Xp) (vs : List V) (x5 : Option V), Wt G H pw n' stk vs H' ∧ stk.length = k + 1 ∧ wsum stk + 10 * stk.length ≤ 2000 ∧ n' + stk.length ≤ n + 600 ∧ stk.length ≤ 20 ∧
      σ' = [some (.ref G.dm), some (.int (steps : Nat)), some (.ref pw), x3, x4, x5]) (stk.length - 1) ⟨n', stk, vs, x5, wt, by
        cases stk with
        | nil => exact absurd rfl hne
        | cons _ _ => simp, by omega, by omega, by omega, rfl⟩ ?_
    rintro k σ' H2 ⟨n2, stk, vs, x5, wt, hk, hsum, hn2, hl20, rfl⟩
    refine ⟨decide (1 < stk.length), Evl.et_is (et_test (ev_op (Evl.ev_len (ev_var rfl) (Evl.sq_of wt.at_)) ev_c rv_I0)) (by rw [wt.len]; exact decide_eq_decide.mpr (by omega)), fun hb H3 e3 => ?_, fun hb H3 e3 => ?_⟩
    · have hb := of_decide_eq_true hb
      refine ⟨fun σ2 H2 => ∃ k', k' < k ∧ ∃ (n' : Nat) (stk : List Xp) (vs : List V) (x5 : Option V), Wt G H pw n' stk vs H2 ∧ stk.length = k' + 1 ∧ wsum stk + 10 * stk.length ≤ 2000 ∧ n' + stk.length ≤ n + 600 ∧ stk.length ≤ 20 ∧
        σ2 = [some (.ref G.dm), some (.int (steps : Nat)), some (.ref pw), x3, x4, x5], fun _ _ h => h, ?_⟩
      obtain ⟨s0, one, rfl⟩ := snoc_of (show stk ≠ [] by intro z; rw [z] at hb; simp at hb)
      obtain ⟨s1, a, rfl⟩ := snoc_of (show s0 ≠ [] by intro z; rw [z] at hb; simp at hb)
      have w3 := wt.ex e3
      obtain ⟨ys, y, rfl, tys, ty⟩ := w3.top
      refine pop_run (ev_var rfl) w3.at_ fun H4 e4 => ?_
      have w4 := (w3.ex e4).set (stk' := s1 ++ [a]) (tys.ex e4) (fun e he => wt.good e (List.mem_append_left _ he))
      have ty4 : Tp (upd H4 pw (.lst ys)) (xpD one) y := Tp.mono ((Tk.refl H4).lst (w3.ex e4).at_) _ _ (ty.ex e4)
      refine st_app_raw (ev_var rfl) w4.at_ fun H5 e5 => ?_
      have w5 := w4.ex e5
      refine op_runL (xs := [.str "plus", .str "less", .str "times", .str "over"]) (Evl.el_lst (ea_cons ev_c (ea_cons ev_c (ea_cons ev_c (ea_cons ev_c ea_nil)))) (by simp)) fun p6 H6 hp6 e6 h6 => ?_
      have w6 := w5.ex e6
      refine draw_run (i := 0) 4 rfl w6.mm (by decide) (by omega) fun r7 H7 hr7 f7 m7 => ?_
      have w7 := w6.go f7 m7
      have h7 := f7.at_ h6 (w5.mm.fresh hp6)
      obtain ⟨o, ho⟩ := ops4_at hr7
      refine ⟨p6, _, _, _, rfl, rfl, Evl.sq_of h7, atI_nat ho, ?_⟩
      obtain ⟨us, u, rfl, tus, tu⟩ := w7.top
      refine pop_run (ev_var rfl) w7.at_ fun H8 e8 => ?_
      have w8 := (w7.ex e8).set (stk' := s1) (tus.ex e8) (fun e he => w4.good e (List.mem_append_left _ he))
      have tk8 : Tk H7 (upd H8 pw (.lst us)) := (Ex.tk e8).lst (w7.ex e8).at_
      refine ⟨_, rfl, Evl.sz_of (by simp), fun p9 hp9 => ?_⟩
      have w9 := w8.ex (Ex.new (o := .tup [.str (opS o), u, y]) hp9)
      simp only [List.length_append, List.length_cons, List.length_nil] at hk hsum hn2 hl20
      refine ⟨pw, us, .ref p9, rfl, rfl, w9.at_, Evl.sz_lt (by rw [w9.len]; omega), ?_⟩
      have tu9 := (Tp.mono tk8 _ _ tu).ex (Ex.new (o := .tup [.str (opS o), u, y]) hp9)
      have ty9 := (Tp.mono (((Ex.tk (e5.trans e6)).trans (fr_tk w6.mm f7)).trans tk8) _ _ ty4).ex (Ex.new (o := .tup [.str (opS o), u, y]) hp9)
      have gone : gx one := wt.good one (by simp)
      have ga : gx a := wt.good a (by simp)
      have hs3 : wsum s1 + wb a + wb one + 10 * (s1.length + 2) ≤ 2000 := by
        rw [wsum_app, wsum_app, wsum_one, wsum_one] at hsum
        omega
      refine ⟨s1.length, by omega, _, s1 ++ [.bin o a one], _, _, w9.set (stk' := s1 ++ [.bin o a one]) (by rw [List.map_append]; exact Tps.append w9.tp (Tps.one (Tp.ofTup upd_same (Tps.cons (Tp.ofStr _) (Tps.cons tu9 (Tps.one ty9)))))) ?_, by simp, ?_, by simp; omega, by simp; omega, rfl⟩
      · intro e he
        rcases List.mem_append.mp he with h | h
        · exact w9.good e h
        · rw [List.mem_singleton.mp h]
          exact ⟨ga, gone⟩
      · rw [wsum_app, wsum_one, List.length_append]
        show wsum s1 + (wb a + wb one + 10) + 10 * (s1.length + 1) ≤ 2000
        omega
    · have hb := of_decide_eq_false hb
      have w3 := wt.ex e3
      match stk, hk, hb, hsum, w3 with
      | [e], _, _, hsum, w3 =>
        have tp := w3.tp
        have tp : Tps H3 [xpD e] vs := tp
        rw [Tps] at tp
        obtain ⟨v, r, rfl, hv, hr2⟩ := tp
        refine s_ret (ev_op (ev_var rfl) ev_c (Evl.rv_ixL (v := v) (Evl.sq_of w3.at_) (atI_nat (j := 0) rfl))) fun H4 e4 => ?_
        have w4 := w3.ex e4
        rw [wsum_one] at hsum
        refine kk e v H4 n2 (w4.good e (by simp)) (by omega) w4.fr w4.mm ?_ (hv.ex e4)
        omega
      | a :: b :: r, _, hb, _, _ => simp at hb
end
end K83
end
section
set_option maxRecDepth 100000
set_option maxHeartbeats 1000000
namespace K83
open PySem PySem.Spec PyProof.Rows L2
open Evl (Ex Ev EvT EvA EvL EvU EvO RV RU RC ev_var ev_c ev_op ev_un ev_if ev_andV ev_orV ev_notV et_test et_B et_and et_or et_not ea_nil ea_cons ev_cb q_asg q_asgL q_asgU q_if q_when s_asg s_ret s_if s_when s_drop q_drop rv_I0 rv_I rv_eq rv_ne rv_val el_sl eo_none eo_some tCut pss_cut q_cut)
def lvl : Xp → Nat
  | .bin o _ _ => o.lev
  | .neg _ => 3
  | .pow _ _ => 4
  | _ => 5
def lvK : List (Key × V) := [(.inr "plus", .int 1), (.inr "less", .int 1), (.inr "times", .int 2), (.inr "over", .int 2), (.inr "minus", .int 3), (.inr "power", .int 4)]
theorem lvK_at (e : Xp) : (valV (mergeK [] lvK) (.inr (headS e))).getD (.int 5) = .int (lvl e : Nat) := by
  cases e with
  | bin o a b => cases o <;> rfl
  | rt m a => cases m <;> rfl
  | _ => rfl
def spLevel (K : PySem.W.Frag) : Sp := fun vs H Q _ => ∃ (e : Xp) (v : V), vs = [v] ∧ Tp H (xpD e) v ∧ ∀ H', Ex H H' → Q (.int (lvl e : Nat)) H'
def spGap (K : PySem.W.Frag) : Sp := fun vs H Q _ => ∃ z : Str, vs = [.non, .str z] ∧ ∀ H', Ex H H' → Q (.str z) H'
section
variable {P : Program} {w : World} {K : PySem.W.Frag} {mg : Str → Option Value} {base : Heap}
abbrev N__law_gap : List Str := ["_law_m", "_law_due"]
abbrev s__law_gap : Stmt := top 49
theorem sc__law_gap : FnScope N__law_gap ["_law_m", "_law_due"] (defScope s__law_gap) := ⟨rfl, rfl, rfl, by decide +kernel, rfl, by decide +kernel, by decide +kernel⟩
theorem ok_law_gap (T : Txt w K mg) (A : DefAt K mg "_law_gap" s__law_gap) (D__law_draw : DefOk P w K mg base CX0 "_law_draw" 2 ["_law_m", "_law_many"] (spDraw K)) : DefOk P w K mg base CX0 "_law_gap" 3 ["_law_m", "_law_due"] (spGap K) := by
  refine mk_def0 A sc__law_gap (fun _ _ _ _ _ _ us hl => match us, hl with | [_, _], _ => rfl) (fun vs H Q E ⟨_, h, _⟩ => by rw [h]; rfl) (fun f cdv A outer s H vs Q E hr h => ?_)
  obtain ⟨z, rfl, kk⟩ := h
  refine ⟨_, (pss_one (ps_ret (pe_ifExp (pt_cmpR op_isN (pv 0) pe_non (nomark _)) (pv 1) (pe_ix ix_list (pe_lst (pa_cons pe_str (pa_cons pe_str (pa_cons pe_str (pa_cons (pv 1) pa_nil))))) (pe_def D__law_draw (hr.mono (by decide)) rfl pass0 (pa_cons (pv 0) (pa_cons pe_int pa_nil))) (fun _ _ => rfl))))), ?_⟩
  exact s_ret (ev_if (b := true) (Evl.et_is (et_test (ev_op (ev_var rfl) ev_c rv_isN)) rfl) (fun _ => ev_var rfl) (fun h => by cases h)) kk
abbrev N__law_level : List Str := ["_law_tree_here"]
abbrev s__law_level : Stmt := top 48
theorem sc__law_level : FnScope N__law_level ["_law_tree_here"] (defScope s__law_level) := ⟨rfl, rfl, rfl, by decide +kernel, rfl, by decide +kernel, by decide +kernel⟩
theorem ok_law_level (T : Txt w K mg) (A : DefAt K mg "_law_level" s__law_level) : DefOk P w K mg base CX0 "_law_level" 1 ["_law_tree_here"] (spLevel K) := by
  refine mk_def0 A sc__law_level (fun _ _ _ _ _ _ us hl => match us, hl with | [_], _ => rfl) (fun vs H Q E ⟨_, _, h, _⟩ => by rw [h]; rfl) (fun f cdv A outer s H vs Q E hr h => ?_)
  obtain ⟨e, v, rfl, tv, kk⟩ := h
  refine ⟨_, (pss_one (ps_ret (pe_dget2 (huR hr) (pe_disp (pps_cons pe_str pe_int (pps_cons pe_str pe_int (pps_cons pe_str pe_int (pps_cons pe_str pe_int (pps_cons pe_str pe_int (pps_cons pe_str pe_int pps_nil)))))) (by rfl) (by rfl) (fun z => by cases z) (by decide)) (pe_ix ix_tup (pv 0) pe_int (fun _ _ => rfl)) pe_int ⟨rfl, rfl, rfl, rfl⟩))), ?_⟩
  refine fun p hp => ⟨upd_same, lvK, rfl, by decide, ?_⟩
  obtain ⟨ds, hds⟩ := xpD_tup e
  have x1 : Ex H (upd (upd H p (.dK [])) p (.dK (mergeK [] lvK))) := by
    rw [upd_upd]
    exact Ex.new hp
  refine ⟨p, rfl, Or.inl ⟨_, Or.inl upd_same⟩, ?_⟩
  refine (ed_ixT (j := 0) (ds := .str (headS e) :: ds) (ed_var rfl (by rw [← hds]; exact tv.ex x1)) rfl) _ (Ex.refl _) _ fun u H2 e2 tu => ?_
  obtain rfl := tu.str
  refine ⟨_, Or.inl ⟨_, .inr (headS e), Or.inl (e2 _ _ upd_same), rfl, rfl⟩, ?_⟩
  rw [lvK_at]
  exact kk H2 (x1.trans e2)
end
end K83
end
section
set_option maxRecDepth 100000
set_option maxHeartbeats 1000000
namespace K83
open PySem PySem.Spec PyProof.Rows L2
open Evl (Ex Ev EvT EvA EvL EvU EvO RV RU RC ev_var ev_c ev_op ev_un ev_if ev_andV ev_orV ev_notV et_test et_B et_and et_or et_not ea_nil ea_cons ev_cb q_asg q_asgL q_asgU q_if q_when s_asg s_ret s_if s_when s_drop q_drop rv_I0 rv_I rv_eq rv_ne rv_val el_sl eo_none eo_some tCut pss_cut q_cut)
def sgn (c : Nat) : Bool := isFig c || isLet c || isSig c || decide (c = 32)
theorem num_str (n : Nat) : (Str.ofString (toString (n : Int)) : Str) = mkS (TL.numL n) := by
  rw [mkS_eq (Str.ofString (toString (n : Int)))]
  congr 1
  exact TL.tl_num n
theorem fig_of {c : Nat} (h : 48 ≤ c ∧ c ≤ 57) : isFig c = true := by
  refine decide_eq_true ?_
  have : c = 48 ∨ c = 49 ∨ c = 50 ∨ c = 51 ∨ c = 52 ∨ c = 53 ∨ c = 54 ∨ c = 55 ∨ c = 56 ∨ c = 57 := by omega
  simpa [figs] using this
theorem numL_sgn (n : Nat) : (TL.numL n).all sgn = true := by
  rw [List.all_eq_true]
  intro c hc
  unfold sgn
  rw [fig_of (TL.numL_digits n c hc)]
  rfl
theorem low_sgn {l : List Nat} (h : l.all isLet = true) : l.all sgn = true := by
  rw [List.all_eq_true] at h ⊢
  intro c hc
  unfold sgn
  rw [h c hc, Bool.or_true]
  rfl
section
variable {K : PySem.W.Frag} {σ : L2.St} {H : Hp} {i : Nat} {z : Str} {E : XK} {ta : TE}
theorem ev_gap (h : σ[i]? = some (some .non)) : Ev (tCall (spGap K) [] E (tCons (tVar i) (tCons (tC (.str z)) tNil))) σ H (.str z) := Evl.ev_call (ea_cons (ev_var h) (ea_cons ev_c ea_nil)) fun H1 _ Q q _ => ⟨z, rfl, q⟩
theorem rv_cat {a b : List Nat} (h : a.length + b.length ≤ 100000) : RV (fun x y H Q => ∃ i j, x = .str i ∧ y = .str j ∧ i.length + j.length ≤ sizeLine ∧ Q (.str (i ++ j)) H) (wV a) (wV b) H (wV (a ++ b)) := fun H1 _ Q q => ⟨mkS a, mkS b, rfl, rfl, by
  rw [mkS_len, mkS_len]
  exact small_len h, by
  have : mkS a ++ mkS b = mkS (a ++ b) := by
    show (⟨a.toArray ++ b.toArray⟩ : Str) = ⟨(a ++ b).toArray⟩
    congr 1
    simp
  rw [this]
  exact q H1 (Ex.refl H1)⟩
theorem rc_strN {n : Nat} (h : n < 10 ^ 30) : RC (fun xs H Q => ∃ i, xs = [.int i] ∧ i.natAbs.log2 < 1920 ∧ Q (.str (toString i)) H) [.int (n : Nat)] H (wV (TL.numL n)) := fun H1 _ Q q =>
  ⟨(n : Nat), rfl, by
    show n.log2 < 1920
    by_cases h0 : n = 0
    · subst h0; decide
    · exact (Nat.log2_lt h0).mpr (Nat.lt_of_lt_of_le h (by decide)), by
    have := q H1 (Ex.refl H1)
    show Q (.str (Str.ofString (toString (n : Int)))) H1
    rw [num_str]
    exact this⟩
end
def pcs (i : Int) : List Nat := (if i < 0 then [45] else []) ++ TL.numL i.natAbs
def plainT : Xp → List Nat
  | .num n => TL.numL n
  | .name w => w.cps.toList
  | .root row k => [114, 111, 111, 116, 40, 91] ++ TL.joinL [44, 32] (row.map pcs) ++ [93, 44] ++ [32] ++ TL.numL k ++ [41]
  | _ => []
def spPlain (K : PySem.W.Frag) : Sp := fun vs H Q _ => ∃ (e : Xp) (v : V), vs = [v, .non] ∧ Tp H (xpD e) v ∧ leafP e = true ∧ gx e ∧ ∀ H', Ex H H' → Q (wV (plainT e)) H'
theorem numL_30 {n : Nat} (h : n < 10 ^ 30) : (TL.numL n).length ≤ 30 := TL.numL_len (by decide) h
theorem joinL_sgn (a : List Nat) (ha : a.all sgn = true) : ∀ (ws : List (List Nat)), (∀ w ∈ ws, w.all sgn = true) → (TL.joinL a ws).all sgn = true
  | [], _ => rfl
  | [p], h => h p (List.mem_cons_self ..)
  | p :: q :: r, h => by
    rw [TL.joinL, List.all_append, List.all_append, h p (List.mem_cons_self ..), ha, joinL_sgn a ha (q :: r) fun w hw => h w (List.mem_cons_of_mem _ hw)]
    rfl
theorem pcs_sgn (i : Int) : (pcs i).all sgn = true := by
  unfold pcs
  rw [List.all_append, numL_sgn]
  split <;> rfl
theorem pcs_len {i : Int} {k : Nat} (hk : 0 < k) (h : i.natAbs < 10 ^ k) : (pcs i).length ≤ k + 1 := by
  unfold pcs
  have := TL.numL_len hk h
  rw [List.length_append]
  split
  · simp only [List.length_cons, List.length_nil]; omega
  · simp only [List.length_nil]; omega
theorem sum_small : ∀ (a : List Int), (∀ i ∈ a, i.natAbs ≤ 9) → ((a.map pcs).map List.length).sum ≤ 2 * a.length
  | [], _ => by simp
  | i :: a, h => by
    have h1 := pcs_len (i := i) (k := 1) (by decide) (by have := h i (List.mem_cons_self ..); omega)
    have h2 := sum_small a fun j hj => h j (List.mem_cons_of_mem _ hj)
    simp only [List.map_cons, List.sum_cons, List.length_cons]
    omega
theorem plainT_ok {e : Xp} (hl : leafP e = true) (hg : gx e) : (plainT e).all sgn = true ∧ (plainT e).length ≤ 120 := by
  cases e with
  | num n => exact ⟨numL_sgn n, by have := numL_30 hg; show (TL.numL n).length ≤ 120; omega⟩
  | name w =>
    obtain ⟨l, rfl, h⟩ := hg
    show (mkS l).cps.toList.all sgn = true ∧ (mkS l).cps.toList.length ≤ 120
    rw [mkS_list]
    exact ⟨low_sgn h.1, by have := h.2.2; omega⟩
  | root row k =>
    obtain ⟨a, b, rfl, h1, h2, h3, h4, h5⟩ := hg
    have hk := TL.numL_len (n := k) (k := 2) (by decide) (by omega)
    have hs := sum_small a h2
    have hb := pcs_len (i := b) (k := 30) (by decide) h3
    have hj := joinL_len [44, 32] ((a ++ [b]).map pcs)
    rw [List.map_append, List.map_append, List.sum_append] at hj
    simp only [List.map_cons, List.map_nil, List.sum_cons, List.sum_nil, List.length_append, List.length_map, List.length_cons, List.length_nil] at hj
    refine ⟨?_, ?_⟩
    · show ([114, 111, 111, 116, 40, 91] ++ TL.joinL [44, 32] ((a ++ [b]).map pcs) ++ [93, 44] ++ [32] ++ TL.numL k ++ [41]).all sgn = true
      rw [List.all_append, List.all_append, List.all_append, List.all_append, List.all_append, numL_sgn, joinL_sgn [44, 32] (by decide) _ fun w hw => by
        obtain ⟨i, _, rfl⟩ := List.mem_map.mp hw
        exact pcs_sgn i]
      decide
    · show ([114, 111, 111, 116, 40, 91] ++ TL.joinL [44, 32] ((a ++ [b]).map pcs) ++ [93, 44] ++ [32] ++ TL.numL k ++ [41]).length ≤ 120
      simp only [List.length_append, List.length_cons, List.length_nil, List.map_append, List.map_cons, List.map_nil] at hj ⊢
      omega
  | _ => cases hl
end K83
end
section
set_option maxRecDepth 100000
set_option maxHeartbeats 1000000
namespace K83
open PySem PySem.Spec PyProof.Rows L2
open Evl (Ex Ev EvT EvA EvL EvU EvO RV RU RC ev_var ev_c ev_op ev_un ev_if ev_andV ev_orV ev_notV et_test et_B et_and et_or et_not ea_nil ea_cons ev_cb q_asg q_asgL q_asgU q_if q_when s_asg s_ret s_if s_when s_drop q_drop rv_I0 rv_I rv_eq rv_ne rv_val el_sl eo_none eo_some tCut pss_cut q_cut)
theorem Tps.intsOf {H : Hp} : ∀ {row : List Int} {xs : List V}, Tps H (row.map .int) xs → xs = row.map V.int
  | [], xs, h => by
    rw [List.map_nil, Tps] at h
    exact h
  | i :: row, xs, h => by
    rw [List.map_cons, Tps] at h
    obtain ⟨x, r, rfl, t1, t2⟩ := h
    obtain rfl := t1.int
    rw [List.map_cons, Tps.intsOf t2]
theorem abs_nat (i : Int) : (if i < 0 then -i else i) = ((i.natAbs : Nat) : Int) := by split <;> omega
theorem repS_minus (b : Bool) : repS "-" (if b then 1 else 0) = mkS (if b then [45] else []) := by
  cases b
  · rfl
  · decide +kernel
section
variable {K : PySem.W.Frag} {σ : L2.St} {H : Hp} {to ta : TE} {a : List Nat} {ws : List (List Nat)} {p : Addr}
theorem ev_join (hs : Ev to σ H (wV a)) (ha : Ev ta σ H (.ref p)) (hp : H p = some (.lst (ws.map wV))) (hz : (ws.map List.length).sum + ws.length * a.length ≤ 1000000) :
    Ev (tBM K "str" (fun x xs H Q => ∃ a p, ∃ ys : List Str, x = .str a ∧ xs = [.ref p] ∧ (SqL K H p (ys.map V.str) ∨ SqT K H p (ys.map V.str)) ∧ (ys.map (·.length)).sum + ys.length * a.length ≤ 16777216 ∧ Q (.str (Txt.join a ys)) H) to (tCons ta tNil)) σ H (wV (TL.joinL a ws)) := fun H1 e Q q =>
  hs H1 e _ fun H2 e2 => ⟨rfl, ha H2 (e.trans e2) _ fun H3 e3 => ⟨mkS a, p, ws.map mkS, rfl, rfl, Or.inl (Evl.sq_of (by rw [List.map_map]; exact e3 _ _ (e2 _ _ (e _ _ hp)))), by
    have e1 : (ws.map mkS).map (·.length) = ws.map List.length := by
      rw [List.map_map]
      exact List.map_congr_left fun w _ => mkS_len w
    rw [e1, List.length_map, mkS_len]
    omega, by
    rw [join_mk]
    exact q H3 (e2.trans e3)⟩⟩
theorem rv_mulS {b : Bool} : RV rMulS (.str "-") (.int ((if b then 1 else 0 : Nat) : Int)) H (wV (if b then [45] else [])) := fun H1 _ Q q => ⟨"-", if b then 1 else 0, rfl, rfl, by cases b <;> decide, by decide +kernel, by
  have := q H1 (Ex.refl H1)
  rw [repS_minus]
  exact this⟩
theorem rc_abs {i : Int} : RC (fun xs H Q => ∃ i, xs = [.int i] ∧ Q (.int (if i < 0 then -i else i)) H) [.int i] H (.int ((i.natAbs : Nat) : Int)) := fun H1 _ Q q => ⟨i, rfl, by
  rw [abs_nat]
  exact q H1 (Ex.refl H1)⟩
end
theorem leaf_root {e : Xp} (hl : leafP e = true) : (∃ row k, e = .root row k) ∨ (headS e ≠ "root" ∧ ∃ d, xpD e = .tuple [.str (headS e), d] ∧ ((∃ n, e = .num n ∧ d = .int n) ∨ ∃ w, e = .name w ∧ d = .str w)) := by
  cases e with
  | num n => exact Or.inr ⟨(show ("number" : Str) ≠ "root" by decide +kernel), _, rfl, Or.inl ⟨n, rfl, rfl⟩⟩
  | name w => exact Or.inr ⟨(show ("name" : Str) ≠ "root" by decide +kernel), _, rfl, Or.inr ⟨w, rfl, rfl⟩⟩
  | root r k => exact Or.inl ⟨r, k, rfl⟩
  | _ => cases hl
section
variable {P : Program} {w : World} {K : PySem.W.Frag} {mg : Str → Option Value} {base : Heap}
abbrev N__law_plain_text : List Str := ["_law_tree_here", "_law_m", "_law_some", "_law_number", "_law_told_here"]
abbrev s__law_plain_text : Stmt := top 50
theorem sc__law_plain_text : FnScope N__law_plain_text ["_law_tree_here", "_law_m"] (defScope s__law_plain_text) := ⟨rfl, rfl, rfl, by decide +kernel, rfl, by decide +kernel, by decide +kernel⟩
theorem ok_law_plain_text (T : Txt w K mg) (A : DefAt K mg "_law_plain_text" s__law_plain_text) (D__law_gap : DefOk P w K mg base CX0 "_law_gap" 3 ["_law_m", "_law_due"] (spGap K)) : DefOk P w K mg base CX0 "_law_plain_text" 4 ["_law_tree_here", "_law_m"] (spPlain K) := by
  refine mk_def0 A sc__law_plain_text (fun _ _ _ _ _ _ us hl => match us, hl with | [_, _], _ => rfl) (fun vs H Q E ⟨_, _, h, _⟩ => by rw [h]; rfl) (fun f cdv A outer s H vs Q E hr h => ?_)
  obtain ⟨e, v, rfl, tv, hlf, hg, kk⟩ := h
  refine ⟨_, (pss_cons (ps_if (pt_cmpR (op_neX hr.units) (pe_ix ix_tup (pv 0) pe_int (fun _ _ => rfl)) pe_str (nomark _)) (pss_one (ps_ret (pe_callTy (call_str_int.or SkE.call_str_str) (by rfl) T.f_str (by decide +kernel) (pa_cons (pe_ix ix_tup (pv 0) pe_int (fun _ _ => rfl)) pa_nil)))) pss_nil)
      (pss_cons (ps_set (i := 2) sc__law_plain_text.nd rfl (Or.inl rfl) (pe_lst pa_nil))
      (pss_cons (ps_for PassesOwn.never rfl (pi_tup (pe_ix ix_tup (pv 0) pe_int (fun _ _ => rfl))) (pg_name (i := 3) sc__law_plain_text.nd rfl (Or.inl rfl)) (pss_one (ps_expr (pe_bm PySem.F.plainAttrs_list PySem.F.slot_list_append PySem.F.type_list_append mt_append (pv 2) (pa_cons (pe_op op_add_str (pe_op op_add_str (pe_op op_mulS pe_str (pe_callTy call_int1 (by rfl) T.f_int (by decide +kernel) (pa_cons (pe_cmpR op_lt (pv 3) pe_int (nomark _)) pa_nil))) (pe_def D__law_gap (hr.mono (by decide)) rfl pass0 (pa_cons (pv 1) (pa_cons pe_str pa_nil)))) (pe_callTy call_str_int (by rfl) T.f_str (by decide +kernel) (pa_cons (pe_callB call_abs (by rfl) T.f_abs (by decide +kernel) (pa_cons (pv 3) pa_nil)) pa_nil))) pa_nil)))))
      (pss_cons (ps_set (i := 4) sc__law_plain_text.nd rfl (Or.inl rfl) (pe_lst (pa_cons pe_str (pa_cons pe_str (pa_cons pe_str (pa_cons (pe_bm PySem.F.plainAttrs_str PySem.F.slot_str_join PySem.F.type_str_join mt_join (pe_op op_add_str pe_str (pe_def D__law_gap (hr.mono (by decide)) rfl pass0 (pa_cons (pv 1) (pa_cons pe_str pa_nil)))) (pa_cons (pv 2) pa_nil)) (pa_cons pe_str (pa_cons pe_str pa_nil))))))))
      (pss_one (ps_ret (pe_op op_add_str (pe_op op_add_str (pe_op op_add_str (pe_op op_add_str (pe_bm PySem.F.plainAttrs_str PySem.F.slot_str_join PySem.F.type_str_join mt_join (pe_def D__law_gap (hr.mono (by decide)) rfl pass0 (pa_cons (pv 1) (pa_cons pe_str pa_nil))) (pa_cons (pv 4) pa_nil)) (pe_def D__law_gap (hr.mono (by decide)) rfl pass0 (pa_cons (pv 1) (pa_cons pe_str pa_nil)))) (pe_callTy call_str_int (by rfl) T.f_str (by decide +kernel) (pa_cons (pe_ix ix_tup (pv 0) pe_int (fun _ _ => rfl)) pa_nil))) (pe_def D__law_gap (hr.mono (by decide)) rfl pass0 (pa_cons (pv 1) (pa_cons pe_str pa_nil)))) pe_str))))))), ?_⟩
  have lay_r : (PyData.str "root").canLay0 = true := by rw [PyData.canLay0]; exact strOk_dec (by decide +kernel)
  rcases leaf_root hlf with ⟨row, k, rfl⟩ | ⟨hne, d, hd, hor⟩
  · -- a root
    have okp := plainT_ok hlf hg
    obtain ⟨a, b, hrow, g1, g2, g3, g4, g5⟩ := hg
    obtain ⟨va, vs0, rfl, hva, tvs⟩ := tv.tup
    rw [Tps] at tvs
    obtain ⟨y0, r0, rfl, ty0, tr0⟩ := tvs
    rw [Tps] at tr0
    obtain ⟨y1, r1, rfl, ty1, tr1⟩ := tr0
    rw [Tps] at tr1
    obtain ⟨y2, r2, rfl, ty2, tr2⟩ := tr1
    rw [Tps] at tr2
    subst tr2
    obtain rfl := ty0.str
    obtain rfl := ty2.int
    obtain ⟨ra, rs, rfl, hra, trs⟩ := ty1.tup
    have hrs : rs = row.map V.int := Tps.intsOf trs
    subst hrs
    have hsmall : ∀ i ∈ row, i.natAbs < 10 ^ 30 := by
      intro i hi
      rw [hrow] at hi
      rcases List.mem_append.mp hi with h | h
      · exact Nat.lt_of_le_of_lt (g2 i h) (by decide)
      · rw [List.mem_singleton.mp h]; exact g3
    have rl : row.length ≤ 17 := by rw [hrow]; simp; omega
    have hsum : ((row.map pcs).map List.length).sum ≤ 100 := by
      have h1 := sum_small a g2
      have h2 := pcs_len (i := b) (k := 30) (by decide) g3
      rw [hrow, List.map_append, List.map_append, List.sum_append]
      simp only [List.map_cons, List.map_nil, List.sum_cons, List.sum_nil]
      omega
    have tvv : Tp H (.tuple [.str "root", .tuple (row.map .int), .int k]) (.ref va) := tv
    refine q_when (b := false) (Evl.et_is (et_test (ev_eqD (neg := true) (ed_ixT (j := 0) (ds := [.str "root", .tuple (row.map .int), .int k]) (ed_var rfl tvv) rfl) ed_s lay_r lay_r (room_str _ _))) ?_) (fun h => by cases h) (fun _ H1 e1 => ?_)
    · show (!PyData.eqv (.str "root") (.str "root")) = false
      rw [PyData.eqv]
      simp
    · refine q_asgL (Evl.el_lst ea_nil (by decide)) fun p H2 hp e2 h2 => ?_
      have hp0 := ex_fresh e1 hp
      have X2 := e1.trans e2
      refine Evl.q_forT (a := ra) (xs := row.map V.int) (ev_op (ev_var rfl) ev_c (Evl.rv_ixT (Evl.st_of (X2 _ _ hva)) (atI_nat (j := 1) rfl))) (Evl.st_of (X2 _ _ hra)) (fun i σ' H' => ∃ x3, Ex H H' ∧ H' p = some (.lst (((row.take i).map pcs).map wV)) ∧ σ' = [some (.ref va), some .non, some (.ref p), x3, none])
        (fun H3 e3 => ⟨none, X2.trans e3, e3 _ _ h2, rfl⟩) (fun i σ' H' _ ⟨_, e, _, _⟩ => Evl.st_of (e _ _ hra)) ?_ ?_
      · rintro i x σ' H' hx ⟨x3, ex, hl, rfl⟩
        rw [List.getElem?_map] at hx
        obtain ⟨c, hc, rfl⟩ := Option.map_eq_some_iff.mp hx
        have hcm := hsmall c (List.mem_of_getElem? hc)
        have l30 := numL_30 hcm
        refine Evl.s_app (v := wV (pcs c)) hl (ev_var rfl) ?_ (by simp; omega) fun H3 e3 => ?_
        · have pe : pcs c = ((if decide (c < 0) then [45] else []) ++ []) ++ TL.numL c.natAbs := by
            unfold pcs
            rw [List.append_nil]
            by_cases h : c < 0 <;> simp [h]
          rw [pe]
          have l1 : (if decide (c < 0) then [45] else [] : List Nat).length ≤ 1 := by split <;> simp
          refine ev_op (ev_op (ev_op ev_c (ev_cb (ea_cons (ev_op (ev_var rfl) ev_c rv_I0) ea_nil) (rc_intB (σ := []))) rv_mulS) (ev_is' (ev_gap rfl) (x := wV []) (by rw [l_empty])) (rv_cat (by simp only [List.length_nil]; omega))) (ev_cb (ea_cons (ev_cb (ea_cons (ev_var rfl) ea_nil) rc_abs) ea_nil) (rc_strN hcm)) (rv_cat (by rw [List.length_append]; simp only [List.length_nil]; omega))
        · refine ⟨_, Ex.mut (ex.trans e3) hp0, ?_, rfl⟩
          rw [upd_same, List.take_succ, hc]
          simp
      · rintro σ' H' ⟨x3, ex, hl, rfl⟩
        rw [List.length_map, List.take_length] at hl
        have hjl : (TL.joinL [44, 32] (row.map pcs)).length ≤ 200 := by
          have := joinL_len [44, 32] (row.map pcs)
          rw [List.length_map] at this
          simp only [List.length_cons, List.length_nil] at this
          omega
        refine q_asgL (xs := [[114, 111, 111, 116], [40], [91], TL.joinL [44, 32] (row.map pcs), [93], [44]].map wV) (Evl.el_lst (ea_cons (ev_is' ev_c (by rw [l_root]; rfl)) (ea_cons (ev_is' ev_c (by rw [l_lp])) (ea_cons (ev_is' ev_c (by rw [l_lb])) (ea_cons (ev_join (a := [44, 32]) (ev_is' (ev_op (ev_is' ev_c (x := wV [44]) (by rw [l_comma])) (ev_is' (ev_gap rfl) (x := wV [32]) (by rw [l_blank])) (rv_cat (by decide))) rfl) (ev_var rfl) hl (by rw [List.length_map]; simp only [List.length_cons, List.length_nil]; omega)) (ea_cons (ev_is' ev_c (by rw [l_rb])) (ea_cons (ev_is' ev_c (by rw [l_comma])) ea_nil)))))) (by simp)) fun pt H3 hpt e3 h3 => ?_
        have hk30 : k < 10 ^ 30 := Nat.lt_of_le_of_lt g5 (by decide)
        have hk2 := numL_30 hk30
        have X3 := ex.trans e3
        refine s_ret (v := wV (((((TL.joinL [] [[114, 111, 111, 116], [40], [91], TL.joinL [44, 32] (row.map pcs), [93], [44]]) ++ [32]) ++ TL.numL k) ++ []) ++ [41])) ?_ fun H4 e4 => ?_
        · have fl : (TL.joinL [] [[114, 111, 111, 116], [40], [91], TL.joinL [44, 32] (row.map pcs), [93], [44]]).length ≤ 300 := by
            rw [joinL_nil]
            simp only [List.flatten_cons, List.flatten_nil, List.length_append, List.length_cons, List.length_nil]
            omega
          refine ev_op (ev_op (ev_op (ev_op (ev_join (ev_is' (ev_gap rfl) (x := wV []) (by rw [l_empty])) (ev_var rfl) h3 (by simp only [List.map_cons, List.map_nil, List.sum_cons, List.sum_nil, List.length_cons, List.length_nil]; omega)) (ev_is' (ev_gap rfl) (x := wV [32]) (by rw [l_blank])) (rv_cat (by simp only [List.length_cons, List.length_nil]; omega))) (ev_cb (ea_cons (ev_op (ev_var rfl) ev_c (Evl.rv_ixT (Evl.st_of (X3 _ _ hva)) (atI_nat (j := 2) rfl))) ea_nil) (rc_strN hk30)) (rv_cat (by simp only [List.length_append, List.length_cons, List.length_nil]; omega)))
            (ev_is' (ev_gap rfl) (x := wV []) (by rw [l_empty])) (rv_cat (by simp only [List.length_append, List.length_cons, List.length_nil]; omega))) (ev_is' ev_c (by rw [l_rp])) (rv_cat (by simp only [List.length_append, List.length_cons, List.length_nil]; omega))
        · have := kk H4 (X3.trans e4)
          have ep : plainT (.root row k) = ((((TL.joinL [] [[114, 111, 111, 116], [40], [91], TL.joinL [44, 32] (row.map pcs), [93], [44]]) ++ [32]) ++ TL.numL k) ++ []) ++ [41] := by
            rw [joinL_nil]
            simp [plainT]
          rwa [ep] at this
  · refine q_when (b := true) (Evl.et_is (et_test (ev_eqD (neg := true) (ed_ixT (j := 0) (ds := [.str (headS e), d]) (ed_var rfl (by rw [← hd]; exact tv)) rfl) ed_s ?_ lay_r (room_str _ _))) ?_) (fun _ H1 e1 => ?_) (fun h => by cases h)
    · have := gx_ok e hg
      unfold okX at this
      rw [hd, PyData.canLay0, PyData.canLayAll0, Bool.and_eq_true] at this
      exact this.1
    · show (!PyData.eqv (.str (headS e)) (.str "root")) = true
      rw [PyData.eqv]
      have : (headS e == ("root" : Str)) = false := beq_eq_false_iff_ne.mpr hne
      rw [this]
      rfl
    · refine (ed_ixT (j := 1) (ds := [.str (headS e), d]) (ed_var rfl (by rw [← hd]; exact tv.ex e1)) rfl) H1 (Ex.refl _) _ fun u H2 e2 tu => ?_
      rcases hor with ⟨n, rfl, rfl⟩ | ⟨z, rfl, rfl⟩
      · obtain rfl := tu.int
        exact Or.inl ((rc_strN hg) H2 (Ex.refl _) _ fun H3 e3 => kk H3 ((e1.trans e2).trans e3))
      · obtain rfl := tu.str
        obtain ⟨l, rfl, hl⟩ := hg
        have : plainT (.name (mkS l)) = l := mkS_list l
        rw [this] at kk
        exact Or.inr ⟨_, rfl, kk H2 (e1.trans e2)⟩
end
end K83
end
section
set_option maxRecDepth 100000
set_option maxHeartbeats 1000000
namespace K83
open PySem PySem.Spec PyProof.Rows L2
open Evl (Ex Ev EvT EvA EvL EvU EvO RV RU RC ev_var ev_c ev_op ev_un ev_if ev_andV ev_orV ev_notV et_test et_B et_and et_or et_not ea_nil ea_cons ev_cb q_asg q_asgL q_asgU q_if q_when s_asg s_ret s_if s_when s_drop q_drop rv_I0 rv_I rv_eq rv_ne rv_val el_sl eo_none eo_some tCut pss_cut q_cut)
def dep : Xp → Nat
  | .bin _ a b => max (dep a) (dep b) + 1
  | .neg a => dep a + 1
  | .pow a _ => dep a + 1
  | .rt _ a => dep a + 1
  | _ => 1
theorem dep_wb : ∀ (e : Xp), 120 + 10 * dep e ≤ wb e
  | .num _ => by simp [dep, wb]
  | .name _ => by simp [dep, wb]
  | .root _ _ => by simp [dep, wb]
  | .bin o a b => by
    have := dep_wb a
    have := dep_wb b
    simp only [dep, wb]
    omega
  | .neg a => by
    have := dep_wb a
    simp only [dep, wb]
    omega
  | .pow a k => by
    have := dep_wb a
    simp only [dep, wb]
    omega
  | .rt m a => by
    have := dep_wb a
    simp only [dep, wb]
    omega
/-- what a written text is -/
def okL (l : List Nat) (n : Nat) : Prop := l.all sgn = true ∧ l.length ≤ n
theorem okL.app {a b : List Nat} {n m : Nat} (h : okL a n) (g : okL b m) : okL (a ++ b) (n + m) := ⟨by rw [List.all_append, h.1, g.1]; rfl, by rw [List.length_append]; have := h.2; have := g.2; omega⟩
theorem okL.mono {a : List Nat} {n m : Nat} (h : okL a n) (g : n ≤ m) : okL a m := ⟨h.1, by have := h.2; omega⟩
def intW (k : Int) : List Nat := (if k < 0 then [45] else []) ++ [48 + k.natAbs]
def br (b : Bool) (l : List Nat) : List Nat := if b then (([40] ++ []) ++ l ++ []) ++ [41] else l
def wT : Xp → Nat → List Nat
  | .bin o a b, n => br (decide (o.lev < n)) ((((wT a o.lev ++ [32]) ++ tokW (.op o)) ++ [32]) ++ wT b (o.lev + 1))
  | .neg a, n => br (decide (3 < n)) (([45] ++ []) ++ wT a 3)
  | .pow a k, n => br (decide (4 < n)) ((((wT a 5 ++ []) ++ [94]) ++ []) ++ intW k)
  | .rt m a, n => br (decide (5 < n)) ((((tokW (.rt m) ++ []) ++ [40]) ++ wT a 1) ++ [41])
  | .num k, n => br (decide (5 < n)) (plainT (.num k))
  | .name w, n => br (decide (5 < n)) (plainT (.name w))
  | .root r k, n => br (decide (5 < n)) (plainT (.root r k))
def spWr (K : PySem.W.Frag) (d : Nat) : Sp := fun vs H Q _ => ∃ (e : Xp) (v : V) (least : Nat), vs = [v, .int (least : Nat), .non] ∧ Tp H (xpD e) v ∧ gx e ∧ dep e ≤ d ∧ wb e ≤ 3000 ∧ ∀ H', Ex H H' → Q (wV (wT e least)) H'
theorem okL.br {l : List Nat} {n : Nat} (b : Bool) (h : okL l n) : okL (br b l) (n + 2) := by
  unfold K83.br
  cases b with
  | false => exact h.mono (by omega)
  | true =>
    refine ⟨?_, ?_⟩
    · show ((([40] ++ []) ++ l ++ []) ++ [41]).all sgn = true
      rw [List.all_append, List.all_append, List.all_append, h.1]
      decide
    · have := h.2
      show ((([40] ++ []) ++ l ++ []) ++ [41]).length ≤ n + 2
      simp only [List.length_append, List.length_cons, List.length_nil]
      omega
theorem intW_ok {k : Int} (h : k.natAbs ≤ 8) : okL (intW k) 2 := by
  unfold intW
  have hf : sgn (48 + k.natAbs) = true := by
    unfold sgn
    rw [fig_of (by omega)]
    rfl
  refine ⟨?_, ?_⟩
  · rw [List.all_append]
    split <;> simp [hf] <;> decide
  · rw [List.length_append]
    split <;> simp
theorem one_ok {c : Nat} (h : sgn c = true) : okL [c] 1 := ⟨by simp [h], by simp⟩
theorem nil_ok : okL [] 0 := ⟨rfl, by simp⟩
theorem wT_ok : ∀ (e : Xp) (n : Nat), gx e → okL (wT e n) (wb e)
  | .bin o a b, n, h => by
    have ha := wT_ok a o.lev h.1
    have hb := wT_ok b (o.lev + 1) h.2
    have ho : okL (tokW (.op o)) 1 := by cases o <;> exact one_ok (by decide)
    exact (((((ha.app (one_ok (c := 32) (by decide))).app ho).app (one_ok (c := 32) (by decide))).app hb).br _).mono (by simp only [wb]; omega)
  | .neg a, n, h => (((one_ok (c := 45) (by decide)).app nil_ok).app (wT_ok a 3 h)).br _ |>.mono (by simp only [wb]; omega)
  | .pow a k, n, h => (((((wT_ok a 5 h.1).app nil_ok).app (one_ok (c := 94) (by decide))).app nil_ok).app (intW_ok h.2)).br _ |>.mono (by simp only [wb]; omega)
  | .rt m a, n, h => by
    have ho : okL (tokW (.rt m)) 4 := by cases m <;> exact ⟨by decide, by decide⟩
    exact ((((ho.app nil_ok).app (one_ok (c := 40) (by decide))).app (wT_ok a 1 h)).app (one_ok (c := 41) (by decide))).br _ |>.mono (by simp only [wb]; omega)
  | .num k, n, h => (okL.br _ (plainT_ok (e := .num k) rfl h)).mono (by simp only [wb]; omega)
  | .name k, n, h => (okL.br _ (plainT_ok (e := .name k) rfl h)).mono (by simp only [wb]; omega)
  | .root r k, n, h => (okL.br _ (plainT_ok (e := .root r k) rfl h)).mono (by simp only [wb]; omega)
theorem dep_pos (e : Xp) : 1 ≤ dep e := by cases e <;> simp [dep]
theorem mk_false {P : Program} {w : World} {K : PySem.W.Frag} {mg : Str → Option Value} {base : Heap} {x : Str} {st : Stmt} {N ps : List Str} {k : Nat} {sp : Sp} (A : DefAt K mg x st) (S : FnScope N ps (defScope st))
    (hb : ∀ (kV doc pm : Value) (an : Option Addr) (cdv ct : Value) (us : List Value), us.length = ps.length → bindArgs (PySem.W.fnOf x x (defArgs st) (defBody st) (defScope st) .none kV doc pm an cdv ct) ⟨us, []⟩ = pure (ps.zip us))
    (h : ∀ vs H Q E, ¬ sp vs H Q E) : DefOk P w K mg base CX0 x (k + 1) ps sp :=
  mk_def0 A S hb (fun vs H Q E q => (h vs H Q E q).elim) fun f cdv A outer s H vs Q E hr q => (h vs H Q E q).elim
abbrev N__law_written : List Str := ["_law_tree_here", "_law_least", "_law_m", "_law_word_here", "_law_level_here", "_law_found", "_law_gap_here", "_law_mark"]
abbrev s__law_written : Stmt := top 51
theorem sc__law_written : FnScope N__law_written ["_law_tree_here", "_law_least", "_law_m"] (defScope s__law_written) := ⟨rfl, rfl, rfl, by decide +kernel, rfl, by decide +kernel, by decide +kernel⟩
end K83
end
section
set_option maxRecDepth 100000
set_option maxHeartbeats 1000000
namespace K83
open PySem PySem.Spec PyProof.Rows L2
open Evl (Ex Ev EvT EvA EvL EvU EvO RV RU RC ev_var ev_c ev_op ev_un ev_if ev_andV ev_orV ev_notV et_test et_B et_and et_or et_not ea_nil ea_cons ev_cb q_asg q_asgL q_asgU q_if q_when s_asg s_ret s_if s_when s_drop q_drop rv_I0 rv_I rv_eq rv_ne rv_val el_sl eo_none eo_some tCut pss_cut q_cut)
theorem intW_pos : ∀ n : Nat, n < 9 → (Str.ofString (toString (n : Int)) : Str) = mkS (intW (n : Int)) := by decide +kernel
theorem intW_neg : ∀ n : Nat, n < 9 → (Str.ofString (toString (-(n : Int))) : Str) = mkS (intW (-(n : Int))) := by decide +kernel
theorem intW_str {k : Int} (h : k.natAbs ≤ 8) : (Str.ofString (toString k) : Str) = mkS (intW k) := by
  rcases Int.natAbs_eq k with e | e
  · rw [e]; exact intW_pos _ (by omega)
  · rw [e]; exact intW_neg _ (by omega)
def mkK : List (Key × V) := [(.inr "plus", .str "+"), (.inr "less", .str "-"), (.inr "times", .str "*"), (.inr "over", .str "/")]
theorem mkK_at (o : Op) : valV (mergeK [] mkK) (.inr (opS o)) = some (wV (tokW (.op o))) := by
  cases o
  · show some (V.str "+") = _; rw [l_plus]; rfl
  · show some (V.str "-") = _; rw [l_minus]; rfl
  · show some (V.str "*") = _; rw [l_times]; rfl
  · show some (V.str "/") = _; rw [l_over]; rfl
def inn : Xp → List Nat
  | .bin o a b => (((wT a o.lev ++ [32]) ++ tokW (.op o)) ++ [32]) ++ wT b (o.lev + 1)
  | .neg a => ([45] ++ []) ++ wT a 3
  | .pow a k => (((wT a 5 ++ []) ++ [94]) ++ []) ++ intW k
  | .rt m a => (((tokW (.rt m) ++ []) ++ [40]) ++ wT a 1) ++ [41]
  | .num k => plainT (.num k)
  | .name w => plainT (.name w)
  | .root r k => plainT (.root r k)
theorem wT_eq (e : Xp) (n : Nat) : wT e n = br (decide (lvl e < n)) (inn e) := by cases e <;> rfl
theorem inn_leaf {e : Xp} (h : leafP e = true) : inn e = plainT e := by cases e <;> first | rfl | cases h
theorem inn_len (e : Xp) (h : gx e) : (inn e).length ≤ wb e := by
  have h1 := (wT_ok e 0 h).2
  rw [wT_eq, decide_eq_false (by omega)] at h1
  exact h1
theorem rc_strI {k : Int} (h : k.natAbs ≤ 8) {H : Hp} : RC (fun xs H Q => ∃ i, xs = [.int i] ∧ i.natAbs.log2 < 1920 ∧ Q (.str (toString i)) H) [.int k] H (wV (intW k)) := fun H1 _ Q q => ⟨k, rfl, by
    have : k.natAbs.log2 ≤ k.natAbs := Nat.log2_le_self _
    omega, by
    have := q H1 (Ex.refl H1)
    show Q (.str (Str.ofString (toString k))) H1
    rw [intW_str h]
    exact this⟩
theorem ev_mark {σ : L2.St} {H : Hp} {ty : TE} {o : Op} (h : Ev ty σ (H) (.str (opS o))) : Ev (tDGet (tDisp [(tC (.str "plus"), tC (.str "+")), (tC (.str "less"), tC (.str "-")), (tC (.str "times"), tC (.str "*")), (tC (.str "over"), tC (.str "/"))]) ty) σ H (wV (tokW (.op o))) := fun H1 e Q q p hp => ⟨upd_same, mkK, rfl, by decide, by
  have x1 : Ex H1 (upd (upd H1 p (.dK [])) p (.dK (mergeK [] mkK))) := by
    rw [upd_upd]
    exact Ex.new hp
  refine h _ (e.trans x1) _ fun H2 e2 => ⟨p, _, rfl, Or.inl ⟨_, .inr (opS o), Or.inl (e2 _ _ upd_same), rfl, (mkK_at o).symm⟩, q H2 (x1.trans e2)⟩⟩
theorem plain_head {e : Xp} : inV (.str (headS e)) [.str "number", .str "name", .str "root"] = leafP e := by
  cases e with
  | bin o a b => exact op_plain o
  | rt m a => exact rt_plain m
  | neg a => show inV (.str "minus") _ = false; decide +kernel
  | pow a k => show inV (.str "power") _ = false; decide +kernel
  | num n => rfl
  | name n => rfl
  | root r k => rfl
section
variable {P : Program} {w : World} {K : PySem.W.Frag} {mg : Str → Option Value} {base : Heap}
theorem ok_law_written (T : Txt w K mg) (A : DefAt K mg "_law_written" s__law_written) (D__law_draw : DefOk P w K mg base CX0 "_law_draw" 2 ["_law_m", "_law_many"] (spDraw K)) (D__law_gap : DefOk P w K mg base CX0 "_law_gap" 3 ["_law_m", "_law_due"] (spGap K))
    (D__law_level : DefOk P w K mg base CX0 "_law_level" 1 ["_law_tree_here"] (spLevel K)) (D__law_plain_text : DefOk P w K mg base CX0 "_law_plain_text" 4 ["_law_tree_here", "_law_m"] (spPlain K)) :
    ∀ d, DefOk P w K mg base CX0 "_law_written" (5 + d) ["_law_tree_here", "_law_least", "_law_m"] (spWr K d)
  | 0 => mk_false A sc__law_written (fun _ _ _ _ _ _ us hl => match us, hl with | [_, _, _], _ => rfl) (fun vs H Q E ⟨e, _, _, _, _, _, h, _⟩ => by have := dep_pos e; omega)
  | d + 1 => by
    have D__law_written := ok_law_written T A D__law_draw D__law_gap D__law_level D__law_plain_text d
    refine mk_def0 (k := 5 + d) A sc__law_written (fun _ _ _ _ _ _ us hl => match us, hl with | [_, _, _], _ => rfl) (fun vs H Q E ⟨_, _, _, h, _⟩ => by rw [h]; rfl) (fun f cdv A outer s H vs Q E hr h => ?_)
    obtain ⟨e, v, least, rfl, tv, hg, hd, hw, kk⟩ := h
    refine ⟨_, (pss_cons (ps_set (i := 3) sc__law_written.nd rfl (Or.inl rfl) (pe_ix ix_tup (pv 0) pe_int (fun _ _ => rfl)))
      (pss_cons (ps_set (i := 4) sc__law_written.nd rfl (Or.inl rfl) (pe_def D__law_level (hr.mono (by omega)) rfl pass0 (pa_cons (pv 0) pa_nil)))
      (pss_cut (ps_if (pt_cmpR op_in_seq (pv 3) (pe_tup (pa_cons pe_str (pa_cons pe_str (pa_cons pe_str pa_nil)))) rfl) (pss_one (ps_set (i := 5) sc__law_written.nd rfl (Or.inl rfl) (pe_def D__law_plain_text (hr.mono (by omega)) rfl pass0 (pa_cons (pv 0) (pa_cons (pv 2) pa_nil))))) (pss_one (ps_if (pt_cmpR op_lt (pv 4) pe_int (nomark _)) (pss_cons (ps_set (i := 6) sc__law_written.nd rfl (Or.inl rfl) (pe_def D__law_gap (hr.mono (by omega)) rfl pass0 (pa_cons (pv 2) (pa_cons pe_str pa_nil))))
      (pss_cons (ps_set (i := 7) sc__law_written.nd rfl (Or.inl rfl) (pe_dget (huR hr) (pe_disp (pps_cons pe_str pe_str (pps_cons pe_str pe_str (pps_cons pe_str pe_str (pps_cons pe_str pe_str pps_nil)))) (by rfl) (by rfl) (fun z => by cases z) (by decide)) (pv 3) (fun _ _ => rfl)))
      (pss_one (ps_set (i := 5) sc__law_written.nd rfl (Or.inl rfl) (pe_op op_add_str (pe_op op_add_str (pe_op op_add_str (pe_op op_add_str (pe_def D__law_written (hr.mono (by omega)) rfl pass0 (pa_cons (pe_ix ix_tup (pv 0) pe_int (fun _ _ => rfl)) (pa_cons (pv 4) (pa_cons (pv 2) pa_nil)))) (pv 6)) (pv 7)) (pv 6)) (pe_def D__law_written (hr.mono (by omega)) rfl pass0 (pa_cons (pe_ix ix_tup (pv 0) pe_int (fun _ _ => rfl)) (pa_cons (pe_op op_add (pv 4) pe_int) (pa_cons (pv 2) pa_nil))))))))) (pss_one (ps_if (pt_cmpR op_eq (pv 3) pe_str (nomark _)) (pss_one (ps_set (i := 5) sc__law_written.nd rfl (Or.inl rfl) (pe_op op_add_str (pe_op op_add_str pe_str (pe_def D__law_gap (hr.mono (by omega)) rfl pass0 (pa_cons (pv 2) (pa_cons pe_str pa_nil)))) (pe_def D__law_written (hr.mono (by omega)) rfl pass0 (pa_cons (pe_ix ix_tup (pv 0) pe_int (fun _ _ => rfl)) (pa_cons pe_int (pa_cons (pv 2) pa_nil))))))) (pss_one (ps_if (pt_cmpR op_eq (pv 3) pe_str (nomark _)) (pss_one (ps_set (i := 5) sc__law_written.nd rfl (Or.inl rfl) (pe_op op_add_str (pe_op op_add_str (pe_op op_add_str (pe_op op_add_str (pe_def D__law_written (hr.mono (by omega)) rfl pass0 (pa_cons (pe_ix ix_tup (pv 0) pe_int (fun _ _ => rfl)) (pa_cons pe_int (pa_cons (pv 2) pa_nil)))) (pe_def D__law_gap (hr.mono (by omega)) rfl pass0 (pa_cons (pv 2) (pa_cons pe_str pa_nil)))) pe_str) (pe_def D__law_gap (hr.mono (by omega)) rfl pass0 (pa_cons (pv 2) (pa_cons pe_str pa_nil)))) (pe_callTy call_str_int (by rfl) T.f_str (by decide +kernel) (pa_cons (pe_ix ix_tup (pv 0) pe_int (fun _ _ => rfl)) pa_nil))))) (pss_one (ps_set (i := 5) sc__law_written.nd rfl (Or.inl rfl) (pe_op op_add_str (pe_op op_add_str (pe_op op_add_str (pe_op op_add_str (pv 3) (pe_def D__law_gap (hr.mono (by omega)) rfl pass0 (pa_cons (pv 2) (pa_cons pe_str pa_nil)))) pe_str) (pe_def D__law_written (hr.mono (by omega)) rfl pass0 (pa_cons (pe_ix ix_tup (pv 0) pe_int (fun _ _ => rfl)) (pa_cons pe_int (pa_cons (pv 2) pa_nil))))) pe_str))))))))))
      (pss_cons (ps_if (PW.pt (pw_or (pt_cmpR op_lt (pv 4) (pv 1) (nomark _)) (pw_or1 (PW.pt (pw_and (pt_cmpR op_notN (pv 2) pe_non (nomark _)) (pw_and1 (pt_cmpR op_eq (pe_def D__law_draw (hr.mono (by omega)) rfl pass0 (pa_cons (pv 2) (pa_cons pe_int pa_nil))) pe_int (nomark _)))))))) (pss_one (ps_ret (pe_op op_add_str (pe_op op_add_str (pe_op op_add_str (pe_op op_add_str pe_str (pe_def D__law_gap (hr.mono (by omega)) rfl pass0 (pa_cons (pv 2) (pa_cons pe_str pa_nil)))) (pv 5)) (pe_def D__law_gap (hr.mono (by omega)) rfl pass0 (pa_cons (pv 2) (pa_cons pe_str pa_nil)))) pe_str))) pss_nil)
      (pss_one (ps_ret (pv 5))))))), ?_⟩
    obtain ⟨ds, hds⟩ := xpD_tup e
    refine q_asgD (d := .str (headS e)) (ed_ixT (j := 0) (ds := .str (headS e) :: ds) (ed_var rfl (by rw [← hds]; exact tv)) rfl) fun u H1 e1 tu => ?_
    obtain rfl := tu.str
    refine q_asg (v := .int (lvl e : Nat)) (Evl.ev_call (ea_cons (ev_var rfl) ea_nil) fun H2 e2 Q' q' _ => ⟨e, v, rfl, (tv.ex e1).ex e2, q'⟩) fun H2 e2 => ?_
    have X2 := e1.trans e2
    refine Evl.q_cut (M := fun σ' H' => ∃ (x6 x7 : Option V), Ex H H' ∧ σ' = [some v, some (.int (least : Nat)), some .non, some (.str (headS e)), some (.int (lvl e : Nat)), some (wV (inn e)), x6, x7]) ?_ ?_
    · have rec1 : ∀ {σ : L2.St} {Ha : Hp} {ta tb : TE} {a : Xp} {n : Nat}, Ex H Ha → σ[2]? = some (some .non) → EvD ta σ Ha (xpD a) → Ev tb σ Ha (.int (n : Nat)) → gx a → dep a ≤ d → wb a ≤ 3000 → Ev (tCall (spWr K d) [] E0 (tCons ta (tCons tb (tCons (tVar 2) tNil)))) σ Ha (wV (wT a n)) := fun ex h2 ha hb hga hda hwa H3 e3 Q' q' =>
        ha H3 e3 _ fun va H4 e4 tva => hb H4 (e3.trans e4) _ fun H5 e5 => ⟨_, h2, _, va, _, rfl, tva.ex e5, hga, hda, hwa, fun H6 e6 => q' H6 ((e4.trans e5).trans e6)⟩
      refine s_if (b := leafP e) (Evl.et_is (et_test (Evl.ev_inU (ev_var rfl) (Evl.eu_tup (ea_cons ev_c (ea_cons ev_c (ea_cons ev_c ea_nil))) (by simp)) rfl rfl)) plain_head) (fun hlf H3 e3 => ?_) (fun hlf H3 e3 => ?_)
      · refine s_asg (v := wV (plainT e)) (Evl.ev_call (ea_cons (ev_var rfl) (ea_cons (ev_var rfl) ea_nil)) fun H4 e4 Q' q' _ => ⟨e, v, rfl, tv.ex ((X2.trans e3).trans e4), hlf, hg, q'⟩) fun H4 e4 => ⟨_, _, (X2.trans e3).trans e4, by rw [inn_leaf hlf]; rfl⟩
      · have X3 := X2.trans e3
        cases e with
        | num k => cases hlf
        | name k => cases hlf
        | root r k => cases hlf
        | bin o a b =>
          have tv3 : Tp H3 (.tuple [.str (opS o), xpD a, xpD b]) v := tv.ex X3
          simp only [dep] at hd
          simp only [wb] at hw
          have la := (wT_ok a o.lev hg.1).2
          have lb := (wT_ok b (o.lev + 1) hg.2).2
          have lo : (tokW (.op o)).length = 1 := by cases o <;> rfl
          refine s_if (b := true) (Evl.et_is (et_test (ev_op (ev_var rfl) ev_c rv_I0)) (decide_eq_true (by have := (lev_pos o).2; show ((o.lev : Nat) : Int) < 3; omega))) (fun _ H4 e4 => ?_) (fun h => by cases h)
          refine q_asg (v := wV [32]) (ev_is' (ev_gap rfl) (by rw [l_blank])) fun H5 e5 => ?_
          refine q_asg (v := wV (tokW (.op o))) (ev_mark (ev_var rfl)) fun H6 e6 => ?_
          have x6 := (e4.trans e5).trans e6
          have tv6 := tv3.ex x6
          refine s_asg (v := wV (inn (.bin o a b))) (ev_op (ev_op (ev_op (ev_op (rec1 (n := o.lev) (X3.trans x6) rfl (ed_ixT (j := 1) (ed_var rfl tv6) rfl) (ev_var rfl) hg.1 (by omega) (by omega)) (ev_var rfl) (rv_cat (by simp only [List.length_cons, List.length_nil]; omega))) (ev_var rfl) (rv_cat (by simp only [List.length_append, List.length_cons, List.length_nil]; omega))) (ev_var rfl) (rv_cat (by simp only [List.length_append, List.length_cons, List.length_nil]; omega)))
            (rec1 (n := o.lev + 1) (X3.trans x6) rfl (ed_ixT (j := 2) (ed_var rfl tv6) rfl) (ev_op (ev_var rfl) ev_c rv_I0) hg.2 (by omega) (by omega)) (rv_cat (by simp only [List.length_append, List.length_cons, List.length_nil]; omega))) fun H7 e7 => ⟨_, _, (X3.trans x6).trans e7, rfl⟩
        | neg a =>
          have tv3 : Tp H3 (.tuple [.str "minus", xpD a]) v := tv.ex X3
          simp only [dep] at hd
          simp only [wb] at hw
          have la := (wT_ok a 3 hg).2
          refine s_if (b := false) (Evl.et_is (et_test (ev_op (ev_var rfl) ev_c rv_I0)) rfl) (fun h => by cases h) (fun _ H4 e4 => ?_)
          refine s_if (b := true) (Evl.et_is (et_test (ev_op (ev_var rfl) ev_c (rv_eq rfl))) (show decide (V.str "minus" = V.str "minus") = true by decide +kernel)) (fun _ H5 e5 => ?_) (fun h => by cases h)
          have x5 := e4.trans e5
          refine s_asg (v := wV (inn (.neg a))) (ev_op (ev_op (ev_is' ev_c (by rw [l_minus])) (ev_is' (ev_gap rfl) (x := wV []) (by rw [l_empty])) (rv_cat (by decide))) (rec1 (n := 3) (X3.trans x5) rfl (ed_ixT (j := 1) (ed_var rfl (tv3.ex x5)) rfl) ev_c hg (by omega) (by omega)) (rv_cat (by simp only [List.length_append, List.length_cons, List.length_nil]; omega))) fun H7 e7 => ⟨_, _, (X3.trans x5).trans e7, rfl⟩
        | pow a k =>
          have tv3 : Tp H3 (.tuple [.str "power", xpD a, .int k]) v := tv.ex X3
          simp only [dep] at hd
          simp only [wb] at hw
          have la := (wT_ok a 5 hg.1).2
          have lk := (intW_ok hg.2).2
          refine s_if (b := false) (Evl.et_is (et_test (ev_op (ev_var rfl) ev_c rv_I0)) rfl) (fun h => by cases h) (fun _ H4 e4 => ?_)
          refine s_if (b := false) (Evl.et_is (et_test (ev_op (ev_var rfl) ev_c (rv_eq rfl))) (show decide (V.str "power" = V.str "minus") = false by decide +kernel)) (fun h => by cases h) (fun _ H5 e5 => ?_)
          refine s_if (b := true) (Evl.et_is (et_test (ev_op (ev_var rfl) ev_c (rv_eq rfl))) (show decide (V.str "power" = V.str "power") = true by decide +kernel)) (fun _ H6 e6 => ?_) (fun h => by cases h)
          have x6 := (e4.trans e5).trans e6
          refine s_asg (v := wV (inn (.pow a k))) (ev_op (ev_op (ev_op (ev_op (rec1 (n := 5) (X3.trans x6) rfl (ed_ixT (j := 1) (ed_var rfl (tv3.ex x6)) rfl) ev_c hg.1 (by omega) (by omega)) (ev_is' (ev_gap rfl) (x := wV []) (by rw [l_empty])) (rv_cat (by simp only [List.length_nil]; omega))) (ev_is' ev_c (by rw [l_hat])) (rv_cat (by simp only [List.length_append, List.length_cons, List.length_nil]; omega))) (ev_is' (ev_gap rfl) (x := wV []) (by rw [l_empty])) (rv_cat (by simp only [List.length_append, List.length_cons, List.length_nil]; omega)))
            (ev_cb (ea_cons (ev_intD (ed_ixT (j := 2) (ed_var rfl (tv3.ex x6)) rfl)) ea_nil) (rc_strI hg.2)) (rv_cat (by simp only [List.length_append, List.length_cons, List.length_nil]; omega))) fun H7 e7 => ⟨_, _, (X3.trans x6).trans e7, rfl⟩
        | rt m a =>
          have tv3 : Tp H3 (.tuple [.str (rtS m), xpD a]) v := tv.ex X3
          simp only [dep] at hd
          simp only [wb] at hw
          have la := (wT_ok a 1 hg).2
          have lo : (tokW (.rt m)).length = 4 := by cases m <;> rfl
          refine s_if (b := false) (Evl.et_is (et_test (ev_op (ev_var rfl) ev_c rv_I0)) rfl) (fun h => by cases h) (fun _ H4 e4 => ?_)
          refine s_if (b := false) (Evl.et_is (et_test (ev_op (ev_var rfl) ev_c (rv_eq rfl))) (show decide (V.str (rtS m) = V.str "minus") = false by cases m <;> decide +kernel)) (fun h => by cases h) (fun _ H5 e5 => ?_)
          refine s_if (b := false) (Evl.et_is (et_test (ev_op (ev_var rfl) ev_c (rv_eq rfl))) (rt_pow m)) (fun h => by cases h) (fun _ H6 e6 => ?_)
          have x6 := (e4.trans e5).trans e6
          have ew : V.str (rtS m) = wV (tokW (.rt m)) := by have := rt_word m; injection this with this; rw [← this]
          refine s_asg (v := wV (inn (.rt m a))) (ev_op (ev_op (ev_op (ev_op (ev_is' (ev_var rfl) ew) (ev_is' (ev_gap rfl) (x := wV []) (by rw [l_empty])) (rv_cat (by simp only [List.length_nil]; omega))) (ev_is' ev_c (by rw [l_lp])) (rv_cat (by simp only [List.length_append, List.length_cons, List.length_nil]; omega))) (rec1 (n := 1) (X3.trans x6) rfl (ed_ixT (j := 1) (ed_var rfl (tv3.ex x6)) rfl) ev_c hg (by omega) (by omega)) (rv_cat (by simp only [List.length_append, List.length_cons, List.length_nil]; omega)))
            (ev_is' ev_c (by rw [l_rp])) (rv_cat (by simp only [List.length_append, List.length_cons, List.length_nil]; omega))) fun H7 e7 => ⟨_, _, (X3.trans x6).trans e7, rfl⟩
    · rintro σ' H3 ⟨x6, x7, ex, rfl⟩
      have lw := inn_len e hg
      rw [wT_eq] at kk
      refine q_when (b := decide (lvl e < least)) (Evl.et_is (et_or (b := false) (et_test (ev_op (ev_var rfl) (ev_var rfl) rv_I0)) fun _ => Evl.et_is (et_and (b := false) (et_test (ev_op (ev_var rfl) ev_c rv_notN)) fun h => by cases h) rfl) ?_) (fun hb H4 e4 => ?_) (fun hb H4 e4 => ?_)
      · rw [Bool.or_false]
        exact decide_eq_decide.mpr (by omega)
      · rw [hb] at kk
        refine s_ret (v := wV (((([40] ++ []) ++ inn e) ++ []) ++ [41])) (ev_op (ev_op (ev_op (ev_op (ev_is' ev_c (by rw [l_lp])) (ev_is' (ev_gap rfl) (x := wV []) (by rw [l_empty])) (rv_cat (by decide))) (ev_var rfl) (rv_cat (by simp only [List.length_append, List.length_cons, List.length_nil]; omega))) (ev_is' (ev_gap rfl) (x := wV []) (by rw [l_empty])) (rv_cat (by simp only [List.length_append, List.length_cons, List.length_nil]; omega))) (ev_is' ev_c (by rw [l_rp])) (rv_cat (by simp only [List.length_append, List.length_cons, List.length_nil]; omega))) fun H5 e5 => kk H5 ((ex.trans e4).trans e5)
      · rw [hb] at kk
        exact s_ret (ev_var rfl) fun H5 e5 => kk H5 ((ex.trans e4).trans e5)
end
end K83
end
section
set_option maxRecDepth 100000
set_option maxHeartbeats 1000000
namespace K83
open PySem PySem.Spec PyProof.Rows L2
/-- a text of good signs has words -/
theorem lw_good : ∀ (cs : List Nat) (last : Nat) (acc : List (List Nat)), cs.all sgn = true → ∃ ws, lw last acc cs = some ws
  | [], last, acc, _ => ⟨acc.reverse, rfl⟩
  | c :: cs, last, acc, h => by
    rw [List.all_cons, Bool.and_eq_true] at h
    have h3 : ¬ (kind c = 3 ∧ ¬ (isSig c = true ∨ c = 32)) := by
      rintro ⟨q1, q2⟩
      have hs := h.1
      unfold sgn at hs
      cases hf : isFig c with
      | true => rw [kind_fig hf] at q1; cases q1
      | false =>
        cases hl : isLet c with
        | true => rw [kind_let hl] at q1; cases q1
        | false =>
          rw [hf, hl] at hs
          cases hq : isSig c with
          | true => exact q2 (Or.inl hq)
          | false =>
            rw [hq] at hs
            exact q2 (Or.inr (of_decide_eq_true hs))
    rw [lw, if_neg h3]
    split
    · exact lw_good cs _ _ h.2
    · split
      · exact lw_good cs _ _ h.2
      · exact lw_good cs _ _ h.2
end K83
end
section
set_option maxRecDepth 100000
set_option maxHeartbeats 400000
namespace K83
open PySem PySem.Spec PyProof.Rows L2
open Evl (Ex Ev EvT EvA EvL EvU EvO RV RU RC ev_var ev_c ev_op ev_un ev_if ev_andV ev_orV ev_notV et_test et_B et_and et_or et_not ea_nil ea_cons ev_cb q_asg q_asgL q_asgU q_if q_when s_asg s_ret s_if s_when s_drop q_drop rv_I0 rv_I rv_eq rv_ne rv_val el_sl eo_none eo_some tCut pss_cut q_cut)
section
variable {K : PySem.W.Frag} {σ : L2.St} {H H' : Hp} {ta tb te : TE} {ds es : List PyData} {l a : Addr} {xs : List V} {b : Bool}
theorem eld_catV (ha : Ev ta σ H (.ref l)) (hl : H l = some (.lst xs)) (ts : Tps H ds xs) (hb : EvLD tb σ H es) (hz : ds.length + es.length ≤ 100000) : EvLD (tOp rCat ta tb) σ H (ds ++ es) := fun H1 e Q q =>
  ha H1 e _ fun H2 e2 => hb H2 (e.trans e2) _ fun p' ys H3 hp' e3 h3 t3 => ⟨l, p', xs, ys, rfl, rfl, e3 _ _ (e2 _ _ (e _ _ hl)), h3, Evl.sz_of (by rw [ts.len, t3.len]; omega), fun r hr =>
    q r _ _ (ex_fresh (e2.trans e3) hr) ((e2.trans e3).trans (Ex.new hr)) upd_same ((Tps.append (ts.ex ((e.trans e2).trans e3)) t3).ex (Ex.new hr))⟩
theorem ed_b (h : Ev te σ H (.bl b)) : EvD te σ H (.bool b) := ed_ev h (by rw [Tp])
/-- isinstance(e, a class of the text) -/
theorem ev_isV {c : Addr} (h : Ev te σ H (.ref a)) (ha : H a = some (ExV (.ref (cBad K)) none a)) (C : ExcC K (cBad K)) (k : PySem.W.kitOne K (.ref (cBad K)) (.ref c) = some b) : Ev (tCB (rIsV K) (tCons te (tCons (tC (.ref c)) tNil))) σ H (.bl b) := fun H1 e Q q =>
  h H1 e _ fun H2 e2 => ⟨a, cBad K, .ref c, .ref c, b, rfl, e2 _ _ (e _ _ ha), C, fun u r => r, k, q H2 e2⟩
theorem ev_isVT {c : String} (h : Ev te σ H (.ref a)) (ha : H a = some (ExV (.ref (cBad K)) none a)) (C : ExcC K (cBad K)) (k : PySem.W.kitOne K (.ref (cBad K)) (.type c) = some b) : Ev (tCB (rIsV K) (tCons te (tCons (tC (.ty c)) tNil))) σ H (.bl b) := fun H1 e Q q =>
  h H1 e _ fun H2 e2 => ⟨a, cBad K, .ty c, .type c, b, rfl, e2 _ _ (e _ _ ha), C, fun u r => r, k, q H2 e2⟩
end
def spWord (K : PySem.W.Frag) : Sp := fun vs H Q _ => ∃ a : Addr, vs = [.ref a] ∧ H a = some (ExV (.ref (cBad K)) none a) ∧ ∀ H', Ex H H' → Q (.str "text") H'
end K83
end
section
set_option maxRecDepth 100000
set_option maxHeartbeats 1000000
/-! How great what is read may be: few nodes, short words. -/
namespace K83
open PySem PySem.Spec PyProof.Rows L2
def okN : Xp → Prop
  | .num n => n < 10 ^ 30
  | .name w => ∃ l, w = mkS l ∧ l.all isLet = true ∧ l.length ≤ 8
  | .root row k => row.length ≤ 17 ∧ (∀ i ∈ row, i.natAbs < 10 ^ 30) ∧ k ≤ 16
  | .bin _ a b => okN a ∧ okN b
  | .neg a => okN a
  | .pow a k => okN a ∧ k.natAbs ≤ 8
  | .rt _ a => okN a
def nd : Xp → Nat
  | .bin _ a b => nd a + nd b + 1
  | .neg a => nd a + 1
  | .pow a _ => nd a + 1
  | .rt _ a => nd a + 1
  | _ => 1
def tokG : Tok → Prop
  | .num n => n < 10 ^ 30
  | .name w => ∃ l, w = mkS l ∧ l.all isLet = true ∧ l.length ≤ 8
  | _ => True
def insG : Ins → Prop
  | .leaf e => okN e ∧ nd e = 1
  | .pow k => k.natAbs ≤ 8
  | .mk _ => True
def ndS (s : List Xp) : Nat := (s.map nd).sum
theorem ndS_cons (e : Xp) (s : List Xp) : ndS (e :: s) = nd e + ndS s := by simp [ndS]
theorem exec_good : ∀ (is : List Ins) (s s' : List Xp), (∀ i ∈ is, insG i) → (∀ e ∈ s, okN e) → exec is s = some s' → (∀ e ∈ s', okN e) ∧ ndS s' ≤ ndS s + is.length
  | [], s, s', _, hs, h => by
    rw [exec] at h
    cases h
    exact ⟨hs, Nat.le_refl _⟩
  | .leaf e :: r, s, s', hi, hs, h => by
    rw [exec] at h
    have g : okN e ∧ nd e = 1 := hi _ (List.mem_cons_self ..)
    obtain ⟨h1, h2⟩ := exec_good r (e :: s) s' (fun i m => hi i (List.mem_cons_of_mem _ m)) (fun x m => by
      rcases List.mem_cons.mp m with q | q
      · rw [q]; exact g.1
      · exact hs x q) h
    rw [ndS_cons, g.2] at h2
    exact ⟨h1, by rw [List.length_cons]; omega⟩
  | .pow k :: r, s, s', hi, hs, h => by
    have g : k.natAbs ≤ 8 := hi (.pow k) (List.mem_cons_self ..)
    cases s with
    | nil => rw [exec] at h <;> first | cases h | (intros; simp_all)
    | cons a s =>
      rw [exec] at h
      obtain ⟨h1, h2⟩ := exec_good r (.pow a k :: s) s' (fun i m => hi i (List.mem_cons_of_mem _ m)) (fun x m => by
        rcases List.mem_cons.mp m with q | q
        · rw [q]; exact ⟨hs a (List.mem_cons_self ..), g⟩
        · exact hs x (List.mem_cons_of_mem _ q)) h
      rw [ndS_cons] at h2 ⊢
      exact ⟨h1, by rw [List.length_cons]; simp only [nd] at h2; omega⟩
  | .mk m :: r, s, s', hi, hs, h => by
    cases m with
    | bin o =>
      match s, hs, h with
      | [], _, h => rw [exec] at h <;> first | cases h | (intros; simp_all)
      | [b], _, h => rw [exec] at h <;> first | cases h | (intros; simp_all)
      | b :: a :: s, hs, h =>
        rw [exec] at h
        obtain ⟨h1, h2⟩ := exec_good r (.bin o a b :: s) s' (fun i m => hi i (List.mem_cons_of_mem _ m)) (fun x m => by
          rcases List.mem_cons.mp m with q | q
          · rw [q]; exact ⟨hs a (by simp), hs b (by simp)⟩
          · exact hs x (by simp [q])) h
        rw [ndS_cons] at h2
        rw [ndS_cons, ndS_cons]
        exact ⟨h1, by rw [List.length_cons]; simp only [nd] at h2; omega⟩
    | neg =>
      cases s with
      | nil => rw [exec] at h <;> first | cases h | (intros; simp_all)
      | cons a s =>
        rw [exec] at h
        obtain ⟨h1, h2⟩ := exec_good r (.neg a :: s) s' (fun i m => hi i (List.mem_cons_of_mem _ m)) (fun x m => by
          rcases List.mem_cons.mp m with q | q
          · rw [q]; exact hs a (List.mem_cons_self ..)
          · exact hs x (List.mem_cons_of_mem _ q)) h
        rw [ndS_cons] at h2 ⊢
        exact ⟨h1, by rw [List.length_cons]; simp only [nd] at h2; omega⟩
    | opn m =>
      cases m with
      | none => rw [exec] at h <;> first | cases h | (intros; simp_all)
      | some m =>
        cases s with
        | nil => rw [exec] at h <;> first | cases h | (intros; simp_all)
        | cons a s =>
          rw [exec] at h
          obtain ⟨h1, h2⟩ := exec_good r (.rt m a :: s) s' (fun i m => hi i (List.mem_cons_of_mem _ m)) (fun x m => by
            rcases List.mem_cons.mp m with q | q
            · rw [q]; exact hs a (List.mem_cons_self ..)
            · exact hs x (List.mem_cons_of_mem _ q)) h
          rw [ndS_cons] at h2 ⊢
          exact ⟨h1, by rw [List.length_cons]; simp only [nd] at h2; omega⟩
/-! ### what is told -/
theorem done_good (l : Nat) : ∀ (w : List Mark) (t : List Ins), (∀ i ∈ t, insG i) → ∀ i ∈ (done l w t).2, insG i
  | [], t, h => h
  | m :: w, t, h => by
    unfold done
    split
    · refine done_good l w _ fun i hi => ?_
      rcases List.mem_append.mp hi with q | q
      · exact h i q
      · rw [List.mem_singleton.mp q]
        trivial
    · exact h
theorem numAt_good {ts r : List Tok} {n : Int} (h : numAt ts = some (n, r)) (g : ∀ t ∈ ts, tokG t) : n.natAbs < 10 ^ 30 ∧ ∀ t ∈ r, tokG t := by
  unfold numAt at h
  split at h
  · cases h
    rename_i n
    have : tokG (.num n) := g _ (by simp)
    refine ⟨?_, fun t ht => g t (by simp [ht])⟩
    have : n < 10 ^ 30 := this
    omega
  · cases h
    rename_i n
    have : tokG (.num n) := g _ (by simp)
    refine ⟨?_, fun t ht => g t (by simp [ht])⟩
    have : n < 10 ^ 30 := this
    omega
  · cases h
theorem rowRest_good {acc row : List Int} {ts r : List Tok} (h : rowRest acc ts = some (row, r)) (ga : ∀ i ∈ acc, i.natAbs < 10 ^ 30) (g : ∀ t ∈ ts, tokG t) : (∀ i ∈ row, i.natAbs < 10 ^ 30) ∧ ∀ t ∈ r, tokG t := by
  induction acc, ts using rowRest.induct with
  | case1 acc r0 h1 =>
    rw [rowRest] at h
    split at h <;> simp_all
  | case2 acc r0 n r' h1 ih =>
    rw [rowRest] at h
    split at h
    · simp_all
    · rename_i n2 r2 h2
      rw [h1] at h2
      simp only [Option.some.injEq, Prod.mk.injEq] at h2
      obtain ⟨rfl, rfl⟩ := h2
      obtain ⟨a, b⟩ := numAt_good h1 fun t ht => g t (List.mem_cons_of_mem _ ht)
      refine ih h (fun i hi => ?_) b
      rcases List.mem_append.mp hi with q | q
      · exact ga i q
      · rw [List.mem_singleton.mp q]; exact a
  | case3 acc ts h1 =>
    rw [rowRest] at h
    · simp only [Option.some.injEq, Prod.mk.injEq] at h
      obtain ⟨rfl, rfl⟩ := h
      exact ⟨ga, g⟩
    · exact h1
theorem rootAt_good {ts r : List Tok} {x : List Int × Nat} (h : rootAt ts = some (x, r)) (g : ∀ t ∈ ts, tokG t) : okN (.root x.1 x.2) ∧ ∀ t ∈ r, tokG t := by
  unfold rootAt at h
  split at h
  · rename_i r0
    split at h
    · cases h
    · rename_i n r1 h1
      obtain ⟨a1, b1⟩ := numAt_good h1 fun t ht => g t (by simp [ht])
      split at h
      · cases h
      · rename_i row r2 h2
        obtain ⟨a2, b2⟩ := rowRest_good h2 (fun i hi => by rw [List.mem_singleton.mp hi]; exact a1) b1
        split at h
        · rename_i hl
          split at h
          · split at h
            · rename_i hk
              simp only [Option.some.injEq, Prod.mk.injEq] at h
              obtain ⟨rfl, rfl⟩ := h
              exact ⟨⟨hl.1, a2, hk.2⟩, fun t ht => b2 t (by simp [ht])⟩
            · cases h
          · cases h
        · cases h
  · cases h
structure RSG (s : RS) : Prop where
  told : ∀ i ∈ s.told, insG i
  ts : ∀ t ∈ s.ts, tokG t
theorem push_good {t : List Ins} {i : Ins} (h : ∀ i ∈ t, insG i) (g : insG i) : ∀ j ∈ t ++ [i], insG j := fun j hj => by
  rcases List.mem_append.mp hj with q | q
  · exact h j q
  · rw [List.mem_singleton.mp q]; exact g
theorem operand_good {s s' : RS} {b : Bool} (h : operand s = some (s', b)) (p : RSG s) : RSG s' := by
  obtain ⟨pt, ps⟩ := p
  unfold operand at h
  split at h
  · rename_i r e
    rw [e] at ps
    split at h
    · cases h; exact ⟨pt, fun t ht => ps t (by simp [ht])⟩
    · cases h
  · rename_i r e
    rw [e] at ps
    split at h
    · cases h; exact ⟨pt, fun t ht => ps t (by simp [ht])⟩
    · cases h
  · rename_i n r e
    rw [e] at ps
    cases h
    exact ⟨push_good pt ⟨(ps (.num n) (by simp) : n < 10 ^ 30), rfl⟩, fun t ht => ps t (by simp [ht])⟩
  · rename_i m r e
    rw [e] at ps
    split at h
    · cases h; exact ⟨pt, fun t ht => ps t (by simp [ht])⟩
    · cases h
  · rename_i r e
    rw [e] at ps
    split at h
    · cases h
    · rename_i x r' hr
      obtain ⟨a, b⟩ := rootAt_good hr fun t ht => ps t (by simp [ht])
      cases h
      exact ⟨push_good pt ⟨a, rfl⟩, b⟩
  · rename_i w r e
    rw [e] at ps
    cases h
    exact ⟨push_good pt ⟨ps (.name w) (by simp), rfl⟩, fun t ht => ps t (by simp [ht])⟩
  · cases h
theorem behind_good {s s' : RS} {b : Bool} (h : behind s = some (s', b)) (p : RSG s) : RSG s' := by
  obtain ⟨pt, ps⟩ := p
  unfold behind at h
  split at h
  · rename_i r e
    rw [e] at ps
    split at h
    · split at h
      · cases h
      · rename_i k r' hn
        obtain ⟨a, b⟩ := numAt_good hn fun t ht => ps t (by simp [ht])
        split at h
        · rename_i hk
          cases h
          exact ⟨push_good pt hk, b⟩
        · cases h
    · cases h
  · rename_i r e
    rw [e] at ps
    split at h
    · rename_i m w' h1
      cases h
      refine ⟨?_, fun t ht => ps t (by simp [ht])⟩
      cases m with
      | none =>
        intro i hi
        exact done_good 1 _ _ pt i (by simpa [closeIns] using hi)
      | some m => exact push_good (done_good 1 _ _ pt) trivial
    · cases h
  · rename_i o r e
    rw [e] at ps
    cases h
    exact ⟨done_good _ _ _ pt, fun t ht => ps t (by simp [ht])⟩
  · cases h
theorem progF_good : ∀ (f : Nat) (b : Bool) (s : RS) (told : List Ins), Pinv s → RSG s → progF f b s = some told → (∀ i ∈ told, insG i) ∧ told.length ≤ 200
  | 0, b, s, told, _, _, h => by
    rw [progF] at h
    cases h
  | f + 1, true, s, told, pi, g, h => by
    rw [progF_want] at h
    split at h
    · cases h
    · rename_i s' b' ho
      have p2 := (operand_inv ho pi).1
      have g2 := operand_good ho g
      exact progF_good f (!b') { s' with isBase := b' } told ⟨p2.deep, p2.small⟩ ⟨g2.told, g2.ts⟩ h
  | f + 1, false, s, told, pi, g, h => by
    rw [progF_rest] at h
    split at h
    · split at h
      · cases h
        have := done_sum 1 s.waiting s.told
        have := pi.small
        exact ⟨done_good 1 _ _ g.told, by omega⟩
      · cases h
    · split at h
      · cases h
      · rename_i s' b' ho
        exact progF_good f _ _ told (behind_inv ho pi).1 (behind_good ho g) h
theorem fig_le {c : Nat} (h : isFig c = true) : c - 48 ≤ 9 := by
  have : c ∈ figs := of_decide_eq_true h
  simp [figs] at this
  omega
theorem dval_lt : ∀ (l : List Nat) (acc : Nat), l.all isFig = true → l.foldl (fun acc c => acc * 10 + (c - 48)) acc < (acc + 1) * 10 ^ l.length
  | [], acc, _ => by simp
  | c :: l, acc, h => by
    rw [List.all_cons, Bool.and_eq_true] at h
    have h1 := dval_lt l (acc * 10 + (c - 48)) h.2
    have h2 := fig_le h.1
    rw [List.foldl_cons, List.length_cons, Nat.pow_succ]
    refine Nat.lt_of_lt_of_le h1 ?_
    have : acc * 10 + (c - 48) + 1 ≤ (acc + 1) * 10 := by omega
    have h3 := Nat.mul_le_mul_right (10 ^ l.length) this
    have e : (acc + 1) * 10 * 10 ^ l.length = (acc + 1) * (10 ^ l.length * 10) := by rw [Nat.mul_assoc, Nat.mul_comm 10]
    omega
theorem WV.good {w : List Nat} {t : Tok} (h : WV w t) : tokG t := by
  cases h with
  | num c r h1 h2 h3 h4 =>
    show dval (c :: r) < 10 ^ 30
    have := dval_lt (c :: r) 0 (by rw [List.all_cons, h1, h2]; rfl)
    refine Nat.lt_of_lt_of_le this ?_
    rw [Nat.zero_add, Nat.one_mul]
    exact Nat.pow_le_pow_right (by decide) h3
  | name c r h1 h2 h3 h4 => exact ⟨c :: r, rfl, by rw [List.all_cons, h1, h2]; rfl, h3⟩
  | _ => trivial
/-- what is read is small -/
theorem progRead_small {cs : List Nat} {e : Xp} (h : progRead cs = some e) : okN e ∧ nd e ≤ 200 := by
  unfold progRead at h
  split at h
  · cases h
  · rename_i ws hw
    have wd := progWords_wds hw
    have lp := law_prog (ws.map tokOf)
    rw [h] at lp
    obtain ⟨told, h1, h2⟩ := lp
    have tg : ∀ t ∈ ws.map tokOf, tokG t := fun t ht => by
      obtain ⟨w, hw2, rfl⟩ := List.mem_map.mp ht
      exact (wd.all w hw2).good
    have rg : RSG ⟨ws.map tokOf, [], [], 0, 0, false⟩ := { told := fun i hi => (List.not_mem_nil hi).elim, ts := tg }
    obtain ⟨g1, g2⟩ := progF_good _ _ _ told ⟨rfl, by
      have := wd.len
      simpa using this⟩ rg h1
    obtain ⟨g3, g4⟩ := exec_good told [] [e] g1 (fun x hx => (List.not_mem_nil hx).elim) h2
    refine ⟨g3 e (List.mem_singleton.mpr rfl), ?_⟩
    rw [ndS_cons] at g4
    have : ndS [] = 0 := rfl
    omega
end K83
end
section
set_option maxRecDepth 100000
set_option maxHeartbeats 1000000
/-! What is shown of what is read. -/
namespace K83
open PySem PySem.Spec PyProof.Rows L2
theorem tup_le (ts : List Str) : (tupleText ts).length ≤ piled ts + 3 := by
  have e3 : (((if ts.length == 1 then ",)" else ")" : String) : Str)).length ≤ 2 := by split <;> decide
  have e4 : (Str.join ", " ts).length ≤ piled ts := by
    cases ts with
    | nil => exact Nat.zero_le _
    | cons t r =>
      have := join_length_add (t :: r) (by simp)
      omega
  unfold tupleText
  rw [strLen_append, strLen_append]
  have e1 : ((("(" : String) : Str)).length = 1 := rfl
  omega
theorem sh_int {i : Int} (h : i.natAbs < 10 ^ 30) : (PyData.shown (.int i)).length ≤ 31 := by
  rw [PyData.shown]
  show (Str.ofString (toString i)).length ≤ 31
  rw [PySem.ofString_length]
  exact int_text_length_le10 (k := 30) (by decide) h
theorem sh_str {l : List Nat} (h : ∀ c ∈ l, c < 128) : (PyData.shown (.str (mkS l))).length ≤ 10 * l.length + 2 := by
  rw [PyData.shown]
  have := StrLaws.reprText_len (mkS l) fun c hc => by
    rw [mkS_list] at hc
    exact Nat.lt_trans (h c hc) (by decide)
  rwa [mkS_len] at this
theorem sh_lit {z : Str} (h : (z.cps.toList.all fun c => decide (c < 128)) = true) (hl : z.length ≤ 8) : (PyData.shown (.str z)).length ≤ 82 := by
  rw [mkS_eq z] at hl ⊢
  rw [mkS_len] at hl
  have := sh_str (l := z.cps.toList) fun c hc => of_decide_eq_true (List.all_eq_true.mp h c hc)
  omega
theorem sh_ints : ∀ (row : List Int), (∀ i ∈ row, i.natAbs < 10 ^ 30) → piled (PyData.shownAll (row.map .int)) ≤ 33 * row.length
  | [], _ => by rw [List.map_nil, PyData.shownAll, piled_nil]; exact Nat.zero_le _
  | i :: row, h => by
    have h1 := sh_int (h i (List.mem_cons_self ..))
    have h2 := sh_ints row fun j hj => h j (List.mem_cons_of_mem _ hj)
    rw [List.map_cons, PyData.shownAll, piled_cons, List.length_cons]
    omega
theorem sh_tup2 {a b : PyData} : (PyData.shown (.tuple [a, b])).length ≤ (PyData.shown a).length + (PyData.shown b).length + 7 := by
  rw [PyData.shown, PyData.shownAll, PyData.shownAll, PyData.shownAll]
  have := tup_le [PyData.shown a, PyData.shown b]
  rw [piled_cons, piled_cons, piled_nil] at this
  omega
theorem sh_tup3 {a b c : PyData} : (PyData.shown (.tuple [a, b, c])).length ≤ (PyData.shown a).length + (PyData.shown b).length + (PyData.shown c).length + 9 := by
  rw [PyData.shown, PyData.shownAll, PyData.shownAll, PyData.shownAll, PyData.shownAll]
  have := tup_le [PyData.shown a, PyData.shown b, PyData.shown c]
  rw [piled_cons, piled_cons, piled_cons, piled_nil] at this
  omega
theorem sh_op (o : Op) : (PyData.shown (.str (opS o))).length ≤ 82 := by cases o <;> exact sh_lit (by decide +kernel) (by decide +kernel)
theorem sh_rt (m : Rt) : (PyData.shown (.str (rtS m))).length ≤ 82 := by cases m <;> exact sh_lit (by decide +kernel) (by decide +kernel)
theorem let_small {l : List Nat} (h : l.all isLet = true) : ∀ c ∈ l, c < 128 := fun c hc => by
  have := let_lt (List.all_eq_true.mp h c hc)
  omega
theorem xp_shown : ∀ (e : Xp), okN e → (PyData.shown (xpD e)).length ≤ 1000 * nd e
  | .num n, h => by
    have h : n < 10 ^ 30 := h
    have h1 := sh_int (i := (n : Int)) (by omega)
    have h2 : (PyData.shown (.str "number")).length ≤ 82 := sh_lit (by decide +kernel) (by decide +kernel)
    have := sh_tup2 (a := .str "number") (b := .int (n : Int))
    rw [xpD]
    simp only [nd]
    omega
  | .name w, h => by
    obtain ⟨l, rfl, h1, h2⟩ := h
    have h3 := sh_str (let_small h1)
    have h4 : (PyData.shown (.str "name")).length ≤ 82 := sh_lit (by decide +kernel) (by decide +kernel)
    have := sh_tup2 (a := .str "name") (b := .str (mkS l))
    rw [xpD]
    simp only [nd]
    omega
  | .root row k, h => by
    obtain ⟨h1, h2, h3⟩ := h
    have a1 : (PyData.shown (.str "root")).length ≤ 82 := sh_lit (by decide +kernel) (by decide +kernel)
    have a2 : (PyData.shown (.int (k : Int))).length ≤ 31 := sh_int (Nat.lt_of_le_of_lt (show (k : Int).natAbs ≤ 16 by omega) (by decide))
    have a3 : (PyData.shown (.tuple (row.map .int))).length ≤ 33 * row.length + 3 := by
      rw [PyData.shown]
      have := tup_le (PyData.shownAll (row.map .int))
      have := sh_ints row h2
      omega
    have := sh_tup3 (a := .str "root") (b := .tuple (row.map .int)) (c := .int (k : Int))
    rw [xpD]
    simp only [nd]
    omega
  | .bin o a b, h => by
    have h1 := xp_shown a h.1
    have h2 := xp_shown b h.2
    have h3 := sh_op o
    have := sh_tup3 (a := .str (opS o)) (b := xpD a) (c := xpD b)
    rw [xpD]
    simp only [nd]
    omega
  | .neg a, h => by
    have h1 := xp_shown a h
    have h3 : (PyData.shown (.str "minus")).length ≤ 82 := sh_lit (by decide +kernel) (by decide +kernel)
    have := sh_tup2 (a := .str "minus") (b := xpD a)
    rw [xpD]
    simp only [nd]
    omega
  | .pow a k, h => by
    have h1 := xp_shown a h.1
    have h2 : (PyData.shown (.int k)).length ≤ 31 := sh_int (Nat.lt_of_le_of_lt h.2 (by decide))
    have h3 : (PyData.shown (.str "power")).length ≤ 82 := sh_lit (by decide +kernel) (by decide +kernel)
    have := sh_tup3 (a := .str "power") (b := xpD a) (c := .int k)
    rw [xpD]
    simp only [nd]
    omega
  | .rt m a, h => by
    have h1 := xp_shown a h
    have h3 := sh_rt m
    have := sh_tup2 (a := .str (rtS m)) (b := xpD a)
    rw [xpD]
    simp only [nd]
    omega
theorem int_showable {i : Int} (h : i.natAbs < 10 ^ 30) : (PyData.int i).showable = true := by
  rw [PyData.showable]
  refine decide_eq_true ?_
  by_cases h0 : i.natAbs = 0
  · rw [h0]; decide
  · exact Nat.lt_of_lt_of_le ((Nat.log2_lt h0).mpr (Nat.lt_of_lt_of_le h (show 10 ^ 30 ≤ 2 ^ 100 by decide))) (by decide)
theorem ints_showable : ∀ (row : List Int), (∀ i ∈ row, i.natAbs < 10 ^ 30) → PyData.showableAll (row.map .int) = true
  | [], _ => by rw [List.map_nil, PyData.showableAll]
  | i :: row, h => by
    rw [List.map_cons, PyData.showableAll, int_showable (h i (List.mem_cons_self ..)), ints_showable row fun j hj => h j (List.mem_cons_of_mem _ hj)]
    rfl
theorem xp_showable : ∀ (e : Xp), okN e → (xpD e).showable = true
  | .num n, h => by
    have h : n < 10 ^ 30 := h
    rw [xpD, PyData.showable, PyData.showableAll, PyData.showableAll, PyData.showableAll, PyData.showable, int_showable (by omega)]
    rfl
  | .name w, h => by
    rw [xpD, PyData.showable, PyData.showableAll, PyData.showableAll, PyData.showableAll, PyData.showable, PyData.showable]
    rfl
  | .root row k, h => by
    rw [xpD, PyData.showable, PyData.showableAll, PyData.showableAll, PyData.showableAll, PyData.showableAll, PyData.showable, PyData.showable.eq_6, ints_showable row h.2.1, int_showable (Nat.lt_of_le_of_lt (show (k : Int).natAbs ≤ 16 by have := h.2.2; omega) (by decide))]
    rfl
  | .bin o a b, h => by
    rw [xpD, PyData.showable, PyData.showableAll, PyData.showableAll, PyData.showableAll, PyData.showableAll, xp_showable a h.1, xp_showable b h.2, PyData.showable]
    rfl
  | .neg a, h => by
    rw [xpD, PyData.showable, PyData.showableAll, PyData.showableAll, PyData.showableAll, xp_showable a h, PyData.showable]
    rfl
  | .pow a k, h => by
    rw [xpD, PyData.showable, PyData.showableAll, PyData.showableAll, PyData.showableAll, PyData.showableAll, xp_showable a h.1, PyData.showable, int_showable (Nat.lt_of_le_of_lt h.2 (by decide))]
    rfl
  | .rt m a, h => by
    rw [xpD, PyData.showable, PyData.showableAll, PyData.showableAll, PyData.showableAll, xp_showable a h, PyData.showable]
    rfl
theorem ints_depth : ∀ (row : List Int), PyData.depthAll (row.map .int) = 0
  | [] => by rw [List.map_nil, PyData.depthAll]
  | i :: row => by
    rw [List.map_cons, PyData.depthAll, ints_depth row, PyData.depth]
    rfl
theorem xp_depth : ∀ (e : Xp), (xpD e).depth ≤ nd e + 1
  | .num n => by simp [xpD, PyData.depth, PyData.depthAll, nd]
  | .name w => by simp [xpD, PyData.depth, PyData.depthAll, nd]
  | .root row k => by simp [xpD, PyData.depth, PyData.depthAll, nd, ints_depth]
  | .bin o a b => by
    have := xp_depth a
    have := xp_depth b
    simp only [xpD, PyData.depth, PyData.depthAll, nd]
    omega
  | .neg a => by
    have := xp_depth a
    simp only [xpD, PyData.depth, PyData.depthAll, nd]
    omega
  | .pow a k => by
    have := xp_depth a
    simp only [xpD, PyData.depth, PyData.depthAll, nd]
    omega
  | .rt m a => by
    have := xp_depth a
    simp only [xpD, PyData.depth, PyData.depthAll, nd]
    omega
theorem ints_noDict : ∀ (row : List Int), PyData.hasDictAll (row.map .int) = false
  | [] => by rw [List.map_nil, PyData.hasDictAll]
  | i :: row => by
    rw [List.map_cons, PyData.hasDictAll, ints_noDict row, PyData.hasDict]
    rfl
theorem xp_noDict : ∀ (e : Xp), (xpD e).hasDict = false
  | .num n => by simp [xpD, PyData.hasDict, PyData.hasDictAll]
  | .name w => by simp [xpD, PyData.hasDict, PyData.hasDictAll]
  | .root row k => by simp [xpD, PyData.hasDict, PyData.hasDictAll, ints_noDict]
  | .bin o a b => by simp [xpD, PyData.hasDict, PyData.hasDictAll, xp_noDict a, xp_noDict b]
  | .neg a => by simp [xpD, PyData.hasDict, PyData.hasDictAll, xp_noDict a]
  | .pow a k => by simp [xpD, PyData.hasDict, PyData.hasDictAll, xp_noDict a]
  | .rt m a => by simp [xpD, PyData.hasDict, PyData.hasDictAll, xp_noDict a]
/-- the list of it -/
theorem one_small {e : Xp} (h : okN e) (hn : nd e ≤ 200) : (PyData.list [xpD e]).showable = true ∧ (PyData.list [xpD e]).hasDict = false ∧ (PyData.list [xpD e]).depth ≤ 1000 ∧ (PyData.list [xpD e]).shown.length ≤ sizeLine := by
  refine ⟨?_, ?_, ?_, ?_⟩
  · rw [PyData.showable, PyData.showableAll, PyData.showableAll, xp_showable e h]
    rfl
  · rw [PyData.hasDict, PyData.hasDictAll, PyData.hasDictAll, xp_noDict e]
    rfl
  · have := xp_depth e
    rw [PyData.depth, PyData.depthAll, PyData.depthAll]
    omega
  · have h1 := xp_shown e h
    have h2 : (listText [PyData.shown (xpD e)]).length = (PyData.shown (xpD e)).length + 2 := by
      unfold listText
      rw [textFrom, textFrom, strLen_append, strLen_append, strLen_append]
      have e1 : ((("[" : String) : Str)).length = 1 := rfl
      have e2 : ((("]" : String) : Str)).length = 1 := rfl
      have e3 : (((if 0 > 0 then ", " else "" : String) : Str)).length = 0 := rfl
      omega
    rw [PyData.shown, PyData.shownAll, PyData.shownAll, h2]
    have := sizeLine_eq
    omega
end K83
end
section
set_option maxRecDepth 100000
set_option maxHeartbeats 1000000
namespace K83
open PySem PySem.Spec PyProof.Rows L2
open Evl (Ex Ev EvT EvA EvL EvU EvO RV RU RC ev_var ev_c ev_op ev_un ev_if ev_andV ev_orV ev_notV et_test et_B et_and et_or et_not ea_nil ea_cons ev_cb q_asg q_asgL q_asgU q_if q_when s_asg s_ret s_if s_when s_drop q_drop rv_I0 rv_I rv_eq rv_ne rv_val el_sl eo_none eo_some tCut pss_cut q_cut)
section
variable {K : PySem.W.Frag} {σ : L2.St} {H H' : Hp} {ta te to : TE} {t : TT} {p a : Addr} {xs : List V}
/-- [.. for x, y in a list of pairs if ..] -/
theorem el_lcP {tl : TE} {j1 j2 : Nat} {vs : List Nat} (f : Nat → Bool) (v : Nat → V) (h : Ev tl σ H (.ref a)) (hx : H a = some (.lst xs)) (hz : xs.length ≤ 40000) (hw : ∀ x y, wipe (((wipe σ vs).set j1 (some x)).set j2 (some y)) vs = wipe σ vs)
    (ht : ∀ (i : Nat) (x : V), xs[i]? = some x → ∃ (T : Addr) (y z : V), x = .ref T ∧ H T = some (.tup [y, z]) ∧ (∀ H1, Ex H H1 → EvT t (((wipe σ vs).set j1 (some y)).set j2 (some z)) H1 (f i)) ∧ (f i = true → ∀ H1, Ex H H1 → Ev te (((wipe σ vs).set j1 (some y)).set j2 (some z)) H1 (v i))) :
    EvL (tLc (iList K tl) (gTup K 2 (gCons (gName j1) (gCons (gName j2) gNil))) t te vs) σ H (Evl.given xs.length f v) := fun H0 e Q q => h H0 e _ fun H1 e1 => ⟨a, rfl, ⟨xs, Evl.sq_of (e1 _ _ (e _ _ hx))⟩, fun Dl hD =>
  lc_list (xs := xs) (Evl.Cw H1 f v Dl) ⟨hD, Ex.new hD, upd_same⟩ (fun i H' _ p => Evl.sq_of (p.2.1 _ _ (e1 _ _ (e _ _ hx)))) (fun i x H' hi p => by
    obtain ⟨T, y, z, rfl, hT, h1, h2⟩ := ht i x hi
    exact ⟨T, [y, z], rfl, Evl.st_of (p.2.1 _ _ (e1 _ _ (e _ _ hT))), rfl, y, [z], rfl, z, [], rfl, rfl, hw y z, Evl.cw_turn p (by have := (List.getElem?_eq_some_iff.mp hi).1; omega) (h1 H1 (e.trans e1)) (fun hf => h2 hf H1 (e.trans e1))⟩)
    (fun H' p => q Dl H' (Evl.fresh_back e1 p.1) (e1.trans p.2.1) p.2.2)⟩
theorem ev_joinL {b : List Nat} {ws : List (List Nat)} (hs : Ev to σ H (wV b)) (ha : EvL ta σ H (ws.map wV)) (hz : (ws.map List.length).sum + ws.length * b.length ≤ 1000000) :
    Ev (tBM K "str" (fun x xs H Q => ∃ a p, ∃ ys : List Str, x = .str a ∧ xs = [.ref p] ∧ (SqL K H p (ys.map V.str) ∨ SqT K H p (ys.map V.str)) ∧ (ys.map (·.length)).sum + ys.length * a.length ≤ 16777216 ∧ Q (.str (Txt.join a ys)) H) to (tCons ta tNil)) σ H (wV (TL.joinL b ws)) := fun H1 e Q q =>
  hs H1 e _ fun H2 e2 => ⟨rfl, ha H2 (e.trans e2) _ fun p H3 hp e3 h3 => ⟨mkS b, p, ws.map mkS, rfl, rfl, Or.inl (Evl.sq_of (by rw [List.map_map]; exact h3)), by
    have e1 : (ws.map mkS).map (·.length) = ws.map List.length := by
      rw [List.map_map]
      exact List.map_congr_left fun w _ => mkS_len w
    rw [e1, List.length_map, mkS_len]
    omega, by
    rw [join_mk]
    exact q H3 (e2.trans e3)⟩⟩
theorem rv_mulZ {z : Str} (hz : z.length ≤ 100) : RV rMulS (.str z) (.int ((if false then 1 else 0 : Nat) : Int)) H (wV []) := fun H1 _ Q q => ⟨z, 0, rfl, rfl, by decide, hz, by
  have e : repS z 0 = mkS [] := rfl
  rw [e]
  exact q H1 (Ex.refl H1)⟩
end
theorem l_text : ("text" : Str) = mkS [116, 101, 120, 116] := by decide +kernel
section
variable {P : Program} {w : World} {K : PySem.W.Frag} {mg : Str → Option Value} {base : Heap}
abbrev N__law_word : List Str := ["_law_e", "_law_some", "_law_word_here", "_law_fits"]
abbrev s__law_word : Stmt := top 65
theorem sc__law_word : FnScope N__law_word ["_law_e"] (defScope s__law_word) := ⟨rfl, rfl, rfl, by decide +kernel, rfl, by decide +kernel, by decide +kernel⟩
def namD (z : Str) (b : Bool) : PyData := .tuple [.str z, .bool b]
def namL : List (Str × Bool) := [("row", false), ("nought", false), ("prime", false), ("text", true), ("great", false), ("real", false), ("name", false), ("root", false)]
theorem namT {H : Hp} {z : Str} {b : Bool} {v : V} (h : Tp H (namD z b) v) : ∃ T, v = .ref T ∧ H T = some (.tup [.str z, .bl b]) := by
  obtain ⟨T, xs, rfl, hT, ts⟩ := h.tup
  rw [Tps] at ts
  obtain ⟨x, r, rfl, t1, ts⟩ := ts
  rw [Tps] at ts
  obtain ⟨y, r, rfl, t2, ts⟩ := ts
  rw [Tps] at ts
  subst ts
  obtain rfl := t1.str
  rw [Tp] at t2
  subst t2
  exact ⟨T, rfl, hT⟩
theorem ok_law_word (T : Txt w K mg) (A : DefAt K mg "_law_word" s__law_word) : DefOk P w K mg base CX0 "_law_word" 1 ["_law_e"] (spWord K) := by
  refine mk_def0 A sc__law_word (fun _ _ _ _ _ _ us hl => match us, hl with | [_], _ => rfl) (fun vs H Q E ⟨_, h, _⟩ => by rw [h]; rfl) (fun f cdv A outer s H vs Q E hr h => ?_)
  obtain ⟨a, rfl, ha, kk⟩ := h
  refine ⟨_, (pss_cons (ps_set (i := 1) sc__law_word.nd rfl (Or.inl rfl) (pe_lst (pa_cons (pe_tup (pa_cons pe_str (pa_cons (pe_callB call_isV (by rfl) T.f_isinstance (by decide +kernel) (pa_cons (pv 0) (pa_cons (pe_gR T.g_BadRow) pa_nil))) pa_nil))) (pa_cons (pe_tup (pa_cons pe_str (pa_cons (pe_callB call_isV (by rfl) T.f_isinstance (by decide +kernel) (pa_cons (pv 0) (pa_cons (pe_gR T.g_ByNought) pa_nil))) pa_nil))) (pa_cons (pe_tup (pa_cons pe_str (pa_cons (pe_callB call_isV (by rfl) T.f_isinstance (by decide +kernel) (pa_cons (pv 0) (pa_cons (pe_gR T.g_BadPrime) pa_nil))) pa_nil))) pa_nil)))))
      (pss_cons (ps_set (i := 1) sc__law_word.nd rfl (Or.inl rfl) (pe_op op_cat (pv 1) (pe_lst (pa_cons (pe_tup (pa_cons pe_str (pa_cons (pe_callB call_isV (by rfl) T.f_isinstance (by decide +kernel) (pa_cons (pv 0) (pa_cons (pe_gR T.g_BadText) pa_nil))) pa_nil))) (pa_cons (pe_tup (pa_cons pe_str (pa_cons (pe_callB call_isV (by rfl) T.f_isinstance (by decide +kernel) (pa_cons (pv 0) (pa_cons (pe_gR T.g_TooGreat) pa_nil))) pa_nil))) pa_nil)))))
      (pss_cons (ps_set (i := 1) sc__law_word.nd rfl (Or.inl rfl) (pe_op op_cat (pv 1) (pe_lst (pa_cons (pe_tup (pa_cons pe_str (pa_cons (pe_callB call_isV (by rfl) T.f_isinstance (by decide +kernel) (pa_cons (pv 0) (pa_cons (pe_gR T.g_NotReal) pa_nil))) pa_nil))) (pa_cons (pe_tup (pa_cons pe_str (pa_cons (pe_callB call_isV (by rfl) T.f_isinstance (by decide +kernel) (pa_cons (pv 0) (pa_cons (pe_gR T.g_NoName) pa_nil))) pa_nil))) (pa_cons (pe_tup (pa_cons pe_str (pa_cons (pe_callB call_isV (by rfl) T.f_isinstance (by decide +kernel) (pa_cons (pv 0) (pa_cons (pe_gR T.g_NoRoot) pa_nil))) pa_nil))) pa_nil))))))
      (pss_one (ps_ret (pe_op op_add_str (pe_bm PySem.F.plainAttrs_str PySem.F.slot_str_join PySem.F.type_str_join mt_join pe_str (pa_cons (pe_lc (own := [("_law_word_here", 2), ("_law_fits", 3)]) (g := gTup K 2 (gCons (gName 2) (gCons (gName 3) gNil))) rfl sc__law_word.nd (pi_list (pv 1)) (blkOk_by (own := [("_law_word_here", 2), ("_law_fits", 3)]) (N := N__law_word) (sc := defScope s__law_word) (by decide +kernel)) (fun _ _ _ _ _ => (pg_tup rfl (pgs_cons (pg_name (i := 2) sc__law_word.nd rfl (Or.inl rfl)) (pgs_cons (pg_name (i := 3) sc__law_word.nd rfl (Or.inl rfl)) pgs_nil)))) (fun _ _ _ _ _ => (pts_one (pt_val (pv 3)))) (fun _ _ _ _ _ => (pv 2))) pa_nil)) (pe_op op_mulS pe_str (pe_callTy call_int1 (by rfl) T.f_int (by decide +kernel) (pa_cons (pe_not (pe_callB call_isV (by rfl) T.f_isinstance (by decide +kernel) (pa_cons (pv 0) (pa_cons (pe_bltn (v := .ty "ValueError") (by rfl) T.f_ValueError (by decide +kernel) rfl) pa_nil)))) pa_nil))))))))), ?_⟩
  have one : ∀ {z : Str} {b : Bool} {c : Addr} {x1 : Option V} {Ha : Hp}, Ex H Ha → PySem.W.kitOne K (.ref (cBad K)) (.ref c) = some b → EvD (tTup (tCons (tC (.str z)) (tCons (tCB (rIsV K) (tCons (tVar 0) (tCons (tC (.ref c)) tNil))) tNil))) [some (.ref a), x1, none, none] Ha (namD z b) :=
    fun ea k => ed_tup (eds_cons ed_s (eds_cons (ed_b (ev_isV (ev_var rfl) (ea _ _ ha) T.excC k)) eds_nil)) (by simp)
  refine q_asgLD (eld_lst (eds_cons (one (Ex.refl _) T.i_BadRow) (eds_cons (one (Ex.refl _) T.i_ByNought) (eds_cons (one (Ex.refl _) T.i_BadPrime) eds_nil))) (by simp)) fun p1 xs1 H1 hp1 e1 h1 t1 => ?_
  refine q_asgLD (eld_catV (ev_var rfl) h1 t1 (eld_lst (eds_cons (one e1 T.i_BadText) (eds_cons (one e1 T.i_TooGreat) eds_nil)) (by simp)) (by simp)) fun p2 xs2 H2 hp2 e2 h2 t2 => ?_
  have X2 := e1.trans e2
  refine q_asgLD (eld_catV (ev_var rfl) h2 t2 (eld_lst (eds_cons (one X2 T.i_NotReal) (eds_cons (one X2 T.i_NoName) (eds_cons (one X2 T.i_NoRoot) eds_nil))) (by simp)) (by simp)) fun p3 xs3 H3 hp3 e3 h3 t3 => ?_
  have X3 := X2.trans e3
  have t3' : Tps H3 (namL.map fun q => namD q.1 q.2) xs3 := t3
  have l8 : xs3.length = 8 := t3'.len
  refine s_ret (v := wV ((TL.joinL [] [[116, 101, 120, 116]]) ++ [])) (ev_op (ev_joinL (b := []) (ws := [[116, 101, 120, 116]]) (ev_is' ev_c (by rw [l_empty])) ?_ (by decide)) (ev_op ev_c (ev_cb (ea_cons (ev_notV (ev_isVT (b := true) (ev_var rfl) (X3 _ _ ha) T.excC T.i_ValueError)) ea_nil) (rc_intB (σ := []))) (rv_mulZ (by decide +kernel))) (rv_cat (by decide))) fun H4 e4 => ?_
  · have e8 : Evl.given xs3.length (fun i => ((namL[i]?).getD ("", false)).2) (fun i => .str ((namL[i]?).getD ("", false)).1) = [[116, 101, 120, 116]].map wV := by
      rw [l8]
      show [V.str "text"] = [V.str (mkS [116, 101, 120, 116])]
      rw [l_text]
    rw [← e8]
    refine el_lcP _ _ (ev_var rfl) h3 (by omega) (fun _ _ => rfl) fun i x hx => ?_
    have hi : i < 8 := by
      have := (List.getElem?_eq_some_iff.mp hx).1
      omega
    have hg : namL[i]? = some (namL[i]'hi) := List.getElem?_eq_getElem hi
    obtain ⟨y, hy, ty⟩ := Tps.get (i := i) (d := namD (namL[i]'hi).1 (namL[i]'hi).2) t3' (by rw [List.getElem?_map, hg]; rfl)
    rw [hx] at hy
    cases hy
    obtain ⟨T1, rfl, hT⟩ := namT ty
    refine ⟨T1, _, _, rfl, hT, fun Ha ea => ?_, fun _ Ha ea => ?_⟩
    · refine Evl.et_is (et_test (ev_var rfl)) ?_
      rw [hg]
      rfl
    · refine ev_is' (ev_var rfl) ?_
      rw [hg]
      rfl
  · have := kk H4 (X3.trans e4)
    rw [l_text] at this
    exact this
end
end K83
end
section
set_option maxRecDepth 100000
set_option maxHeartbeats 1000000
namespace K83
open PySem PySem.Spec PyProof.Rows L2
open Evl (Ex Ev EvT EvA EvL EvU EvO RV RU RC ev_var ev_c ev_op ev_un ev_if ev_andV ev_orV ev_notV et_test et_B et_and et_or et_not ea_nil ea_cons ev_cb q_asg q_asgL q_asgU q_if q_when s_asg s_ret s_if s_when s_drop q_drop rv_I0 rv_I rv_eq rv_ne rv_val el_sl eo_none eo_some tCut pss_cut q_cut)
def spTold (K : PySem.W.Frag) : Sp := fun vs H Q _ => ∃ cs : List Nat, vs = [.str (mkS cs)] ∧ cs.length ≤ 30000 ∧
  (∀ e, progRead cs = some e → ∀ p v H', H p = none → Ex H H' → H' p = some (.lst [v]) → Tp H' (xpD e) v → Q (.ref p) H') ∧ (progRead cs = none → ∀ H', Ex H H' → Q (.str "text") H')
section
variable {P : Program} {w : World} {K : PySem.W.Frag} {mg : Str → Option Value} {base : Heap}
abbrev N__law_told : List Str := ["_law_text", "_law_caught", "_law_found", "_law_e"]
abbrev s__law_told : Stmt := top 64
theorem sc__law_told : FnScope N__law_told ["_law_text"] (defScope s__law_told) := ⟨rfl, rfl, rfl, by decide +kernel, rfl, by decide +kernel, by decide +kernel⟩
theorem ok_law_told (T : Txt w K mg) (A : DefAt K mg "_law_told" s__law_told) (D_expression : DefOk P w K mg base (L2.CX P w) "expression" 7 ["text"] (spExpr K)) (D__law_word : DefOk P w K mg base CX0 "_law_word" 1 ["_law_e"] (spWord K)) :
    DefOk P w K mg base CX0 "_law_told" 8 ["_law_text"] (spTold K) := by
  refine mk_def0 A sc__law_told (fun _ _ _ _ _ _ us hl => match us, hl with | [_], _ => rfl) (fun vs H Q E ⟨_, h, _⟩ => by rw [h]; rfl) (fun f cdv A outer s H vs Q E hr h => ?_)
  obtain ⟨cs, rfl, hl, k1, k2⟩ := h
  refine ⟨_, (pss_cons (ps_set (i := 1) sc__law_told.nd rfl (Or.inl rfl) pe_non)
      (pss_cons (ps_set (i := 2) sc__law_told.nd rfl (Or.inl rfl) (pe_lst pa_nil))
      (pss_cut (ps_try_keep (i := 3) (tb := fun W => tDrop (tBM K "list" rAppend (tVar 2) (tCons (tCallS (spExpr K) (WE W) (tCons (tVar 0) tNil)) tNil))) (ts := fun a cls d => tAsg (tVar 3) (gName 1)) (c := .ref (He.ga K "RootError")) (Wout := fun _ _ _ _ => False) rfl rfl rfl sc__law_told.nd rfl rfl ⟨rfl, by decide, Or.inl T.g_RootError⟩ (fun u s' ⟨_, _, _, _, _, _, _, _, _, _, _, _, _, _, _, _, z⟩ => z.elim)
        (fun W pn xe tk own => (pss_one (ps_expr (pe_bm PySem.F.plainAttrs_list PySem.F.slot_list_append PySem.F.type_list_append mt_append (pv 2) (pa_cons (pe_defS D_expression (hr.mono (by decide)) rfl (fun σ => passAt tk σ) (pa_cons (pv 0) pa_nil)) pa_nil)))))
        (fun a oe cls d pn hz hd => (pss_one (ps_set (i := 1) sc__law_told.nd rfl (Or.inl rfl) (pv 3)))))
      (pss_one (ps_ret (pe_ifExp (pt_cmpR op_isN (pv 1) pe_non (nomark _)) (pv 2) (pe_def D__law_word (hr.mono (by decide)) rfl pass0 (pa_cons (pv 1) pa_nil)))))))), ?_⟩
  refine q_asg ev_c fun H1 e1 => ?_
  refine q_asgL (Evl.el_lst ea_nil (by decide)) fun p H2 hp e2 h2 => ?_
  have X2 := e1.trans e2
  have hp0 := ex_fresh e1 hp
  refine Evl.q_cut (M := fun σ' H' => Ex H H' ∧ ((∃ e v, progRead cs = some e ∧ σ' = [some (.str (mkS cs)), some .non, some (.ref p), none] ∧ H' p = some (.lst [v]) ∧ Tp H' (xpD e) v) ∨ (progRead cs = none ∧ ∃ a, σ' = [some (.str (mkS cs)), some (.ref a), some (.ref p), none] ∧ H' a = some (ExV (.ref (cBad K)) none a)))) ?_ ?_
  · refine st_app_raw (ev_var rfl) h2 fun H3 e3 => ?_
    refine ⟨_, rfl, cs, rfl, hl, fun e he v H4 e4 tv => ?_, fun he H4 e4 => ?_⟩
    · have X4 := (X2.trans e3).trans e4
      refine ⟨p, [], v, rfl, rfl, (e3.trans e4) _ _ h2, by decide, ?_⟩
      exact ⟨Ex.mut X4 hp0, Or.inl ⟨e, v, he, rfl, upd_same, Tp.mono ((Tk.refl H4).lst ((e3.trans e4) _ _ h2)) _ _ tv⟩⟩
    · refine ⟨true, T.exm, fun _ a ha => ?_, fun h => by cases h⟩
      have X4 := (X2.trans e3).trans e4
      refine s_asg (v := .ref a) (ev_var rfl) fun H5 e5 => ?_
      exact ⟨Ex.mut (X4.trans e5) (ex_fresh X4 ha), Or.inr ⟨he, a, rfl, upd_same⟩⟩
  · rintro σ' H' ⟨ex, ⟨e, v, he, rfl, h3, tv⟩ | ⟨he, a, rfl, ha⟩⟩
    · refine s_ret (v := .ref p) (ev_if (b := true) (Evl.et_is (et_test (ev_op (ev_var rfl) ev_c rv_isN)) rfl) (fun _ => ev_var rfl) (fun h => by cases h)) fun H4 e4 => k1 e he p v H4 hp0 (ex.trans e4) (e4 _ _ h3) (tv.ex e4)
    · refine s_ret (v := .str "text") (ev_if (b := false) (Evl.et_is (et_test (ev_op (ev_var rfl) ev_c rv_isN)) rfl) (fun h => by cases h) (fun _ => Evl.ev_call (ea_cons (ev_var rfl) ea_nil) fun H4 e4 Q' q' _ => ⟨a, rfl, e4 _ _ ha, q'⟩)) fun H4 e4 => k2 he H4 (ex.trans e4)
end
end K83
end
section
set_option maxRecDepth 100000
set_option maxHeartbeats 1000000
namespace K83
open PySem PySem.Spec PyProof.Rows L2
open Evl (Ex Ev EvT EvA EvL EvU EvO RV RU RC ev_var ev_c ev_op ev_un ev_if ev_andV ev_orV ev_notV et_test et_B et_and et_or et_not ea_nil ea_cons ev_cb q_asg q_asgL q_asgU q_if q_when s_asg s_ret s_if s_when s_drop q_drop rv_I0 rv_I rv_eq rv_ne rv_val el_sl eo_none eo_some tCut pss_cut q_cut)
def tot (ws : List (List Nat)) : Nat := (ws.map List.length).sum
theorem tot_app (a b : List (List Nat)) : tot (a ++ b) = tot a + tot b := by simp [tot]
theorem tot_one (w : List Nat) : tot [w] = w.length := by simp [tot]
theorem tot_cut (ws : List (List Nat)) (i : Nat) : tot (ws.take i) + tot (ws.drop i) = tot ws := by rw [← tot_app, List.take_append_drop]
theorem tot_drop (ws : List (List Nat)) (i k : Nat) : tot (ws.drop (i + k)) ≤ tot (ws.drop i) := by
  have := tot_cut (ws.drop i) k
  rw [List.drop_drop] at this
  omega
theorem tot_take1 {ws : List (List Nat)} {L : Nat} (h : ∀ w ∈ ws, w.length ≤ L) (i : Nat) : tot (ws.take (i + 1)) ≤ tot (ws.take i) + L := by
  rw [List.take_succ, tot_app]
  cases e : ws[i]? with
  | none => simp [tot]
  | some w =>
    have := h w (List.mem_of_getElem? e)
    show tot (ws.take i) + tot [w] ≤ _
    rw [tot_one]
    omega
/-- words of a bounded length, none empty -/
def WL (L : Nat) (ws : List (List Nat)) : Prop := ∀ w ∈ ws, w ≠ [] ∧ w.length ≤ L
theorem WL.app {L : Nat} {a b : List (List Nat)} (h : WL L a) (g : WL L b) : WL L (a ++ b) := fun w hw => (List.mem_append.mp hw).elim (h w) (g w)
theorem WL.take {L : Nat} {a : List (List Nat)} (h : WL L a) (i : Nat) : WL L (a.take i) := fun w hw => h w (List.mem_of_mem_take hw)
theorem WL.drop {L : Nat} {a : List (List Nat)} (h : WL L a) (i : Nat) : WL L (a.drop i) := fun w hw => h w (List.mem_of_mem_drop hw)
theorem WL.one {L : Nat} {w : List Nat} (h : w ≠ []) (g : w.length ≤ L) : WL L [w] := fun v hv => by rw [List.mem_singleton.mp hv]; exact ⟨h, g⟩
/-- texts as words -/
def lit (zs : List Str) : List (List Nat) := zs.map fun z => z.cps.toList
theorem lit_V (zs : List Str) : zs.map V.str = (lit zs).map wV := by
  unfold lit
  rw [List.map_map]
  exact List.map_congr_left fun z _ => congrArg V.str (mkS_eq z)
theorem lit_ok {zs : List Str} {L : Nat} (h : (zs.all fun z => decide (0 < z.cps.toList.length) && decide (z.cps.toList.length ≤ 31)) = true) (g : 31 ≤ L) : WL L (lit zs) := fun w hw => by
  obtain ⟨z, hz, rfl⟩ := List.mem_map.mp hw
  have := List.all_eq_true.mp h z hz
  rw [Bool.and_eq_true] at this
  have h1 := of_decide_eq_true this.1
  have h2 := of_decide_eq_true this.2
  exact ⟨fun e => (by rw [e] at h1; cases h1), by omega⟩
def lit1 : List Str := ["0", "1", "2", "8", "9", "16", "17", "01", repS "1" 30, repS "1" 31, "x", "abcdefgh", "abcdefghi"]
def lit2 : List Str := ["A", ".", "root", "sqrt", "cbrt", "(", ")", "[", "]", ",", "+", "-", "*", "/", "^", "(", ")"]
def lit3 : List Str := ["-", "- -", "( ("]
def lit4 : List Str := ["0", "8", "9", "16", "17", "01"]
theorem lits_ok : ((lit1 ++ lit2 ++ lit3).all fun z => decide (0 < z.cps.toList.length) && decide (z.cps.toList.length ≤ 31)) = true := by decide +kernel
theorem lit4_ok : (lit4.all fun z => decide (0 < z.cps.toList.length) && decide (z.cps.toList.length ≤ 31)) = true := by decide +kernel
section
variable {K : PySem.W.Frag} {σ : L2.St} {H H' : Hp} {G : GC} {n many i : Nat} {E : XK} {Q : VK} {ta te tb : TE} {l a : Addr} {xs ys : List V} {t : TT}
/-- a draw below what comes out -/
theorem draw_runE (h0 : σ[i]? = some (some (.ref G.dm))) (he : Ev te σ H (.int (many : Nat))) (m : MAt G n H) (h1 : 0 < many ∧ many ≤ 100000) (hn : n ≤ 1000000) (k : ∀ (r : Nat) H', r < many → Fr G.S H H' → MAt G (n + 1) H' → Q (.int (r : Nat)) H') :
    tCall (spDraw K) [] E (tCons (tVar i) (tCons te tNil)) σ H Q := ⟨_, h0, he H (Ex.refl H) _ fun H1 e1 => ⟨G, n, many, rfl, m.ex e1, h1.1, h1.2, hn, fun r H' hr f m' => k r H' hr ((Fr.of e1).trans f) m'⟩⟩
theorem el_catV (ha : Ev ta σ H (.ref l)) (hl : H l = some (.lst xs)) (hb : EvL tb σ H ys) (hz : xs.length + ys.length ≤ 100000) : EvL (tOp rCat ta tb) σ H (xs ++ ys) := fun H1 e Q q =>
  ha H1 e _ fun H2 e2 => hb H2 (e.trans e2) _ fun p H3 hp e3 h3 => ⟨l, p, xs, ys, rfl, rfl, (e3 _ _ (e2 _ _ (e _ _ hl))), h3, Evl.sz_of hz, fun r hr => q r _ (ex_fresh (e2.trans e3) hr) ((e2.trans e3).trans (Ex.new hr)) upd_same⟩
theorem el_cat (ha : EvL ta σ H xs) (hb : EvL tb σ H ys) (hz : xs.length + ys.length ≤ 100000) : EvL (tOp rCat ta tb) σ H (xs ++ ys) := fun H1 e Q q =>
  ha H1 e _ fun l H2 hl0 e2 hl => hb H2 (e.trans e2) _ fun p H3 hp e3 h3 => ⟨l, p, xs, ys, rfl, rfl, e3 _ _ hl, h3, Evl.sz_of hz, fun r hr => q r _ (ex_fresh (e2.trans e3) hr) ((e2.trans e3).trans (Ex.new hr)) upd_same⟩
theorem el_take {j : Nat} (h : Ev ta σ H (.ref l)) (hl : H l = some (.lst xs)) (hj : Ev tb σ H (.int (j : Int))) : EvL (tSl (rSlL K) ta tNoPart (tPart tb)) σ H (xs.take j) := by
  have := el_sl (K := K) h eo_none (eo_some hj) (Evl.sq_of hl)
  rwa [cutV_lo] at this
theorem el_drop {j : Nat} (h : Ev ta σ H (.ref l)) (hl : H l = some (.lst xs)) (hj : Ev tb σ H (.int (j : Int))) : EvL (tSl (rSlL K) ta (tPart tb) tNoPart) σ H (xs.drop j) := by
  have := el_sl (K := K) h (eo_some hj) eo_none (Evl.sq_of hl)
  rwa [cutV_hi] at this
/-- [.. for k, x in enumerate(list) if ..] -/
theorem el_lcEn {tl : TA} {j1 j2 : Nat} {vs : List Nat} (f : Nat → Bool) (v : Nat → V) (h : EvA tl σ H [.ref a]) (hx : H a = some (.lst xs)) (hz : xs.length ≤ 40000) (hw : ∀ x y, wipe (((wipe σ vs).set j1 (some x)).set j2 (some y)) vs = wipe σ vs)
    (ht : ∀ (i : Nat) (x : V), xs[i]? = some x → (∀ H1, Ex H H1 → EvT t (((wipe σ vs).set j1 (some (.int (i : Nat)))).set j2 (some x)) H1 (f i)) ∧ (f i = true → ∀ H1, Ex H H1 → Ev te (((wipe σ vs).set j1 (some (.int (i : Nat)))).set j2 (some x)) H1 (v i))) :
    EvL (tLc (iEnum K tl) (gTup K 2 (gCons (gName j1) (gCons (gName j2) gNil))) t te vs) σ H (Evl.given xs.length f v) := fun H0 e Q q => h H0 e _ fun H1 e1 => ⟨a, xs, rfl, Evl.sq_of (e1 _ _ (e _ _ hx)), fun Dl hD =>
  lc_it walk_enum (Evl.Cw H1 f v Dl) ⟨hD, Ex.new hD, upd_same⟩ (fun i H' _ p => Evl.sq_of (p.2.1 _ _ (e1 _ _ (e _ _ hx)))) (fun i x H2 H3 hi p ⟨T, x1, x2, ev, hT, e3, e4, e5⟩ => by
    subst ev
    subst e3
    injection e4 with e4
    subst e4
    obtain ⟨h1, h2⟩ := ht i x2 e5
    have p2 : Evl.Cw H1 f v Dl i (upd H2 T (.tup [.int (i : Nat), x2])) := ⟨p.1, p.2.1.trans (Ex.new hT), (Ex.new hT) _ _ p.2.2⟩
    exact ⟨T, [.int (i : Nat), x2], rfl, Evl.st_of upd_same, rfl, _, _, rfl, _, _, rfl, rfl, hw _ _, Evl.cw_turn p2 (by omega) (h1 H1 (e.trans e1)) (fun hf => h2 hf H1 (e.trans e1))⟩)
    (fun H' p => q Dl H' (Evl.fresh_back e1 p.1) (e1.trans p.2.1) p.2.2)⟩
theorem rv_rep {z : Str} {k : Nat} (h : k ≤ 100) (hz : z.length ≤ 100) : RV rMulS (.str z) (.int (k : Nat)) H (.str (repS z k)) := fun H1 _ Q q => ⟨z, k, rfl, rfl, h, hz, q H1 (Ex.refl H1)⟩
end
def spBent (K : PySem.W.Frag) : Sp := fun vs H Q _ => ∃ (G : GC) (n : Nat) (l : Addr) (ws : List (List Nat)) (L : Nat), vs = [.ref G.dm, .ref l] ∧ MAt G n H ∧ n ≤ 900000 ∧ H l = some (.lst (ws.map wV)) ∧ l ∉ G.S ∧ WL L ws ∧ 31 ≤ L ∧ L ≤ 60000 ∧ ws.length ≤ 30000 ∧
  ∀ (p : Addr) (ws' : List (List Nat)) H' n', H p = none → Fr G.S H H' → MAt G n' H' → n' ≤ n + 10 → H' p = some (.lst (ws'.map wV)) → WL L ws' → ws'.length ≤ ws.length + 1 → tot ws' ≤ tot ws + L → Q (.ref p) H'
section
variable {P : Program} {w : World} {K : PySem.W.Frag} {mg : Str → Option Value} {base : Heap}
abbrev N__law_bent : List Str := ["_law_m", "_law_words_here", "_law_pool", "_law_word_here", "_law_at", "_law_way", "_law_figures", "_law_k", "_law_one"]
abbrev s__law_bent : Stmt := top 63
theorem sc__law_bent : FnScope N__law_bent ["_law_m", "_law_words_here"] (defScope s__law_bent) := ⟨rfl, rfl, rfl, by decide +kernel, rfl, by decide +kernel, by decide +kernel⟩
theorem fresh_fr {S : List Addr} {H H' : Hp} {p : Addr} (f : Fr S H H') (n : p ∉ S) (h : H' p = none) : H p = none := by
  cases q : H p with
  | none => rfl
  | some o =>
    have := f p o n q
    rw [h] at this
    cases this
theorem ok_law_bent (T : Txt w K mg) (A : DefAt K mg "_law_bent" s__law_bent) (D__law_draw : DefOk P w K mg base CX0 "_law_draw" 2 ["_law_m", "_law_many"] (spDraw K)) : DefOk P w K mg base CX0 "_law_bent" 3 ["_law_m", "_law_words_here"] (spBent K) := by
  refine mk_def0 A sc__law_bent (fun _ _ _ _ _ _ us hl => match us, hl with | [_, _], _ => rfl) (fun vs H Q E ⟨_, _, _, _, _, h, _⟩ => by rw [h]; rfl) (fun f cdv A outer s H vs Q E hr h => ?_)
  obtain ⟨G, n, l, ws, L, rfl, m, hn, hl, lS, wl, hL, hL2, hwl, kk⟩ := h
  refine ⟨_, (pss_cons (ps_set (i := 2) sc__law_bent.nd rfl (Or.inl rfl) (pe_op op_cat (pv 1) (pe_lst (pa_cons pe_str (pa_cons pe_str (pa_cons pe_str (pa_cons pe_str (pa_cons pe_str (pa_cons pe_str (pa_cons pe_str (pa_cons pe_str (pa_cons (pe_op op_mulS pe_str pe_int) (pa_cons (pe_op op_mulS pe_str pe_int) (pa_cons pe_str (pa_cons pe_str (pa_cons pe_str pa_nil))))))))))))))))
      (pss_cons (ps_set (i := 2) sc__law_bent.nd rfl (Or.inl rfl) (pe_op op_cat (pv 2) (pe_lst (pa_cons pe_str (pa_cons pe_str (pa_cons pe_str (pa_cons pe_str (pa_cons pe_str (pa_cons pe_str (pa_cons pe_str (pa_cons pe_str (pa_cons pe_str (pa_cons pe_str (pa_cons pe_str (pa_cons pe_str (pa_cons pe_str (pa_cons pe_str (pa_cons pe_str (pa_cons pe_str (pa_cons pe_str pa_nil))))))))))))))))))))
      (pss_cons (ps_set (i := 2) sc__law_bent.nd rfl (Or.inl rfl) (pe_op op_cat (pv 2) (pe_lst (pa_cons pe_str (pa_cons pe_str (pa_cons pe_str pa_nil))))))
      (pss_cons (ps_set (i := 3) sc__law_bent.nd rfl (Or.inl rfl) (pe_ix ix_list (pv 2) (pe_def D__law_draw (hr.mono (by decide)) rfl pass0 (pa_cons (pv 0) (pa_cons (pe_callB call_len_seq (by rfl) T.f_len PySem.boot_len (pa_cons (pv 2) pa_nil)) pa_nil))) (fun _ _ => rfl)))
      (pss_cons (ps_set (i := 4) sc__law_bent.nd rfl (Or.inl rfl) (pe_def D__law_draw (hr.mono (by decide)) rfl pass0 (pa_cons (pv 0) (pa_cons (pe_op op_add (pe_callB call_len_seq (by rfl) T.f_len PySem.boot_len (pa_cons (pv 1) pa_nil)) pe_int) pa_nil))))
      (pss_cons (ps_set (i := 5) sc__law_bent.nd rfl (Or.inl rfl) (pe_def D__law_draw (hr.mono (by decide)) rfl pass0 (pa_cons (pv 0) (pa_cons pe_int pa_nil))))
      (pss_cons (ps_setLc (i := 6) (own := [("_law_k", 7), ("_law_one", 8)]) (g := gTup K 2 (gCons (gName 7) (gCons (gName 8) gNil))) rfl sc__law_bent.nd rfl rfl (sw_true rfl rfl rfl (by decide +kernel)) (pi_enum (by rfl) T.f_enumerate (pa_cons (pv 1) pa_nil)) (blkOk_by (own := [("_law_k", 7), ("_law_one", 8)]) (N := N__law_bent) (sc := defScope s__law_bent) (by decide +kernel)) (fun _ _ _ _ _ => (pg_tup rfl (pgs_cons (pg_name (i := 7) sc__law_bent.nd rfl (Or.inl rfl)) (pgs_cons (pg_name (i := 8) sc__law_bent.nd rfl (Or.inl rfl)) pgs_nil)))) (fun _ _ _ _ _ => (pts_one (pt_cmpR op_inS (pe_ix ix_str (pv 8) pe_int (fun _ _ => rfl)) pe_str rfl))) (fun _ _ _ _ _ => (pv 7)))
      (pss_cons (ps_if (PW.pt (pw_and (pt_cmpR op_eq (pv 5) pe_int (nomark _)) (pw_and1 (pt_cmpR (op_neX hr.units) (pv 6) (pe_lst pa_nil) (nomark _))))) (pss_cons (ps_set (i := 4) sc__law_bent.nd rfl (Or.inl rfl) (pe_ix ix_list (pv 6) (pe_def D__law_draw (hr.mono (by decide)) rfl pass0 (pa_cons (pv 0) (pa_cons (pe_callB call_len_seq (by rfl) T.f_len PySem.boot_len (pa_cons (pv 6) pa_nil)) pa_nil))) (fun _ _ => rfl)))
      (pss_one (ps_ret (pe_op op_cat (pe_op op_cat (pe_slice sl_list (pv 1) po_none (po_some (pv 4))) (pe_lst (pa_cons (pe_ix ix_list (pe_lst (pa_cons pe_str (pa_cons pe_str (pa_cons pe_str (pa_cons pe_str (pa_cons pe_str (pa_cons pe_str pa_nil))))))) (pe_def D__law_draw (hr.mono (by decide)) rfl pass0 (pa_cons (pv 0) (pa_cons pe_int pa_nil))) (fun _ _ => rfl)) pa_nil))) (pe_slice sl_list (pv 1) (po_some (pe_op op_add (pv 4) pe_int)) po_none))))) pss_nil)
      (pss_cons (ps_if (pt_cmpR op_eq (pv 5) pe_int (nomark _)) (pss_one (ps_ret (pe_op op_cat (pe_slice sl_list (pv 1) po_none (po_some (pv 4))) (pe_slice sl_list (pv 1) (po_some (pe_op op_add (pv 4) pe_int)) po_none)))) pss_nil)
      (pss_cons (ps_if (pt_cmpR op_eq (pv 5) pe_int (nomark _)) (pss_one (ps_ret (pe_op op_cat (pe_slice sl_list (pv 1) po_none (po_some (pv 4))) (pe_slice sl_list (pv 1) (po_some (pe_callB (call_max2 rfl) (by rfl) T.f_max (by decide +kernel) (pa_cons pe_int (pa_cons (pe_op op_sub (pv 4) pe_int) pa_nil)))) po_none)))) pss_nil)
      (pss_one (ps_ret (pe_op op_cat (pe_op op_cat (pe_slice sl_list (pv 1) po_none (po_some (pv 4))) (pe_lst (pa_cons (pv 3) pa_nil))) (pe_slice sl_list (pv 1) (po_some (pe_op op_sub (pe_op op_add (pv 4) (pv 5)) pe_int)) po_none)))))))))))))), ?_⟩
  have el : ∀ {Ha : Hp}, Ex H Ha → Ha l = some (.lst (ws.map wV)) := fun e => e _ _ hl
  refine q_asgL (el_catV (ev_var rfl) hl (Evl.el_lst (vs := lit1.map V.str) (ea_cons ev_c (ea_cons ev_c (ea_cons ev_c (ea_cons ev_c (ea_cons ev_c (ea_cons ev_c (ea_cons ev_c (ea_cons ev_c (ea_cons (ev_op ev_c ev_c (rv_rep (k := 30) (by decide) (by decide +kernel))) (ea_cons (ev_op ev_c ev_c (rv_rep (k := 31) (by decide) (by decide +kernel))) (ea_cons ev_c (ea_cons ev_c (ea_cons ev_c ea_nil))))))))))))) (by decide)) (by rw [List.length_map]; show ws.length + 13 ≤ 100000; omega)) fun p1 H1 hp1 e1 h1 => ?_
  refine q_asgL (el_catV (ev_var rfl) h1 (Evl.el_lst (vs := lit2.map V.str) (ea_cons ev_c (ea_cons ev_c (ea_cons ev_c (ea_cons ev_c (ea_cons ev_c (ea_cons ev_c (ea_cons ev_c (ea_cons ev_c (ea_cons ev_c (ea_cons ev_c (ea_cons ev_c (ea_cons ev_c (ea_cons ev_c (ea_cons ev_c (ea_cons ev_c (ea_cons ev_c (ea_cons ev_c ea_nil))))))))))))))))) (by decide)) (by rw [List.length_append, List.length_map]; show ws.length + 13 + 17 ≤ 100000; omega)) fun p2 H2 hp2 e2 h2 => ?_
  have X2 := e1.trans e2
  refine q_asgL (el_catV (ev_var rfl) h2 (Evl.el_lst (vs := lit3.map V.str) (ea_cons ev_c (ea_cons ev_c (ea_cons ev_c ea_nil))) (by decide)) (by rw [List.length_append, List.length_append, List.length_map]; show ws.length + 13 + 17 + 3 ≤ 100000; omega)) fun p3 H3 hp3 e3 h3 => ?_
  have X3 := X2.trans e3
  have hpool : ws.map wV ++ lit1.map V.str ++ lit2.map V.str ++ lit3.map V.str = (ws ++ lit (lit1 ++ lit2 ++ lit3)).map wV := by
    have := lit_V (lit1 ++ lit2 ++ lit3)
    rw [List.map_append (l₁ := ws), ← this, List.map_append, List.map_append, List.append_assoc, List.append_assoc, List.append_assoc]
  have wpool : WL L (ws ++ lit (lit1 ++ lit2 ++ lit3)) := wl.app (lit_ok lits_ok hL)
  have npool : (ws ++ lit (lit1 ++ lit2 ++ lit3)).length = ws.length + 33 := by
    rw [List.length_append]
    rfl
  rw [hpool] at h3
  revert h3 wpool npool
  generalize ws ++ lit (lit1 ++ lit2 ++ lit3) = pool
  intro h3 wpool npool
  have m3 := m.ex X3
  have p3H2 : H3 p3 ≠ none := by rw [h3]; simp
  have p3S : p3 ∉ G.S := (m.ex X2).fresh hp3
  have lS3 : H3 l = some (.lst (ws.map wV)) := el X3
  -- the word
  refine ⟨_, rfl, draw_runE (i := 0) (many := pool.length) rfl (ev_is' (Evl.ev_len (ev_var rfl) (Evl.sq_of h3)) (by rw [List.length_map])) m3 (by omega) (by omega) fun r4 H4 hr4 f4 m4 => ?_⟩
  obtain ⟨w0, hw0⟩ : ∃ w0, pool[r4]? = some w0 := ⟨_, List.getElem?_eq_getElem hr4⟩
  obtain ⟨g1, g2⟩ := wpool w0 (List.mem_of_getElem? hw0)
  refine ⟨p3, _, _, _, rfl, rfl, Evl.sq_of (f4.at_ h3 p3S), atI_nat (by rw [List.getElem?_map, hw0]; rfl), ?_⟩
  have F4 := (Fr.of X3).trans f4
  have l4 := f4.at_ lS3 lS
  -- the place, the way
  refine draw_runE (i := 0) (many := ws.length + 1) rfl (ev_is' (ev_op (Evl.ev_len (ev_var rfl) (Evl.sq_of l4)) ev_c rv_I0) (by rw [List.length_map]; rfl)) m4 (by omega) (by omega) fun at5 H5 hr5 f5 m5 => ?_
  have l5 := f5.at_ l4 lS
  refine draw_run (i := 0) 5 rfl m5 (by decide) (by omega) fun way H6 hr6 f6 m6 => ?_
  have l6 := f6.at_ l5 lS
  have F6 := (F4.trans f5).trans f6
  -- the figures
  obtain ⟨ff, hff⟩ : ∃ ff : Nat → Bool, ff = fun i => match ws[i]? with | some (c :: _) => isFig c | _ => false := ⟨_, rfl⟩
  obtain ⟨figl, hfigl⟩ : ∃ figl : List Int, figl = ((List.range ws.length).filter ff).map fun i => ((i : Nat) : Int) := ⟨_, rfl⟩
  have hgv : Evl.given (ws.map wV).length ff (fun i => .int (i : Nat)) = figl.map V.int := by
    rw [hfigl, List.map_map, List.length_map]
    rfl
  dsimp only [gName]
  refine q_asgL (i := 6) (xs := figl.map V.int) ?_ fun p7 H7 hp7 e7 h7 => ?_
  · rw [← hgv]
    refine el_lcEn ff _ (ea_cons (ev_var rfl) ea_nil) l6 (by rw [List.length_map]; omega) (fun _ _ => rfl) fun i x hx => ?_
    rw [List.getElem?_map] at hx
    obtain ⟨v, hv, rfl⟩ := Option.map_eq_some_iff.mp hx
    obtain ⟨v1, v2⟩ := wl v (List.mem_of_getElem? hv)
    refine ⟨fun Ha ea => ?_, fun _ Ha ea => ev_var rfl⟩
    cases v with
    | nil => exact (v1 rfl).elim
    | cons c v =>
      refine Evl.et_is (et_test (ev_op (ev_op (ev_var rfl) ev_c (Evl.rv_ixS (w := mkS (c :: v)) (c := c) (by rw [mkS_len]; omega) (by rw [mkS_list]; exact atI_nat (j := 0) rfl))) ev_c rv_inS)) ?_
      rw [l_figs, hff]
      show decide (c ∈ figs) = match ws[i]? with | some (c :: _) => isFig c | _ => false
      rw [hv]
      rfl
  have F7 := F6.trans (Fr.of e7)
  have m7 := m6.ex e7
  have l7 := e7 _ _ l6
  have p7S : p7 ∉ G.S := m6.fresh hp7
  -- what is returned in the end
  have fin : ∀ (p : Addr) (xs : List (List Nat)) (Ha : Hp) (n' : Nat), H7 p = none → Fr G.S H7 Ha → MAt G n' Ha → n' ≤ n + 10 → Ha p = some (.lst (xs.map wV)) → WL L xs → xs.length ≤ ws.length + 1 → tot xs ≤ tot ws + L → Q (.ref p) Ha :=
    fun p xs Ha n' hp fa ma hn' hxs h1 h2 h3 => kk p xs Ha n' (fresh_fr F7 (m7.fresh hp) hp) (F7.trans fa) ma hn' hxs h1 h2 h3
  have mid : ∀ (x : List Nat) (j k : Nat), x ≠ [] → x.length ≤ L → j ≤ k → WL L ((ws.take j ++ [x]) ++ ws.drop k) ∧ ((ws.take j ++ [x]) ++ ws.drop k).length ≤ ws.length + 1 ∧ tot ((ws.take j ++ [x]) ++ ws.drop k) ≤ tot ws + L := by
    intro x j k h1 h2 h3
    refine ⟨((wl.take j).app (WL.one h1 h2)).app (wl.drop k), ?_, ?_⟩
    · simp only [List.length_append, List.length_take, List.length_drop, List.length_cons, List.length_nil]
      omega
    · rw [tot_app, tot_app, tot_one]
      have := tot_cut ws j
      have := tot_drop ws j (k - j)
      rw [show j + (k - j) = k by omega] at this
      omega
  have ewV : ∀ (x : List Nat) (j k : Nat), ((ws.map wV).take j ++ [wV x]) ++ (ws.map wV).drop k = ((ws.take j ++ [x]) ++ ws.drop k).map wV := by
    intro x j k
    simp only [List.map_append, List.map_take, List.map_drop, List.map_cons, List.map_nil]
  have cond : ∀ {k : Nat} {Ha : Hp} {x4 : Option V}, EvT (tTest (tOp rEq (tVar 5) (tC (.int (k : Nat))))) [some (.ref G.dm), some (.ref l), some (.ref p3), some (wV w0), x4, some (.int (way : Nat)), some (.ref p7), none, none] Ha (decide (way = k)) := fun {k Ha x4} =>
    Evl.et_is (et_test (ev_op (ev_var rfl) ev_c (rv_eq rfl))) (decide_eq_decide.mpr ⟨fun h => by injection h with h; omega, fun h => by rw [h]⟩)
  refine q_when (b := decide (way = 4) && !figl.isEmpty) (et_and cond fun _ => et_test (ev_intsEmpty (neg := true) (ev_var rfl) h7)) (fun hb H8 e8 => ?_) (fun hb H8 e8 => ?_)
  · rw [Bool.and_eq_true] at hb
    have hne : 0 < figl.length := by
      cases figl with
      | nil => cases hb.2
      | cons _ _ => simp
    have hlen : figl.length ≤ ws.length := by
      rw [hfigl, List.length_map]
      have := List.length_filter_le ff (List.range ws.length)
      rwa [List.length_range] at this
    refine ⟨_, rfl, draw_runE (i := 0) (many := figl.length) rfl (ev_is' (Evl.ev_len (ev_var rfl) (Evl.sq_of (e8 _ _ h7))) (by rw [List.length_map])) (m7.ex e8) (by omega) (by omega) fun r9 H9 hr9 f9 m9 => ?_⟩
    obtain ⟨q, hq⟩ : ∃ q, figl[r9]? = some q := ⟨_, List.getElem?_eq_getElem hr9⟩
    have hqm := List.mem_of_getElem? hq
    rw [hfigl] at hqm
    obtain ⟨j, hj, rfl⟩ := List.mem_map.mp hqm
    have hjl : j < ws.length := List.mem_range.mp (List.mem_filter.mp hj).1
    refine ⟨p7, _, _, _, rfl, rfl, Evl.sq_of (f9.at_ (e8 _ _ h7) p7S), atI_nat (by rw [List.getElem?_map, hq]; rfl), ?_⟩
    have l9 := f9.at_ (e8 _ _ l7) lS
    have F9 := (Fr.of e8).trans f9
    -- the parts
    refine (el_take (K := K) (j := j) (ev_var (i := 1) rfl) l9 (ev_var rfl)) H9 (Ex.refl _) _ fun pa Ha hpa ea ha => ?_
    have ma := m9.ex ea
    refine op_runL (xs := lit4.map V.str) (Evl.el_lst (ea_cons ev_c (ea_cons ev_c (ea_cons ev_c (ea_cons ev_c (ea_cons ev_c (ea_cons ev_c ea_nil)))))) (by decide)) fun pb Hb hpb eb hb2 => ?_
    have mb := ma.ex eb
    refine draw_run (i := 0) 6 rfl mb (by decide) (by omega) fun r10 Hc hr10 fc mc => ?_
    have pbS : pb ∉ G.S := ma.fresh hpb
    have paS : pa ∉ G.S := m9.fresh hpa
    rw [lit_V] at hb2
    obtain ⟨x, hx⟩ : ∃ x, (lit lit4)[r10]? = some x := ⟨_, List.getElem?_eq_getElem (by show r10 < 6; omega)⟩
    obtain ⟨x1, x2⟩ := lit_ok lit4_ok hL x (List.mem_of_getElem? hx)
    refine ⟨pb, _, _, _, rfl, rfl, Evl.sq_of (fc.at_ hb2 pbS), atI_nat (by rw [List.getElem?_map, hx]; rfl), ?_⟩
    refine ⟨Evl.sz_of (by simp), fun pd hpd => ?_⟩
    have md := mc.new (o := .lst [wV x]) hpd
    have had : upd Hc pd (.lst [wV x]) pa = some (.lst ((ws.map wV).take j)) := by
      rw [upd_ne (ne_of_none (fc.at_ (eb _ _ ha) paS) hpd)]
      exact fc.at_ (eb _ _ ha) paS
    have ldd : upd Hc pd (.lst [wV x]) l = some (.lst (ws.map wV)) := by
      rw [upd_ne (ne_of_none (fc.at_ (eb _ _ (ea _ _ l9)) lS) hpd)]
      exact fc.at_ (eb _ _ (ea _ _ l9)) lS
    refine ⟨pa, pd, _, _, rfl, rfl, had, upd_same, Evl.sz_of (by simp; omega), fun pe hpe => ?_⟩
    have ed : Ex (upd Hc pd (.lst [wV x])) (upd (upd Hc pd (.lst [wV x])) pe (.lst ((ws.map wV).take j ++ [wV x]))) := Ex.new hpe
    refine (el_drop (K := K) (j := j + 1) (ev_var (i := 1) rfl) (ed _ _ ldd) (ev_op (ev_var rfl) ev_c rv_I0)) _ (Ex.refl _) _ fun pf Hf hpf ef hf => ?_
    refine ⟨pe, pf, _, _, rfl, rfl, ef _ _ upd_same, hf, Evl.sz_of (by simp; omega), fun pg hpg => ?_⟩
    obtain ⟨z1, z2, z3⟩ := mid x j (j + 1) x1 x2 (by omega)
    have Fall : Fr G.S H7 Hf := (((((F9.trans (Fr.of ea)).trans (Fr.of eb)).trans fc).trans (Fr.of (Ex.new hpd))).trans (Fr.of ed)).trans (Fr.of ef)
    have mf := (md.ex ed).ex ef
    refine fin pg _ _ _ (fresh_fr Fall (mf.fresh hpg) hpg) (Fall.trans (Fr.of (Ex.new hpg))) (mf.new hpg) (by omega) ?_ z1 z2 z3
    rw [upd_same, ewV]
  · have l8 := e8 _ _ l7
    have m8 := m7.ex e8
    have F8 := Fr.of (S := G.S) e8
    have fin2 : ∀ {te : TE} {σ : L2.St} {Ha : Hp} (xs : List (List Nat)), Ex H8 Ha → EvL te σ Ha (xs.map wV) → WL L xs → xs.length ≤ ws.length + 1 → tot xs ≤ tot ws + L → tRet te { nx := fun _ H' => Q .non H', rt := Q } σ Ha := by
      intro te σ Ha xs ea he h1 h2 h3
      refine Evl.s_retL he fun p Hb hp eb hb => ?_
      exact fin p xs Hb _ (ex_fresh (e8.trans ea) hp) ((F8.trans (Fr.of ea)).trans (Fr.of eb)) ((m8.ex ea).ex eb) (by omega) hb h1 h2 h3
    refine q_when (b := decide (way = 0)) (cond (k := 0)) (fun hb0 H9 e9 => ?_) (fun hb0 H9 e9 => ?_)
    · refine fin2 (ws.take at5 ++ ws.drop (at5 + 1)) e9 ?_ ((wl.take _).app (wl.drop _)) (by simp; omega) ?_
      · rw [List.map_append, List.map_take, List.map_drop]
        exact el_cat (el_take (ev_var rfl) (e9 _ _ l8) (ev_var rfl)) (el_drop (ev_var rfl) (e9 _ _ l8) (ev_op (ev_var rfl) ev_c rv_I0)) (by simp; omega)
      · rw [tot_app]
        have := tot_cut ws at5
        have := tot_drop ws at5 1
        omega
    · have l9 := e9 _ _ l8
      refine q_when (b := decide (way = 1)) (cond (k := 1)) (fun hb1 Ha ea => ?_) (fun hb1 Ha ea => ?_)
      · refine fin2 (ws.take at5 ++ ws.drop (at5 - 1)) (e9.trans ea) ?_ ((wl.take _).app (wl.drop _)) (by simp; omega) ?_
        · rw [List.map_append, List.map_take, List.map_drop]
          refine el_cat (el_take (ev_var rfl) (ea _ _ l9) (ev_var rfl)) (el_drop (ev_var rfl) (ea _ _ l9) (ev_is' (Evl.ev_max2 ev_c (ev_op (ev_var rfl) ev_c rv_I0)) ?_)) (by simp; omega)
          show V.int (if (at5 : Int) - 1 > 0 then (at5 : Int) - 1 else 0) = V.int ((at5 - 1 : Nat) : Int)
          congr 1
          split <;> omega
        · rw [tot_app]
          cases at5 with
          | zero =>
            have := tot_cut ws 0
            show tot (ws.take 0) + tot (ws.drop 0) ≤ _
            omega
          | succ j =>
            have := tot_cut ws j
            have := tot_take1 (fun w hw => (wl w hw).2) j
            show tot (ws.take (j + 1)) + tot (ws.drop j) ≤ _
            omega
      · have hb0' : way ≠ 0 := of_decide_eq_false hb0
        have hb1' : way ≠ 1 := of_decide_eq_false hb1
        obtain ⟨z1, z2, z3⟩ := mid w0 at5 (at5 + way - 2) g1 g2 (by omega)
        refine fin2 ((ws.take at5 ++ [w0]) ++ ws.drop (at5 + way - 2)) (e9.trans ea) ?_ z1 z2 z3
        rw [← ewV]
        refine el_cat (el_cat (el_take (ev_var rfl) (ea _ _ l9) (ev_var rfl)) (Evl.el_lst (ea_cons (ev_var rfl) ea_nil) (by simp)) (by simp; omega)) (el_drop (ev_var rfl) (ea _ _ l9) (ev_is' (ev_op (ev_op (ev_var rfl) (ev_var rfl) rv_I0) ev_c rv_I0) ?_)) (by simp; omega)
        show V.int ((at5 : Int) + (way : Int) - 2) = V.int ((at5 + way - 2 : Nat) : Int)
        congr 1
        omega
end
end K83
end
section
set_option maxRecDepth 100000
set_option maxHeartbeats 1000000
namespace K83
open PySem PySem.Spec PyProof.Rows L2
open Evl (Ex Ev EvT EvA EvL EvU EvO RV RU RC ev_var ev_c ev_op ev_un ev_if ev_andV ev_orV ev_notV et_test et_B et_and et_or et_not ea_nil ea_cons ev_cb q_asg q_asgL q_asgU q_if q_when s_asg s_ret s_if s_when s_drop q_drop rv_I0 rv_I rv_eq rv_ne rv_val el_sl eo_none eo_some tCut pss_cut q_cut)
theorem sgn_small {c : Nat} (h : sgn c = true) : c < 128 := by
  unfold sgn at h
  rw [Bool.or_eq_true, Bool.or_eq_true, Bool.or_eq_true] at h
  rcases h with ((h | h) | h) | h
  · have : c ∈ figs := of_decide_eq_true h
    simp [figs] at this
    omega
  · have := let_lt h
    omega
  · have : c ∈ sigs := of_decide_eq_true h
    simp [sigs] at this
    omega
  · have := of_decide_eq_true h
    omega
theorem addLast_tot (acc : List (List Nat)) (c : Nat) : tot (addLast acc c) ≤ tot acc + 1 := by
  cases acc with
  | nil => simp [addLast, tot]
  | cons u r => simp [addLast, tot]; omega
theorem addLast_asc {acc : List (List Nat)} {c : Nat} (h : ∀ w ∈ acc, asc w = true) (hc : c < 128) : ∀ w ∈ addLast acc c, asc w = true := by
  cases acc with
  | nil => intro w hw; simp [addLast] at hw
  | cons u r =>
    intro w hw
    rcases List.mem_cons.mp hw with e | hw
    · rw [e]
      unfold asc
      rw [List.all_append]
      have : (u.all fun c => decide (c < 128)) = true := h u (List.mem_cons_self ..)
      rw [this]
      simp [hc]
    · exact h w (List.mem_cons_of_mem _ hw)
/-- the words of a text have its signs -/
theorem lw_more : ∀ (cs : List Nat) (last : Nat) (acc ws : List (List Nat)), lw last acc cs = some ws → (∀ w ∈ acc, asc w = true) → (∀ c ∈ cs, c < 128) → (∀ w ∈ ws, asc w = true) ∧ tot ws ≤ tot acc + cs.length
  | [], last, acc, ws, h, ha, hc => by
    rw [lw] at h
    cases h
    refine ⟨fun w hw => ha w (List.mem_reverse.mp hw), ?_⟩
    have : tot acc.reverse = tot acc := by simp [tot, List.sum_reverse]
    rw [this]
    exact Nat.le_add_right _ _
  | c :: cs, last, acc, ws, h, ha, hc => by
    have h0 := hc c (List.mem_cons_self ..)
    have h1 : ∀ d ∈ cs, d < 128 := fun d hd => hc d (List.mem_cons_of_mem _ hd)
    rw [lw] at h
    split at h
    · cases h
    · split at h
      · obtain ⟨a, b⟩ := lw_more cs _ _ ws h (addLast_asc ha h0) h1
        have := addLast_tot acc c
        exact ⟨a, by rw [List.length_cons]; omega⟩
      · split at h
        · obtain ⟨a, b⟩ := lw_more cs _ _ ws h (fun w hw => by
            rcases List.mem_cons.mp hw with e | hw
            · rw [e]; simp [asc, h0]
            · exact ha w hw) h1
          have : tot ([c] :: acc) = tot acc + 1 := by simp [tot]; omega
          exact ⟨a, by rw [List.length_cons]; omega⟩
        · obtain ⟨a, b⟩ := lw_more cs _ _ ws h ha h1
          exact ⟨a, by rw [List.length_cons]; omega⟩
theorem joinL_small {ws : List (List Nat)} {a : List Nat} {n : Nat} (h : tot ws + ws.length * a.length ≤ n) : (TL.joinL a ws).length ≤ n := Nat.le_trans (joinL_len a ws) h
section
variable {K : PySem.W.Frag} {σ : L2.St} {H : Hp} {ta : TE} {l : Addr}
theorem ev_wordsEmpty {neg : Bool} {ws : List (List Nat)} (ha : Ev ta σ H (.ref l)) (h : H l = some (.lst (ws.map wV))) (hw : ∀ w ∈ ws, asc w = true) : Ev (tOp (rEqX K neg) ta (tLst tNil)) σ H (.bl (if neg then !ws.isEmpty else ws.isEmpty)) :=
  Evl.ev_opL ha (Evl.el_lst ea_nil (by decide)) fun p H1 hp e => fun H2 e2 Q q => by
    refine ⟨.list (ws.map wD), .list [], .lst (Evl.sq_of (e2 _ _ (e _ _ h))) (dp_words ws), .lst (Evl.sq_of (e2 _ _ hp)) .nil, ?_, rfl, ?_, ?_⟩
    · rw [PyData.canLay0]
      exact lay_words hw
    · unfold Room1
      simp [PyData.depth, PyData.depthAll]
    · rw [eqv_nil, List.isEmpty_map]
      exact q H2 (Ex.refl H2)
theorem rc_min2 {i j : Int} : RC (fun xs H Q => ∃ i j, xs = [.int i, .int j] ∧ Q (.int (if j < i then j else i)) H) [.int i, .int j] H (.int (if j < i then j else i)) := fun H1 _ _ q => ⟨i, j, rfl, q H1 (Ex.refl H1)⟩
end
theorem op_left {r : R2} {ta tb : TE} {σ : L2.St} {H : Hp} {Q : VK} (h : ta σ H fun x H1 => tb σ H1 fun y H2 => r x y H2 Q) : tOp r ta tb σ H Q := h
def four : List Nat := [1, 1, 2, 4]
theorem four_at {r : Nat} (h : r < 4) : ∃ t, ([V.int 1, .int 1, .int 2, .int 4] : List V)[r]? = some (.int (t : Nat)) ∧ t ≤ 4 := by
  match r, h with
  | 0, _ => exact ⟨1, rfl, by decide⟩
  | 1, _ => exact ⟨1, rfl, by decide⟩
  | 2, _ => exact ⟨2, rfl, by decide⟩
  | 3, _ => exact ⟨4, rfl, by decide⟩
theorem l_blank2 : ("  " : Str) = mkS [32, 32] := by decide +kernel
theorem seps_at {r : Nat} (h : r < 4) : ∃ a : List Nat, ([V.str " ", .str " ", .str "", .str "  "] : List V)[r]? = some (wV a) ∧ a.length ≤ 2 := by
  match r, h with
  | 0, _ => exact ⟨[32], by rw [l_blank]; rfl, by decide⟩
  | 1, _ => exact ⟨[32], by rw [l_blank]; rfl, by decide⟩
  | 2, _ => exact ⟨[], by rw [l_empty]; rfl, by decide⟩
  | 3, _ => exact ⟨[32, 32], by rw [l_blank2]; rfl, by decide⟩
def spLaw (K : PySem.W.Frag) : Sp := fun vs H Q _ => ∃ (l : Addr) (sc : List Int), vs = [.ref l] ∧ SqL K H l (sc.map .int) ∧ sc.length ≤ 63 ∧ ∀ H', Q (.bl true) H'
section
variable {P : Program} {w : World} {K : PySem.W.Frag} {mg : Str → Option Value} {base : Heap}
abbrev N_law : List Str := ["_law_script", "_law_m", "_law_k", "_law_words_here", "_law_turn", "_law_text", "_law_due"]
abbrev s_law : Stmt := top 66
theorem sc_law : FnScope N_law ["_law_script"] (defScope s_law) := ⟨rfl, rfl, rfl, by decide +kernel, rfl, by decide +kernel, by decide +kernel⟩
theorem law_body (T : Txt w K mg) (D__law_begun : DefOk P w K mg base CX0 "_law_begun" 2 ["_law_script"] (spBegun K)) (D__law_draw : DefOk P w K mg base CX0 "_law_draw" 2 ["_law_m", "_law_many"] (spDraw K)) (D__law_tree : DefOk P w K mg base CX0 "_law_tree" 5 ["_law_m", "_law_steps"] (spTree K))
    (D__law_written : DefOk P w K mg base CX0 "_law_written" (5 + 188) ["_law_tree_here", "_law_least", "_law_m"] (spWr K 188)) (D__law_words : DefOk P w K mg base CX0 "_law_words" 1 ["_law_text"] (spLWords K)) (D__law_bent : DefOk P w K mg base CX0 "_law_bent" 3 ["_law_m", "_law_words_here"] (spBent K))
    (D__law_read : DefOk P w K mg base CX0 "_law_read" 4 ["_law_text"] (spRead K)) (D__law_told : DefOk P w K mg base CX0 "_law_told" 8 ["_law_text"] (spTold K))
    (f : Addr) (cdv : Value) (A : Around) (outer : List Env) (s : Shared) (H : Hp) (vs : List V) (Q : VK) (E : XK) (hr : Room 193 (A.deeper (envOfC "law" (defScope s_law) s.heap.objs.size f cdv)))
    (hg : (A.deeper (envOfC "law" (defScope s_law) s.heap.objs.size f cdv)).guards = some []) (hru : (A.deeper (envOfC "law" (defScope s_law) s.heap.objs.size f cdv)).units + 2000 < cLine) (h : spLaw K vs H Q E) :
    ∃ t, PSs (cxOf CX0 P w K mg base N_law "law" (defScope s_law) f cdv A outer s H E) (defBody s_law) t ∧ t { nx := fun _ H' => Q .non H', rt := Q } (L2.start N_law vs) H := by
  obtain ⟨l, sc, rfl, hl, hsc, kk⟩ := h
  suffices hh : ∃ t, PSs (cxOf CX0 P w K mg base N_law "law" (defScope s_law) f cdv A outer s H E).nox (defBody s_law) t ∧ t { nx := fun _ H' => Q .non H', rt := Q } (L2.start N_law [.ref l]) H by
    obtain ⟨t, h1, h2⟩ := hh
    exact ⟨t, h1.nox, h2⟩
  refine ⟨_, (pss_cons (ps_set (i := 1) sc_law.nd rfl (Or.inl rfl) (pe_def D__law_begun (hr.mono (by decide)) rfl pass0 (pa_cons (pv 0) pa_nil)))
      (pss_cons (ps_for PassesOwn.never rfl (pi_range1 rfl T.f_range (pa_cons (pe_op op_add pe_int (pe_callB (call_min2 rfl) (by rfl) T.f_min (by decide +kernel) (pa_cons pe_int (pa_cons (pe_callB call_len_seq (by rfl) T.f_len PySem.boot_len (pa_cons (pv 0) pa_nil)) pa_nil)))) pa_nil)) (pg_name (i := 2) sc_law.nd rfl (Or.inl rfl)) (pss_cons (ps_set (i := 3) sc_law.nd rfl (Or.inl rfl) (pe_lst pa_nil))
      (pss_cut (ps_if (pt_cmpR op_gt (pe_def D__law_draw (hr.mono (by decide)) rfl pass0 (pa_cons (pv 1) (pa_cons pe_int pa_nil))) pe_int (nomark _)) (pss_one (ps_set (i := 3) sc_law.nd rfl (Or.inl rfl) (pe_def D__law_words (hr.mono (by decide)) rfl pass0 (pa_cons (pe_def D__law_written (hr.mono (by decide)) rfl pass0 (pa_cons (pe_def D__law_tree (hr.mono (by decide)) rfl pass0 (pa_cons (pv 1) (pa_cons (pe_def D__law_draw (hr.mono (by decide)) rfl pass0 (pa_cons (pv 1) (pa_cons pe_int pa_nil))) pa_nil))) (pa_cons pe_int (pa_cons pe_non pa_nil)))) pa_nil)))) pss_nil)
      (pss_cut (ps_for PassesOwn.never rfl (pi_range1 rfl T.f_range (pa_cons (pe_op op_add (pe_ix ix_list (pe_lst (pa_cons pe_int (pa_cons pe_int (pa_cons pe_int (pa_cons pe_int pa_nil))))) (pe_def D__law_draw (hr.mono (by decide)) rfl pass0 (pa_cons (pv 1) (pa_cons pe_int pa_nil))) (fun _ _ => rfl)) (pe_op op_mul pe_int (pe_callTy call_int1 (by rfl) T.f_int (by decide +kernel) (pa_cons (pe_cmpR (op_eqX hr.units) (pv 3) (pe_lst pa_nil) (nomark _)) pa_nil)))) pa_nil)) (pg_name (i := 4) sc_law.nd rfl (Or.inl rfl)) (pss_one (ps_set (i := 3) sc_law.nd rfl (Or.inl rfl) (pe_def D__law_bent (hr.mono (by decide)) rfl pass0 (pa_cons (pv 1) (pa_cons (pv 3) pa_nil))))))
      (pss_cons (ps_set (i := 5) sc_law.nd rfl (Or.inl rfl) (pe_bm PySem.F.plainAttrs_str PySem.F.slot_str_join PySem.F.type_str_join mt_join (pe_ix ix_list (pe_lst (pa_cons pe_str (pa_cons pe_str (pa_cons pe_str (pa_cons pe_str pa_nil))))) (pe_def D__law_draw (hr.mono (by decide)) rfl pass0 (pa_cons (pv 1) (pa_cons pe_int pa_nil))) (fun _ _ => rfl)) (pa_cons (pv 3) pa_nil)))
      (pss_cons (ps_set (i := 6) sc_law.nd rfl (Or.inl rfl) (pe_def D__law_read (hr.mono (by decide)) rfl pass0 (pa_cons (pv 5) pa_nil)))
      (pss_one (ps_if (pt_cmpR op_ne (pe_callB (call_reprD hg hru) (by rfl) T.f_repr (by decide +kernel) (pa_cons (pe_def D__law_told (hr.mono (by decide)) rfl pass0 (pa_cons (pv 5) pa_nil)) pa_nil)) (pe_callB (call_reprD hg hru) (by rfl) T.f_repr (by decide +kernel) (pa_cons (pe_ifExp (pt_cmpR op_isN (pv 6) pe_non (nomark _)) pe_str (pe_lst (pa_cons (pv 6) pa_nil))) pa_nil)) (nomark _)) (pss_one (ps_ret pe_bl)) pss_nil))))))))
      (pss_one (ps_ret pe_bl)))), ?_⟩
  refine ⟨_, rfl, l, sc, rfl, hl, by omega, fun G H1 m1 e1 hdm hld => ?_⟩
  dsimp only [gName]
  have hl1 := Evl.ex_l e1 hl
  obtain ⟨N, hN⟩ : ∃ N : Int, N = 1 + (if (sc.length : Int) < 62 then (sc.length : Int) else 62) := ⟨_, rfl⟩
  have hN1 : 0 ≤ N ∧ N ≤ 63 := by rw [hN]; split <;> omega
  refine Evl.q_forR1 (n := N) (ea_cons (ev_is' (ev_op ev_c (ev_cb (ea_cons ev_c (ea_cons (Evl.ev_len (ev_var rfl) hl1) ea_nil)) rc_min2) rv_I0) (by rw [List.length_map, hN])) ea_nil) (by omega)
    (fun i σ' H' => ∃ (n : Nat) (x2 x3 x4 x5 x6 : Option V), MAt G n H' ∧ n ≤ 1200 * i ∧ σ' = [some (.ref l), some (.ref G.dm), x2, x3, x4, x5, x6]) (fun H2 e2 => ⟨0, none, none, none, none, none, m1.ex e2, by omega, rfl⟩) ?_ (fun σ' H' _ => s_ret ev_c fun H2 _ => kk H2)
  rintro i σ' Ha hi ⟨n, x2, x3, x4, x5, x6, ma, hn, rfl⟩
  have hi63 : i < 63 := by omega
  refine q_asgL (Evl.el_lst ea_nil (by decide)) fun p0 Hb hp0 eb hb => ?_
  have mb := ma.ex eb
  -- words
  refine Evl.q_cut (M := fun σ' H' => ∃ (pw : Addr) (ws : List (List Nat)) (n1 : Nat) (x4' x5' x6' : Option V), MAt G n1 H' ∧ n1 ≤ n + 1002 ∧ H' pw = some (.lst (ws.map wV)) ∧ pw ∉ G.S ∧ WL 3100 ws ∧ (∀ w ∈ ws, asc w = true) ∧ tot ws ≤ 3000 ∧ ws.length ≤ 3000 ∧
    σ' = [some (.ref l), some (.ref G.dm), some (.int (i : Nat)), some (.ref pw), x4', x5', x6']) ?_ ?_
  · refine draw_run (i := 1) 4 rfl mb (by decide) (by omega) fun r Hc hr4 fc mc => ?_
    refine ⟨_, _, rfl, rfl, _, rfl, ?_⟩
    by_cases hr0 : (r : Int) > 0
    · rw [decide_eq_true hr0]
      refine iteT ?_
      refine ⟨_, rfl, draw_run (i := 1) 13 rfl mc (by decide) (by omega) fun r2 Hd hr2 fd md => ?_⟩
      refine ⟨G, _, r2, rfl, md, by omega, by omega, fun e v He n2 ge be fe me hn2 tv => ?_⟩
      have hdep : dep e ≤ 188 := by
        have := dep_wb e
        omega
      refine ⟨e, v, 0, rfl, tv, ge, hdep, by omega, fun Hf ef => ?_⟩
      have okw := wT_ok e 0 ge
      have hlen : (wT e 0).length ≤ 2000 := by
        have := okw.2
        omega
      have hsm : ∀ c ∈ wT e 0, c < 128 := fun c hc => sgn_small (List.all_eq_true.mp okw.1 c hc)
      refine ⟨wT e 0, rfl, by omega, fun ws hws p Hg hp eg h3 => ?_, fun hno => ?_⟩
      · obtain ⟨a1, a2⟩ := lw_small _ _ _ ws 0 hws (fun w hw => by cases hw)
        obtain ⟨b1, b2⟩ := lw_more _ _ _ ws hws (fun w hw => by cases hw) hsm
        have t0 : tot [] = 0 := rfl
        refine ⟨p, ws, n2, _, _, _, (me.ex ef).ex eg, by omega, h3, (me.ex ef).fresh hp, fun w hw => ?_, b1, by omega, by simp at a2; omega, rfl⟩
        have := a1 w hw
        exact ⟨this.1, by omega⟩
      · obtain ⟨ws, hws⟩ := lw_good (wT e 0) 0 [] okw.1
        rw [hws] at hno
        cases hno
    · rw [decide_eq_false hr0]
      refine iteF ?_
      exact ⟨p0, [], _, _, _, _, mc, by omega, fc.at_ hb (ma.fresh hp0), ma.fresh hp0, fun w hw => (by cases hw), fun w hw => (by cases hw), by decide, by decide, rfl⟩
  rintro σ' Hc ⟨pw, ws, n1, x4', x5', x6', mc, hn1, hpw, pwS, wl, wasc, wtot, wlen, rfl⟩
  -- bends
  refine Evl.q_cut (M := fun σ' H' => ∃ (pw : Addr) (ws : List (List Nat)) (n1 : Nat) (x4' x5' x6' : Option V), MAt G n1 H' ∧ n1 ≤ n + 1190 ∧ H' pw = some (.lst (ws.map wV)) ∧ pw ∉ G.S ∧ tot ws + 2 * ws.length ≤ 30000 ∧
    σ' = [some (.ref l), some (.ref G.dm), some (.int (i : Nat)), some (.ref pw), x4', x5', x6']) ?_ ?_
  · refine op_left ?_
    refine op_runL (xs := [V.int 1, .int 1, .int 2, .int 4]) (Evl.el_lst (ea_cons ev_c (ea_cons ev_c (ea_cons ev_c (ea_cons ev_c ea_nil)))) (by decide)) fun p4 Hd hp4 ed h4 => ?_
    have md := mc.ex ed
    have p4S := mc.fresh hp4
    refine draw_run (i := 1) 4 rfl md (by decide) (by omega) fun r He hr4 fe me => ?_
    obtain ⟨t, ht, ht4⟩ := four_at hr4
    refine ⟨p4, _, _, _, rfl, rfl, Evl.sq_of (fe.at_ h4 p4S), atI_nat ht, ?_⟩
    have hpe := fe.at_ (ed _ _ hpw) pwS
    refine (ev_op ev_c (ev_cb (ea_cons (ev_wordsEmpty (neg := false) (ev_var rfl) hpe wasc) ea_nil) (rc_intB (σ := []))) (rv_mul (Or.inr (by decide)))) He (Ex.refl _) _ fun Hf ef => ?_
    have mf := me.ex ef
    have hpf := ef _ _ hpe
    obtain ⟨L, nb, hL, hnb, hL1, hL2, wlL, hfin⟩ : ∃ L nb : Nat, (t : Int) + 11 * ((if (if false = true then !ws.isEmpty else ws.isEmpty) = true then 1 else 0 : Nat) : Int) = (nb : Nat) ∧ nb ≤ 15 ∧ 31 ≤ L ∧ L ≤ 60000 ∧ WL L ws ∧ tot ws + nb * L + 2 * (ws.length + nb) ≤ 30000 := by
      cases ws with
      | nil => exact ⟨31, t + 11, by show (t : Int) + 11 * ((1 : Nat) : Int) = _; omega, by omega, by decide, by decide, fun w hw => (by cases hw), (by
          have : tot [] = 0 := rfl
          rw [this, List.length_nil]
          omega)⟩
      | cons u us => exact ⟨3100, t, by show (t : Int) + 11 * ((0 : Nat) : Int) = _; omega, by omega, by decide, by decide, wl, by omega⟩
    refine ⟨_, _, rfl, rfl, ?_⟩
    refine ⟨(nb : Int), by rw [← hL], by omega, by omega, for_range (lo := 0) (n := nb) (fun j σ' H' => ∃ (pw : Addr) (vs : List (List Nat)) (n2 : Nat) (x4' x5' x6' : Option V), MAt G n2 H' ∧ n2 ≤ n + 1003 + 10 * j ∧ H' pw = some (.lst (vs.map wV)) ∧ pw ∉ G.S ∧ WL L vs ∧ tot vs ≤ tot ws + j * L ∧ vs.length ≤ ws.length + j ∧
      σ' = [some (.ref l), some (.ref G.dm), some (.int (i : Nat)), some (.ref pw), x4', x5', x6']) ⟨pw, ws, _, _, _, _, mf, by omega, hpf, pwS, wlL, by omega, by omega, rfl⟩ ?_ ?_⟩
    · rintro j σ' Hg hj ⟨pv1, vs, n2, y4, y5, y6, mg1, hn2, hpv, pvS, wv, tv, lv, rfl⟩
      refine ⟨_, rfl, _, rfl, G, n2, pv1, vs, L, rfl, mg1, by omega, hpv, pvS, wv, hL1, hL2, by omega, fun p ws' Hh n3 hp fh mh hn3 hws wl' len' tot' => ?_⟩
      refine ⟨p, ws', n3, _, _, _, mh, by omega, hws, mg1.fresh hp, wl', ?_, by omega, rfl⟩
      rw [Nat.succ_mul]
      omega
    · rintro σ' Hg ⟨pv1, vs, n2, y4, y5, y6, mg1, hn2, hpv, pvS, wv, tv, lv, rfl⟩
      exact ⟨pv1, vs, n2, _, _, _, mg1, by omega, hpv, pvS, by omega, rfl⟩
  rintro σ' Hd ⟨pw, ws, n2, x4', x5', x6', md, hn2, hpw, pwS, wsm, rfl⟩
  -- the text
  refine op_runL (xs := [V.str " ", .str " ", .str "", .str "  "]) (Evl.el_lst (ea_cons ev_c (ea_cons ev_c (ea_cons ev_c (ea_cons ev_c ea_nil)))) (by decide)) fun p5 He hp5 ee h5 => ?_
  have me := md.ex ee
  refine draw_run (i := 1) 4 rfl me (by decide) (by omega) fun r Hf hr4 ff mf => ?_
  obtain ⟨a, ha, ha2⟩ := seps_at hr4
  refine ⟨p5, _, _, _, rfl, rfl, Evl.sq_of (ff.at_ h5 (md.fresh hp5)), atI_nat ha, ?_⟩
  have hpf := ff.at_ (ee _ _ hpw) pwS
  have hal : ws.length * a.length ≤ 2 * ws.length := by
    rw [Nat.mul_comm 2]
    exact Nat.mul_le_mul_left _ ha2
  refine ⟨rfl, _, rfl, mkS a, pw, ws.map mkS, rfl, rfl, Or.inl (Evl.sq_of (by rw [List.map_map]; exact hpf)), ?_, ?_⟩
  · have e1 : (ws.map mkS).map (·.length) = ws.map List.length := by
      rw [List.map_map]
      exact List.map_congr_left fun w _ => mkS_len w
    rw [e1, List.length_map, mkS_len]
    have : (ws.map List.length).sum = tot ws := rfl
    omega
  rw [join_mk]
  have hcs : (TL.joinL a ws).length ≤ 30000 := joinL_small (by omega)
  revert hcs
  generalize TL.joinL a ws = cs
  intro hcs
  dsimp only [gName]
  -- what the law reads
  refine ⟨_, rfl, cs, rfl, hcs, fun e he oke v Hg eg tv => ?_, fun hno Hg eg => ?_⟩
  · have mg1 := mf.ex eg
    obtain ⟨okn, hnd⟩ := progRead_small he
    obtain ⟨o1, o2, o3, o4⟩ := one_small okn hnd
    refine ⟨_, rfl, cs, rfl, hcs, fun e' he' p v' Hh hp eh hh tv' => ?_, fun hno => (by rw [he] at hno; cases hno)⟩
    rw [he] at he'
    cases he'
    refine ⟨.ref p, .list [xpD e], rfl, .lst (Evl.sq_of hh) (.cons (Tp.dp _ _ tv') .nil), fun _ z => (by cases z), fun _ z => (by cases z), fun z => (by cases z), o1, o2, o3, o4, ?_⟩
    refine (Evl.et_is (b := false) (et_test (ev_op (ev_var rfl) ev_c rv_isN)) (decide_eq_false (xp_ne tv))) Hh (Ex.refl _) _ fun Hi ei => ?_
    refine iteF ?_
    refine (Evl.el_lst (vs := [v]) (ea_cons (ev_var rfl) ea_nil) (by simp)) Hi (Ex.refl _) _ fun p2 Hj hp2 ej hj => ?_
    refine ⟨.ref p2, .list [xpD e], rfl, .lst (Evl.sq_of hj) (.cons (Tp.dp _ _ (((tv.ex eh).ex ei).ex ej)) .nil), fun _ z => (by cases z), fun _ z => (by cases z), fun z => (by cases z), o1, o2, o3, o4, ?_⟩
    refine ⟨rfl, _, rfl, ?_⟩
    rw [decide_eq_true rfl]
    refine iteF ?_
    exact ⟨_, _, _, _, _, _, ((mg1.ex eh).ex ei).ex ej, by omega, rfl⟩
  · have mg1 := mf.ex eg
    refine ⟨_, rfl, cs, rfl, hcs, fun e' he' => (by rw [hno] at he'; cases he'), fun _ Hh eh => ?_⟩
    have o4 : (PyData.shown (.str "text")).length ≤ sizeLine := Nat.le_trans (sh_lit (by decide +kernel) (by decide +kernel)) (by have := sizeLine_eq; omega)
    have o1 : (PyData.str "text").showable = true := by rw [PyData.showable]
    have o2 : (PyData.str "text").hasDict = false := by rw [PyData.hasDict]
    have o3 : (PyData.str "text").depth ≤ 1000 := by rw [PyData.depth]; decide
    refine ⟨.str "text", .str "text", rfl, .str _, fun _ z => (by cases z), fun _ z => (by cases z), fun z => (by cases z), o1, o2, o3, o4, ?_⟩
    refine (Evl.et_is (b := true) (et_test (ev_op (ev_var rfl) ev_c rv_isN)) rfl) Hh (Ex.refl _) _ fun Hi ei => ?_
    refine iteT ?_
    refine ⟨.str "text", .str "text", rfl, .str _, fun _ z => (by cases z), fun _ z => (by cases z), fun z => (by cases z), o1, o2, o3, o4, ?_⟩
    refine ⟨rfl, _, rfl, ?_⟩
    rw [decide_eq_true rfl]
    refine iteF ?_
    exact ⟨_, _, _, _, _, _, (mg1.ex eh).ex ei, by omega, rfl⟩
end
end K83
end
section
set_option maxRecDepth 100000
set_option maxHeartbeats 1000000
/-! A def called from a given place; the law called from without. -/
namespace K83
open PySem PySem.Spec PyProof.Rows L2
section
variable {P : Program} {w : World} {K : PySem.W.Frag} {mg : Str → Option Value} {base : Heap} {x : Str} {st : Stmt} {N ps : List Str} {sp : Sp} {f : Addr} {fd : FuncData}
/-- what a def does when it is called at the place B -/
theorem run_at (B : Around) {k : Nat} (room : Room (k + 1) B) (D : FunD K x x (defArgs st) (defBody st) (defScope st) [] [] f fd) (S : FnScope N ps (defScope st)) (len : ∀ vs H Q E, sp vs H Q E → vs.length = ps.length)
    (body : ∀ (cdv : Value) (outer : List Env) (s : Shared) (H : Hp) (vs : List V) (Q : VK) (E : XK), sp vs H Q E →
      ∃ t, PSs (cxOf CX0 P w K mg base N x (defScope st) f cdv B outer s H E) (defBody st) t ∧ t { nx := fun _ H' => Q .non H', rt := Q } (L2.start N vs) H)
    {outer : List Env} {s : Shared} {H : Hp} {args : Args} {us : List Value} {vs : List V} {Q : VK} {E : XK} (env : Env0 P w K mg base B outer s H) (bind : BindsTo s fd args (ps.zip us)) (rel : Vals vs us) (wish : sp vs H Q E) :
    codeAny (model P w) B (.call (.ref f) args) (CR CX0 outer P w H s Q E) s := by
  obtain ⟨_, _, dV, kV, doc, pm, an, cdv, ct, _, rfl, look, code, _, _⟩ := D.ex
  have inK : K.In s.heap := PySem.W.Frag.In.keeps env.mod.kin fun b o q => (env.bs b o q).1
  have nol : s.heap.NoLimit := env.mod.nolimit.keeps fun b o q => (env.bs b o q).1
  have kinds : ∀ y ∈ ps.zip us, (defScope st).names.lookup y.1 = some .local ∨ ((defScope st).names.lookup y.1 = some .cell ∧ ((cellsFrom (s.heap.objs.size + 1) (defScope st).names []).lookup y.1).isSome = true) := by
    rintro ⟨n, v⟩ hy
    have hn := S.par n (List.of_mem_zip hy).1
    cases hn with
    | inl q => exact Or.inl q
    | inr q => exact Or.inr ⟨q, PySem.W.cellsFrom_some _ _ _ (Or.inl q)⟩
  apply codeAny_call_function room.depth (inK _ _ look) rfl S.co S.gen rfl (PySem.W.codeRec_of inK code)
  apply bind
  apply wpAny_newFunctionEnv_cells S.kind kinds
  intro env1 he s1 x1
  subst he
  refine ⟨nol.keeps x1.toInCall.keep, ?_⟩
  apply codeAny_func
  obtain ⟨t, ht, hq⟩ := body cdv outer s H vs Q E wish
  have I := inv_start (CX := CX0) (N := N) (E := E) S room.hd env (len _ _ _ _ wish) rel x1
  have done : ∀ {σ' : L2.St} {H' : Hp} {s' : Shared} {v : V} {u : Value}, Inv (cxOf CX0 P w K mg base N x (defScope st) f cdv B outer s H E) [] σ' H' s' → RelV v u → Q v H' → CE outer P w H s Q u s' := by
    intro σ' H' s' v u J rv q
    exact ⟨v, H', J.os, J.bare, J.base, J.hok, rv, q⟩
  refine wpAny_mono (ht.run [] s1 (L2.start N vs) H _ I hq) ?_ (fun _ _ z => z)
  intro fl s' hs
  cases fl with
  | ret u => obtain ⟨v, σ', H', J, rv, q⟩ := hs; exact done J rv q
  | next => obtain ⟨σ', H', J, q⟩ := hs; exact done (v := V.non) (u := Value.none) J rfl q
  | brk => obtain ⟨_, _, _, q⟩ := hs; exact q.elim
  | cont => obtain ⟨_, _, _, q⟩ := hs; exact q.elim
end
/-- called from without: the script is tracked, or is one of the module's own lists -/
theorem law_at {P : Program} {w : World} {K : PySem.W.Frag} {mg mb : Str → Option Value} {fa a : Addr} {fd : FuncData} {x : Str} {sp : Sp} {s₁ : Shared} {vs : List Value} {ns : List Int}
    (inK : K.In s₁.heap) (gl : s₁.heap.Ns mainGlobals mg) (bl : s₁.heap.Ns builtinsNs mb) (boot : ∀ x : Str, x ≠ "__name__" → mb x = bootBuiltins x) (nol : s₁.heap.NoLimit) (gens : s₁.gens = #[])
    (obj : s₁.heap.get? a = some { cls := .type "list", data := .seq vs.toArray }) (hints : IntsAre vs ns) (few : ns.length ≤ sizeLine)
    (run : ∀ base : Heap, K.In base → base.Ns mainGlobals mg → ∀ (H : Hp), Env0 P w K mg base callerA [] s₁ H → BindsTo s₁ fd ⟨[.ref a], []⟩ ([x].zip [.ref a]) → sp [.ref a] H (fun v _ => v = .bl true) (fun _ _ _ => False) →
      codeAny (model P w) callerA (.call (.ref fa) ⟨[.ref a], []⟩) (CR CX0 [] P w H s₁ (fun v _ => v = .bl true) (fun _ _ _ => False)) s₁)
    (bind : ∀ (s : Shared) (u : Value), BindsTo s fd ⟨[u], []⟩ [(x, u)]) (wish : ∀ H : Hp, Only H → SqL K H a (ns.map V.int) → sp [.ref a] H (fun v _ => v = .bl true) fun _ _ _ => False) :
    codeAny (model P w) callerA (.call (.ref fa) ⟨[.ref a], []⟩) (fun r s' => r = .ok (.ret (.bool true)) ∧ OldK s₁.heap s'.heap ∧ s'.os = s₁.os ∧ AllBare s'.gens) s₁ := by
  have rel := vals_ints hints
  have lens := hints.length
  have core : ∀ H : Hp, Only H → SqL K H a (ns.map V.int) → HOk P w H s₁.heap → (∀ b, H b ≠ none → b = a) → (H a ≠ none → K.lookup a = none) →
      codeAny (model P w) callerA (.call (.ref fa) ⟨[.ref a], []⟩) (fun r s' => r = .ok (.ret (.bool true)) ∧ OldK s₁.heap s'.heap ∧ s'.os = s₁.os ∧ AllBare s'.gens) s₁ := by
    intro H only seq hok one out
    have under : ∀ {b : Addr} {o : Obj}, s₁.heap.get? b = some o → H b = none → (hidT s₁.heap H).get? b = some o := fun e n => hidT_get e n
    have dictNot : ∀ {b : Addr} {o : Obj} {es : Array DictEntry} {ep : Nat}, s₁.heap.get? b = some o → o.data = .dict es ep → H b = none := by
      intro b o es ep e d
      by_cases q : H b = none
      · exact q
      · obtain rfl := one b q
        rw [obj] at e
        injection e with e
        rw [← e] at d
        exact nomatch d
    have nsUnder : ∀ {b : Addr} {m : Str → Option Value}, s₁.heap.Ns b m → (hidT s₁.heap H).Ns b m := by
      rintro b m ⟨o, es, ep, e, d, r⟩
      exact ⟨o, es, ep, under e (dictNot e d), d, r⟩
    have kUnder : K.In (hidT s₁.heap H) := by
      intro b o e
      refine under (inK b o e) ?_
      by_cases q : H b = none
      · exact q
      · obtain rfl := one b q
        rw [out q] at e
        exact nomatch e
    have mod : Mod K mg (hidT s₁.heap H) := ⟨kUnder, nsUnder gl, ⟨mb, nsUnder bl, boot⟩, by
      obtain ⟨mc, h1, h2⟩ := nol
      exact ⟨mc, nsUnder h1, h2⟩⟩
    have env : Env0 P w K mg (hidT s₁.heap H) callerA [] s₁ H := ⟨rfl, mod, fun b o e => of_hidT e, by rw [hidT_size]; exact Nat.le_refl _, trivial, fun b hb => (List.not_mem_nil hb).elim, hok, .of_eq gens⟩
    refine codeAny_mono (run _ kUnder (nsUnder gl) H env (bind s₁ (.ref a)) (wish H only seq)) ?_
    intro r s' hr
    cases r with
    | error e => exact (show False from hr).elim
    | ok fl =>
      cases fl with
      | ret u =>
        obtain ⟨v, H', os, bare, un, hok', r', q⟩ := hr
        have q : v = .bl true := q
        subst q
        have hu : u = Value.bool true := r'
        subst hu
        refine ⟨rfl, OldK.of_keep ?_, os, bare⟩
        intro b o e
        rcases only b with q | ⟨ob, xs, q⟩
        · exact un.keep b o e q (fun z => (List.not_mem_nil z).elim) (fun z => (List.not_mem_nil z).elim)
        · obtain ⟨e1, _⟩ := hok b _ q
          obtain ⟨e2, _⟩ := hok' b _ (un.frzs b ob _ q)
          rw [e] at e1
          rw [e2, Option.some.inj e1]
      | next => exact (show False from hr).elim
      | brk => exact (show False from hr).elim
      | cont => exact (show False from hr).elim
  by_cases hk : K.lookup a = none
  · refine core (fun b => if b = a then some (.frz { cls := .type "list", data := .seq vs.toArray } (.lst (ns.map V.int))) else none) ?_ (Or.inl (Or.inr ⟨{ cls := .type "list", data := .seq vs.toArray }, if_pos rfl⟩)) ?_ ?_ (fun _ => hk)
    · intro b
      by_cases hb : b = a
      · exact Or.inr ⟨_, _, if_pos hb⟩
      · exact Or.inl (if_neg hb)
    · intro b u z
      by_cases hb : b = a
      · have z := (if_pos hb).symm.trans z
        injection z with z
        subst z
        subst hb
        exact ⟨obj, by rw [List.length_map]; exact few, vs, _, rel, obj⟩
      · have z := (if_neg hb).symm.trans z
        exact nomatch z
    · intro b z
      by_cases hb : b = a
      · exact hb
      · exact (z (if_neg hb)).elim
  · obtain ⟨o, ho⟩ := Option.ne_none_iff_exists'.mp hk
    have e := inK a o ho
    rw [obj] at e
    injection e with e
    subst e
    exact core (fun _ => none) (fun _ => Or.inl rfl) (Or.inr ⟨_, vs.toArray, _, ho, rfl, rfl, rfl, by rw [List.size_toArray, lens]; exact few, by simpa using rel⟩) (fun b u z => nomatch z) (fun b z => (z rfl).elim) fun z => (z rfl).elim
end K83
end
section
set_option maxRecDepth 100000
set_option maxHeartbeats 1000000
/-! What the top has left, put together; the law's end. -/
namespace K83
open PySem PySem.Spec PyProof.Rows L2
section
variable {w : World} {h : Heap} {K : PySem.W.Frag} {mg : Str → Option Value}
theorem m_glo {x : Str} (hx : x ∈ gloNames) : He.Fa.glo x ∈ fal := by
  unfold fal
  simp only [List.mem_append]
  exact Or.inl (Or.inl (Or.inl (Or.inl (Or.inl (List.mem_map.mpr ⟨x, hx, rfl⟩)))))
theorem m_glo2 {x : Str} (hx : x ∈ gloNames2) : He.Fa.glo x ∈ fal := by
  unfold fal
  simp only [List.mem_append]
  exact Or.inl (Or.inl (Or.inl (Or.inl (Or.inr (List.mem_map.mpr ⟨x, hx, rfl⟩)))))
theorem m_free {x : Str} (hx : x ∈ freeNames) : He.Fa.free x ∈ fal := by
  unfold fal
  simp only [List.mem_append]
  exact Or.inl (Or.inl (Or.inl (Or.inr (List.mem_map.mpr ⟨x, hx, rfl⟩))))
theorem m_meth {x : Str} (hx : x ∈ methNames) : He.Fa.meth "Reader" x ∈ fal := by
  unfold fal
  simp only [List.mem_append]
  exact Or.inl (Or.inr (List.mem_map.mpr ⟨x, hx, rfl⟩))
theorem m_fld {x : Str} (hx : x ∈ fldNames) : He.Fa.noat "Reader" x ∈ fal := by
  unfold fal
  simp only [List.mem_append]
  exact Or.inr (List.mem_map.mpr ⟨x, hx, rfl⟩)
theorem m_oth {f : He.Fa} {i : Nat} (hx : ([.str "LETTERS" "abcdefghijklmnopqrstuvwxyz", .str "FIGURES" "0123456789", .str "SIGNS" "+-*/^()[],", .int "MOST_WORDS" 200, .int "MOST_LETTERS" 8, .int "MOST_FIGURES" 30,
    .int "MOST_NESTED" 20, .int "MOST_MINUS" 20, .int "MOST_POWER" 8, .int "MOST_NUMBERS" 17, .int "MOST_PLACE" 16, .str "OPEN" "(", .cls "Reader", .mkr "Reader", .exc "BadText", .exm "BadText" "RootError" true] : List He.Fa)[i]? = some f) : f ∈ fal := by
  unfold fal
  simp only [List.mem_append]
  exact Or.inl (Or.inl (Or.inr (List.mem_of_getElem? hx)))
/-! a table's word on every text -/
theorem look_map {α β : Type} (f : α → β) (z : Str) : ∀ l : List (Str × α), (l.map fun q => (q.1, f q.2)).lookup z = (l.lookup z).map f
  | [] => rfl
  | (k, v) :: l => by
    rw [List.map_cons, List.lookup_cons, List.lookup_cons, look_map f z l]
    cases z == k <;> rfl
theorem look_mem {α : Type} {z : Str} {v : α} : ∀ {l : List (Str × α)}, l.lookup z = some v → (z, v) ∈ l
  | [], h => nomatch h
  | (k, u) :: l, h => by
    rw [List.lookup_cons] at h
    cases e : z == k with
    | true =>
      rw [e] at h
      injection h with h
      rw [eq_of_beq e, h]
      exact List.mem_cons_self ..
    | false =>
      rw [e] at h
      exact List.mem_cons_of_mem _ (look_mem h)
theorem look_none {α : Type} {z : Str} : ∀ {l : List (Str × α)}, l.lookup z = none → ∀ q ∈ l, q.1 ≠ z
  | [], _, q, hq => (List.not_mem_nil hq).elim
  | (k, u) :: l, h, q, hq => by
    rw [List.lookup_cons] at h
    cases e : z == k with
    | true =>
      rw [e] at h
      cases h
    | false =>
      rw [e] at h
      rcases List.mem_cons.mp hq with q1 | q1
      · rw [q1]
        intro e2
        have e2 : k = z := e2
        rw [e2, beq_self_eq_true] at e
        cases e
      · exact look_none h q q1
theorem says_of {a : Addr} {kvs : List (Str × He.Dv)} (hd : He.dicW K a = some (He.keysIn w.params (kvs.map (·.1)))) (hv : He.valsB K a kvs = true) : Says K a (kvs.map fun q => (q.1, q.2.v K)) := by
  intro z
  rw [look_map]
  cases hl : kvs.lookup z with
  | some d =>
    obtain ⟨u, h1, h2⟩ := He.valsB_ok hv (look_mem hl)
    exact ⟨some u, h1, h2⟩
  | none =>
    refine ⟨none, ?_, trivial⟩
    obtain ⟨es, n, D⟩ := He.dicW_ok hd
    have hk : es.toList.map He.keyOf = He.keysIn w.params (kvs.map (·.1)) := by
      unfold He.dicW at hd
      rw [D.at_] at hd
      have e1 : (decide (("dict" : String) = "dict") && ((#[] : Array (Option Value)).isEmpty && !(a == sysModules))) = true := by
        rw [D.low]
        rfl
      have hd : (match decide (("dict" : String) = "dict") && ((#[] : Array (Option Value)).isEmpty && !(a == sysModules)) with
        | true => some (es.toList.map He.keyOf)
        | false => none) = some (He.keysIn w.params (kvs.map (·.1))) := hd
      rw [e1] at hd
      exact Option.some.inj hd
    have hno : ∀ e ∈ es.toList, e.key.isStr z = false ∧ e.refKey = false := by
      intro e he
      have h1 : He.keyOf e ∈ es.toList.map He.keyOf := List.mem_map.mpr ⟨e, he, rfl⟩
      rw [hk] at h1
      obtain ⟨k, hkm, hke⟩ := List.mem_map.mp h1
      obtain ⟨q, hq, hqk⟩ := List.mem_map.mp hkm
      have hne := look_none hl q hq
      unfold He.keyOf at hke
      split at hke
      · rename_i x t hx
        injection hke with hke
        injection hke with hk1 hk2
        refine ⟨?_, ?_⟩
        · rw [hx]
          show (x == z) = false
          refine beq_eq_false_iff_ne.mpr ?_
          rw [← hk1, ← hqk]
          exact hne
        · unfold DictEntry.refKey
          rw [hx]
      · cases hke
    unfold PySem.W.nsIn
    rw [D.at_]
    have f1 : es.toList.find? (·.key.isStr z) = none := List.find?_eq_none.mpr fun e he => by rw [(hno e he).1]; exact Bool.false_ne_true
    have f2 : es.toList.any (·.refKey) = false := List.any_eq_false.mpr fun e he => by rw [(hno e he).2]; exact Bool.false_ne_true
    show (match es.toList.find? (·.key.isStr z) with
      | some e => some (some e.val)
      | none => if es.toList.any (·.refKey) then none else some none) = some none
    rw [f1, f2]
    rfl
theorem tab_at {fa : List He.Fa} {fn : List He.DefD} {ts : List He.Tab} (c : He.SaysT fa fn ts w K) (i : Nat) {t : He.Tab} (ht : ts[i]? = some t) : He.dicW K (t.1 K) = some (He.keysIn w.params t.2) := by
  have e : ts.map (fun t => He.dicW K (t.1 K)) = ts.map fun t => some (He.keysIn w.params t.2) := congrArg (fun z : He.AlT => z.2) c
  have e2 := congrArg (fun l => l[i]?) e
  simp only [List.getElem?_map, ht, Option.map_some] at e2
  exact Option.some.inj e2
theorem txt_of (X : K.In h) (G : h.Ns mainGlobals mg) (c : He.SaysX fal fnl tsl [] exl w h K) : Txt w K mg := by
  have fa : ∀ {f : He.Fa}, f ∈ fal → f.ok K = true := fun m => c.t.d.facts m
  have gl : ∀ (x : Str), x ∈ gloNames → mg x = some (.ref (He.ga K x)) := fun x m => He.glo_ok X G (fa (m_glo m))
  have fr : ∀ (x : Str), x ∈ freeNames → mg x = none := fun x m => He.free_ok X G (fa (m_free m))
  have na : ∀ (x : Str), x ∈ fldNames → NoAttr K (He.ga K "Reader") x := fun x m => He.noat_ok (fa (m_fld m))
  obtain ⟨b1, b2, b3, b4⟩ := He.exc_ok (x := "BadText") (fa (m_oth (i := 14) rfl))
  obtain ⟨t1, more⟩ := He.ba c.more
  obtain ⟨t2, more⟩ := He.ba more
  obtain ⟨t3, more⟩ := He.ba more
  obtain ⟨t4, more⟩ := He.ba more
  obtain ⟨v1, more⟩ := He.ba more
  obtain ⟨v2, more⟩ := He.ba more
  obtain ⟨ec, kinds⟩ := He.ba more
  have k9 : ∀ {q : Value × Bool} (i : Nat), (kinds9 K)[i]? = some q → PySem.W.kitOne K (.ref (cBad K)) q.1 = some q.2 := fun i hq => of_decide_eq_true (List.all_eq_true.mp kinds _ (List.mem_of_getElem? hq))
  exact {
    bad := ⟨b1, gl _ (by decide +kernel), b2, b3, b4⟩
    f_len := fr _ (by decide +kernel)
    f_range := fr _ (by decide +kernel)
    f_enumerate := fr _ (by decide +kernel)
    f_isinstance := fr _ (by decide +kernel)
    f_str := fr _ (by decide +kernel)
    f_int := fr _ (by decide +kernel)
    f_abs := fr _ (by decide +kernel)
    f_min := fr _ (by decide +kernel)
    f_max := fr _ (by decide +kernel)
    f_tuple := fr _ (by decide +kernel)
    f_list := fr _ (by decide +kernel)
    f_repr := fr _ (by decide +kernel)
    f_all := fr _ (by decide +kernel)
    f_ValueError := fr _ (by decide +kernel)
    c_LETTERS := He.str_ok X G (fa (m_oth (i := 0) rfl))
    c_FIGURES := He.str_ok X G (fa (m_oth (i := 1) rfl))
    c_SIGNS := He.str_ok X G (fa (m_oth (i := 2) rfl))
    c_OPEN := He.str_ok X G (fa (m_oth (i := 11) rfl))
    c_MOST_WORDS := He.int_ok X G (fa (m_oth (i := 3) rfl))
    c_MOST_LETTERS := He.int_ok X G (fa (m_oth (i := 4) rfl))
    c_MOST_FIGURES := He.int_ok X G (fa (m_oth (i := 5) rfl))
    c_MOST_NESTED := He.int_ok X G (fa (m_oth (i := 6) rfl))
    c_MOST_MINUS := He.int_ok X G (fa (m_oth (i := 7) rfl))
    c_MOST_POWER := He.int_ok X G (fa (m_oth (i := 8) rfl))
    c_MOST_NUMBERS := He.int_ok X G (fa (m_oth (i := 9) rfl))
    c_MOST_PLACE := He.int_ok X G (fa (m_oth (i := 10) rfl))
    g_TOLD := gl _ (by decide +kernel)
    g_PLAIN := gl _ (by decide +kernel)
    g_TWO := gl _ (by decide +kernel)
    g_ROOTS := gl _ (by decide +kernel)
    g_LEVELS := gl _ (by decide +kernel)
    g_BINARY := gl _ (by decide +kernel)
    g_Reader := gl _ (by decide +kernel)
    g_RootError := gl _ (by decide +kernel)
    g_BadRow := gl _ (by decide +kernel)
    g_ByNought := gl _ (by decide +kernel)
    g_BadPrime := gl _ (by decide +kernel)
    g_BadText := gl _ (by decide +kernel)
    g_TooGreat := gl _ (by decide +kernel)
    g_NotReal := gl _ (by decide +kernel)
    g_NoName := gl _ (by decide +kernel)
    g_NoRoot := gl _ (by decide +kernel)
    s_TOLD := fun H => He.tupB_ok t1 H
    s_PLAIN := fun H => He.tupB_ok t2 H
    s_TWO := fun H => He.tupB_ok t3 H
    s_ROOTS := fun H => He.tupB_ok t4 H
    k_LEVELS := He.dicW_ok (tab_at c.t 0 rfl)
    k_BINARY := He.dicW_ok (tab_at c.t 1 rfl)
    v_LEVELS := says_of (kvs := levD) (tab_at c.t 0 rfl) v1
    v_BINARY := says_of (kvs := binD) (tab_at c.t 1 rfl) v2
    cl := He.cls_ok (fa (m_oth (i := 12) rfl))
    mkr := He.mkr_ok (fa (m_oth (i := 13) rfl))
    exm := He.exm_ok (fa (m_oth (i := 15) rfl))
    excC := excB_ok ec
    na_words := na _ (by decide +kernel)
    na_at := na _ (by decide +kernel)
    na_told := na _ (by decide +kernel)
    na_waiting := na _ (by decide +kernel)
    na_deep := na _ (by decide +kernel)
    na_minuses := na _ (by decide +kernel)
    na_is_base := na _ (by decide +kernel)
    i_BadRow := k9 0 rfl
    i_ByNought := k9 1 rfl
    i_BadPrime := k9 2 rfl
    i_BadText := k9 3 rfl
    i_TooGreat := k9 4 rfl
    i_NotReal := k9 5 rfl
    i_NoName := k9 6 rfl
    i_NoRoot := k9 7 rfl
    i_ValueError := k9 8 rfl
  }
theorem def_at (X : K.In h) (G : h.Ns mainGlobals mg) (c : He.SaysD fal fnl K) {x : Str} {i : Nat} (j : Nat) (hx : x ∈ gloNames ++ gloNames2) (hd : fnl[j]? = some (dF x i)) : DefAt K mg x (top i) := by
  obtain ⟨fd, F⟩ := c.def_ j hd
  have m : He.Fa.glo x ∈ fal := (List.mem_append.mp hx).elim m_glo m_glo2
  exact ⟨He.ga K x, fd, F, He.glo_ok X G (c.facts m)⟩
theorem met_at (c : He.SaysD fal fnl K) {m q : Str} {i : Nat} (j : Nat) (hx : m ∈ methNames) (hd : fnl[j]? = some (dM m q i)) : MetAt K m q (inClass (top 38) i) := by
  obtain ⟨fd, F⟩ := c.def_ j hd
  exact ⟨He.ma K (He.ga K "Reader") m, fd, F, He.meth_ok (c.facts (m_meth hx))⟩
end
section
variable {P : Program} {w : World} {h base : Heap} {K : PySem.W.Frag} {mg : Str → Option Value}
/-- every def keeps its promise; the law's body with them -/
theorem law_all (T : Txt w K mg) (X : K.In h) (G : h.Ns mainGlobals mg) (c : He.SaysD fal fnl K) (f : Addr) (cdv : Value) (A : Around) (outer : List Env) (s : Shared) (H : Hp) (vs : List V) (Q : VK) (E : XK) (hr : Room 193 (A.deeper (envOfC "law" (defScope s_law) s.heap.objs.size f cdv)))
    (hg : (A.deeper (envOfC "law" (defScope s_law) s.heap.objs.size f cdv)).guards = some []) (hru : (A.deeper (envOfC "law" (defScope s_law) s.heap.objs.size f cdv)).units + 2000 < cLine) (hsp : spLaw K vs H Q E) :
    ∃ t, PSs (cxOf CX0 P w K mg base N_law "law" (defScope s_law) f cdv A outer s H E) (defBody s_law) t ∧ t { nx := fun _ H' => Q .non H', rt := Q } (L2.start N_law vs) H := by
  have da : ∀ {x : Str} {i : Nat} (j : Nat), x ∈ gloNames ++ gloNames2 → fnl[j]? = some (dF x i) → DefAt K mg x (top i) := fun j hx hd => def_at X G c j hx hd
  have ma : ∀ {m q : Str} {i : Nat} (j : Nat), m ∈ methNames → fnl[j]? = some (dM m q i) → MetAt K m q (inClass (top 38) i) := fun j hx hd => met_at c j hx hd
  have D_need := ok_need (P := P) (base := base) T (da 0 (by decide +kernel) rfl)
  have D_is_name := ok_is_name (P := P) (base := base) T (da 1 (by decide +kernel) rfl)
  have D_is_number := ok_is_number (P := P) (base := base) T (da 2 (by decide +kernel) rfl)
  have D_run_of := ok_run_of (P := P) (base := base) T (da 3 (by decide +kernel) rfl)
  have D_word_at := ok_word_at (P := P) (base := base) T (da 4 (by decide +kernel) rfl) D_need D_is_name D_is_number D_run_of
  have D_words_of := ok_words_of (P := P) (base := base) T (da 5 (by decide +kernel) rfl) D_need D_word_at
  have M_next_word := ok_next_word (P := P) (base := base) T (ma 8 (by decide +kernel) rfl)
  have M_take := ok_take (P := P) (base := base) T (ma 9 (by decide +kernel) rfl) D_need M_next_word
  have M_number := ok_number (P := P) (base := base) T (ma 10 (by decide +kernel) rfl) D_need D_is_number M_next_word
  have M_with_minus := ok_with_minus (P := P) (base := base) T (ma 11 (by decide +kernel) rfl) M_next_word M_take M_number
  have M_opened := ok_opened (P := P) (base := base) T (ma 12 (by decide +kernel) rfl) D_need M_take
  have M_minus := ok_minus (P := P) (base := base) T (ma 14 (by decide +kernel) rfl) D_need
  have M_done_down_to := ok_done_down_to (P := P) (base := base) T (ma 17 (by decide +kernel) rfl)
  have M_power := ok_power (P := P) (base := base) T (ma 16 (by decide +kernel) rfl) D_need M_take M_with_minus
  have M_root := ok_root (P := P) (base := base) T (ma 13 (by decide +kernel) rfl) D_need M_next_word M_take M_number M_with_minus
  have M_operand := ok_operand (P := P) (base := base) T (ma 15 (by decide +kernel) rfl) D_need D_is_number D_is_name M_next_word M_take M_number M_opened M_minus M_root
  have M_closed := ok_closed (P := P) (base := base) T (ma 18 (by decide +kernel) rfl) D_need M_take M_done_down_to
  have M_behind := ok_behind (P := P) (base := base) T (ma 19 (by decide +kernel) rfl) D_need M_next_word M_take M_power M_closed M_done_down_to
  have M_all_items := ok_all_items (P := P) (base := base) T (ma 20 (by decide +kernel) rfl) D_need M_operand M_behind M_done_down_to
  have M_init := ok_init (P := P) (base := base) T (ma 7 (by decide +kernel) rfl)
  have D_grown := ok_grown (P := P) (base := base) T (da 6 (by decide +kernel) rfl)
  have D_expression := ok_expression (P := P) (base := base) T (da 21 (by decide +kernel) rfl) D_words_of M_init M_all_items D_grown
  have D__law_words := ok_law_words (P := P) (base := base) T (da 33 (by decide +kernel) rfl)
  have D__law_are_words := ok_law_are_words (P := P) (base := base) T (da 34 (by decide +kernel) rfl)
  have D__law_number_at := ok_law_number_at (P := P) (base := base) T (da 35 (by decide +kernel) rfl)
  have D__law_root_at := ok_law_root_at (P := P) (base := base) T (da 36 (by decide +kernel) rfl) D__law_number_at
  have D__law_is_text := ok_law_is_text (P := P) (base := base) T (da 38 (by decide +kernel) rfl)
  have D__law_items := ok_law_items (P := P) (base := base) T (da 37 (by decide +kernel) rfl) D__law_root_at
  have D__law_powers := ok_law_powers (P := P) (base := base) T (da 39 (by decide +kernel) rfl) D__law_is_text
  have D__law_minuses := ok_law_minuses (P := P) (base := base) T (da 40 (by decide +kernel) rfl) D__law_is_text
  have D__law_flat := ok_law_flat (P := P) (base := base) T (da 41 (by decide +kernel) rfl) D__law_is_text D__law_powers D__law_minuses
  have D__law_deep := ok_law_deep (P := P) (base := base) T (da 42 (by decide +kernel) rfl)
  have D__law_read := ok_law_read (P := P) (base := base) T (da 43 (by decide +kernel) rfl) D__law_words D__law_are_words D__law_items D__law_deep D__law_flat
  have D__law_mixed := ok_law_mixed (P := P) (base := base) T (da 22 (by decide +kernel) rfl)
  have D__law_draw := ok_law_draw (P := P) (base := base) T (da 24 (by decide +kernel) rfl) D__law_mixed
  have D__law_folded := ok_law_folded (P := P) (base := base) T (da 23 (by decide +kernel) rfl)
  have D__law_begun := ok_law_begun (P := P) (base := base) T (da 25 (by decide +kernel) rfl) D__law_folded
  have D__law_name := ok_law_name (P := P) (base := base) T (da 26 (by decide +kernel) rfl) D__law_draw
  have D__law_leaf := ok_law_leaf (P := P) (base := base) T (da 27 (by decide +kernel) rfl) D__law_draw D__law_name
  have D__law_tree := ok_law_tree (P := P) (base := base) T (da 28 (by decide +kernel) rfl) D__law_draw D__law_leaf
  have D__law_gap := ok_law_gap (P := P) (base := base) T (da 30 (by decide +kernel) rfl) D__law_draw
  have D__law_level := ok_law_level (P := P) (base := base) T (da 29 (by decide +kernel) rfl)
  have D__law_plain_text := ok_law_plain_text (P := P) (base := base) T (da 31 (by decide +kernel) rfl) D__law_gap
  have D__law_written := ok_law_written (P := P) (base := base) T (da 32 (by decide +kernel) rfl) D__law_draw D__law_gap D__law_level D__law_plain_text 188
  have D__law_word := ok_law_word (P := P) (base := base) T (da 46 (by decide +kernel) rfl)
  have D__law_told := ok_law_told (P := P) (base := base) T (da 45 (by decide +kernel) rfl) D_expression D__law_word
  have D__law_bent := ok_law_bent (P := P) (base := base) T (da 44 (by decide +kernel) rfl) D__law_draw
  exact law_body T D__law_begun D__law_draw D__law_tree D__law_written D__law_words D__law_bent D__law_read D__law_told f cdv A outer s H vs Q E hr hg hru hsp
end
theorem room_law : Room (193 + 1) callerA := ⟨rfl, by decide, by decide⟩
theorem law_fd {K : PySem.W.Frag} (c : He.SaysD fal fnl K) : ∃ fd, FunD K "law" "law" (defArgs s_law) (defBody s_law) (defScope s_law) [] [] (He.ga K "law") fd := c.def_ 47 (d := dF "law" 66) rfl
/-- the law's call keeps its promise -/
theorem law_walk {loose : List Str} {XP : (Str → Option Value) → Heap → Prop} : PySem.W.WalkO (PySem.W.view Rw.prog [66]) loose XP hk.says Rw.toRowW (HandSHeadRun.topDef Rw.prog 66) [] (fun f vs => PySem.call f vs) := by
  refine Att.attach_call (l := PySem.Challenge.rw_rootring_k83_whole_any_text) (n := 63) rfl (by kernel_rfl) fun w s₀ s₁ mg mb fa o pm cd doc a vs ns G Y ho hd hcd hmg0 hobj hints hlen hg => ?_
  obtain ⟨K, X, c⟩ := Y
  have hmg : mg ("law" : PySem.Str) = some (.ref fa) := by
    have e : (HandSHeadRun.topDef Rw.prog 66).name = ("law" : PySem.Str) := by kernel_rfl
    rw [← e]
    exact hmg0
  have T := txt_of X G.T.g c
  obtain ⟨fd, F⟩ := law_fd c.t.d
  have e := hmg.symm.trans (He.glo_ok X G.T.g (c.t.d.facts (m_glo2 (x := "law") (by decide +kernel))))
  injection e with e
  injection e with e
  subst e
  have bind : ∀ (s : Shared) (u : Value), BindsTo s fd ⟨[u], []⟩ [("_law_script", u)] := by
    have b := FunD.bindsA (ps := ["_law_script"]) F fun _ _ _ _ _ _ us hl => match us, hl with | [_], _ => rfl
    exact fun s u => b s [u] rfl
  refine law_at (sp := spLaw K) (x := "_law_script") X G.T.g G.T.b G.T.builtins G.T.nolimit hg hobj hints (Nat.le_trans hlen (by decide)) (fun base kb gb H env bd wish => ?_) bind (fun H _ seq => ⟨a, ns, rfl, seq, hlen, fun _ => rfl⟩)
  exact run_at callerA room_law F sc_law (fun vs H Q E ⟨_, _, z, _⟩ => by rw [z]; rfl) (fun cdv outer s H vs Q E z => law_all T X G.T.g c.t.d _ cdv callerA outer s H vs Q E (room_law.deeper _) rfl (by show 4 + 3 + 2000 < 9900; decide) z) env bd (show Vals [V.ref a] [Value.ref a] from .cons rfl .nil) wish
end K83
end
open PySem PySem.W PySem.Calls PyProof.Rows
set_option maxRecDepth 100000 in
set_option maxHeartbeats 0 in
theorem PySem.Challenge.cw_rootring_k83_whole_any_text_holds : PySem.Challenge.rw_rootring_k83_whole_any_text.Holds := by
  w_on; o_law
  refine HandSHeadRun.head_any (r := K83.Rw) (q := view K83.Rw.prog [66]) (H := K83.hk) (ob := K83.ob) (M := 30000) (loose := K83.loose) (d := HandSHeadRun.topDef K83.Rw.prog 66) (kwd := []) K83.ob_eq
    (by kernel_rfl) (fun s => by kernel_rfl) K83.headRun (by kernel_rfl) (by kernel_rfl) (by kernel_rfl) (by rfl) (by first | assumption | decide +kernel) (by decide +kernel) ⟨rfl, rfl, rfl, rfl, rfl, by decide +kernel⟩ ?hw ?hc
  case hw => w_witness2
  case hc => exact K83.law_walk
