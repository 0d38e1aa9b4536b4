import PyProof.Rows.All
import Wide.All
import OpenK.AllK
import Wide.FinOn
import PyProof.StrBlock2
import PyProof.StrBlockL
import PyProof.Rows.StrCut
import PyProof.Rows.StrFit
import HandS.ForMost
import HandS.Star
import HandS.TupAny
import HandS.StrMore
import HandS.Set
import HandS.TupSets
import HandS.Flow
import HandS.Style
import KE.SortData
import HandS.Codes
import PySem.Challenge.RW_leastlaid_k35_whole_documents_in_other_w
set_option Elab.async false
set_option maxRecDepth 100000
set_option maxHeartbeats 4000000
set_option linter.all false

/-! K1Math -/
namespace LD
open PySem

/-! ### texts -/
theorem str_ext {a b : Str} (h : a.cps = b.cps) : a = b := by
  cases a; cases b; cases h; rfl
theorem nil_app (x : Str) : Str.empty ++ x = x := str_ext (by
  show #[] ++ x.cps = x.cps
  simp)
theorem app_nil (x : Str) : x ++ Str.empty = x := str_ext (by
  show x.cps ++ #[] = x.cps
  simp)
theorem app_app (x y z : Str) : x ++ y ++ z = x ++ (y ++ z) := str_ext (Array.append_assoc ..)
theorem len_app (x y : Str) : (x ++ y).length = x.length + y.length := Array.size_append ..
theorem len_nil : Str.empty.length = 0 := rfl

theorem fm_congr {α β : Type} {f g : α → List β} : ∀ {l : List α}, (∀ x, x ∈ l → f x = g x) → l.flatMap f = l.flatMap g
  | [], _ => rfl
  | x :: l, h => by
    rw [List.flatMap_cons, List.flatMap_cons, h x (List.mem_cons_self ..), fm_congr fun y hy => h y (List.mem_cons_of_mem _ hy)]
/-! ### documents -/
inductive Doc where
  | text (s : Str) | line (s : Str) | hard | blank | gap
  | nest (n : Nat) (d : Doc) | align (d : Doc) | group (d : Doc)
  | choice (a b : Doc) | fill (ds : List Doc) | row (ds : List Doc) | raw (ss : List Str)

def inner : Doc → List Doc
  | .nest _ d => [d]
  | .align d => [d]
  | .group d => [d]
  | .choice a b => [a, b]
  | .fill ds => ds
  | .row ds => ds
  | _ => []

abbrev cBlank : Str := Str.ofString " "
/-- what a comprehension of flat texts comes to, joined -/
def glue (sep : Str) (l : List (Option Str)) : Option Str :=
  if none ∈ l then none else some (Str.join sep (l.map (·.getD Str.empty)))

mutual
def flat : Doc → Option Str
  | .text s => some s
  | .line s => some s
  | .gap => some cBlank
  | .hard => none
  | .blank => none
  | .raw _ => none
  | .nest _ d => flat d
  | .align d => flat d
  | .group d => flat d
  | .choice a b => match flat a with
    | some x => some x
    | none => flat b
  | .fill ds => glue cBlank (flats ds)
  | .row ds => glue Str.empty (flats ds)
def flats : List Doc → List (Option Str)
  | [] => []
  | d :: ds => flat d :: flats ds
end
theorem flats_map : ∀ ds, flats ds = ds.map flat
  | [] => rfl
  | d :: ds => by rw [flats, flats_map ds]; rfl

mutual
def chs : Doc → Nat
  | .gap => 1
  | .group d => 1 + chs d
  | .choice a b => 1 + (chs a + chs b)
  | .fill ds => (ds.length - 1) + chsL ds
  | .row ds => chsL ds
  | .nest _ d => chs d
  | .align d => chs d
  | _ => 0
def chsL : List Doc → Nat
  | [] => 0
  | d :: ds => chs d + chsL ds
end

/-! how deep -/
mutual
def dep : Doc → Nat
  | .nest _ d => dep d + 1
  | .align d => dep d + 1
  | .group d => dep d + 1
  | .choice a b => max (dep a) (dep b) + 1
  | .fill ds => depL ds + 1
  | .row ds => depL ds + 1
  | _ => 1
def depL : List Doc → Nat
  | [] => 0
  | d :: ds => max (dep d) (depL ds)
end

/-! a number that each step makes less -/
mutual
def wt : Doc → Nat
  | .nest _ d => 1 + wt d
  | .align d => 1 + wt d
  | .group d => 2 + wt d
  | .choice a b => 1 + max (wt a) (wt b)
  | .fill ds => 1 + wtF ds
  | .row ds => 1 + wtL ds
  | _ => 1
def wtL : List Doc → Nat
  | [] => 0
  | d :: ds => wt d + wtL ds
def wtF : List Doc → Nat
  | [] => 0
  | d :: ds => wt d + 2 + wtF ds
end

/-! how far it may go to the right -/
mutual
def sz : Doc → Nat
  | .text s => s.length
  | .line s => s.length
  | .gap => 1
  | .nest n d => n + sz d
  | .align d => sz d
  | .group d => sz d
  | .choice a b => max (sz a) (sz b)
  | .fill ds => szF ds
  | .row ds => szL ds
  | .raw ss => (ss.map fun s => s.length + 1).sum
  | _ => 0
def szL : List Doc → Nat
  | [] => 0
  | d :: ds => sz d + szL ds
def szF : List Doc → Nat
  | [] => 0
  | d :: ds => sz d + 1 + szF ds
end

/-! ### the steps -/
abbrev Col := Option Nat
abbrev Rest := List (Nat × Doc)
structure Step where
  w : Str
  c : Col
  r : Rest
  b : Bool

def blk (s : Str) : Bool := decide (Txt.stripChars s cBlank = Str.empty)
def unw (c : Col) (s : Str) : Bool := decide (s = Str.empty) || (c.isNone && blk s)
def spc (n : Nat) : Str := Txt.mul cBlank (n : Int)
def put (c : Col) (i : Nat) (s : Str) : Str × Col :=
  if unw c s then (Str.empty, c) else match c with
    | none => (spc i ++ s, some (i + s.length))
    | some k => (s, some (k + s.length))
abbrev cLf : Str := Str.ofString "\n"
abbrev cLf2 : Str := Str.ofString "\n\n"
def ended (c : Col) (r : Rest) : Step := ⟨if c.isNone then Str.empty else cLf, none, r, false⟩
def left (c : Col) (i : Nat) (ds : List Doc) (r : Rest) : Step := ⟨Str.empty, c, ds.map (fun d => (i, d)) ++ r, false⟩
def lastS (ss : List Str) : Str := ss.getLastD Str.empty
def rawStep (c : Col) (i : Nat) (ss : List Str) (r : Rest) : Step :=
  ⟨Str.join cLf ((put c i (ss.headD Str.empty)).1 :: ss.tail), some (lastS ss).length, r, false⟩
def groupSteps (c : Col) (i : Nat) (d : Doc) (r : Rest) : List Step :=
  match flat d with
  | none => [⟨Str.empty, c, (i, d) :: r, true⟩]
  | some f => [left c i [.text f] r, ⟨Str.empty, c, (i, d) :: r, true⟩]
def fillStep (c : Col) (i : Nat) (ds : List Doc) (r : Rest) : Step :=
  match ds with
  | d :: e :: es => left c i [d, .gap, .fill (e :: es)] r
  | ds => left c i ds r
def stepsOf (c : Col) (i : Nat) (d : Doc) (r : Rest) : List Step :=
  match d with
  | .text s => [⟨(put c i s).1, (put c i s).2, r, false⟩]
  | .line _ => [ended c r]
  | .hard => [ended c r]
  | .blank => [⟨if c.isNone then cLf else cLf2, none, r, false⟩]
  | .gap => match c with
    | none => [ended none r]
    | some k => [⟨cBlank, some (k + 1), r, false⟩, ended (some k) r]
  | .raw ss => [rawStep c i ss r]
  | .nest n d => [left c (i + n) [d] r]
  | .align d => [left c (c.getD i) [d] r]
  | .group d => groupSteps c i d r
  | .choice a b => [left c i [a] r, left c i [b] r]
  | .fill ds => [fillStep c i ds r]
  | .row ds => [left c i ds r]

def wtR : Rest → Nat
  | [] => 0
  | x :: r => wt x.2 + wtR r
theorem wtR_app (p q : Rest) : wtR (p ++ q) = wtR p + wtR q := by
  induction p with
  | nil => simp [wtR]
  | cons x p ih => simp only [List.cons_append, wtR, ih]; omega
theorem wtR_map (i : Nat) : ∀ ds : List Doc, wtR (ds.map fun d => (i, d)) = wtL ds
  | [] => rfl
  | d :: ds => by simp only [List.map_cons, wtR, wtL, wtR_map i ds]
theorem wt_pos (d : Doc) : 1 ≤ wt d := by cases d <;> simp only [wt] <;> omega

theorem steps_less {c : Col} {i : Nat} {d : Doc} {r : Rest} {st : Step} (h : st ∈ stepsOf c i d r) : wtR st.r < wt d + wtR r := by
  have one : ∀ {s t : Step}, s ∈ [t] → s = t := fun h => List.mem_singleton.mp h
  cases d with
  | text s => cases one h; simp only [wt]; omega
  | line s => cases one h; simp only [wt, ended]; omega
  | hard => cases one h; simp only [wt, ended]; omega
  | blank => cases one h; simp only [wt]; omega
  | gap =>
    cases c with
    | none => cases one h; simp only [wt, ended]; omega
    | some k =>
      rcases List.mem_cons.mp h with h | h
      · cases h; simp only [wt]; omega
      · cases one h; simp only [wt, ended]; omega
  | raw ss => cases one h; simp only [wt, rawStep]; omega
  | nest n d => cases one h; simp only [wt, left, List.map_cons, List.map_nil, List.cons_append, List.nil_append, wtR]; omega
  | align d => cases one h; simp only [wt, left, List.map_cons, List.map_nil, List.cons_append, List.nil_append, wtR]; omega
  | group d =>
    simp only [stepsOf, groupSteps] at h
    split at h
    · cases one h; simp only [wt, wtR]; omega
    · rcases List.mem_cons.mp h with h | h
      · cases h; simp only [wt, left, List.map_cons, List.map_nil, List.cons_append, List.nil_append, wtR]; have := wt_pos d; omega
      · cases one h; simp only [wt, wtR]; omega
  | choice a b =>
    rcases List.mem_cons.mp h with h | h
    · cases h; simp only [wt, left, List.map_cons, List.map_nil, List.cons_append, List.nil_append, wtR]; omega
    · cases one h; simp only [wt, left, List.map_cons, List.map_nil, List.cons_append, List.nil_append, wtR]; omega
  | fill ds =>
    cases one h
    match ds with
    | [] => simp only [wt, fillStep, left, List.map_nil, List.nil_append, wtF]; omega
    | [d] => simp only [wt, fillStep, left, List.map_cons, List.map_nil, List.cons_append, List.nil_append, wtF, wtR]; omega
    | d :: e :: es => simp only [wt, fillStep, left, List.map_cons, List.map_nil, List.cons_append, List.nil_append, wtF, wtR]; omega
  | row ds => cases one h; simp only [wt, left, wtR_app, wtR_map]; omega

/-! ### all texts, with the columns at which they end -/
def out : Col → Rest → List (Str × Col)
  | c, [] => [(Str.empty, c)]
  | c, (i, d) :: r => (stepsOf c i d r).attach.flatMap fun st => (out st.1.c st.1.r).map fun p => (st.1.w ++ p.1, p.2)
termination_by _ r => wtR r
decreasing_by
  have := steps_less st.2
  simpa only [wtR] using this
theorem out_nil (c : Col) : out c [] = [(Str.empty, c)] := by rw [out]
theorem out_cons (c : Col) (i : Nat) (d : Doc) (r : Rest) :
    out c ((i, d) :: r) = (stepsOf c i d r).flatMap fun st => (out st.c st.r).map fun p => (st.w ++ p.1, p.2) := by
  rw [out]
  conv => rhs; rw [← List.attach_map_subtype_val (stepsOf c i d r)]
  rw [List.flatMap_map]

/-- the steps of a longer rest -/
theorem steps_app (c : Col) (i : Nat) (d : Doc) (r q : Rest) : stepsOf c i d (r ++ q) = (stepsOf c i d r).map fun st => { st with r := st.r ++ q } := by
  cases d with
  | gap => cases c <;> rfl
  | group d =>
    simp only [stepsOf, groupSteps]
    split
    · rfl
    · rfl
  | fill ds =>
    match ds with
    | [] => rfl
    | [d] => rfl
    | d :: e :: es => rfl
  | row ds => simp only [stepsOf, left, List.map_cons, List.map_nil, List.append_assoc]
  | _ => rfl
theorem out_app : ∀ (n : Nat) (c : Col) (p q : Rest), wtR p ≤ n → out c (p ++ q) = (out c p).flatMap fun x => (out x.2 q).map fun y => (x.1 ++ y.1, y.2) := by
  intro n
  induction n with
  | zero =>
    intro c p q h
    cases p with
    | nil => rw [out_nil, List.nil_append, List.flatMap_singleton]; simp only [nil_app, List.map_id']
    | cons x p => have := wt_pos x.2; simp only [wtR] at h; omega
  | succ n ih =>
    intro c p q h
    cases p with
    | nil => rw [out_nil, List.nil_append, List.flatMap_singleton]; simp only [nil_app, List.map_id']
    | cons x p =>
      obtain ⟨i, d⟩ := x
      rw [List.cons_append, out_cons, out_cons, steps_app, List.flatMap_map, List.flatMap_assoc]
      refine fm_congr fun st hst => ?_
      have hl := steps_less hst
      rw [ih _ _ _ (by simp only [wtR] at h; omega), List.map_flatMap, List.flatMap_map]
      refine fm_congr fun x _ => ?_
      rw [List.map_map]
      refine List.map_congr_left fun y _ => ?_
      simp only [Function.comp, app_app]
/-- the same texts -/
def Alike (p q : Rest) : Prop := ∀ c, out c p = out c q
theorem Alike.refl (p : Rest) : Alike p p := fun _ => rfl
theorem Alike.trans {p q r : Rest} (a : Alike p q) (b : Alike q r) : Alike p r := fun c => (a c).trans (b c)
theorem Alike.symm {p q : Rest} (a : Alike p q) : Alike q p := fun c => (a c).symm
theorem Alike.app {p q p' q' : Rest} (a : Alike p p') (b : Alike q q') : Alike (p ++ q) (p' ++ q') := fun c => by
  rw [out_app _ c p q (Nat.le_refl _), out_app _ c p' q' (Nat.le_refl _), a c]
  refine fm_congr fun x _ => ?_
  rw [b x.2]
theorem out_one {c : Col} {i : Nat} {d : Doc} {r r' : Rest} {b : Bool} (h : stepsOf c i d r = [⟨Str.empty, c, r', b⟩]) : out c ((i, d) :: r) = out c r' := by
  rw [out_cons, h, List.flatMap_singleton]
  simp only [nil_app, List.map_id']
theorem alike_row (i : Nat) (ds : List Doc) : Alike [(i, .row ds)] (ds.map fun d => (i, d)) := fun c => by
  rw [out_one (r' := (ds.map fun d => (i, d)) ++ []) (b := false) rfl, List.append_nil]
theorem alike_nest (i n : Nat) (d : Doc) : Alike [(i, .nest n d)] [(i + n, d)] := fun c => out_one (b := false) rfl
theorem alike_fill0 (i : Nat) : Alike [(i, .fill [])] [] := fun c => out_one (b := false) rfl
theorem alike_fill1 (i : Nat) (d : Doc) : Alike [(i, .fill [d])] [(i, d)] := fun c => out_one (b := false) rfl
theorem alike_fill2 (i : Nat) (d e : Doc) (es : List Doc) : Alike [(i, .fill (d :: e :: es))] [(i, d), (i, .gap), (i, .fill (e :: es))] := fun c => out_one (b := false) rfl
theorem alike_nothing (i : Nat) : Alike [(i, .text Str.empty)] [] := fun c => by
  have e : put c i Str.empty = (Str.empty, c) := by
    unfold put unw
    rfl
  exact out_one (b := false) (by show [(⟨(put c i Str.empty).1, (put c i Str.empty).2, [], false⟩ : Step)] = _; rw [e])

/-- the texts of all layouts -/
def texts (d : Doc) : List Str := (out none [(0, d)]).map (·.1)
theorem texts_of {d e : Doc} (h : Alike [(0, d)] [(0, e)]) : texts d = texts e := by
  unfold texts
  rw [h none]
end LD

/-! K2Tree -/
namespace LD
open PySem

/-! ### the tree of all layouts -/
inductive Tr where
  | lf (s : Str)
  | br (a b : Tr)
def Tr.pre (w : Str) : Tr → Tr
  | .lf s => .lf (w ++ s)
  | .br a b => .br (a.pre w) (b.pre w)
def Tr.leaves : Tr → List Str
  | .lf s => [s]
  | .br a b => a.leaves ++ b.leaves
/-- the text behind some ways, and the whole ways -/
def Tr.go : Tr → List Nat → Str × List Nat
  | .lf s, _ => (s, [])
  | .br a b, ks => if ks.headD 0 = 0 then ((a.go ks.tail).1, 0 :: (a.go ks.tail).2) else ((b.go ks.tail).1, 1 :: (b.go ks.tail).2)
/-- ways that lead to somewhere in the tree -/
def Tr.Ok : Tr → List Nat → Prop
  | _, [] => True
  | .lf _, _ :: _ => False
  | .br a b, k :: ks => (k = 0 ∧ a.Ok ks) ∨ (k = 1 ∧ b.Ok ks)
/-- the leaves that stand there -/
def Tr.at : Tr → List Nat → List Str
  | t, [] => t.leaves
  | .lf _, _ :: _ => []
  | .br a b, k :: ks => if k = 0 then a.at ks else b.at ks
theorem Tr.pre_leaves (w : Str) : ∀ t : Tr, (t.pre w).leaves = t.leaves.map (w ++ ·)
  | .lf s => rfl
  | .br a b => by simp only [pre, leaves, List.map_append, pre_leaves w a, pre_leaves w b]
theorem Tr.pre_go (w : Str) : ∀ (t : Tr) (ks : List Nat), (t.pre w).go ks = (w ++ (t.go ks).1, (t.go ks).2)
  | .lf s, _ => rfl
  | .br a b, ks => by
    simp only [pre, go, pre_go w a, pre_go w b]
    split <;> rfl
theorem Tr.pre_nil : ∀ t : Tr, t.pre Str.empty = t
  | .lf s => by rw [pre, nil_app]
  | .br a b => by rw [pre, pre_nil a, pre_nil b]
theorem Tr.leaves_pos : ∀ t : Tr, 0 < t.leaves.length
  | .lf s => Nat.one_pos
  | .br a b => by
    have := leaves_pos a
    simp only [leaves, List.length_append]
    omega
theorem Tr.at_pos : ∀ (t : Tr) (ks : List Nat), t.Ok ks → 0 < (t.at ks).length
  | t, [], _ => by cases t <;> exact leaves_pos _
  | .br a b, k :: ks, h => by
    rcases h with ⟨rfl, h⟩ | ⟨rfl, h⟩
    · exact at_pos a ks h
    · exact at_pos b ks h
theorem Tr.at_nil (t : Tr) : t.at [] = t.leaves := by cases t <;> rfl
theorem Tr.at_le : ∀ (t : Tr) (ks : List Nat), (t.at ks).length ≤ t.leaves.length
  | t, [] => by rw [at_nil]; exact Nat.le_refl _
  | .lf _, _ :: _ => Nat.zero_le _
  | .br a b, k :: ks => by
    have h1 := at_le a ks
    have h2 := at_le b ks
    simp only [Tr.at, leaves, List.length_append]
    split <;> omega
theorem Tr.go_len : ∀ (t : Tr) (ks : List Nat), (t.go ks).2.length < t.leaves.length
  | .lf s, _ => Nat.one_pos
  | .br a b, ks => by
    have h1 := go_len a ks.tail
    have h2 := go_len b ks.tail
    have h3 := leaves_pos a
    have h4 := leaves_pos b
    simp only [go, leaves, List.length_append]
    split <;> simp only [List.length_cons] <;> omega
theorem Tr.go_two : ∀ (t : Tr) (ks : List Nat), ∀ k ∈ (t.go ks).2, k < 2
  | .lf s, _, k, h => by cases h
  | .br a b, ks, k, h => by
    simp only [go] at h
    split at h
    · rcases List.mem_cons.mp h with h | h
      · omega
      · exact go_two a _ k h
    · rcases List.mem_cons.mp h with h | h
      · omega
      · exact go_two b _ k h
/-- the ways that a walk along ks lays open -/
def opens (n : Nat) (t : List Nat) : List (List Nat) := (List.range' n (t.length - n)).map fun p => t.take p ++ [1]
theorem opens_zero_cons (k : Nat) (t : List Nat) : opens 0 (k :: t) = [1] :: (opens 0 t).map (k :: ·) := by
  unfold opens
  rw [List.length_cons, Nat.sub_zero, Nat.sub_zero, List.range'_succ, List.map_cons]
  refine congrArg (List.cons [1]) ?_
  rw [List.map_map, Nat.zero_add, List.range'_eq_map_range, List.range'_eq_map_range (n := t.length), List.map_map, List.map_map]
  refine List.map_congr_left fun p _ => ?_
  simp only [Function.comp, Nat.add_comm 1 p, Nat.zero_add, List.take_succ_cons, List.cons_append]
theorem opens_succ_cons (n k : Nat) (t : List Nat) : opens (n + 1) (k :: t) = (opens n t).map (k :: ·) := by
  unfold opens
  rw [List.length_cons, Nat.add_sub_add_right, List.map_map, List.range'_eq_map_range, List.range'_eq_map_range (s := n), List.map_map, List.map_map]
  refine List.map_congr_left fun p _ => ?_
  simp only [Function.comp, Nat.add_right_comm n 1 p, List.take_succ_cons, List.cons_append]
theorem Tr.go_opens : ∀ (t : Tr) (ks : List Nat), t.Ok ks →
    ks.length ≤ (t.go ks).2.length ∧ (∀ q ∈ opens ks.length (t.go ks).2, t.Ok q) ∧ (t.at ks).Perm ((t.go ks).1 :: (opens ks.length (t.go ks).2).flatMap t.at)
  | .lf s, [], _ => by
    refine ⟨Nat.le_refl _, fun q h => ?_, ?_⟩
    · simp [go, opens] at h
    · simp [go, opens, Tr.at, leaves]
  | .br a b, [], _ => by
    obtain ⟨_, h2, h3⟩ := go_opens a [] (by cases a <;> trivial)
    have e : (Tr.br a b).go [] = ((a.go []).1, 0 :: (a.go []).2) := rfl
    rw [e]
    show _ ∧ (∀ q ∈ opens 0 (0 :: (a.go []).2), _) ∧ List.Perm _ ((a.go []).1 :: (opens 0 (0 :: (a.go []).2)).flatMap _)
    rw [opens_zero_cons]
    refine ⟨Nat.zero_le _, fun q h => ?_, ?_⟩
    · rcases List.mem_cons.mp h with h | h
      · rw [h]
        exact .inr ⟨rfl, by cases b <;> trivial⟩
      · obtain ⟨q', hq, rfl⟩ := List.mem_map.mp h
        exact .inl ⟨rfl, h2 q' hq⟩
    · have e1 : (Tr.br a b).at [1] = b.leaves := by
        show (if (1 : Nat) = 0 then a.at [] else b.at []) = _
        rw [if_neg (by decide), at_nil]
      have e2 : ((opens 0 (a.go []).2).map (0 :: ·)).flatMap (Tr.br a b).at = (opens 0 (a.go []).2).flatMap a.at := by
        rw [List.flatMap_map]
        exact fm_congr fun q _ => rfl
      rw [List.flatMap_cons, e1, e2]
      show (a.leaves ++ b.leaves).Perm _
      rw [at_nil] at h3
      refine ((h3.append_right b.leaves).trans ?_)
      rw [List.cons_append]
      exact (List.perm_append_comm).cons _
  | .br a b, k :: ks, h => by
    rcases h with ⟨rfl, h⟩ | ⟨rfl, h⟩
    · obtain ⟨h1, h2, h3⟩ := go_opens a ks h
      have e : (Tr.br a b).go (0 :: ks) = ((a.go ks).1, 0 :: (a.go ks).2) := rfl
      rw [e]
      show (ks.length + 1 ≤ (a.go ks).2.length + 1) ∧ (∀ q ∈ opens (ks.length + 1) (0 :: (a.go ks).2), _) ∧ List.Perm _ ((a.go ks).1 :: (opens (ks.length + 1) (0 :: (a.go ks).2)).flatMap _)
      rw [opens_succ_cons]
      refine ⟨Nat.succ_le_succ h1, fun q h => ?_, ?_⟩
      · obtain ⟨q', hq, rfl⟩ := List.mem_map.mp h
        exact .inl ⟨rfl, h2 q' hq⟩
      · have e2 : ((opens ks.length (a.go ks).2).map (0 :: ·)).flatMap (Tr.br a b).at = (opens ks.length (a.go ks).2).flatMap a.at := by
          rw [List.flatMap_map]
          exact fm_congr fun q _ => rfl
        rw [e2]
        exact h3
    · obtain ⟨h1, h2, h3⟩ := go_opens b ks h
      have e : (Tr.br a b).go (1 :: ks) = ((b.go ks).1, 1 :: (b.go ks).2) := rfl
      rw [e]
      show (ks.length + 1 ≤ (b.go ks).2.length + 1) ∧ (∀ q ∈ opens (ks.length + 1) (1 :: (b.go ks).2), _) ∧ List.Perm _ ((b.go ks).1 :: (opens (ks.length + 1) (1 :: (b.go ks).2)).flatMap _)
      rw [opens_succ_cons]
      refine ⟨Nat.succ_le_succ h1, fun q h => ?_, ?_⟩
      · obtain ⟨q', hq, rfl⟩ := List.mem_map.mp h
        exact .inr ⟨rfl, h2 q' hq⟩
      · have e2 : ((opens ks.length (b.go ks).2).map (1 :: ·)).flatMap (Tr.br a b).at = (opens ks.length (b.go ks).2).flatMap b.at := by
          rw [List.flatMap_map]
          exact fm_congr fun q _ => rfl
        rw [e2]
        exact h3

/-! ### of a rest -/
theorem steps_few (c : Col) (i : Nat) (d : Doc) (r : Rest) : (∃ s, stepsOf c i d r = [s]) ∨ ∃ s t, stepsOf c i d r = [s, t] := by
  cases d with
  | gap => cases c <;> simp only [stepsOf] <;> first | exact .inl ⟨_, rfl⟩ | exact .inr ⟨_, _, rfl⟩
  | group d =>
    simp only [stepsOf, groupSteps]
    split
    · exact .inl ⟨_, rfl⟩
    · exact .inr ⟨_, _, rfl⟩
  | choice a b => exact .inr ⟨_, _, rfl⟩
  | _ => exact .inl ⟨_, rfl⟩
def joinTr (ts : List Tr) : Tr := match ts with
  | [a] => a
  | [a, b] => .br a b
  | _ => .lf Str.empty
def tree : Col → Rest → Tr
  | _, [] => .lf Str.empty
  | c, (i, d) :: r => joinTr ((stepsOf c i d r).attach.map fun st => (tree st.1.c st.1.r).pre st.1.w)
termination_by _ r => wtR r
decreasing_by
  have := steps_less st.2
  simpa only [wtR] using this
theorem tree_nil (c : Col) : tree c [] = .lf Str.empty := by rw [tree]
theorem tree_cons (c : Col) (i : Nat) (d : Doc) (r : Rest) : tree c ((i, d) :: r) = joinTr ((stepsOf c i d r).map fun st => (tree st.c st.r).pre st.w) := by
  rw [tree]
  conv => rhs; rw [← List.attach_map_subtype_val (stepsOf c i d r)]
  rw [List.map_map]
  rfl
theorem tree_one {c : Col} {i : Nat} {d : Doc} {r : Rest} {s : Step} (h : stepsOf c i d r = [s]) : tree c ((i, d) :: r) = (tree s.c s.r).pre s.w := by
  rw [tree_cons, h]; rfl
theorem tree_two {c : Col} {i : Nat} {d : Doc} {r : Rest} {s t : Step} (h : stepsOf c i d r = [s, t]) : tree c ((i, d) :: r) = .br ((tree s.c s.r).pre s.w) ((tree t.c t.r).pre t.w) := by
  rw [tree_cons, h]; rfl
theorem tree_leaves : ∀ (n : Nat) (c : Col) (r : Rest), wtR r ≤ n → (tree c r).leaves = (out c r).map (·.1) := by
  intro n
  induction n with
  | zero =>
    intro c r h
    cases r with
    | nil => rw [tree_nil, out_nil]; rfl
    | cons x p => have := wt_pos x.2; simp only [wtR] at h; omega
  | succ n ih =>
    intro c r h
    cases r with
    | nil => rw [tree_nil, out_nil]; rfl
    | cons x r =>
      obtain ⟨i, d⟩ := x
      simp only [wtR] at h
      have go : ∀ st ∈ stepsOf c i d r, ((tree st.c st.r).pre st.w).leaves = ((out st.c st.r).map fun p => (st.w ++ p.1, p.2)).map (·.1) := fun st hst => by
        have := steps_less hst
        rw [Tr.pre_leaves, ih _ _ (by omega), List.map_map, List.map_map]
        rfl
      rw [out_cons]
      rcases steps_few c i d r with ⟨s, e⟩ | ⟨s, t, e⟩
      · rw [tree_one e, go s (by rw [e]; exact List.mem_cons_self ..), e, List.flatMap_singleton]
      · rw [tree_two e, Tr.leaves, go s (by rw [e]; exact List.mem_cons_self ..), go t (by rw [e]; exact List.mem_cons_of_mem _ (List.mem_cons_self ..)), e, List.flatMap_cons, List.flatMap_singleton, List.map_append]
/-- a document's tree -/
def tr (d : Doc) : Tr := tree none [(0, d)]
theorem tr_leaves (d : Doc) : (tr d).leaves = texts d := tree_leaves _ _ _ (Nat.le_refl _)

/-! ### the walk, by states -/
structure WS where
  c : Col
  r : Rest
  w : List Str
  t : List Nat
  b : Nat
def pick (ways t : List Nat) : Nat := if t.length < ways.length then ways.getD t.length 0 else 0
def chosen (ways t : List Nat) (ss : List Step) : Option Step := if ss.length = 2 then ss[pick ways t]? else ss[0]?
def taken (ways t : List Nat) (ss : List Step) : List Nat := if ss.length = 2 then t ++ [pick ways t] else t
def WS.by (s : WS) (t : List Nat) (st : Step) : WS := ⟨st.c, st.r, s.w ++ [st.w], t, s.b + if st.b then 1 else 0⟩
/-- what is left to go along gives the text and the ways -/
structure Ends (ways : List Nat) (T : Tr) (s : WS) : Prop where
  txt : Str.join Str.empty s.w ++ ((tree s.c s.r).go (ways.drop s.t.length)).1 = (T.go ways).1
  way : s.t ++ ((tree s.c s.r).go (ways.drop s.t.length)).2 = (T.go ways).2
theorem join_cons (x : Str) : ∀ l : List Str, Str.join Str.empty (x :: l) = x ++ Str.join Str.empty l
  | [] => (app_nil x).symm
  | y :: l => by
    show x ++ Str.empty ++ Str.join Str.empty (y :: l) = _
    rw [app_nil]
theorem join_snoc (l : List Str) (x : Str) : Str.join Str.empty (l ++ [x]) = Str.join Str.empty l ++ x := by
  induction l with
  | nil => exact (nil_app x).symm
  | cons y l ih => rw [List.cons_append, join_cons, join_cons, ih, app_app]
theorem Ends.start (ways : List Nat) (d : Doc) : Ends ways (tr d) ⟨none, [(0, d)], [], [], 0⟩ :=
  ⟨nil_app _, rfl⟩
theorem Ends.done {ways : List Nat} {T : Tr} {s : WS} (h : Ends ways T s) (e : s.r = []) : Str.join Str.empty s.w = (T.go ways).1 ∧ s.t = (T.go ways).2 := by
  have h1 := h.txt
  have h2 := h.way
  rw [e, tree_nil] at h1 h2
  exact ⟨by rw [← h1]; exact (app_nil _).symm, by rw [← h2]; exact (List.append_nil _).symm⟩
theorem pick_head (ways t : List Nat) : pick ways t = (ways.drop t.length).headD 0 := by
  unfold pick
  split
  · rename_i h
    rw [List.drop_eq_getElem_cons h, List.headD_cons, List.getD_eq_getElem?_getD, List.getElem?_eq_getElem h]
    rfl
  · rename_i h
    rw [List.drop_eq_nil_of_le (by omega)]
    rfl
theorem Ends.step {ways : List Nat} {T : Tr} {s : WS} {i : Nat} {d : Doc} {r : Rest} (h : Ends ways T s) (hw : ∀ k ∈ ways, k < 2) (e : s.r = (i, d) :: r) :
    ∃ st, chosen ways s.t (stepsOf s.c i d r) = some st ∧ st ∈ stepsOf s.c i d r ∧ Ends ways T (s.by (taken ways s.t (stepsOf s.c i d r)) st) := by
  have h1 := h.txt
  have h2 := h.way
  rw [e] at h1 h2
  rcases steps_few s.c i d r with ⟨a, q⟩ | ⟨a, b, q⟩
  · refine ⟨a, by rw [q]; rfl, by rw [q]; exact List.mem_cons_self .., ?_⟩
    rw [tree_one q, Tr.pre_go] at h1 h2
    rw [q]
    refine ⟨?_, h2⟩
    show Str.join Str.empty (s.w ++ [a.w]) ++ _ = _
    rw [join_snoc, app_app]
    exact h1
  · rw [tree_two q] at h1 h2
    have et : taken ways s.t [a, b] = s.t ++ [pick ways s.t] := rfl
    have el : (s.t ++ [pick ways s.t]).length = s.t.length + 1 := by rw [List.length_append]; rfl
    have dt : (ways.drop s.t.length).tail = ways.drop (s.t.length + 1) := by rw [List.tail_drop]
    rw [q]
    simp only [Tr.go, ← pick_head] at h1 h2
    have p2 : pick ways s.t < 2 := by
      unfold pick
      split
      · rename_i h
        rw [List.getD_eq_getElem?_getD, List.getElem?_eq_getElem h]
        exact hw _ (List.getElem_mem h)
      · decide
    by_cases c : pick ways s.t = 0
    · rw [if_pos c, Tr.pre_go, dt] at h1 h2
      refine ⟨a, by show [a, b][pick ways s.t]? = _; rw [c]; rfl, List.mem_cons_self .., ?_⟩
      rw [et]
      refine ⟨?_, ?_⟩
      · show Str.join Str.empty (s.w ++ [a.w]) ++ ((tree a.c a.r).go (ways.drop (s.t ++ [pick ways s.t]).length)).1 = _
        rw [join_snoc, app_app, el]
        exact h1
      · show (s.t ++ [pick ways s.t]) ++ ((tree a.c a.r).go (ways.drop (s.t ++ [pick ways s.t]).length)).2 = _
        rw [el, c, List.append_assoc]
        exact h2
    · have c1 : pick ways s.t = 1 := by omega
      rw [if_neg c, Tr.pre_go, dt] at h1 h2
      refine ⟨b, by show [a, b][pick ways s.t]? = _; rw [c1]; rfl, List.mem_cons_of_mem _ (List.mem_cons_self ..), ?_⟩
      rw [et]
      refine ⟨?_, ?_⟩
      · show Str.join Str.empty (s.w ++ [b.w]) ++ ((tree b.c b.r).go (ways.drop (s.t ++ [pick ways s.t]).length)).1 = _
        rw [join_snoc, app_app, el]
        exact h1
      · show (s.t ++ [pick ways s.t]) ++ ((tree b.c b.r).go (ways.drop (s.t ++ [pick ways s.t]).length)).2 = _
        rw [el, c1, List.append_assoc]
        exact h2

/-! ### the work list of all walks -/
structure Work (T : Tr) (found : List Str) (line : List (List Nat)) : Prop where
  ok : ∀ q ∈ line, T.Ok q
  all : (found ++ line.flatMap T.at).Perm T.leaves
theorem Work.start (T : Tr) : Work T [] [[]] := ⟨fun q h => by rw [List.mem_singleton.mp h]; cases T <;> trivial, by
  rw [List.nil_append, List.flatMap_singleton, Tr.at_nil]⟩
theorem Work.turn {T : Tr} {found : List Str} {line : List (List Nat)} {ks : List Nat} (h : Work T found (line ++ [ks])) :
    Work T (found ++ [(T.go ks).1]) (line ++ opens ks.length (T.go ks).2) ∧
      ((line ++ opens ks.length (T.go ks).2).flatMap T.at).length < ((line ++ [ks]).flatMap T.at).length ∧ ks.length ≤ (T.go ks).2.length := by
  obtain ⟨h1, h2, h3⟩ := T.go_opens ks (h.ok ks (List.mem_append_right _ (List.mem_cons_self ..)))
  refine ⟨⟨fun q hq => ?_, ?_⟩, ?_, h1⟩
  · rcases List.mem_append.mp hq with hq | hq
    · exact h.ok q (List.mem_append_left _ hq)
    · exact h2 q hq
  · refine List.Perm.trans ?_ h.all
    rw [List.flatMap_append, List.flatMap_append, List.flatMap_singleton, List.append_assoc]
    refine List.Perm.append_left found ?_
    rw [List.singleton_append]
    refine List.Perm.trans ?_ (List.Perm.append_left _ h3.symm)
    exact List.perm_middle.symm
  · rw [List.flatMap_append, List.flatMap_append, List.flatMap_singleton, List.length_append, List.length_append, h3.length_eq, List.length_cons]
    omega
theorem Work.few {T : Tr} {found : List Str} {line : List (List Nat)} (h : Work T found line) : found.length + line.length ≤ T.leaves.length := by
  have e := h.all.length_eq
  rw [List.length_append] at e
  have : line.length ≤ (line.flatMap T.at).length := by
    have ok := h.ok
    clear e h
    induction line with
    | nil => exact Nat.le_refl _
    | cons q l ih =>
      have a := T.at_pos q (ok q (List.mem_cons_self ..))
      have b := ih fun q hq => ok q (List.mem_cons_of_mem _ hq)
      rw [List.flatMap_cons, List.length_append, List.length_cons]
      omega
  omega
theorem Work.end_ {T : Tr} {found : List Str} (h : Work T found []) : found.Perm T.leaves := by
  have e := h.all
  rw [List.flatMap_nil, List.append_nil] at e
  exact e
theorem ok_two : ∀ (T : Tr) (ks : List Nat), T.Ok ks → ∀ k ∈ ks, k < 2
  | _, [], _, k, h => by cases h
  | .br a b, k :: ks, h, j, hj => by
    rcases h with ⟨rfl, h⟩ | ⟨rfl, h⟩
    · rcases List.mem_cons.mp hj with e | hj
      · omega
      · exact ok_two a ks h j hj
    · rcases List.mem_cons.mp hj with e | hj
      · omega
      · exact ok_two b ks h j hj
end LD

/-! K3Law -/
namespace LD
open PySem

/-! ### how many layouts -/
def chR : Rest → Nat
  | [] => 0
  | x :: r => chs x.2 + chR r
theorem chR_app (p q : Rest) : chR (p ++ q) = chR p + chR q := by
  induction p with
  | nil => simp [chR]
  | cons x p ih => simp only [List.cons_append, chR, ih]; omega
theorem chR_map (i : Nat) : ∀ ds : List Doc, chR (ds.map fun d => (i, d)) = chsL ds
  | [] => rfl
  | d :: ds => by simp only [List.map_cons, chR, chsL, chR_map i ds]
theorem two_le {a b n : Nat} (ha : a + 1 ≤ n) (hb : b + 1 ≤ n) : 2 ^ a + 2 ^ b ≤ 2 ^ n := by
  have h1 : 2 ^ a ≤ 2 ^ (n - 1) := Nat.pow_le_pow_right (by decide) (by omega)
  have h2 : 2 ^ b ≤ 2 ^ (n - 1) := Nat.pow_le_pow_right (by decide) (by omega)
  have h3 : 2 ^ n = 2 ^ (n - 1) + 2 ^ (n - 1) := by
    obtain ⟨m, rfl⟩ : ∃ m, n = m + 1 := ⟨n - 1, by omega⟩
    rw [Nat.add_sub_cancel, Nat.pow_succ]
    omega
  omega
theorem steps_ch {c : Col} {i : Nat} {d : Doc} {r : Rest} : (∃ s, stepsOf c i d r = [s] ∧ chR s.r ≤ chs d + chR r) ∨ ∃ s t, stepsOf c i d r = [s, t] ∧ chR s.r + 1 ≤ chs d + chR r ∧ chR t.r + 1 ≤ chs d + chR r := by
  cases d with
  | gap =>
    cases c with
    | none => exact .inl ⟨_, rfl, by simp only [ended]; omega⟩
    | some k => exact .inr ⟨_, _, rfl, by simp only [chs]; omega, by simp only [chs, ended]; omega⟩
  | group d =>
    simp only [stepsOf, groupSteps]
    split
    · exact .inl ⟨_, rfl, by simp only [chs, chR]; omega⟩
    · exact .inr ⟨_, _, rfl, by simp only [chs, left, List.map_cons, List.map_nil, List.cons_append, List.nil_append, chR]; omega, by simp only [chs, chR]; omega⟩
  | choice a b => exact .inr ⟨_, _, rfl, by simp only [chs, left, List.map_cons, List.map_nil, List.cons_append, List.nil_append, chR]; omega, by simp only [chs, left, List.map_cons, List.map_nil, List.cons_append, List.nil_append, chR]; omega⟩
  | fill ds =>
    match ds with
    | [] => exact .inl ⟨_, rfl, by simp only [fillStep, left, List.map_nil, List.nil_append]; omega⟩
    | [d] => exact .inl ⟨_, rfl, by simp only [fillStep, chs, chsL, left, List.map_cons, List.map_nil, List.cons_append, List.nil_append, chR, List.length_cons, List.length_nil]; omega⟩
    | d :: e :: es => exact .inl ⟨_, rfl, by simp only [fillStep, chs, chsL, left, List.map_cons, List.map_nil, List.cons_append, List.nil_append, chR, List.length_cons]; omega⟩
  | row ds => exact .inl ⟨_, rfl, by simp only [left, chR_app, chR_map, chs]; omega⟩
  | nest n d => exact .inl ⟨_, rfl, by simp only [chs, left, List.map_cons, List.map_nil, List.cons_append, List.nil_append, chR]; omega⟩
  | align d => exact .inl ⟨_, rfl, by simp only [chs, left, List.map_cons, List.map_nil, List.cons_append, List.nil_append, chR]; omega⟩
  | text s => exact .inl ⟨_, rfl, by simp only []; omega⟩
  | line s => exact .inl ⟨_, rfl, by simp only [ended]; omega⟩
  | hard => exact .inl ⟨_, rfl, by simp only [ended]; omega⟩
  | blank => exact .inl ⟨_, rfl, by simp only []; omega⟩
  | raw ss => exact .inl ⟨_, rfl, by simp only [rawStep]; omega⟩
theorem leaves_ch : ∀ (n : Nat) (c : Col) (r : Rest), wtR r ≤ n → (tree c r).leaves.length ≤ 2 ^ chR r := by
  intro n
  induction n with
  | zero =>
    intro c r h
    cases r with
    | nil => rw [tree_nil]; exact Nat.le_refl _
    | cons x p => have := wt_pos x.2; simp only [wtR] at h; omega
  | succ n ih =>
    intro c r h
    cases r with
    | nil => rw [tree_nil]; exact Nat.le_refl _
    | cons x r =>
      obtain ⟨i, d⟩ := x
      simp only [wtR] at h
      rcases steps_ch (c := c) (i := i) (d := d) (r := r) with ⟨s, e, q⟩ | ⟨s, t, e, q1, q2⟩
      · have := steps_less (c := c) (i := i) (d := d) (r := r) (st := s) (by rw [e]; exact List.mem_cons_self ..)
        rw [tree_one e, Tr.pre_leaves, List.length_map]
        refine Nat.le_trans (ih _ _ (by omega)) (Nat.pow_le_pow_right (by decide) ?_)
        simp only [chR]
        exact q
      · have l1 := steps_less (c := c) (i := i) (d := d) (r := r) (st := s) (by rw [e]; exact List.mem_cons_self ..)
        have l2 := steps_less (c := c) (i := i) (d := d) (r := r) (st := t) (by rw [e]; exact List.mem_cons_of_mem _ (List.mem_cons_self ..))
        rw [tree_two e, Tr.leaves, List.length_append, Tr.pre_leaves, Tr.pre_leaves, List.length_map, List.length_map]
        have a := ih s.c s.r (by omega)
        have b := ih t.c t.r (by omega)
        simp only [chR]
        have := two_le q1 q2
        omega
theorem texts_few (d : Doc) : (texts d).length ≤ 2 ^ chs d := by
  rw [← tr_leaves]
  have h := leaves_ch _ none [(0, d)] (Nat.le_refl _)
  simp only [chR, Nat.add_zero] at h
  exact h

/-! ### how long -/
def szR : Rest → Nat
  | [] => 0
  | x :: r => sz x.2 + szR r
theorem szR_app (p q : Rest) : szR (p ++ q) = szR p + szR q := by
  induction p with
  | nil => simp [szR]
  | cons x p ih => simp only [List.cons_append, szR, ih]; omega
theorem szR_map (i : Nat) : ∀ ds : List Doc, szR (ds.map fun d => (i, d)) = szL ds
  | [] => rfl
  | d :: ds => by simp only [List.map_cons, szR, szL, szR_map i ds]
/-- the column and the indents stay behind L -/
structure Lim (L : Nat) (c : Col) (r : Rest) : Prop where
  col : c.getD 0 + szR r ≤ L
  ind : ∀ x ∈ r, x.1 + szR r ≤ L
theorem join_len (sep : Str) (l : List Str) : (Str.join sep l).length ≤ (l.map (·.length)).sum + l.length * sep.length := StrLaws.join_length_le sep l
theorem glue_len {sep : Str} {l : List (Option Str)} {x : Str} (h : glue sep l = some x) : x = Str.join sep (l.map (·.getD Str.empty)) ∧ none ∉ l := by
  unfold glue at h
  split at h
  · cases h
  · rename_i hn
    exact ⟨(Option.some.inj h).symm, hn⟩
mutual
theorem flat_len : ∀ (d : Doc) (x : Str), flat d = some x → x.length ≤ sz d
  | .text s, x, h => by cases h; exact Nat.le_refl _
  | .line s, x, h => by cases h; exact Nat.le_refl _
  | .gap, x, h => by cases h; decide
  | .hard, x, h => by cases h
  | .blank, x, h => by cases h
  | .raw _, x, h => by cases h
  | .nest n d, x, h => by
    have := flat_len d x h
    simp only [sz]; omega
  | .align d, x, h => flat_len d x h
  | .group d, x, h => flat_len d x h
  | .choice a b, x, h => by
    simp only [flat] at h
    cases ha : flat a with
    | some y =>
      rw [ha] at h
      cases h
      have := flat_len a x ha
      simp only [sz]; omega
    | none =>
      rw [ha] at h
      have := flat_len b x h
      simp only [sz]; omega
  | .fill ds, x, h => by
    simp only [flat] at h
    obtain ⟨rfl, _⟩ := glue_len h
    have := join_len cBlank ((flats ds).map (·.getD Str.empty))
    have q := flats_lenF ds
    simp only [sz]
    have e : cBlank.length = 1 := by decide
    rw [e, List.length_map] at this
    omega
  | .row ds, x, h => by
    simp only [flat] at h
    obtain ⟨rfl, _⟩ := glue_len h
    have := join_len Str.empty ((flats ds).map (·.getD Str.empty))
    have q := flats_len ds
    simp only [sz]
    rw [len_nil] at this
    omega
theorem flats_len : ∀ ds : List Doc, (((flats ds).map (·.getD Str.empty)).map (·.length)).sum ≤ szL ds
  | [] => Nat.le_refl _
  | d :: ds => by
    have a := flats_len ds
    simp only [flats, List.map_cons, List.sum_cons, szL]
    have b : ((flat d).getD Str.empty).length ≤ sz d := by
      cases e : flat d with
      | none => exact Nat.zero_le _
      | some x => exact flat_len d x e
    omega
theorem flats_lenF : ∀ ds : List Doc, (((flats ds).map (·.getD Str.empty)).map (·.length)).sum + (flats ds).length * 1 ≤ szF ds
  | [] => Nat.le_refl _
  | d :: ds => by
    have a := flats_lenF ds
    simp only [flats, List.map_cons, List.sum_cons, szF, List.length_cons]
    have b : ((flat d).getD Str.empty).length ≤ sz d := by
      cases e : flat d with
      | none => exact Nat.zero_le _
      | some x => exact flat_len d x e
    omega
end
theorem spc_len (n : Nat) : (spc n).length ≤ n := by
  unfold spc Txt.mul
  split
  · exact Nat.zero_le _
  · rename_i h
    split
    · rename_i c
      have e : cBlank.length = 1 := by decide
      rw [e]
      omega
    · have gen : ∀ (k : Nat) (acc : Array Nat), ((List.replicate k cBlank.cps).foldl (· ++ ·) acc).size = acc.size + k := by
        intro k
        induction k with
        | zero => intro acc; rfl
        | succ k ih =>
          intro acc
          rw [List.replicate_succ, List.foldl_cons, ih, Array.size_append]
          have e : cBlank.cps.size = 1 := by decide
          rw [e]
          omega
      show ((List.replicate (n : Int).toNat cBlank.cps).foldl (· ++ ·) #[]).size ≤ n
      rw [gen]
      have : (#[] : Array Nat).size = 0 := rfl
      omega
theorem last_len (ss : List Str) : (lastS ss).length ≤ (ss.map fun s => s.length + 1).sum := by
  unfold lastS
  induction ss with
  | nil => exact Nat.le_refl _
  | cons s ss ih =>
    cases ss with
    | nil => simp
    | cons t ss =>
      rw [List.map_cons, List.sum_cons]
      have e : (s :: t :: ss).getLastD Str.empty = (t :: ss).getLastD Str.empty := by simp
      rw [e]
      omega
theorem put_lim {L : Nat} {c : Col} {i : Nat} {s : Str} {n : Nat} (h1 : c.getD 0 + (s.length + n) ≤ L) (h2 : i + (s.length + n) ≤ L) : (put c i s).1.length ≤ i + s.length ∧ (put c i s).2.getD 0 + n ≤ L := by
  unfold put
  split
  · refine ⟨Nat.zero_le _, ?_⟩
    show c.getD 0 + n ≤ L
    omega
  · cases c with
    | none =>
      refine ⟨?_, ?_⟩
      · rw [len_app]
        have := spc_len i
        omega
      · show i + s.length + n ≤ L
        omega
    | some k =>
      refine ⟨by show s.length ≤ _; omega, ?_⟩
      have : k + (s.length + n) ≤ L := h1
      show k + s.length + n ≤ L
      omega
theorem Lim.tail {L : Nat} {c : Col} {x : Nat × Doc} {r : Rest} (h : Lim L c (x :: r)) : ∀ y ∈ r, y.1 + szR r ≤ L := fun y hy => by
  have := h.ind y (List.mem_cons_of_mem _ hy)
  simp only [szR] at this
  omega
theorem Lim.left {L : Nat} {c : Col} {i : Nat} {d : Doc} {r : Rest} {j : Nat} {ds : List Doc} (h : Lim L c ((i, d) :: r)) (hs : szL ds ≤ sz d) (hj : j + (szL ds + szR r) ≤ L) : Lim L c ((ds.map fun d => (j, d)) ++ r) := by
  refine ⟨?_, fun x hx => ?_⟩
  · have := h.col
    simp only [szR] at this
    rw [szR_app, szR_map]
    omega
  · rw [szR_app, szR_map]
    rcases List.mem_append.mp hx with hx | hx
    · obtain ⟨e, _, rfl⟩ := List.mem_map.mp hx
      exact hj
    · have := h.ind x (List.mem_cons_of_mem _ hx)
      simp only [szR] at this
      omega
theorem lf_len : cLf.length = 1 := by decide
theorem lf2_len : cLf2.length = 2 := by decide
theorem blank_len : cBlank.length = 1 := by decide
theorem steps_lim {L : Nat} {c : Col} {i : Nat} {d : Doc} {r : Rest} {st : Step} (h : Lim L c ((i, d) :: r)) (hst : st ∈ stepsOf c i d r) : Lim L st.c st.r ∧ st.w.length ≤ L + 2 := by
  have one : ∀ {s t : Step}, s ∈ [t] → s = t := fun h => List.mem_singleton.mp h
  have hc := h.col
  have hi := h.ind (i, d) (List.mem_cons_self ..)
  have ht := h.tail
  simp only [szR] at hc hi
  have lfL : ∀ c : Col, (if c.isNone then Str.empty else cLf).length ≤ L + 2 := fun c => by
    cases c with
    | none => exact Nat.zero_le _
    | some k => show cLf.length ≤ _; rw [lf_len]; omega
  have end_ : Lim L none r := ⟨by show 0 + szR r ≤ L; omega, ht⟩
  cases d with
  | text s =>
    cases one hst
    simp only [sz] at hc hi
    obtain ⟨a, b⟩ := put_lim hc hi
    exact ⟨⟨b, ht⟩, by show (put c i s).1.length ≤ _; omega⟩
  | line s => cases one hst; exact ⟨end_, lfL c⟩
  | hard => cases one hst; exact ⟨end_, lfL c⟩
  | blank =>
    cases one hst
    refine ⟨end_, ?_⟩
    show (if c.isNone then cLf else cLf2).length ≤ L + 2
    cases c with
    | none => show cLf.length ≤ _; rw [lf_len]; omega
    | some k => show cLf2.length ≤ _; rw [lf2_len]; omega
  | gap =>
    cases c with
    | none => cases one hst; exact ⟨end_, lfL none⟩
    | some k =>
      rcases List.mem_cons.mp hst with hst | hst
      · cases hst
        refine ⟨⟨?_, ht⟩, by show cBlank.length ≤ _; rw [blank_len]; omega⟩
        have : k + (1 + szR r) ≤ L := hc
        show k + 1 + szR r ≤ L
        omega
      · cases one hst; exact ⟨end_, lfL (some k)⟩
  | raw ss =>
    cases one hst
    simp only [sz] at hc hi
    have l := last_len ss
    refine ⟨⟨?_, ht⟩, ?_⟩
    · show (lastS ss).length + szR r ≤ L
      omega
    · show (Str.join cLf ((put c i (ss.headD Str.empty)).1 :: ss.tail)).length ≤ L + 2
      have j := join_len cLf ((put c i (ss.headD Str.empty)).1 :: ss.tail)
      rw [lf_len] at j
      cases ss with
      | nil =>
        have e : put c i Str.empty = (Str.empty, c) := by
          unfold put unw
          rfl
        have e2 : (put c i (([] : List Str).headD Str.empty)).1 = Str.empty := by
          show (put c i Str.empty).1 = _
          rw [e]
        rw [e2] at j ⊢
        exact Nat.le_trans j (by show (0 + 0) + 1 * 1 ≤ L + 2; omega)
      | cons s ss =>
        simp only [List.map_cons, List.sum_cons] at hc hi
        obtain ⟨a, b⟩ := put_lim (L := L) (c := c) (i := i) (s := s) (n := 1 + (ss.map fun s => s.length + 1).sum + szR r) (by omega) (by omega)
        have m : ∀ l : List Str, (l.map fun s => s.length + 1).sum = (l.map (·.length)).sum + l.length := by
          intro l
          induction l with
          | nil => rfl
          | cons x l ih => simp only [List.map_cons, List.sum_cons, List.length_cons, ih]; omega
        simp only [List.headD_cons, List.tail_cons, List.map_cons, List.sum_cons, List.length_cons] at j ⊢
        rw [m ss] at hi
        omega
  | nest n d =>
    cases one hst
    simp only [sz] at hc hi
    exact ⟨h.left (j := i + n) (ds := [d]) (by simp only [szL, sz]; omega) (by simp only [szL]; omega), Nat.zero_le _⟩
  | align d =>
    cases one hst
    simp only [sz] at hc hi
    refine ⟨h.left (j := c.getD i) (ds := [d]) (by simp only [szL, sz]; omega) ?_, Nat.zero_le _⟩
    simp only [szL]
    cases c with
    | none => show i + _ ≤ L; omega
    | some k =>
      have : k + (sz d + szR r) ≤ L := hc
      show k + _ ≤ L
      omega
  | group d =>
    simp only [sz] at hc hi
    have br : Lim L c ((i, d) :: r) := h.left (j := i) (ds := [d]) (by simp only [szL, sz]; omega) (by simp only [szL]; omega)
    simp only [stepsOf, groupSteps] at hst
    split at hst
    · cases one hst; exact ⟨br, Nat.zero_le _⟩
    · rename_i f hf
      rcases List.mem_cons.mp hst with hst | hst
      · cases hst
        have := flat_len d f hf
        exact ⟨h.left (j := i) (ds := [.text f]) (by simp only [szL, sz]; omega) (by simp only [szL, sz]; omega), Nat.zero_le _⟩
      · cases one hst; exact ⟨br, Nat.zero_le _⟩
  | choice a b =>
    simp only [sz] at hc hi
    rcases List.mem_cons.mp hst with hst | hst
    · cases hst
      exact ⟨h.left (j := i) (ds := [a]) (by simp only [szL, sz]; omega) (by simp only [szL]; omega), Nat.zero_le _⟩
    · cases one hst
      exact ⟨h.left (j := i) (ds := [b]) (by simp only [szL, sz]; omega) (by simp only [szL]; omega), Nat.zero_le _⟩
  | fill ds =>
    simp only [sz] at hc hi
    cases one hst
    match ds with
    | [] => exact ⟨h.left (j := i) (ds := []) (by simp only [szL]; omega) (by simp only [szL]; omega), Nat.zero_le _⟩
    | [d] =>
      simp only [szF] at hc hi
      exact ⟨h.left (j := i) (ds := [d]) (by simp only [szL, sz, szF]; omega) (by simp only [szL]; omega), Nat.zero_le _⟩
    | d :: e :: es =>
      simp only [szF] at hc hi
      exact ⟨h.left (j := i) (ds := [d, .gap, .fill (e :: es)]) (by simp only [szL, sz, szF]; omega) (by simp only [szL, sz, szF]; omega), Nat.zero_le _⟩
  | row ds =>
    cases one hst
    simp only [sz] at hc hi
    exact ⟨h.left (j := i) (ds := ds) (by simp only [sz]; omega) (by omega), Nat.zero_le _⟩
theorem Lim.start (d : Doc) : Lim (sz d) none [(0, d)] := ⟨by simp only [szR, Option.getD_none]; omega, fun x hx => by
  rw [List.mem_singleton.mp hx]
  simp only [szR]
  omega⟩

/-! ### the law -/
def alk (w : Nat) (d : Doc) : Doc :=
  if w = 0 then .row [d]
  else if w = 1 then .row [.text Str.empty, .row [], d, .row [.text Str.empty]]
  else if w = 2 then .nest 0 d
  else if w = 3 then .choice d d
  else if w = 4 then .fill [d]
  else if w = 5 then .nest 0 (.nest 0 d)
  else .row [.fill [], .nest 0 (.row [d, .fill []])]
theorem alk_texts (w : Nat) (d : Doc) : (∀ x, x ∈ texts (alk w d) ↔ x ∈ texts d) ∧ (texts (alk w d)).length ≤ 2 * (texts d).length := by
  have same : ∀ e : Doc, Alike [(0, e)] [(0, d)] → (∀ x, x ∈ texts e ↔ x ∈ texts d) ∧ (texts e).length ≤ 2 * (texts d).length := fun e h => by
    rw [texts_of h]
    exact ⟨fun _ => Iff.rfl, by omega⟩
  have n0 : ∀ e : Doc, Alike [(0, .nest 0 e)] [(0, e)] := fun e => alike_nest 0 0 e
  unfold alk
  split
  · exact same _ (alike_row 0 [d])
  split
  · refine same _ ((alike_row 0 _).trans ?_)
    show Alike ([(0, Doc.text Str.empty)] ++ ([(0, Doc.row [])] ++ ([(0, d)] ++ [(0, Doc.row [.text Str.empty])]))) ([] ++ ([] ++ ([(0, d)] ++ [])))
    exact (alike_nothing 0).app ((alike_row 0 []).app ((Alike.refl _).app ((alike_row 0 [.text Str.empty]).trans (alike_nothing 0))))
  split
  · exact same _ (n0 d)
  split
  · have e : texts (.choice d d) = texts d ++ texts d := by
      unfold texts
      have e0 : stepsOf none 0 (Doc.choice d d) [] = [left none 0 [d] [], left none 0 [d] []] := rfl
      rw [out_cons, e0]
      simp only [left, List.map_cons, List.map_nil, List.cons_append, List.nil_append, List.flatMap_cons, List.flatMap_nil, List.append_nil, nil_app, List.map_id', List.map_append]
    rw [e]
    exact ⟨fun x => by rw [List.mem_append, or_self], by rw [List.length_append]; omega⟩
  split
  · exact same _ (alike_fill1 0 d)
  split
  · exact same _ ((n0 _).trans (n0 d))
  · refine same _ ((alike_row 0 _).trans ?_)
    show Alike ([(0, Doc.fill [])] ++ [(0, Doc.nest 0 (.row [d, .fill []]))]) ([] ++ [(0, d)])
    refine (alike_fill0 0).app ((n0 _).trans ((alike_row 0 _).trans ?_))
    show Alike ([(0, d)] ++ [(0, Doc.fill [])]) ([(0, d)] ++ [])
    exact (Alike.refl _).app (alike_fill0 0)
/-- a fill's documents with gaps between -/
def led : List Doc → List Doc
  | [] => []
  | [d] => [d]
  | d :: e :: es => d :: .gap :: led (e :: es)
theorem alike_led (i : Nat) : ∀ ds : List Doc, Alike [(i, .fill ds)] ((led ds).map fun d => (i, d))
  | [] => alike_fill0 i
  | [d] => alike_fill1 i d
  | d :: e :: es => (alike_fill2 i d e es).trans (by
    show Alike ([(i, d)] ++ ([(i, Doc.gap)] ++ [(i, Doc.fill (e :: es))])) ([(i, d)] ++ ([(i, Doc.gap)] ++ ((led (e :: es)).map fun d => (i, d))))
    exact (Alike.refl _).app ((Alike.refl _).app (alike_led i (e :: es))))
theorem alike_in_row {i : Nat} {a b : Doc} (h : Alike [(i, a)] [(i, b)]) : Alike [(i, .row [a])] [(i, .row [b])] := (alike_row i [a]).trans (h.trans (alike_row i [b]).symm)
theorem alike_in_group {i : Nat} {a b : Doc} (h : Alike [(i, a)] [(i, b)]) (hf : flat a = flat b) : Alike [(i, .group a)] [(i, .group b)] := fun c => by
  rw [out_cons, out_cons]
  simp only [stepsOf, groupSteps, hf]
  split
  · simp only [List.flatMap_cons, List.flatMap_nil, h c]
  · simp only [List.flatMap_cons, List.flatMap_nil, h c]
theorem led_flat : ∀ ss : List Str, (flats (led (ss.map .text))) = (led (ss.map .text)).map flat ∧ none ∉ flats (led (ss.map .text)) ∧ Str.join Str.empty ((flats (led (ss.map .text))).map (·.getD Str.empty)) = Str.join cBlank ss
  | [] => ⟨rfl, by simp [led, flats], rfl⟩
  | [s] => ⟨rfl, by simp [led, flats, flat], rfl⟩
  | s :: t :: ss => by
    obtain ⟨_, b, c⟩ := led_flat (t :: ss)
    have e : led ((s :: t :: ss).map .text) = .text s :: .gap :: led ((t :: ss).map .text) := rfl
    refine ⟨flats_map _, ?_, ?_⟩
    · rw [e, flats, flats]
      intro h
      rcases List.mem_cons.mp h with h | h
      · cases h
      rcases List.mem_cons.mp h with h | h
      · cases h
      exact b h
    · rw [e, flats, flats, List.map_cons, List.map_cons, join_cons, join_cons, c]
      show s ++ (cBlank ++ Str.join cBlank (t :: ss)) = s ++ cBlank ++ Str.join cBlank (t :: ss)
      rw [app_app]
theorem flats_texts (ss : List Str) : flats (ss.map .text) = ss.map some := by
  rw [flats_map, List.map_map]; rfl
theorem led_same (ss : List Str) : flat (.fill (ss.map .text)) = flat (.row (led (ss.map .text))) := by
  obtain ⟨_, b, c⟩ := led_flat ss
  simp only [flat, glue]
  rw [if_neg b, c, flats_texts, if_neg (by simp), List.map_map]
  have : ((fun x : Option Str => x.getD Str.empty) ∘ some) = id := rfl
  rw [this, List.map_id]
theorem led_row (ss : List Str) : texts (.row [.fill (ss.map .text)]) = texts (.row [.row (led (ss.map .text))]) :=
  texts_of (alike_in_row ((alike_led 0 _).trans (alike_row 0 _).symm))
theorem led_group (ss : List Str) : texts (.group (.fill (ss.map .text))) = texts (.group (.row (led (ss.map .text)))) :=
  texts_of (alike_in_group ((alike_led 0 _).trans (alike_row 0 _).symm) (led_same ss))
/-- the text of the first layout -/
def first (d : Doc) : Str := ((tr d).go []).1
theorem first_group {d : Doc} {f : Str} (h : flat d = some f) : first (.group d) = first (.text f) := by
  unfold first tr
  have e : stepsOf none 0 (.group d) [] = [left none 0 [.text f] [], ⟨Str.empty, none, [(0, d)], true⟩] := by
    simp only [stepsOf, groupSteps, h]
  rw [tree_two e]
  show ((Tr.br _ _).go []).1 = _
  simp only [Tr.go, List.headD_nil, List.tail_nil, if_true]
  rw [Tr.pre_go]
  show Str.empty ++ ((tree none [(0, Doc.text f)]).go []).1 = _
  rw [nil_app]
theorem first_align (d : Doc) : first (.align d) = first d := by
  unfold first tr
  rw [tree_one (s := left none 0 [d] []) rfl, Tr.pre_go]
  show Str.empty ++ ((tree none [(0, d)]).go []).1 = _
  rw [nil_app]
theorem tw_len (p : Nat → Bool) (b : Nat) (hb : p b = false) : ∀ l : List Nat, ((l ++ [b]).takeWhile p).length ≤ l.length
  | [] => by simp [hb]
  | x :: l => by
    rw [List.cons_append, List.takeWhile_cons]
    split
    · exact Nat.succ_le_succ (tw_len p b hb l)
    · exact Nat.zero_le _
abbrev cA : Str := Str.ofString "a"
theorem blk_a (f : Str) : blk (cA ++ f) = false := by
  unfold blk
  refine decide_eq_false fun h => ?_
  have h0 : (Txt.stripChars (cA ++ f) cBlank).length = 0 := by rw [h]; rfl
  unfold Txt.stripChars at h0
  rw [PyProof.Rows.stripBy_eq] at h0
  have el : (cA ++ f).cps.toList = 97 :: f.cps.toList := by
    show ((Str.ofString "a").cps ++ f.cps).toList = _
    rw [Array.toList_append]
    rfl
  have g : cBlank.cps.contains 97 = false := by decide +kernel
  have lo : stripLo cBlank.cps.contains true (cA ++ f) = 0 := by
    simp only [stripLo, if_true, el, List.takeWhile_cons, g]
    rfl
  have len : (cA ++ f).length = f.length + 1 := by
    rw [len_app]
    have : cA.length = 1 := by decide
    omega
  rw [lo] at h0
  have hi : 1 ≤ stripHi cBlank.cps.contains true (cA ++ f) 0 := by
    simp only [stripHi, if_true, el, List.drop_zero, List.reverse_cons]
    have := tw_len cBlank.cps.contains 97 g f.cps.toList.reverse
    have e : f.cps.toList.length = f.length := Array.length_toList ..
    rw [List.length_reverse, e] at this
    omega
  have : (Builtin.Str.strSub (cA ++ f) 0 (stripHi cBlank.cps.contains true (cA ++ f) 0)).length = 0 := h0
  simp only [Builtin.Str.strSub, Str.length, Array.size_extract] at this
  have e : (cA ++ f).cps.size = f.length + 1 := len
  omega
theorem first_text (c : Col) (i : Nat) (s : Str) : ((tree c [(i, .text s)]).go []).1 = (put c i s).1 := by
  rw [tree_one (s := ⟨(put c i s).1, (put c i s).2, [], false⟩) rfl, Tr.pre_go]
  show (put c i s).1 ++ ((tree _ []).go []).1 = _
  rw [tree_nil]
  exact app_nil _
theorem a_not (f : Str) : cA ++ f ≠ Str.empty := fun h => by
  have := congrArg Str.length h
  rw [len_app] at this
  have e : cA.length = 1 := by decide
  rw [e, len_nil] at this
  omega
theorem put_a (f : Str) : put none 0 (cA ++ f) = (spc 0 ++ (cA ++ f), some (0 + (cA ++ f).length)) := by
  have e : unw none (cA ++ f) = false := by
    unfold unw
    rw [blk_a, decide_eq_false (a_not f)]
    rfl
  unfold put
  rw [e]
  rfl
theorem first_one (f : Str) : first (.group (.row [.text cA, .text f])) = first (.row [.text cA, .text f]) := by
  have hf : flat (.row [.text cA, .text f]) = some (cA ++ f) := by
    show glue Str.empty [some cA, some f] = _
    unfold glue
    rw [if_neg (by simp)]
    show some (cA ++ Str.empty ++ f) = _
    rw [app_nil]
  rw [first_group hf]
  unfold first tr
  rw [first_text, put_a, tree_one (s := left none 0 [.text cA, .text f] []) rfl, Tr.pre_go]
  show _ = Str.empty ++ ((tree none [(0, Doc.text cA), (0, Doc.text f)]).go []).1
  have ea : put none 0 cA = (spc 0 ++ cA, some (0 + cA.length)) := by
    have := put_a Str.empty
    rw [app_nil] at this
    exact this
  rw [nil_app, tree_one (s := ⟨(put none 0 cA).1, (put none 0 cA).2, [(0, .text f)], false⟩) rfl, Tr.pre_go]
  show _ = (put none 0 cA).1 ++ ((tree (put none 0 cA).2 [(0, Doc.text f)]).go []).1
  rw [first_text, ea]
  show spc 0 ++ (cA ++ f) = spc 0 ++ cA ++ (put (some (0 + cA.length)) 0 f).1
  rw [app_app]
  refine congrArg (spc 0 ++ ·) (congrArg (cA ++ ·) ?_)
  unfold put unw
  by_cases h : f = Str.empty
  · subst h
    rfl
  · rw [decide_eq_false h]
    rfl
end LD

/-! K4Base -/
namespace LK
open PySem L2 LD

/-! ### the text by places -/
def top (i : Nat) : Stmt := PySem.Challenge.pw_leastlaid_k35_whole_documents_in_other_w.main.body.getD i (.Pass ⟨0, 0, 0, 0⟩)
abbrev sInner : Stmt := top 1
abbrev sFlat : Stmt := top 2
abbrev sChs : Stmt := top 3
abbrev sUnw : Stmt := top 9
abbrev sPut : Stmt := top 10
abbrev sEnded : Stmt := top 11
abbrev sLeft : Stmt := top 12

/-! ### heaps -/
theorem same_new {H : Hp} {p : Addr} (h : H p = none) (o : HO) : Same H (upd H p o) := fun b u q => by rw [upd_ne (ne_of_none q h)]; exact q
/-- a new object, the heap then by what is known of it -/
theorem newly {H : Hp} {o : HO} {G : Addr → Hp → Prop} (h : ∀ p H', Same H H' → H' p = some o → H p = none → G p H') : ∀ p, H p = none → G p (upd H p o) :=
  fun p hp => h p _ (same_new hp o) upd_same hp

theorem new_of {H H2 : Hp} {p : Addr} {o : HO} (n : H p = none) (h : upd H p o = H2) : Same H H2 ∧ H2 p = some o := by
  subst h
  exact ⟨same_new n o, upd_same⟩
/-- an object that was not there ahead is written -/
theorem same_upd {H H1 : Hp} {D : Addr} {o : HO} (s : Same H H1) (hD : H D = none) : Same H (upd H1 D o) := fun b u q => by
  rw [upd_ne (ne_of_none q hD)]
  exact s b u q

/-! ### what stands in the heap for a document, a rest, a step -/
mutual
def DAt (H : Hp) : Doc → V → Prop
  | .text s, v => ∃ a, v = .ref a ∧ H a = some (.tup [.str "text", .str s])
  | .line s, v => ∃ a, v = .ref a ∧ H a = some (.tup [.str "line", .str s])
  | .hard, v => ∃ a, v = .ref a ∧ H a = some (.tup [.str "hard"])
  | .blank, v => ∃ a, v = .ref a ∧ H a = some (.tup [.str "blank"])
  | .gap, v => ∃ a, v = .ref a ∧ H a = some (.tup [.str "gap"])
  | .nest n d, v => ∃ a x, v = .ref a ∧ H a = some (.tup [.str "nest", .int n, x]) ∧ DAt H d x
  | .align d, v => ∃ a x, v = .ref a ∧ H a = some (.tup [.str "align", x]) ∧ DAt H d x
  | .group d, v => ∃ a x, v = .ref a ∧ H a = some (.tup [.str "group", x]) ∧ DAt H d x
  | .choice d e, v => ∃ a x y, v = .ref a ∧ H a = some (.tup [.str "choice", x, y]) ∧ DAt H d x ∧ DAt H e y
  | .fill ds, v => ∃ a b xs, v = .ref a ∧ H a = some (.tup [.str "fill", .ref b]) ∧ H b = some (.tup xs) ∧ DsAt H ds xs
  | .row ds, v => ∃ a b xs, v = .ref a ∧ H a = some (.tup [.str "row", .ref b]) ∧ H b = some (.tup xs) ∧ DsAt H ds xs
  | .raw ss, v => ∃ a b, v = .ref a ∧ H a = some (.tup [.str "raw", .ref b]) ∧ H b = some (.tup (ss.map V.str)) ∧ ss ≠ []
def DsAt (H : Hp) : List Doc → List V → Prop
  | [], xs => xs = []
  | d :: ds, xs => ∃ x ys, xs = x :: ys ∧ DAt H d x ∧ DsAt H ds ys
end
/-- tuples stay -/
def Tk (H H' : Hp) : Prop := ∀ a xs, H a = some (.tup xs) → H' a = some (.tup xs)
theorem Tk.of {H H' : Hp} (h : Same H H') : Tk H H' := fun a xs q => h a _ q
/-- a list is written -/
theorem tk_upd {H : Hp} {D : Addr} {acc : List V} {o : HO} (h : H D = some (.lst acc)) : Tk H (upd H D o) := fun a xs q => by
  rw [upd_ne (ne_of q h (by intro z; cases z))]
  exact q
theorem Tk.trans {H H1 H2 : Hp} (a : Tk H H1) (b : Tk H1 H2) : Tk H H2 := fun c xs h => b c xs (a c xs h)
mutual
theorem DAt.mono {H H' : Hp} (k : Tk H H') : ∀ (d : Doc) {v : V}, DAt H d v → DAt H' d v
  | .text s, v, ⟨a, e, h⟩ => ⟨a, e, k _ _ h⟩
  | .line s, v, ⟨a, e, h⟩ => ⟨a, e, k _ _ h⟩
  | .hard, v, ⟨a, e, h⟩ => ⟨a, e, k _ _ h⟩
  | .blank, v, ⟨a, e, h⟩ => ⟨a, e, k _ _ h⟩
  | .gap, v, ⟨a, e, h⟩ => ⟨a, e, k _ _ h⟩
  | .nest n d, v, ⟨a, x, e, h, g⟩ => ⟨a, x, e, k _ _ h, DAt.mono k d g⟩
  | .align d, v, ⟨a, x, e, h, g⟩ => ⟨a, x, e, k _ _ h, DAt.mono k d g⟩
  | .group d, v, ⟨a, x, e, h, g⟩ => ⟨a, x, e, k _ _ h, DAt.mono k d g⟩
  | .choice d d', v, ⟨a, x, y, e, h, g, g'⟩ => ⟨a, x, y, e, k _ _ h, DAt.mono k d g, DAt.mono k d' g'⟩
  | .fill ds, v, ⟨a, b, xs, e, h, g, q⟩ => ⟨a, b, xs, e, k _ _ h, k _ _ g, DsAt.mono k ds q⟩
  | .row ds, v, ⟨a, b, xs, e, h, g, q⟩ => ⟨a, b, xs, e, k _ _ h, k _ _ g, DsAt.mono k ds q⟩
  | .raw ss, v, ⟨a, b, e, h, g, q⟩ => ⟨a, b, e, k _ _ h, k _ _ g, q⟩
theorem DsAt.mono {H H' : Hp} (k : Tk H H') : ∀ (ds : List Doc) {xs : List V}, DsAt H ds xs → DsAt H' ds xs
  | [], xs, e => e
  | d :: ds, xs, ⟨x, ys, e, g, q⟩ => ⟨x, ys, e, DAt.mono k d g, DsAt.mono k ds q⟩
end
theorem DsAt.len {H : Hp} : ∀ {ds : List Doc} {xs : List V}, DsAt H ds xs → xs.length = ds.length
  | [], xs, e => by rw [show xs = [] from e]; rfl
  | d :: ds, xs, ⟨x, ys, e, g, q⟩ => by rw [e, List.length_cons, List.length_cons, DsAt.len q]
theorem DsAt.get {H : Hp} : ∀ {ds : List Doc} {xs : List V} {i : Nat} {x : V}, DsAt H ds xs → xs[i]? = some x → ∃ d, ds[i]? = some d ∧ DAt H d x
  | [], xs, i, x, e, h => by rw [show xs = [] from e] at h; cases h
  | d :: ds, xs, 0, x, ⟨y, ys, e, g, q⟩, h => by
    rw [e] at h
    cases h
    exact ⟨d, rfl, g⟩
  | d :: ds, xs, i + 1, x, ⟨y, ys, e, g, q⟩, h => by
    rw [e] at h
    exact DsAt.get (i := i) q (by simpa using h)
theorem DsAt.snoc {H : Hp} : ∀ {ds : List Doc} {xs : List V} {d : Doc} {x : V}, DsAt H ds xs → DAt H d x → DsAt H (ds ++ [d]) (xs ++ [x])
  | [], xs, d, x, e, h => by rw [show xs = [] from e]; exact ⟨x, [], rfl, h, rfl⟩
  | c :: ds, xs, d, x, ⟨y, ys, e, g, q⟩, h => by
    rw [e]
    exact ⟨y, ys ++ [x], rfl, g, DsAt.snoc q h⟩

def colV : Col → V
  | none => .non
  | some k => .int k
/-- an item of a rest -/
def ItAt (H : Hp) (it : Nat × Doc) (v : V) : Prop := ∃ p x, v = .ref p ∧ H p = some (.tup [.int it.1, x]) ∧ DAt H it.2 x
def ItsAt (H : Hp) : Rest → List V → Prop
  | [], xs => xs = []
  | it :: r, xs => ∃ x ys, xs = x :: ys ∧ ItAt H it x ∧ ItsAt H r ys
def RAt (H : Hp) (r : Rest) (v : V) : Prop := ∃ a xs, v = .ref a ∧ H a = some (.tup xs) ∧ ItsAt H r xs
theorem ItAt.mono {H H' : Hp} (k : Tk H H') {it : Nat × Doc} {v : V} : ItAt H it v → ItAt H' it v
  | ⟨p, x, e, h, g⟩ => ⟨p, x, e, k _ _ h, DAt.mono k _ g⟩
theorem ItsAt.mono {H H' : Hp} (k : Tk H H') : ∀ {r : Rest} {xs : List V}, ItsAt H r xs → ItsAt H' r xs
  | [], xs, e => e
  | it :: r, xs, ⟨x, ys, e, g, q⟩ => ⟨x, ys, e, g.mono k, ItsAt.mono k q⟩
theorem RAt.mono {H H' : Hp} (k : Tk H H') {r : Rest} {v : V} : RAt H r v → RAt H' r v
  | ⟨a, xs, e, h, g⟩ => ⟨a, xs, e, k _ _ h, g.mono k⟩
theorem ItsAt.len {H : Hp} : ∀ {r : Rest} {xs : List V}, ItsAt H r xs → xs.length = r.length
  | [], xs, e => by rw [show xs = [] from e]; rfl
  | it :: r, xs, ⟨x, ys, e, g, q⟩ => by rw [e, List.length_cons, List.length_cons, ItsAt.len q]
theorem ItsAt.app {H : Hp} : ∀ {r q : Rest} {xs ys : List V}, ItsAt H r xs → ItsAt H q ys → ItsAt H (r ++ q) (xs ++ ys)
  | [], q, xs, ys, e, h => by rw [show xs = [] from e]; exact h
  | it :: r, q, xs, ys, ⟨x, zs, e, g, h⟩, h' => by
    rw [e]
    exact ⟨x, zs ++ ys, rfl, g, ItsAt.app h h'⟩
theorem ItsAt.snoc {H : Hp} {r : Rest} {xs : List V} {it : Nat × Doc} {x : V} (h : ItsAt H r xs) (g : ItAt H it x) : ItsAt H (r ++ [it]) (xs ++ [x]) :=
  h.app ⟨x, [], rfl, g, rfl⟩
/-- a step -/
def StAt (H : Hp) (st : LD.Step) (v : V) : Prop := ∃ a r, v = .ref a ∧ H a = some (.tup [.str st.w, colV st.c, r, .bl st.b]) ∧ RAt H st.r r
def StsAt (H : Hp) : List LD.Step → List V → Prop
  | [], xs => xs = []
  | st :: r, xs => ∃ x ys, xs = x :: ys ∧ StAt H st x ∧ StsAt H r ys
theorem StAt.mono {H H' : Hp} (k : Tk H H') {st : LD.Step} {v : V} : StAt H st v → StAt H' st v
  | ⟨a, r, e, h, g⟩ => ⟨a, r, e, k _ _ h, g.mono k⟩
theorem StsAt.mono {H H' : Hp} (k : Tk H H') : ∀ {r : List LD.Step} {xs : List V}, StsAt H r xs → StsAt H' r xs
  | [], xs, e => e
  | it :: r, xs, ⟨x, ys, e, g, q⟩ => ⟨x, ys, e, g.mono k, StsAt.mono k q⟩

/-! ### what is asked of the top -/
structure Tp (mg : Str → Option Value) : Prop where
  len : mg "len" = none
  tuple : mg "tuple" = none
  range : mg "range" = none
  sorted : mg "sorted" = none
  set : mg "set" = none
  sum : mg "sum" = none
  max : mg "max" = none
  int : mg "int" = none
  abs : mg "abs" = none
theorem big1 : (1 : Nat) ≤ sizeLine := by decide
theorem big2 : (2 : Nat) ≤ sizeLine := by decide
theorem big3 : (3 : Nat) ≤ sizeLine := by decide
theorem big4 : (4 : Nat) ≤ sizeLine := by decide
theorem line_eq : sizeLine = 16777216 := sizeLine_eq
end LK

/-! K5Set -/
namespace LK
open PySem PySem.Spec PyProof.Rows L2 LD

/-! ### sets of texts -/
def keyS (e : Int × Value) : Str := match e.2 with
  | .str x _ => x
  | _ => Str.empty
def GoodS (w : World) (e : Int × Value) : Prop := ∃ x tk, e.2 = Value.str x tk ∧ e.1 = hashStr w x
/-- the set at a of the texts in T -/
def SetS (w : World) (h : Heap) (a : Addr) (T : List Str) : Prop :=
  ∃ o es ep t, h.get? a = some o ∧ o.ExactSet ∧ o.data = .set es ep t ∧ (∀ e ∈ es.toList, GoodS w e) ∧ (es.toList.map keyS).Nodup ∧
    (∀ k, k ∈ es.toList.map keyS ↔ k ∈ T) ∧ es.size ≤ T.length ∧ es.size < scanBound ∧ t.fits es.size = true ∧ Ris t.place.toList ∧ (w.params.followText "set-order" = true ∨ t.led = true)
section
variable {P : Program} {w : World} {h h' : Heap} {a : Addr} {T : List Str}
theorem SetS.at (R : SetS w h a T) (k : ∀ o, h.get? a = some o → h'.get? a = some o) : SetS w h' a T := by
  obtain ⟨o, es, ep, t, ho, r⟩ := R
  exact ⟨o, es, ep, t, k o ho, r⟩
theorem goodS_elems {l : List (Int × Value)} (g : ∀ e ∈ l, GoodS w e) : ElemsOf (PySem.strKind P w) l := fun e he => by
  obtain ⟨x, tk, h1, h2⟩ := g e he
  exact ⟨⟨x, by rw [h1]; exact strKind_is P w x tk, h2⟩, by rw [h1] <;> rfl⟩
theorem goodS_is {e : Int × Value} (g : GoodS w e) (k : Str) : (PySem.strKind P w).is k e.2 = true ↔ keyS e = k := by
  obtain ⟨x, tk, h1, _⟩ := g
  unfold keyS
  rw [h1]
  constructor
  · intro q
    obtain ⟨t, e⟩ := Value.isStrOf_shape (x := k) (v := .str x tk) q
    injection e with e
  · intro q
    have q : x = k := q
    rw [q]
    exact strKind_is P w k tk
theorem goodS_mem {l : List (Int × Value)} (g : ∀ e ∈ l, GoodS w e) (k : Str) : k ∈ l.map keyS ↔ ∃ e ∈ l, (PySem.strKind P w).is k e.2 = true := by
  rw [List.mem_map]
  exact ⟨fun ⟨e, he, q⟩ => ⟨e, he, (goodS_is (g e he) k).2 q⟩, fun ⟨e, he, q⟩ => ⟨e, he, (goodS_is (g e he) k).1 q⟩⟩
end

section
variable {P : Program} {w : World} {A : Around} {E : Value → Shared → Prop} {s : Shared} {a : Addr} {T : List Str}
/-- the entries are laid, the table perhaps anew -/
theorem setS_lay {g : Bool → Sem Unit} (hg : ∀ (b : Bool) (s₁ : Shared) (Q' : Unit → Shared → Prop), Q' () s₁ → wpAny (model P w) A (g b) Q' E s₁)
    {o : Obj} {es : Array (Int × Value)} {ep : Nat} {t : SetTable} (ho : s.heap.get? a = some o) (hex : o.ExactSet) (hd : o.data = .set es ep t)
    {es1 : Array (Int × Value)} {t2 : SetTable} (g1 : ∀ e ∈ es1.toList, GoodS w e) (nd1 : (es1.toList.map keyS).Nodup) (m1 : ∀ k, k ∈ es1.toList.map keyS ↔ k ∈ T)
    (hlen : es1.size ≤ T.length) (hb1 : es1.size < scanBound) (hf2 : t2.fits es1.size = true) (hr : Ris t2.place.toList) (hl : w.params.followText "set-order" = true ∨ t2.led = true) {wasDummy : Bool} {R : Option Bool → Shared → Prop}
    (hR : ∀ h', Heap.SameBut a s.heap h' → SetS w h' a T → R (some true) { s with heap := h' }) :
    wpAny (model P w) A (do
        storeSet a es1 t2
        if (!wasDummy && t2.tooFull) = true then do
            g (relayAll t2 es1 (SetTable.grown es1.size)).2.2
            storeSet a (relayAll t2 es1 (SetTable.grown es1.size)).1 (relayAll t2 es1 (SetTable.grown es1.size)).2.1
            pure (some true)
          else pure (some true)) R E s := by
  refine wpAny_bind (wpAny_storeSet_of ho hd ?_ (fits_of_scanBound hb1))
  have ho1 := store_at (es' := es1) (t' := t2) ho hd
  have sb1 := Heap.SameBut.update s.heap a (Obj.putSet es1 t2)
  split
  · have pm := relayAll_perm t2 es1 (SetTable.grown es1.size)
    have hf3 := relayAll_fits t2 es1 (SetTable.grown es1.size)
    have hr3 := relayAll_ris t2 es1 (SetTable.grown es1.size)
    have hl3 := relayAll_led t2 es1 (SetTable.grown es1.size)
    generalize relayAll t2 es1 (SetTable.grown es1.size) = Z at pm hf3 hr3 hl3 ⊢
    obtain ⟨es2, t3, gave⟩ := Z
    dsimp only at pm hf3 hr3 hl3 ⊢
    have hsz : es2.size = es1.size := by rw [← Array.length_toList, pm.length_eq, Array.length_toList]
    have hb2 : es2.size < scanBound := by rw [hsz]; exact hb1
    refine wpAny_bind (hg _ _ _ ?_)
    refine wpAny_bind (wpAny_storeSet_of ho1 rfl ?_ (fits_of_scanBound hb2))
    have ho2 := store_at (es' := es2) (t' := t3) ho1 rfl
    refine wpAny_pure (hR _ (sb1.trans (Heap.SameBut.update _ a _)) ?_)
    exact ⟨_, es2, _, t3, ho2, hex, rfl, fun e he => g1 e (pm.mem_iff.mp he), (pm.map keyS).nodup_iff.mpr nd1, fun k => (pm.map keyS).mem_iff.trans (m1 k), by rw [hsz]; exact hlen, hb2, hf3, hr3,
      hl.imp id fun z => by rw [hl3]; exact z⟩
  · exact wpAny_pure (hR _ sb1 ⟨_, es1, _, t2, ho1, hex, rfl, g1, nd1, m1, hlen, hb1, hf2, hr, hl⟩)
/-- one text more -/
theorem setS_add {x : Str} {tk : Tok} {Q : Bool → Shared → Prop} (R : SetS w s.heap a T) (room : T.length + 1 < scanBound)
    (hQ : ∀ b h', Heap.SameBut a s.heap h' → SetS w h' a (T ++ [x]) → Q b { s with heap := h' }) :
    wpAny (model P w) A (setAddHashed a (.str x tk) ((PySem.strKind P w).hash x)) Q E s := by
  obtain ⟨o, es, ep, t, ho, hex, hd, g, nd, hm, hle, hb, hf, hr, hl⟩ := R
  have hkey : (PySem.strKind P w).is x (.str x tk) = true := strKind_is P w x tk
  have hsc : (Value.str x tk).scannable = true := rfl
  have hel : ElemsOf (PySem.strKind P w) es.toList := goodS_elems g
  have tl : (T ++ [x]).length = T.length + 1 := by rw [List.length_append]; rfl
  unfold setAddHashed setAddHashedIn
  refine wpAny_holding (wpAny_bind (wpAny_setState_of ho hd hf ?_))
  dsimp only
  rw [byScan_of hsc hb hel]
  simp only [↓reduceIte]
  unfold setAddByScan
  refine wpAny_bind ?_
  refine wpAny_bind (wpAny_rule ?_)
  refine wpAny_bind (wpAny_setScan_of hkey ho hd hf hel ?_)
  cases hfi : List.findIdx? (fun e => (PySem.strKind P w).is x e.2) es.toList with
  | some j =>
    dsimp only
    obtain ⟨hj, pj, _⟩ := List.findIdx?_eq_some_iff_getElem.mp hfi
    have hx : x ∈ es.toList.map keyS := (goodS_mem (P := P) (w := w) g x).2 ⟨es.toList[j], List.getElem_mem hj, pj⟩
    refine wpAny_pure (wpAny_pure ?_)
    refine hQ _ s.heap (Heap.SameBut.refl a s.heap) ⟨o, es, ep, t, ho, hex, hd, g, nd, fun k => ?_, by omega, hb, hf, hr, hl⟩
    rw [List.mem_append, List.mem_singleton, ← hm k]
    exact ⟨.inl, fun z => z.elim id fun e => e ▸ hx⟩
  | none =>
    dsimp only
    have hnk : x ∉ es.toList.map keyS := fun z => by
      obtain ⟨e, he, q⟩ := (goodS_mem (P := P) (w := w) g x).1 z
      have c := List.findIdx?_eq_none_iff.mp hfi e he
      rw [q] at c
      cases c
    have hgw : ∀ (b : Bool) {s₁ : Shared} {Q' : Unit → Shared → Prop}, Q' () s₁ → wpAny (model P w) A (match b with | true => rule "set.scan.the-table-gave-way" | false => pure ()) Q' E s₁ :=
      fun b s₁ Q' q => by cases b <;> first | exact wpAny_pure q | exact wpAny_rule q
    have pm := layNew_perm t es ((PySem.strKind P w).hash x) (.str x tk)
    have hf1 := layNew_fits t es ((PySem.strKind P w).hash x) (.str x tk)
    have hr1 := layNew_ris t es ((PySem.strKind P w).hash x) (.str x tk) hr
    have hl1 := layNew_led t es ((PySem.strKind P w).hash x) (.str x tk)
    generalize layNew t es ((PySem.strKind P w).hash x) (.str x tk) = Z at pm hf1 hr1 hl1 ⊢
    obtain ⟨es1, t1, wasDummy, gave⟩ := Z
    dsimp only at pm hf1 hr1 hl1 ⊢
    rw [Array.toList_push] at pm
    have pc : es1.toList.Perm (((PySem.strKind P w).hash x, Value.str x tk) :: es.toList) := pm.trans (List.perm_append_singleton _ _)
    have pk : (es1.toList.map keyS).Perm (x :: es.toList.map keyS) := pc.map keyS
    have g1 : ∀ e ∈ es1.toList, GoodS w e := fun e he => by
      rcases List.mem_cons.mp (pc.mem_iff.mp he) with z | z
      · rw [z]; exact ⟨x, tk, rfl, rfl⟩
      · exact g e z
    have nd1 : (es1.toList.map keyS).Nodup := pk.nodup_iff.mpr (List.nodup_cons.mpr ⟨hnk, nd⟩)
    have m1 : ∀ k, k ∈ es1.toList.map keyS ↔ k ∈ T ++ [x] := fun k => by
      rw [pk.mem_iff, List.mem_cons, hm k, List.mem_append, List.mem_singleton]
      exact Or.comm
    have hsz : es1.size = es.size + 1 := by rw [← Array.length_toList, pc.length_eq, List.length_cons, Array.length_toList]
    have hlen : es1.size ≤ (T ++ [x]).length := by omega
    have hb1 : es1.size < scanBound := by omega
    have hled : w.params.followText "set-order" = true ∨ t1.led = true := hl.imp id fun z => by rw [hl1]; exact z
    refine wpAny_bind (hgw _ ?_)
    split
    · refine wpAny_bind ?_
      rw [hashByValue_scannable 8 hsc]
      refine wpAny_pure ?_
      refine setS_lay (T := T ++ [x]) ?_ ho hex hd g1 nd1 m1 hlen hb1 ?_ ?_ ?_ ?_
      · intro b s₁ Q' q; cases b <;> first | exact wpAny_pure q | exact wpAny_rule q
      · first | (split <;> first | exact hf1 | exact SetTable.fits_plain_off hf1) | exact hf1
      · first | (split <;> exact hr1) | exact hr1
      · first | (split <;> exact hled) | exact hled
      · intro h' sb r; dsimp only; exact wpAny_pure (hQ _ h' sb r)
    · refine wpAny_bind (wpAny_pure ?_)
      simp only [↓reduceIte]
      refine setS_lay (T := T ++ [x]) ?_ ho hex hd g1 nd1 m1 hlen hb1 hf1 hr1 hled ?_
      · intro b s₁ Q' q; cases b <;> first | exact wpAny_pure q | exact wpAny_rule q
      · intro h' sb r; dsimp only; exact wpAny_pure (hQ _ h' sb r)
theorem setS_fresh {h : Heap} {a : Addr} (ho : h.get? a = some { cls := .type "set", dict := none, data := .set #[] 0 (.fresh 0 0 (!w.params.followText "set-order")) }) : SetS w h a [] :=
  ⟨_, #[], 0, _, ho, ⟨rfl, rfl, rfl⟩, rfl, (fun e he => by simp at he), (by simp), (fun k => by simp), (Nat.le_refl _), (by decide), (by rfl), List.Pairwise.nil, by
    show _ ∨ (!w.params.followText "set-order") = true
    cases w.params.followText "set-order"
    · exact .inr rfl
    · exact .inl rfl⟩
/-- the loop of set.update -/
theorem setS_loop {I : Addr} {fp wr : List Addr} {G : Array GenState → Array GenState → Prop} {n : Nat} {Pv : Nat → Value → Prop} {St : Nat → Shared → Prop} {R : Result → Shared → Prop}
    (W : WalksS P w A.in1 I fp wr G n Pv St) (S : Addr) (hSf : S ∉ fp) (ks : List Str) (hn : n = ks.length) (hfew : ks.length < 1000) (hval : ∀ i v, Pv i v → ∃ x t, ks[i]? = some x ∧ v = .str x t) :
    ∀ (k i : Nat) (s : Shared), n - i = k → i ≤ n → St i s → SetS w s.heap S (ks.take i) →
      (∀ s', Moved (S :: wr) G s s' → SetS w s'.heap S ks → R (.ok (.ret .none)) s') →
      codeAny (model P w) A (.builtin "set.update.loop" ⟨[.ref S, .ref I], []⟩) R s := by
  have hSw : S ∉ wr := fun h => hSf (W.sub _ h)
  have hsub : ∀ b ∈ wr, b ∈ S :: wr := fun b hb => List.mem_cons_of_mem _ hb
  intro k
  induction k with
  | zero =>
    intro i s hk hi hst hS hR
    have hin : i = n := by omega
    subst hin
    refine codeAny_builtin F.entry_set_update_loop ?_
    rw [Around.under_plainId F.plain_set_update_loop _]
    show wpAny _ A.in1 (pyNext (.ref I) >>= _) _ _ s
    refine wpAny_bind (W.done s _ _ hst fun s' hm => ?_)
    show wpAny _ A.in1 (ret Value.none) _ _ s'
    rw [List.take_of_length_le (by omega)] at hS
    exact wpAny_pure (hR s' (hm.mono hsub) (hS.at fun o e => hm.heap S o hSw e))
  | succ k ih =>
    intro i s hk hi hst hS hR
    have hlt : i < n := by omega
    refine codeAny_builtin F.entry_set_update_loop ?_
    rw [Around.under_plainId F.plain_set_update_loop _]
    show wpAny _ A.in1 (pyNext (.ref I) >>= _) _ _ s
    refine wpAny_bind (W.item i s _ _ hlt hst fun v s' hP hst' hm => ?_)
    obtain ⟨x, t, hx, rfl⟩ := hval i v hP
    have hS' : SetS w s'.heap S (ks.take i) := hS.at fun o e => hm.heap S o hSw e
    show wpAny _ A.in1 (holding [Value.str x t] (setAdd S (.str x t)) >>= _) _ _ s'
    refine wpAny_bind (wpAny_holding ?_)
    unfold setAdd
    refine wpAny_holding ?_
    refine wpAny_bind ((PySem.strKind P w).pyHash (k := x) (strKind_is _ _ _ _) ?_)
    refine setS_add (s := { s' with toks := s'.toks + 1 }) hS' (by rw [List.length_take]; unfold scanBound; omega) fun b h' hsb hS2 => ?_
    have e2 : ks.take (i + 1) = ks.take i ++ [x] := by rw [List.take_add_one, hx]; rfl
    rw [← e2] at hS2
    refine wpAny_pure ⟨plainId_quiet F.plain_set_update_loop _, ih (i + 1) _ (by omega) hlt (W.frame _ s' _ _ hst' (Nat.le_add_right _ _) fun b hb o e => ?_) hS2 fun s'' hm'' hS'' => ?_⟩
    · rw [hsb.2 b (fun h : b = S => hSf (by rw [← h]; exact hb))]; exact e
    · refine hR s'' (Moved.trans W.gtrans ((hm.mono hsub).then_heap (Nat.le_add_right _ _) fun b o hb e => ?_) hm'') hS''
      rw [hsb.2 b (fun h : b = S => hb (by rw [h]; exact List.mem_cons_self))]; exact e
end
end LK

/-! K6Calls -/
namespace LK
open PySem PySem.Spec PyProof.Rows L2 LD

section
variable {P : Program} {w : World} {A : Around} {E : Value → Shared → Prop} {s : Shared}
theorem strs_of_vals : ∀ {xs : List Str} {us : List Value}, Vals (xs.map V.str) us → ∀ (i : Nat) (v : Value), us[i]? = some v → ∃ x t, xs[i]? = some x ∧ v = .str x t
  | [], _, .nil, i, v, h => by simp at h
  | x :: xs, _, .cons r rr, 0, v, h => by
    obtain ⟨t, e⟩ := r
    have h := Option.some.inj h
    exact ⟨x, t, rfl, by rw [← h, e]⟩
  | x :: xs, _, .cons r rr, i + 1, v, h => strs_of_vals rr i v (by simpa using h)
set_option maxRecDepth 100000 in
set_option maxHeartbeats 3200000 in
/-- set(xs), xs a list of texts -/
theorem call_set_strs {l : Addr} {items : Array Value} (ks : List Str) {Q : Value → Shared → Prop} (hh : A.handled = none) (hl : s.heap.IsList l items) (hit : Vals (ks.map V.str) items.toList) (hfew : ks.length < 1000)
    (h : ∀ (h' : Heap) (tk : Nat), SetS w h' s.heap.objs.size ks → (∀ b o, s.heap.get? b = some o → h'.get? b = some o) → Q (.ref s.heap.objs.size) { s with heap := h', toks := tk }) :
    wpAny (model P w) A (call (.type "set") [.ref l]) Q E s := by
  have hisz : items.size = ks.length := by
    have q := hit.length
    have e1 : items.toList.length = items.size := Array.length_toList ..
    have e2 : (ks.map V.str).length = ks.length := List.length_map _
    omega
  obtain ⟨c, tl, hmro⟩ := F.called_set.mro
  have hmade := F.called_set.made
  have hsub := F.called_set.sub
  refine wpAny_call (codeAny_of_tree ?_)
  show wpAny _ _ (callAny (.type "set") _) _ _ _
  refine wpAny_pure ⟨Code.quiet_builtin _ (by decide +kernel), codeAny_builtin F.entry_type_call ?_⟩
  rw [Around.under_plain (weight_type_call_type "set" [.ref l] []) rfl]
  have h1 := F.called_set.notType
  have h2 := F.called_set.canCreate
  have hct := F.typeCall_set_1 (.ref l)
  repeat (any_goals (first | assumption | wp_step))
  refine codeAny_mono (code_set_led1 (.ref l) (E := E) (Q₁ := fun obj s₁ => obj = .ref s.heap.objs.size ∧ s₁ = { s with heap := s.heap.push { cls := .type "set", dict := none, data := .set #[] 0 (.fresh 0 0 (!w.params.followText "set-order")) } }) ⟨rfl, rfl⟩) fun r s₁ hr => ?_
  cases r with
  | error e => exact hr
  | ok fl =>
    cases fl with
    | ret obj =>
      obtain ⟨rfl, rfl⟩ := hr
      have hS : (s.heap.push { cls := .type "set", dict := none, data := .set #[] 0 (.fresh 0 0 (!w.params.followText "set-order")) }).get? s.heap.objs.size = some { cls := .type "set", dict := none, data := .set #[] 0 (.fresh 0 0 (!w.params.followText "set-order")) } := Heap.get?_push_size _ rfl
      have hT : Shared.TypeIs { s with heap := s.heap.push { cls := .type "set", dict := none, data := .set #[] 0 (.fresh 0 0 (!w.params.followText "set-order")) } } (.ref s.heap.objs.size) "set" := ⟨_, hS, rfl⟩
      have hli := F.called_set.init.lookup
      have hbi := F.called_set.init.bind (.ref s.heap.objs.size)
      repeat (any_goals (first | assumption | wp_step))
      refine codeAny_mono (codeAny_call_builtin (R := wants (fun r s₂ => r = .none ∧ ∃ h' tk, s₂ = { s with heap := h', toks := tk } ∧ SetS w h' s.heap.objs.size ks ∧ (∀ b o, s.heap.get? b = some o → h'.get? b = some o)) E) F.called_set.init.plain F.entry_set_init (check_set_init_1 hT ?_)) fun r₂ s₂ hr₂ => ?_
      · obtain ⟨ol, hol, hcl, nl, hdl⟩ := hl
        obtain ⟨ocls, odict, odata, oslots⟩ := ol
        simp only at hcl hdl
        subst hcl; subst hdl
        have hol' : (s.heap.push { cls := .type "set", dict := none, data := .set #[] 0 (.fresh 0 0 (!w.params.followText "set-order")) }).get? l = some { cls := .type "list", dict := odict, data := .seq items nl, slots := oslots } := Heap.get?_push_of_some _ hol
        have hsls := F.sub_list_set
        have hslf := F.sub_list_frozenset
        have hne : (Value.type "list" == Value.type "dict") = false := by decide
        have hl1 : (s.heap.push { cls := .type "set", dict := none, data := .set #[] 0 (.fresh 0 0 (!w.params.followText "set-order")) }).IsList l items := ⟨_, hol', rfl, nl, rfl⟩
        unfold Builtin.«set.__init__» noKeywords Builtin.Frozenset.updateFrom
        generalize hPI : pyIter = PI
        wp_walk
        subst hPI
        refine wpAny_pyIter_list hl1 ?_
        refine wpAny_bind (wpAny_runValue ?_)
        have hlS : l < s.heap.objs.size := Heap.lt_size hol
        have hh3 : A.in1.in1.in1.handled = none := by simp [hh]
        have hneI : l ≠ (s.heap.push { cls := .type "set", dict := none, data := .set #[] 0 (.fresh 0 0 (!w.params.followText "set-order")) }).objs.size := by
          rw [Heap.size_push]; exact Nat.ne_of_lt (Nat.lt_succ_of_lt hlS)
        have hSf : s.heap.objs.size ∉ [(s.heap.push { cls := .type "set", dict := none, data := .set #[] 0 (.fresh 0 0 (!w.params.followText "set-order")) }).objs.size, l] := by
          rw [Heap.size_push]; simp only [List.mem_cons, List.mem_singleton, List.not_mem_nil, or_false, not_or]
          exact ⟨Nat.ne_of_lt (Nat.lt_succ_self _), Nat.ne_of_gt hlS⟩
        have hval : ∀ (i : Nat) (v : Value), items[i]? = some v → ∃ x t, ks[i]? = some x ∧ v = .str x t := fun i v hv =>
          strs_of_vals hit i v (by rw [Array.getElem?_toList]; exact hv)
        refine setS_loop (P := P) ((Walks.list hh3 _ l hneI items).toS) s.heap.objs.size
          hSf ks hisz hfew hval (items.size - 0) 0 _ (by omega) (Nat.zero_le _)
          ⟨⟨_, Heap.get?_push_size _ rfl, rfl, rfl⟩, (hl1.push _)⟩ ?hS0 ?hR
        case hS0 =>
          have hget : ((s.heap.push { cls := .type "set", dict := none, data := .set #[] 0 (.fresh 0 0 (!w.params.followText "set-order")) }).push { cls := .type "list_iterator", data := .fields #[.ref l, .int 0 0] }).get? s.heap.objs.size
              = some { cls := .type "set", dict := none, data := .set #[] 0 (.fresh 0 0 (!w.params.followText "set-order")) } := Heap.get?_push_of_some _ hS
          rw [List.take_zero]
          exact setS_fresh hget
        case hR =>
          intro s' hm hS'
          obtain ⟨h', g2, d', tk', os'⟩ := s'
          have eg : g2 = s.gens := hm.gens
          have ed : d' = s.drawn := hm.drawn
          have eo : os' = s.os := hm.os
          subst eg; subst ed; subst eo
          show wpAny _ _ _ _ _ _
          refine wpAny_pure ?_
          show wpAny _ _ (ret Value.none) _ _ _
          refine wpAny_pure ⟨rfl, h', tk', rfl, hS', fun b o e => ?_⟩
          have hb : b < s.heap.objs.size := Heap.lt_size e
          have hb1 : b ≠ s.heap.objs.size := Nat.ne_of_lt hb
          have hb2 : b ≠ (s.heap.push { cls := .type "set", dict := none, data := .set #[] 0 (.fresh 0 0 (!w.params.followText "set-order")) }).objs.size := by
            rw [Heap.size_push]; exact Nat.ne_of_lt (Nat.lt_succ_of_lt hb)
          exact hm.heap b o (by simp only [List.mem_cons, List.mem_singleton, List.not_mem_nil, or_false, not_or]; exact ⟨hb1, hb2⟩) (Heap.get?_push_of_some _ (Heap.get?_push_of_some _ e))
      · cases r₂ with
        | error e => exact hr₂
        | ok fl₂ =>
          cases fl₂ with
          | ret r =>
            obtain ⟨rfl, h', tk, rfl, hS', hk'⟩ := hr₂
            repeat (any_goals (first | assumption | wp_step))
            exact h _ _ hS' hk'
          | _ => exact hr₂.elim
    | _ => exact hr.elim

theorem vals_of_each : ∀ {us : List Value} {xs : List Str}, PySem.W.EachIs (fun v (x : Str) => ∃ t, v = Value.str x t) us xs → Vals (xs.map V.str) us
  | _, _, .nil => .nil
  | _, _, .cons h t => .cons h (vals_of_each t)
theorem each_of_strs {h : Heap} : ∀ {us : List Value}, (∀ v ∈ us, ∃ x t, v = Value.str x t) → PySem.W.EachIs (fun v (x : Str) => ∃ t, v = Value.str x t) us (us.map fun v => keyS (0, v))
  | [], _ => .nil
  | v :: us, h => by
    obtain ⟨x, t, e⟩ := h v List.mem_cons_self
    refine .cons ⟨t, by rw [e]; rfl⟩ (each_of_strs (h := ‹Heap›) fun u hu => h u (List.mem_cons_of_mem _ hu))
/-- sorted(a set of texts) -/
theorem sorted_setS {a : Addr} {T : List Str} {Q : Value → Shared → Prop} (R : SetS w s.heap a T) (hh : A.handled = none) (hu : A.units + 4 < cLine)
    (hQ : ∀ s' p (out : List Value) (c : Nat) (ys : List Str), (∀ b o, s.heap.get? b = some o → s'.heap.get? b = some o) → s'.gens = s.gens → s'.os = s.os → s.heap.objs.size ≤ p →
      s'.heap.get? p = some (seqObj "list" out.toArray c) → Vals (ys.map V.str) out → ys.Nodup → (∀ x, x ∈ ys ↔ x ∈ T) → ys.Pairwise (fun x y => x.cps.toList ≤ y.cps.toList) → ys.length ≤ sizeLine → Q (.ref p) s') :
    wpAny (model P w) A (call (.builtin "sorted") [.ref a]) Q E s := by
  obtain ⟨o, es, ep, t, ho, hex, hd, g, nd, hm, hle, hb, hf, hr, hl⟩ := R
  refine Calls.call_function_entry kind_sorted plain_sorted entry_sorted (args_sorted1 _) ?_
  unfold Builtin.«sorted»
  refine wpAny_bind (m := checkCount "sorted" 1 1 _) (wpAny_pure ?_)
  refine wpAny_bind (collect_set (A := A.in1) hh ⟨o, ho, hex.1, hd⟩ hf hb hr hl fun s1 vs k1 hz g1 o1 pm => ?_)
  have hvl : vs.length = es.size := by rw [pm.length_eq, List.length_map, Array.length_toList]
  have hvz : vs.length ≤ sizeLine := by rw [hvl]; exact fits_of_scanBound hb
  have hstr : ∀ v ∈ vs, ∃ x t, v = Value.str x t := fun v hv => by
    obtain ⟨e, he, q⟩ := List.mem_map.mp (pm.mem_iff.mp hv)
    obtain ⟨x, tk, h1, _⟩ := g e he
    exact ⟨x, tk, by rw [← q]; exact h1⟩
  have each := each_of_strs (h := s.heap) hstr
  have pk : (vs.map fun v => keyS (0, v)).Perm (es.toList.map keyS) := by
    have q := pm.map fun v => keyS (0, v)
    rw [List.map_map] at q
    exact q
  refine wpAny_bind (wpAny_newList ?_ hvz)
  have hoL : (s1.heap.push (seqObj "list" vs.toArray 0)).get? s1.heap.objs.size = some (seqObj "list" vs.toArray 0) := Heap.get?_push_size _ rfl
  have kl : (vs.map fun v => keyS (0, v)).length = vs.length := List.length_map _
  refine wpAny_bind (wpAny_holding (PySem.W.list_sort_data (s := { s1 with heap := s1.heap.push (seqObj "list" vs.toArray 0) }) (enc := fun x : Str => PyData.str x) hoL each
    (each.mono fun v x ⟨t, e⟩ => ⟨[], by rw [e]; exact Reads.str x t, by simp⟩)
    (PySem.W.AllAlike.of fun b b' => rfl) (PySem.W.Sortable.others fun b => ⟨(fun q => nomatch q), fun _ q => nomatch q⟩) (by rw [kl]; exact hvz)
    (fun b _ => by
      show A.in1.units + 1 + 0 < cLine
      show A.units + 1 + 1 + 0 < cLine
      omega) fun out hlen hout => ?_))
  obtain ⟨c, hc⟩ := sortedHeap_at (vs := vs) (out := out.toArray) hoL
  have pn := List.mergeSort_perm (vs.map fun v => keyS (0, v)) (PySem.W.dataLe false fun x : Str => PyData.str x)
  refine wpAny_pure ⟨_, rfl, hQ _ s1.heap.objs.size out c _ (fun b u e => ?_) g1 o1 hz hc (vals_of_each hout) ((pn.trans pk).nodup_iff.mpr nd) (fun x => ((pn.trans pk).mem_iff).trans (hm x)) ?_ (by rw [pn.length_eq, kl]; exact hvz)⟩
  · have q := k1 b u e
    have hlt := Heap.lt_size q
    show (sortedHeap (s1.heap.push (seqObj "list" vs.toArray 0)) s1.heap.objs.size vs out.toArray).get? b = some u
    rw [sortedHeap_old (Nat.ne_of_lt hlt) (by rw [size_push']; exact Nat.lt_succ_of_lt hlt)]
    exact Heap.get?_push_of_some _ q
  · have q := List.pairwise_mergeSort (le := PySem.W.dataLe false fun x : Str => PyData.str x) (fun x y z h1 h2 => by
      rw [PySem.W.dataLe_str] at *
      simp only [decide_eq_true_eq] at *
      exact List.le_trans h1 h2) (fun x y => by
      rw [PySem.W.dataLe_str]
      simp only [Bool.or_eq_true, decide_eq_true_eq]
      exact List.le_total _ _) (vs.map fun v => keyS (0, v))
    refine q.imp fun {x y} h => ?_
    rw [PySem.W.dataLe_str] at h
    exact of_decide_eq_true h
end

/-! ### as rules -/
def SetO (w : World) (a : Addr) (T : List Str) : HO := .ext fun h => SetS w h a T
section
variable {X : Cx}
theorem setO_new {P : Program} {w : World} {H : Hp} {h : Heap} {a : Addr} {T : List Str} (R : SetS w h a T) : ObjOk P w H h a (SetO w a T) := by
  have ⟨o, _, _, _, ho, _⟩ := R
  exact ⟨R, ⟨o, ho⟩, fun h1 h2 p k => p.at k⟩
def rSetS (K : PySem.W.Frag) (w : World) : List V → Hp → VK → Prop := fun xs H Q => ∃ (l : Addr) (ks : List Str), xs = [V.ref l] ∧ H l = some (.lst (ks.map V.str)) ∧ ks.length < 1000 ∧
  ∀ p, H p = none → Q (.ref p) (upd H p (SetO w p ks))
theorem cr_setS (hc : X.calm = true) : CallR X (.type "set") (rSetS X.K X.w) := by
  intro pins s σ H xs us Q I r h
  obtain ⟨l, ks, rfl, hl, hf, q⟩ := h
  rw [Vals.ref1 r]
  obtain ⟨its, rv, pl, hz⟩ := I.list (SqL.of (K := X.K) hl)
  refine call_set_strs (P := X.prog) (w := X.w) ks (I.ok.hd hc) pl.isList (by simpa using rv) hf fun h' tk R k => ?_
  exact ⟨.ref s.heap.objs.size, upd H s.heap.objs.size (SetO X.w s.heap.objs.size ks), I.laid (t' := tk) k (Nat.le_refl _) (setO_new R), rfl, q _ (I.hok.fresh (Nat.le_refl _))⟩
/-- strictly rising -/
def Rises (ys : List Str) : Prop := ys.Pairwise fun x y => x.cps.toList < y.cps.toList
def rSortS (w : World) : List V → Hp → VK → Prop := fun xs H Q => ∃ (a : Addr) (T : List Str), xs = [V.ref a] ∧ H a = some (SetO w a T) ∧
  ∀ (p : Addr) (ys : List Str), Rises ys → (∀ x, x ∈ ys ↔ x ∈ T) → H p = none → Q (.ref p) (upd H p (.lst (ys.map V.str)))
theorem rises_of : ∀ {ys : List Str}, ys.Nodup → ys.Pairwise (fun x y => x.cps.toList ≤ y.cps.toList) → Rises ys
  | [], _, _ => List.Pairwise.nil
  | y :: ys, d, h => by
    obtain ⟨d1, d2⟩ := List.nodup_cons.mp d
    obtain ⟨h1, h2⟩ := List.pairwise_cons.mp h
    refine List.pairwise_cons.mpr ⟨fun z hz => ?_, rises_of d2 h2⟩
    have le := h1 z hz
    rcases List.le_iff_lt_or_eq.mp le with q | q
    · exact q
    · have e : y = z := str_ext (Array.toList_inj.mp q)
      exact absurd (e ▸ hz) d1
theorem cr_sortS (hu : X.A.units + 64 < cLine) (hc : X.calm = true) : CallR X (.builtin "sorted") (rSortS X.w) := by
  intro pins s σ H xs us Q I r h
  obtain ⟨a, T, rfl, ha, q⟩ := h
  rw [Vals.ref1 r]
  have R : SetS X.w s.heap a T := (I.hok a _ ha).1
  refine sorted_setS (P := X.prog) (w := X.w) R (I.ok.hd hc) (by omega) fun s' p out c ys k g o hz hp hv nd hm pw hl => ?_
  have hfree : H p = none := I.hok.fresh hz
  obtain ⟨hh, gg, dd, tt, oo⟩ := s'
  have e1 : gg = s.gens := g
  have e2 : oo = s.os := o
  subst e1; subst e2
  have new : ObjOk X.prog X.w (upd H p (.lst (ys.map V.str))) hh p (.lst (ys.map V.str)) := ⟨by rw [List.length_map]; exact hl, out, c, hv, hp⟩
  refine ⟨.ref p, upd H p (.lst (ys.map V.str)), ?_, rfl, q p ys (rises_of nd pw) hm hfree⟩
  have I1 := I.call (ch := []) (g' := s.gens) (d' := dd) (t' := tt) (H' := upd H p (.lst (ys.map V.str))) (h' := hh) (Un.laid k hz hfree) (I.hok.laid k hz new) I.bare (fun b z => absurd z (by simp))
  exact I1
end
end LK

/-! K7Rules -/
namespace LK
open PySem PySem.Spec PyProof.Rows L2 LD

theorem ne_by {prog : Program} {w : World} {A : Around} {E : Value → Shared → Prop} {s : Shared} {a b : Value} {k : Bool} {Q : Value → Shared → Prop} (h : SeqAt.RcNeAt A s a b k) (hq : Q (.bool k) s) : wpAny (model prog w) A (compareOp .NotEq a b) Q E s := h prog w E Q hq
section
variable {X : Cx}
/-- text * number -/
def rMulS : V → V → Hp → VK → Prop := fun x y H Q => ∃ z i, x = .str z ∧ y = .int i ∧ MulOk z i ∧ Q (.str (Txt.mul z i)) H
theorem op_mulS : OpR X (binaryOp .Mult) rMulS := by
  intro pins s σ H x y v u Q I rx ry h
  obtain ⟨z, i, rfl, rfl, ok, q⟩ := h
  obtain ⟨t, rfl⟩ := rx
  obtain ⟨t', rfl⟩ := ry
  exact SB.mul ok fun t2 k => ⟨.str _, H, I.tok k, ⟨t2, rfl⟩, q⟩
/-- t != (), xs != [] -/
def rNeT0 (K : PySem.W.Frag) : V → V → Hp → VK → Prop := fun x y H Q => ∃ a b xs, x = .ref a ∧ y = .ref b ∧ SqT K H a xs ∧ SqT K H b [] ∧ Q (.bl (!xs.isEmpty)) H
def rNeL0 (K : PySem.W.Frag) : V → V → Hp → VK → Prop := fun x y H Q => ∃ a b xs, x = .ref a ∧ y = .ref b ∧ SqL K H a xs ∧ SqL K H b [] ∧ Q (.bl (!xs.isEmpty)) H
theorem op_neT0 (hu : X.A.units + 64 < cLine) : OpR X (compareOp .NotEq) (rNeT0 X.K) := by
  intro pins s σ H x y v u Q I rx ry h
  obtain ⟨a, b, xs, rfl, rfl, ha, hb, q⟩ := h
  cases rx
  cases ry
  obtain ⟨its, r, ta, _⟩ := I.tuple ha
  obtain ⟨its2, r2, tb, _⟩ := I.tuple hb
  cases r2
  refine ne_by (SeqAt.RcNeAt.tuples (e := fun _ => true) ta tb (by omega) (fun j _ h2 => absurd h2 (by simp))) ⟨.bl (!xs.isEmpty), H, I, ?_, q⟩
  have hl := r.length
  cases its with
  | nil =>
    have : xs = [] := List.eq_nil_of_length_eq_zero hl
    subst this
    rfl
  | cons v its =>
    cases xs with
    | nil => simp at hl
    | cons x xs => simp [L2.RelV]
theorem op_neL0 (hu : X.A.units + 64 < cLine) : OpR X (compareOp .NotEq) (rNeL0 X.K) := by
  intro pins s σ H x y v u Q I rx ry h
  obtain ⟨a, b, xs, rfl, rfl, ha, hb, q⟩ := h
  cases rx
  cases ry
  obtain ⟨its, r, ta, _⟩ := I.list ha
  obtain ⟨its2, r2, tb, _⟩ := I.list hb
  cases r2
  have hl := r.length
  cases its with
  | nil =>
    have : xs = [] := List.eq_nil_of_length_eq_zero hl
    subst this
    exact ne_by (SeqAt.RcNeAt.lists (e := fun _ => true) ta.isList tb.isList rfl (by omega) (fun j _ h2 => absurd h2 (by simp))) ⟨.bl false, H, I, rfl, q⟩
  | cons v its =>
    cases xs with
    | nil => simp at hl
    | cons x xs => exact ne_by (SeqAt.RcNeAt.lists_lengths ta.isList tb.isList (by simp) (by omega)) ⟨.bl true, H, I, rfl, q⟩
/-- a found walk: its ways, its text, how many broken -/
abbrev Fd := List Nat × Str × Nat
def encF (f : Fd) : PyData := .tuple [.tuple (f.1.map fun k => .int (k : Nat)), .str f.2.1, .int (f.2.2 : Nat)]
def FdAt (H : Hp) (f : Fd) (v : V) : Prop := ∃ a b, v = .ref a ∧ H a = some (.tup [.ref b, .str f.2.1, .int (f.2.2 : Nat)]) ∧ H b = some (.tup (f.1.map fun k => V.int (k : Nat)))
def FdsAt (H : Hp) : List Fd → List V → Prop
  | [], xs => xs = []
  | f :: fs, xs => ∃ x ys, xs = x :: ys ∧ FdAt H f x ∧ FdsAt H fs ys
theorem FdAt.mono {H H' : Hp} (k : Tk H H') {f : Fd} {v : V} : FdAt H f v → FdAt H' f v
  | ⟨a, b, e, h, g⟩ => ⟨a, b, e, k _ _ h, k _ _ g⟩
theorem FdsAt.mono {H H' : Hp} (k : Tk H H') : ∀ {fs : List Fd} {xs : List V}, FdsAt H fs xs → FdsAt H' fs xs
  | [], xs, e => e
  | f :: fs, xs, ⟨x, ys, e, g, q⟩ => ⟨x, ys, e, g.mono k, FdsAt.mono k q⟩
theorem FdsAt.len {H : Hp} : ∀ {fs : List Fd} {xs : List V}, FdsAt H fs xs → xs.length = fs.length
  | [], xs, e => by rw [show xs = [] from e]; rfl
  | f :: fs, xs, ⟨x, ys, e, g, q⟩ => by rw [e, List.length_cons, List.length_cons, FdsAt.len q]
theorem FdsAt.snoc {H : Hp} : ∀ {fs : List Fd} {xs : List V} {f : Fd} {x : V}, FdsAt H fs xs → FdAt H f x → FdsAt H (fs ++ [f]) (xs ++ [x])
  | [], xs, f, x, e, h => by rw [show xs = [] from e]; exact ⟨x, [], rfl, h, rfl⟩
  | c :: fs, xs, f, x, ⟨y, ys, e, g, q⟩, h => by
    rw [e]
    exact ⟨y, ys ++ [x], rfl, g, FdsAt.snoc q h⟩
theorem FdsAt.get {H : Hp} : ∀ {fs : List Fd} {xs : List V} {i : Nat} {x : V}, FdsAt H fs xs → xs[i]? = some x → ∃ f, fs[i]? = some f ∧ FdAt H f x
  | [], xs, i, x, e, h => by rw [show xs = [] from e] at h; cases h
  | f :: fs, xs, 0, x, ⟨y, ys, e, g, q⟩, h => by
    rw [e] at h
    cases h
    exact ⟨f, rfl, g⟩
  | f :: fs, xs, i + 1, x, ⟨y, ys, e, g, q⟩, h => by
    rw [e] at h
    exact FdsAt.get (i := i) q (by simpa using h)
theorem dp_ints {K : PySem.W.Frag} {H : Hp} : ∀ ks : List Nat, DpAll K H (ks.map fun k => V.int (k : Nat)) (ks.map fun k => PyData.int (k : Nat))
  | [] => .nil
  | k :: ks => .cons (.int _) (dp_ints ks)
theorem FdAt.dp {K : PySem.W.Frag} {H : Hp} {f : Fd} {v : V} : FdAt H f v → Dp K H v (encF f)
  | ⟨a, b, e, h, g⟩ => by
    rw [e]
    exact .tup (SqT.of h) (.cons (.tup (SqT.of g) (dp_ints _)) (.cons (.str _) (.cons (.int _) .nil)))
theorem each_fds {H : Hp} : ∀ {fs : List Fd} {xs : List V} {us : List Value}, FdsAt H fs xs → Vals xs us → PySem.W.EachIs (fun v f => ∃ x, RelV x v ∧ FdAt H f x) us fs
  | [], xs, us, e, r => by
    rw [show xs = [] from e] at r
    cases r
    exact .nil
  | f :: fs, xs, us, ⟨x, ys, e, g, q⟩, r => by
    rw [e] at r
    cases r with
    | cons r1 r2 => exact .cons ⟨x, r1, g⟩ (each_fds q r2)
theorem fds_each {H : Hp} : ∀ {fs : List Fd} {us : List Value}, PySem.W.EachIs (fun v f => ∃ x, RelV x v ∧ FdAt H f x) us fs → ∃ xs, Vals xs us ∧ FdsAt H fs xs
  | [], _, .nil => ⟨[], .nil, rfl⟩
  | f :: fs, _, .cons ⟨x, r, g⟩ t => by
    obtain ⟨xs, a, b⟩ := fds_each t
    exact ⟨x :: xs, .cons r a, x, xs, rfl, g, b⟩
def rSortF : List V → Hp → VK → Prop := fun vs H Q => ∃ (a : Addr) (fs : List Fd) (xs : List V), vs = [V.ref a] ∧ H a = some (.lst xs) ∧ FdsAt H fs xs ∧
  ∀ (gs : List Fd) (ys : List V) (p : Addr), gs.Perm fs → FdsAt H gs ys → H p = none → Q (.ref p) (upd H p (.lst ys))
theorem depth_ks : ∀ ks : List Nat, PyData.depthAll (ks.map fun k => PyData.int (k : Nat)) = 0
  | [] => by simp [PyData.depthAll]
  | k :: ks => by
    rw [List.map_cons, PyData.depthAll, depth_ks ks]
    simp [PyData.depth]
theorem depth_encF (f : Fd) : (encF f).depth ≤ 2 := by
  unfold encF
  simp only [PyData.depth, PyData.depthAll, depth_ks]
  omega
theorem alike_ks : ∀ xs ys : List Nat, PySem.W.alikeAll (xs.map fun k => PyData.int (k : Nat)) (ys.map fun k => PyData.int (k : Nat)) = true
  | [], _ => by simp [PySem.W.alikeAll]
  | _ :: _, [] => by simp [PySem.W.alikeAll]
  | x :: xs, y :: ys => by
    rw [List.map_cons, List.map_cons, PySem.W.alikeAll, alike_ks xs ys]
    simp [PySem.W.alike]
theorem cr_sortF (hu : X.A.units + 64 < cLine) : CallR X (.builtin "sorted") rSortF := by
  intro pins s σ H vs us Q I r h
  obtain ⟨a, fs, xs, rfl, ha, hf, q⟩ := h
  rw [Vals.ref1 r]
  obtain ⟨its, rv, pl, hz⟩ := I.list (SqL.of (K := X.K) ha)
  have e := each_fds hf rv
  have hlen : fs.length = xs.length := hf.len.symm
  refine PySem.W.sorted_data (enc := encF) pl.isList e (e.mono fun v f ⟨x, r, g⟩ => Dp.reads I (encF f) x v (g.dp (K := X.K)) r)
    (PySem.W.AllAlike.of fun b b' => by simp [encF, PySem.W.alike, PySem.W.alikeAll, alike_ks]) (PySem.W.Sortable.tuples fun b => ⟨_, _, rfl⟩) (by rw [hlen]; exact hz)
    (fun b _ => by have := depth_encF b; omega) fun out ho eo => ?_
  obtain ⟨c, hc⟩ := sortedAll_at s.heap its out.toArray
  obtain ⟨ys, ry, fy⟩ := fds_each eo
  have hp := List.mergeSort_perm fs (PySem.W.dataLe false encF)
  have hfree : H (s.heap.objs.size + 1) = none := I.hok.fresh (Nat.le_succ _)
  have hys : ys.length ≤ sizeLine := by
    rw [ry.length, ho, hlen]
    exact hz
  refine ⟨.ref (s.heap.objs.size + 1), upd H (s.heap.objs.size + 1) (.lst ys), I.laid (t' := s.toks) (fun _ _ => sortedAll_old) (Nat.le_succ _) ⟨hys, out, c, ry, hc⟩, rfl, q _ ys _ hp fy hfree⟩
end
end LK

/-! K8Put -/
namespace LK
open PySem L2 LD
variable {P : Program} {w : World} {K : PySem.W.Frag} {mg : Str → Option Value} {base : Heap}

def spUnw : Sp := fun vs H Q _ => ∃ (c : Col) (s : Str), vs = [colV c, .str s] ∧ s.length ≤ sizeLine ∧ Q (.bl (unw c s)) H
theorem scUnw : FnScope ["column", "string"] ["column", "string"] (defScope sUnw) := ⟨rfl, rfl, rfl, by decide +kernel, rfl, by decide +kernel, by decide +kernel⟩
theorem ok_unw {f : Addr} {fd : FuncData} (F : Fun K "is_unwritten" "is_unwritten" sUnw f fd) : FnOk P w K mg base CX0 1 f fd ["column", "string"] spUnw := by
  refine F.ok scUnw (fun vs H Q E h => ?_) (fun cdv A outer s H vs Q E hr h => ?_)
  · obtain ⟨c, x, rfl, _⟩ := h
    rfl
  obtain ⟨c, x, rfl, hx, q⟩ := h
  refine ⟨_, pss_one (ps_ret (pe_or (pe_cmpR op_eq (pv 1) pe_str (nomark _)) (pe_one (pe_and (pe_cmpR op_isN (pv 0) pe_non (nomark _))
    (pe_one (pe_cmpR op_eq (pe_bm PySem.F.plainAttrs_str PySem.F.slot_str_strip PySem.F.type_str_strip mt_stripChars (pv 1) (pa_cons pe_str pa_nil)) pe_str (nomark _))))))), ?_⟩
  refine ⟨_, rfl, rfl, _, rfl, ?_⟩
  refine ite2 (fun c1 => ?_) (fun c1 => ?_)
  · have e : x = Str.empty := by
      have := of_decide_eq_true c1
      injection this
    have u : unw c x = true := by
      unfold unw
      rw [decide_eq_true e]
      rfl
    rw [u] at q
    exact q
  · have e : x ≠ Str.empty := fun e => c1 (decide_eq_true (by rw [e]; rfl))
    have u : unw c x = (c.isNone && blk x) := by
      unfold unw
      rw [decide_eq_false e]
      rfl
    rw [u] at q
    refine ⟨_, rfl, rfl, _, rfl, ?_⟩
    cases c with
    | some k => exact iteF q
    | none =>
      refine iteT ⟨_, rfl, rfl, _, _, rfl, rfl, hx, rfl, ?_⟩
      have b : decide (V.str (Txt.stripChars x cBlank) = V.str Str.empty) = blk x := by
        unfold blk
        by_cases h : Txt.stripChars x cBlank = Str.empty
        · rw [decide_eq_true h, decide_eq_true (by rw [h])]
        · rw [decide_eq_false h, decide_eq_false fun z => h (by injection z)]
      show Q (.bl (decide (V.str (Txt.stripChars x cBlank) = V.str Str.empty))) H
      rw [b]
      exact q
theorem mulOk_blank {n : Nat} (h : n ≤ 8000000) : MulOk cBlank (n : Int) := by
  have l : cBlank.length = 1 := by decide
  refine ⟨?_, fun h1 _ => ?_, fun h1 _ => ?_⟩
  · rw [decide_eq_false (by omega), decide_eq_false (by omega)]
    rfl
  · rw [l]
    have : 1 ≤ (2 ^ 63 - 1) / (n : Int) := by
      rw [Int.le_ediv_iff_mul_le (by omega)]
      omega
    omega
  · rw [l]
    have := line_eq
    show decide _ = false
    exact decide_eq_false (by omega)
theorem put_eq (c : Col) (i : Nat) (x : Str) : put c i x = if unw c x then (Str.empty, c) else match c with
    | none => (spc i ++ x, some (i + x.length))
    | some k => (x, some (k + x.length)) := rfl
def spPut : Sp := fun vs H Q _ => ∃ (c : Col) (i : Nat) (s : Str), vs = [colV c, .int i, .str s] ∧ i ≤ 8000000 ∧ s.length ≤ 8000000 ∧
  ∀ p H', Same H H' → H' p = some (.tup [.str (put c i s).1, colV (put c i s).2]) → Q (.ref p) H'
theorem scPut : FnScope ["column", "indent", "string"] ["column", "indent", "string"] (defScope sPut) := ⟨rfl, rfl, rfl, by decide +kernel, rfl, by decide +kernel, by decide +kernel⟩
theorem ok_put {f g : Addr} {fd gd : FuncData} (F : Fun K "put" "put" sPut f fd) (G : FnOk P w K mg base CX0 1 g gd ["column", "string"] spUnw) (b : Binds K gd ["column", "string"] []) (kp : PySem.W.keepIn K (.ref g) = true) (mG : mg "is_unwritten" = some (.ref g)) (T : Tp mg) :
    FnOk P w K mg base CX0 2 f fd ["column", "indent", "string"] spPut := by
  refine F.ok scPut (fun vs H Q E h => ?_) (fun cdv A outer s H vs Q E hr h => ?_)
  · obtain ⟨c, i, x, rfl, _⟩ := h
    rfl
  obtain ⟨c, i, x, rfl, hi, hx, q⟩ := h
  have hxl : x.length ≤ sizeLine := by rw [line_eq]; omega
  refine ⟨_, pss_cons (ps_if (pt_val (pe_call G hr rfl mG kp b .nil pass0 (pa_cons (pv 0) (pa_cons (pv 2) pa_nil)))) (pss_one (ps_ret (pe_tup (pa_cons pe_str (pa_cons (pv 0) pa_nil))))) pss_nil)
    (pss_cons (ps_if (pt_cmpR op_isN (pv 0) pe_non (nomark _)) (pss_one (ps_ret (pe_tup (pa_cons (pe_op op_add_str (pe_op op_mulS pe_str (pv 1)) (pv 2)) (pa_cons (pe_op op_add (pv 1) (pe_callB call_len_str (by rfl) T.len PySem.boot_len (pa_cons (pv 2) pa_nil))) pa_nil))))) pss_nil)
    (pss_one (ps_ret (pe_tup (pa_cons (pv 2) (pa_cons (pe_op op_add (pv 0) (pe_callB call_len_str (by rfl) T.len PySem.boot_len (pa_cons (pv 2) pa_nil))) pa_nil)))))), ?_⟩
  refine ⟨_, rfl, _, rfl, c, x, rfl, hxl, _, rfl, ?_⟩
  have pu := put_eq c i x
  cases hu : unw c x with
  | true =>
    rw [pu, hu] at q
    exact iteT ⟨_, rfl, big2, newly fun p H1 s1 e1 _ => q p H1 s1 e1⟩
  | false =>
    rw [pu, hu] at q
    refine iteF ⟨_, rfl, rfl, _, rfl, ?_⟩
    cases c with
    | none =>
      refine iteT ⟨_, rfl, _, _, rfl, rfl, mulOk_blank hi, _, rfl, _, _, rfl, rfl, ?_, _, rfl, _, rfl, _, rfl, hxl, _, _, rfl, rfl, big2, newly fun p H1 s1 e1 _ => q p H1 s1 e1⟩
      have := spc_len i
      show (spc i).length + x.length ≤ sizeLine
      rw [line_eq]
      omega
    | some k =>
      exact iteF ⟨_, rfl, _, rfl, _, rfl, _, rfl, hxl, _, _, rfl, rfl, big2, newly fun p H1 s1 e1 _ => q p H1 s1 e1⟩
end LK

/-! K9Left -/
namespace LK
open PySem L2 LD
variable {P : Program} {w : World} {K : PySem.W.Frag} {mg : Str → Option Value} {base : Heap}

theorem col_none (c : Col) : decide (colV c = V.non) = c.isNone := by cases c <;> rfl
def spEnded : Sp := fun vs H Q _ => ∃ (c : Col) (r : Rest) (v : V), vs = [colV c, v] ∧ RAt H r v ∧ ∀ p H', Same H H' → StAt H' (ended c r) (.ref p) → Q (.ref p) H'
theorem scEnded : FnScope ["column", "rest"] ["column", "rest"] (defScope sEnded) := ⟨rfl, rfl, rfl, by decide +kernel, rfl, by decide +kernel, by decide +kernel⟩
theorem ok_ended {f : Addr} {fd : FuncData} (F : Fun K "ended" "ended" sEnded f fd) : FnOk P w K mg base CX0 1 f fd ["column", "rest"] spEnded := by
  refine F.ok scEnded (fun vs H Q E h => ?_) (fun cdv A outer s H vs Q E hr h => ?_)
  · obtain ⟨c, r, v, rfl, _⟩ := h
    rfl
  obtain ⟨c, r, v, rfl, hv, q⟩ := h
  refine ⟨_, pss_one (ps_ret (pe_tup (pa_cons (pe_ifExp (pt_cmpR op_notN (pv 0) pe_non (nomark _)) pe_str pe_str) (pa_cons pe_non (pa_cons (pv 1) (pa_cons pe_bl pa_nil)))))), ?_⟩
  refine ⟨_, rfl, rfl, _, rfl, ?_⟩
  cases c with
  | none => exact iteF ⟨_, rfl, big4, newly fun p H1 s1 e1 _ => q p H1 s1 ⟨p, v, rfl, e1, hv.mono (.of s1)⟩⟩
  | some k => exact iteT ⟨_, rfl, big4, newly fun p H1 s1 e1 _ => q p H1 s1 ⟨p, v, rfl, e1, hv.mono (.of s1)⟩⟩

def spLeft : Sp := fun vs H Q _ => ∃ (c : Col) (i : Nat) (ds : List Doc) (r : Rest) (b : Addr) (xs : List V) (v : V), vs = [colV c, .int i, .ref b, v] ∧ H b = some (.tup xs) ∧ DsAt H ds xs ∧ RAt H r v ∧ ds.length + r.length ≤ 1000000 ∧
  ∀ p H', Same H H' → StAt H' (left c i ds r) (.ref p) → Q (.ref p) H'
abbrev nLeft : List Str := ["column", "indent", "documents", "rest", "one"]
theorem scLeft : FnScope nLeft ["column", "indent", "documents", "rest"] (defScope sLeft) := ⟨rfl, rfl, rfl, by decide +kernel, rfl, by decide +kernel, by decide +kernel⟩
theorem ok_left {f : Addr} {fd : FuncData} (F : Fun K "left" "left" sLeft f fd) : FnOk P w K mg base CX0 1 f fd ["column", "indent", "documents", "rest"] spLeft := by
  refine F.ok scLeft (fun vs H Q E h => ?_) (fun cdv A outer s H vs Q E hr h => ?_)
  · obtain ⟨c, i, ds, r, b, xs, v, rfl, _⟩ := h
    rfl
  obtain ⟨c, i, ds, r, b, xs, v, rfl, hb, hds, hv, hl, q⟩ := h
  refine ⟨_, pss_one (ps_ret (pe_tup (pa_cons pe_str (pa_cons (pv 0) (pa_cons (pe_tup
    (StX.pa_star (pe_lc (own := [("one", 4)]) (g := gName 4) (tt := tYes) rfl scLeft.nd (pi_tup (pv 2)) (blkOk_by (N := nLeft) (own := [("one", 4)]) (sc := defScope sLeft) (by decide +kernel)) (fun _ _ _ _ _ => pg_name (i := 4) scLeft.nd rfl (Or.inl rfl)) (fun _ _ _ _ _ => pts_nil)
      (fun _ _ _ _ _ => pe_tup (pa_cons (pv 1) (pa_cons (pv 4) pa_nil))))
    (StX.pa_star (pv 3) pa_nil))) (pa_cons pe_bl pa_nil)))))), ?_⟩
  have hxl : xs.length = ds.length := hds.len
  refine ⟨_, rfl, _, rfl, b, rfl, ⟨_, SqT.of hb⟩, fun D hD => ?_⟩
  refine lc_tup (K := K) (a := b) (xs := xs) (fun j H' => Same H H' ∧ ∃ acc, H' D = some (.lst acc) ∧ ItsAt H' ((ds.take j).map fun d => (i, d)) acc) ⟨same_new hD _, [], upd_same, rfl⟩ (fun j H' _ z => SqT.of (z.1 _ _ hb)) ?_ ?_
  · rintro j x H1 hx ⟨s1, acc, hacc, hits⟩
    obtain ⟨d, hd, gd⟩ := hds.get hx
    have hj : j < xs.length := (List.getElem?_eq_some_iff.mp hx).1
    refine ⟨rfl, _, rfl, _, rfl, big2, fun p n2 => ?_⟩
    generalize hu : upd H1 p _ = H2
    obtain ⟨s2, e2⟩ := new_of n2 hu
    have hD2 : H2 D = some (.lst acc) := s2 _ _ hacc
    refine ⟨acc, hD2, ?_, same_upd (s1.trans s2) hD, acc ++ [.ref p], upd_same, ?_⟩
    · rw [hits.len, List.length_map, List.length_take, line_eq]
      omega
    · have e : ds.take (j + 1) = ds.take j ++ [d] := by rw [List.take_add_one, hd]; rfl
      rw [e, List.map_append]
      exact ((hits.mono (.of s2)).snoc (it := (i, d)) ⟨p, x, rfl, e2, gd.mono (.of (s1.trans s2))⟩).mono (tk_upd hD2)
  · rintro H1 ⟨s1, acc, hacc, hits⟩
    rw [hxl, List.take_length] at hits
    have hv1 := hv.mono (.of s1)
    obtain ⟨a, ys, rfl, ha, hys⟩ := hv1
    have l1 := hits.len
    have l2 := hys.len
    rw [List.length_map] at l1
    refine ⟨D, acc, rfl, .inr (SqL.of hacc), _, rfl, a, ys, rfl, .inl (SqT.of ha), ?_, newly fun p H2 s2 e2 _ => ⟨big4, newly fun t H3 s3 e3 _ => q t H3 (s1.trans (s2.trans s3)) ⟨t, .ref p, rfl, e3, p, _, rfl, s3 _ _ e2, ?_⟩⟩⟩
    · rw [List.append_nil, List.length_append, line_eq]
      omega
    · rw [List.append_nil]
      exact (hits.app hys).mono (.of (s2.trans s3))
end LK

/-! K10In -/
namespace LK
open PySem L2 LD

theorem iteN {b : Bool} {A B : Prop} (e : b = false) (h : B) : if b = true then A else B := by
  rw [e, if_neg Bool.false_ne_true]
  exact h
theorem iteY {b : Bool} {A B : Prop} (e : b = true) (h : A) : if b = true then A else B := by
  rw [e, if_pos rfl]
  exact h
section
variable {X : Cx} {a : Expr} {ta : TE}
theorem beq_dec (k y : Str) : (y == k) = decide (k = y) := by
  by_cases h : k = y
  · rw [decide_eq_true h, h, beq_self_eq_true]
  · rw [decide_eq_false h]
    exact beq_eq_false_iff_ne.mpr (Ne.symm h)
theorem inV_two (k y z : Str) : inV (.str k) [.str y, .str z] = (decide (k = y) || decide (k = z)) := by
  show (y == k || (z == k || false)) = _
  rw [Bool.or_false, beq_dec, beq_dec]
theorem inV_three (k y z u : Str) : inV (.str k) [.str y, .str z, .str u] = (decide (k = y) || decide (k = z) || decide (k = u)) := by
  show (y == k || (z == k || (u == k || false))) = _
  rw [Bool.or_false, beq_dec, beq_dec, beq_dec, Bool.or_assoc]
/-- word in ('x', 'y') -/
def tIn2 (ta : TE) (y z : Str) : TE := fun σ H Q => ta σ H fun x H1 => ∃ k, x = .str k ∧ ∀ H2, Same H1 H2 → Q (.bl (decide (k = y) || decide (k = z))) H2
def tIn3 (ta : TE) (y z u : Str) : TE := fun σ H Q => ta σ H fun x H1 => ∃ k, x = .str k ∧ ∀ H2, Same H1 H2 → Q (.bl (decide (k = y) || decide (k = z) || decide (k = u))) H2
theorem pc_in2 {y z : Str} {k1 k2 k3 p1 p2 p3} (ha : PE X a ta) :
    PC X .In a (.Tuple [.Constant (.str y) k1 p1, .Constant (.str z) k2 p2] k3 p3) (tIn2 ta y z) := by
  refine ⟨fun pins s σ H Q I h => ?_⟩
  have hb : PE X (.Tuple [.Constant (.str y) k1 p1, .Constant (.str z) k2 p2] k3 p3) _ := pe_tup (pa_cons pe_str (pa_cons pe_str pa_nil))
  refine thn (ha.run pins s σ H _ I h) fun v s1 ⟨x, H1, I1, r1, k, e, q⟩ => ?_
  refine thn (hb.run pins s1 σ H1 (fun t H2 => Same H1 H2 ∧ ∃ p, t = .ref p ∧ H2 p = some (.tup [.str y, .str z])) I1 ⟨big2, fun p hp => ⟨same_new hp _, p, rfl, upd_same⟩⟩) fun u s2 ⟨t, H2, I2, r2, s12, p, et, ep⟩ => ?_
  subst e
  subst et
  exact op_in_seq pins s2 σ H2 _ _ v u Q I2 r1 r2 ⟨p, _, rfl, .inr (SqT.of ep), rfl, rfl, by
    show Q (.bl (inV (.str k) [.str y, .str z])) H2
    rw [inV_two]
    exact q H2 s12⟩
theorem pc_in3 {y z u : Str} {k1 k2 k4 k3 p1 p2 p4 p3} (ha : PE X a ta) :
    PC X .In a (.Tuple [.Constant (.str y) k1 p1, .Constant (.str z) k2 p2, .Constant (.str u) k4 p4] k3 p3) (tIn3 ta y z u) := by
  refine ⟨fun pins s σ H Q I h => ?_⟩
  have hb : PE X (.Tuple [.Constant (.str y) k1 p1, .Constant (.str z) k2 p2, .Constant (.str u) k4 p4] k3 p3) _ := pe_tup (pa_cons pe_str (pa_cons pe_str (pa_cons pe_str pa_nil)))
  refine thn (ha.run pins s σ H _ I h) fun v s1 ⟨x, H1, I1, r1, k, e, q⟩ => ?_
  refine thn (hb.run pins s1 σ H1 (fun t H2 => Same H1 H2 ∧ ∃ p, t = .ref p ∧ H2 p = some (.tup [.str y, .str z, .str u])) I1 ⟨big3, fun p hp => ⟨same_new hp _, p, rfl, upd_same⟩⟩) fun w s2 ⟨t, H2, I2, r2, s12, p, et, ep⟩ => ?_
  subst e
  subst et
  exact op_in_seq pins s2 σ H2 _ _ v w Q I2 r1 r2 ⟨p, _, rfl, .inr (SqT.of ep), rfl, rfl, by
    show Q (.bl (inV (.str k) [.str y, .str z, .str u])) H2
    rw [inV_three]
    exact q H2 s12⟩
/-- word == 'x' -/
def tIs (ta : TE) (y : Str) : TE := fun σ H Q => ta σ H fun x H1 => ∃ k, x = .str k ∧ Q (.bl (decide (k = y))) H1
theorem pc_is {y : Str} {k1 p1} (ha : PE X a ta) : PC X .Eq a (.Constant (.str y) k1 p1) (tIs ta y) := by
  refine ⟨fun pins s σ H Q I h => ?_⟩
  have hb : PE X (.Constant (.str y) k1 p1) _ := pe_str
  refine thn (ha.run pins s σ H _ I h) fun v s1 ⟨x, H1, I1, r1, k, e, q⟩ => ?_
  refine thn (hb.run pins s1 σ H1 (fun t H2 => t = .str y ∧ H2 = H1) I1 ⟨rfl, rfl⟩) fun u s2 ⟨t, H2, I2, r2, et, eh⟩ => ?_
  subst e
  subst et
  subst eh
  refine op_eq pins s2 σ H2 _ _ v u Q I2 r1 r2 ⟨rfl, ?_⟩
  have : decide (V.str k = V.str y) = decide (k = y) := by
    by_cases h : k = y
    · rw [decide_eq_true h, decide_eq_true (by rw [h])]
    · rw [decide_eq_false h, decide_eq_false fun z => h (by injection z)]
  rw [this]
  exact q
end
/-- a slice of a tuple from a place on -/
theorem cut_from (xs : List V) (i : Nat) : cutV xs (some (i : Int)) none = xs.drop i := by
  unfold cutV
  show (xs.drop (HT.sIx xs.length 0 (some (i : Int)))).take (xs.length - HT.sIx xs.length 0 (some (i : Int))) = _
  have e : xs.drop (HT.sIx xs.length 0 (some (i : Int))) = xs.drop i := by
    rw [HT.sIx_nat]
    by_cases h : i ≤ xs.length
    · rw [Nat.min_eq_left h]
    · rw [Nat.min_eq_right (by omega), List.drop_of_length_le (Nat.le_refl _), List.drop_of_length_le (by omega)]
  rw [e]
  refine List.take_of_length_le ?_
  rw [← e, List.length_drop]
  exact Nat.le_refl _

/-! ### the words ahead of documents -/
inductive Kd where
  | text | line | hard | blank | gap | nest | align | group | choice | fill | row | raw
  deriving DecidableEq
def kd : Doc → Kd
  | .text _ => .text
  | .line _ => .line
  | .hard => .hard
  | .blank => .blank
  | .gap => .gap
  | .nest _ _ => .nest
  | .align _ => .align
  | .group _ => .group
  | .choice _ _ => .choice
  | .fill _ => .fill
  | .row _ => .row
  | .raw _ => .raw
def kn : Kd → Str
  | .text => "text"
  | .line => "line"
  | .hard => "hard"
  | .blank => "blank"
  | .gap => "gap"
  | .nest => "nest"
  | .align => "align"
  | .group => "group"
  | .choice => "choice"
  | .fill => "fill"
  | .row => "row"
  | .raw => "raw"
theorem kn_dec : ∀ k j : Kd, decide (kn k = kn j) = decide (k = j) := by
  intro k j
  cases k <;> cases j <;> decide +kernel
theorem is_yes {k : Kd} (j : Kd) (h : decide (kn k = kn j) = true) : k = j := of_decide_eq_true ((kn_dec k j).symm.trans h)
theorem is_no {k : Kd} (j : Kd) (h : ¬ decide (kn k = kn j) = true) : k ≠ j := fun e => h (by rw [e]; exact decide_eq_true rfl)
theorem in2_yes {k : Kd} (i j : Kd) (h : (decide (kn k = kn i) || decide (kn k = kn j)) = true) : k = i ∨ k = j := by
  rw [Bool.or_eq_true] at h
  exact h.imp (is_yes i) (is_yes j)
theorem in2_no {k : Kd} (i j : Kd) (h : ¬ (decide (kn k = kn i) || decide (kn k = kn j)) = true) : k ≠ i ∧ k ≠ j := by
  rw [Bool.or_eq_true] at h
  exact ⟨is_no i fun z => h (.inl z), is_no j fun z => h (.inr z)⟩
theorem in3_yes {k : Kd} (i j l : Kd) (h : (decide (kn k = kn i) || decide (kn k = kn j) || decide (kn k = kn l)) = true) : k = i ∨ k = j ∨ k = l := by
  rw [Bool.or_eq_true, Bool.or_eq_true] at h
  rcases h with (h | h) | h
  · exact .inl (is_yes i h)
  · exact .inr (.inl (is_yes j h))
  · exact .inr (.inr (is_yes l h))
theorem in3_no {k : Kd} (i j l : Kd) (h : ¬ (decide (kn k = kn i) || decide (kn k = kn j) || decide (kn k = kn l)) = true) : k ≠ i ∧ k ≠ j ∧ k ≠ l := by
  rw [Bool.or_eq_true, Bool.or_eq_true] at h
  exact ⟨is_no i fun z => h (.inl (.inl z)), is_no j fun z => h (.inl (.inr z)), is_no l fun z => h (.inr z)⟩
theorem DAt.head {H : Hp} {d : Doc} {v : V} (h : DAt H d v) : ∃ a ys, v = .ref a ∧ H a = some (.tup (.str (kn (kd d)) :: ys)) := by
  cases d with
  | text s => obtain ⟨a, e, h⟩ := h; exact ⟨a, _, e, h⟩
  | line s => obtain ⟨a, e, h⟩ := h; exact ⟨a, _, e, h⟩
  | hard => obtain ⟨a, e, h⟩ := h; exact ⟨a, _, e, h⟩
  | blank => obtain ⟨a, e, h⟩ := h; exact ⟨a, _, e, h⟩
  | gap => obtain ⟨a, e, h⟩ := h; exact ⟨a, _, e, h⟩
  | nest n d => obtain ⟨a, x, e, h, _⟩ := h; exact ⟨a, _, e, h⟩
  | align d => obtain ⟨a, x, e, h, _⟩ := h; exact ⟨a, _, e, h⟩
  | group d => obtain ⟨a, x, e, h, _⟩ := h; exact ⟨a, _, e, h⟩
  | choice c d => obtain ⟨a, x, y, e, h, _⟩ := h; exact ⟨a, _, e, h⟩
  | fill ds => obtain ⟨a, b, x, e, h, _⟩ := h; exact ⟨a, _, e, h⟩
  | row ds => obtain ⟨a, b, x, e, h, _⟩ := h; exact ⟨a, _, e, h⟩
  | raw ss => obtain ⟨a, b, e, h, _⟩ := h; exact ⟨a, _, e, h⟩
theorem kd_text {d : Doc} (h : kd d = .text) : ∃ s, d = .text s := by cases d <;> first | exact ⟨_, rfl⟩ | cases h
theorem kd_line {d : Doc} (h : kd d = .line) : ∃ s, d = .line s := by cases d <;> first | exact ⟨_, rfl⟩ | cases h
theorem kd_hard {d : Doc} (h : kd d = .hard) : d = .hard := by cases d <;> first | rfl | cases h
theorem kd_blank {d : Doc} (h : kd d = .blank) : d = .blank := by cases d <;> first | rfl | cases h
theorem kd_gap {d : Doc} (h : kd d = .gap) : d = .gap := by cases d <;> first | rfl | cases h
theorem kd_nest {d : Doc} (h : kd d = .nest) : ∃ n e, d = .nest n e := by cases d <;> first | exact ⟨_, _, rfl⟩ | cases h
theorem kd_align {d : Doc} (h : kd d = .align) : ∃ e, d = .align e := by cases d <;> first | exact ⟨_, rfl⟩ | cases h
theorem kd_group {d : Doc} (h : kd d = .group) : ∃ e, d = .group e := by cases d <;> first | exact ⟨_, rfl⟩ | cases h
theorem kd_choice {d : Doc} (h : kd d = .choice) : ∃ e e', d = .choice e e' := by cases d <;> first | exact ⟨_, _, rfl⟩ | cases h
theorem kd_fill {d : Doc} (h : kd d = .fill) : ∃ ds, d = .fill ds := by cases d <;> first | exact ⟨_, rfl⟩ | cases h
theorem kd_row {d : Doc} (h : kd d = .row) : ∃ ds, d = .row ds := by cases d <;> first | exact ⟨_, rfl⟩ | cases h
theorem kd_raw {d : Doc} (h : kd d = .raw) : ∃ ss, d = .raw ss := by cases d <;> first | exact ⟨_, rfl⟩ | cases h
theorem up_inj {H : Hp} {a : Addr} {xs ys : List V} (h : H a = some (.tup xs)) (h' : H a = some (.tup ys)) : xs = ys := by
  rw [h] at h'
  cases h'
  rfl
end LK

/-! K11Flat -/
namespace LK
open PySem L2 LD
variable {P : Program} {w : World} {K : PySem.W.Frag} {mg : Str → Option Value} {base : Heap}

theorem cut1 (x : V) (xs : List V) : cutV (x :: xs) (some 1) none = xs := cut_from (x :: xs) 1
theorem cut2 (x y : V) (xs : List V) : cutV (x :: y :: xs) (some 2) none = xs := cut_from (x :: y :: xs) 2
theorem not_all {xs : List V} {i : Nat} (h : 1 ≤ i) (hx : 1 ≤ xs.length) {A : Prop} : ¬ (HT.sIx xs.length 0 (some (i : Int)) = 0 ∧ A) := fun z => by
  have := z.1
  rw [HT.sIx_nat] at this
  omega
def spInner : Sp := fun vs H Q _ => ∃ (d : Doc) (v : V), vs = [v] ∧ DAt H d v ∧ ∀ b xs H', Same H H' → H' b = some (.tup xs) → DsAt H' (inner d) xs → Q (.ref b) H'
abbrev nInner : List Str := ["document", "word"]
theorem scInner : FnScope nInner ["document"] (defScope sInner) := ⟨rfl, rfl, rfl, by decide +kernel, rfl, by decide +kernel, by decide +kernel⟩
theorem ok_inner {f : Addr} {fd : FuncData} (F : Fun K "inner_ones" "inner_ones" sInner f fd) : FnOk P w K mg base CX0 1 f fd ["document"] spInner := by
  refine F.ok scInner (fun vs H Q E h => ?_) (fun cdv A outer s H vs Q E hr h => ?_)
  · obtain ⟨d, v, rfl, _⟩ := h
    rfl
  obtain ⟨d, v, rfl, hd, q⟩ := h
  refine ⟨_, pss_cons (ps_set (i := 1) scInner.nd rfl (Or.inl rfl) (pe_ix ix_tup (pv 0) pe_int (fun _ _ => rfl)))
    (pss_cons (ps_if (pt_cmp (pc_in2 (pv 1)) (by with_unfolding_all rfl)) (pss_one (ps_ret (pe_slice sl_tup (pv 0) (po_some pe_int) po_none))) pss_nil)
    (pss_cons (ps_if (pt_cmp (pc_is (pv 1)) (nomark _)) (pss_one (ps_ret (pe_slice sl_tup (pv 0) (po_some pe_int) po_none))) pss_nil)
    (pss_cons (ps_if (pt_cmp (pc_is (pv 1)) (nomark _)) (pss_one (ps_ret (pe_slice sl_tup (pv 0) (po_some pe_int) po_none))) pss_nil)
    (pss_one (ps_ret (pe_ifExp (pt_cmp (pc_in2 (pv 1)) (by with_unfolding_all rfl)) (pe_ix ix_tup (pv 0) pe_int (fun _ _ => rfl)) (pe_tup pa_nil))))))), ?_⟩
  obtain ⟨a, ys, rfl, ha⟩ := hd.head
  refine ⟨_, rfl, a, _, 0, _, rfl, rfl, SqT.of ha, atI_nat (j := 0) rfl, _, rfl, _, rfl, fun H1 s1 => ⟨_, rfl, ite2 (fun c1 => ?_) (fun c1 => ⟨_, rfl, _, rfl, _, rfl, ite2 (fun c2 => ?_) (fun c2 => ⟨_, rfl, _, rfl, _, rfl, ite2 (fun c3 => ?_) (fun c3 => ⟨_, rfl, _, rfl, fun H2 s2 => ⟨_, rfl, ite2 (fun c4 => ?_) (fun c4 => ?_)⟩⟩)⟩)⟩)⟩⟩
  · refine ⟨_, rfl, _, rfl, a, _, rfl, SqT.of (s1 _ _ ha), not_all (i := 1) (by decide) (Nat.le_add_left 1 _), newly fun p H2 s2 e2 _ => q p _ H2 (s1.trans s2) e2 ?_⟩
    rw [cut1]
    rcases in2_yes .align .group c1 with c | c
    · obtain ⟨e, rfl⟩ := kd_align c
      obtain ⟨a', x, e1, h, hx⟩ := hd
      cases e1
      cases up_inj ha h
      exact ⟨x, [], rfl, hx.mono (.of (s1.trans s2)), rfl⟩
    · obtain ⟨e, rfl⟩ := kd_group c
      obtain ⟨a', x, e1, h, hx⟩ := hd
      cases e1
      cases up_inj ha h
      exact ⟨x, [], rfl, hx.mono (.of (s1.trans s2)), rfl⟩
  · refine ⟨_, rfl, _, rfl, a, _, rfl, SqT.of (s1 _ _ ha), not_all (i := 2) (by decide) (Nat.le_add_left 1 _), newly fun p H2 s2 e2 _ => q p _ H2 (s1.trans s2) e2 ?_⟩
    obtain ⟨n, e, rfl⟩ := kd_nest (is_yes .nest c2)
    obtain ⟨a', x, e1, h, hx⟩ := hd
    cases e1
    cases up_inj ha h
    rw [cut2]
    exact ⟨x, [], rfl, hx.mono (.of (s1.trans s2)), rfl⟩
  · refine ⟨_, rfl, _, rfl, a, _, rfl, SqT.of (s1 _ _ ha), not_all (i := 1) (by decide) (Nat.le_add_left 1 _), newly fun p H2 s2 e2 _ => q p _ H2 (s1.trans s2) e2 ?_⟩
    obtain ⟨e, e', rfl⟩ := kd_choice (is_yes .choice c3)
    obtain ⟨a', x, y, e1, h, hx, hy⟩ := hd
    cases e1
    cases up_inj ha h
    rw [cut1]
    exact ⟨x, _, rfl, hx.mono (.of (s1.trans s2)), y, [], rfl, hy.mono (.of (s1.trans s2)), rfl⟩
  · have tk := s1.trans s2
    rcases in2_yes .fill .row c4 with c | c
    · obtain ⟨ds, rfl⟩ := kd_fill c
      obtain ⟨a', b, xs, e1, h, hb, hx⟩ := hd
      cases e1
      cases up_inj ha h
      exact ⟨_, rfl, a, _, 1, .ref b, rfl, rfl, SqT.of (tk _ _ ha), rfl, q b xs H2 tk (tk _ _ hb) (hx.mono (.of tk))⟩
    · obtain ⟨ds, rfl⟩ := kd_row c
      obtain ⟨a', b, xs, e1, h, hb, hx⟩ := hd
      cases e1
      cases up_inj ha h
      exact ⟨_, rfl, a, _, 1, .ref b, rfl, rfl, SqT.of (tk _ _ ha), rfl, q b xs H2 tk (tk _ _ hb) (hx.mono (.of tk))⟩
  · refine ⟨Nat.zero_le _, newly fun p H4 s4 e4 _ => q p [] H4 (s1.trans (s2.trans s4)) e4 ?_⟩
    have d1 := in2_no .align .group c1
    have d2 := is_no .nest c2
    have d3 := is_no .choice c3
    have d4 := in2_no .fill .row c4
    have e : inner d = [] := by
      cases d <;> first | rfl | exact absurd rfl d1.1 | exact absurd rfl d1.2 | exact absurd rfl d2 | exact absurd rfl d3 | exact absurd rfl d4.1 | exact absurd rfl d4.2
    rw [e]
    rfl
end LK

/-! K12Flat -/
namespace LK
open PySem L2 LD
variable {P : Program} {w : World} {K : PySem.W.Frag} {mg : Str → Option Value} {base : Heap}

def optV : Option Str → V
  | none => .non
  | some s => .str s
theorem opt_none (o : Option Str) : decide (optV o = V.non) = decide (o = none) := by cases o <;> rfl
theorem inV_none : ∀ l : List (Option Str), inV .non (l.map optV) = decide (none ∈ l)
  | [] => rfl
  | o :: l => by
    have ih := inV_none l
    show (eqV (optV o) .non || inV .non (l.map optV)) = _
    rw [ih]
    cases o with
    | none => simp [optV, eqV]
    | some s => simp [optV, eqV]
theorem flat_opt (l : List (Option Str)) : (l.map optV).all flatV = true := by
  rw [List.all_eq_true]
  intro v hv
  obtain ⟨o, _, rfl⟩ := List.mem_map.mp hv
  cases o <;> rfl
theorem opts_some {l : List (Option Str)} (h : none ∉ l) : l.map optV = (l.map (·.getD Str.empty)).map V.str := by
  rw [List.map_map]
  refine List.map_congr_left fun o ho => ?_
  cases o with
  | none => exact absurd ho h
  | some s => rfl
theorem szL_of {ds : List Doc} {d : Doc} (h : d ∈ ds) : sz d ≤ szL ds := by
  induction ds with
  | nil => cases h
  | cons e ds ih =>
    simp only [szL]
    rcases List.mem_cons.mp h with h | h
    · rw [h]; omega
    · have := ih h; omega
theorem szF_of {ds : List Doc} {d : Doc} (h : d ∈ ds) : sz d ≤ szF ds := by
  induction ds with
  | nil => cases h
  | cons e ds ih =>
    simp only [szF]
    rcases List.mem_cons.mp h with h | h
    · rw [h]; omega
    · have := ih h; omega
theorem depL_of {ds : List Doc} {d : Doc} (h : d ∈ ds) : dep d ≤ depL ds := by
  induction ds with
  | nil => cases h
  | cons e ds ih =>
    simp only [depL]
    rcases List.mem_cons.mp h with h | h
    · rw [h]; omega
    · have := ih h; omega
theorem wtL_of {ds : List Doc} {d : Doc} (h : d ∈ ds) : wt d ≤ wtL ds := by
  induction ds with
  | nil => cases h
  | cons e ds ih =>
    simp only [wtL]
    rcases List.mem_cons.mp h with h | h
    · rw [h]; omega
    · have := ih h; omega
theorem wtF_of {ds : List Doc} {d : Doc} (h : d ∈ ds) : wt d ≤ wtF ds := by
  induction ds with
  | nil => cases h
  | cons e ds ih =>
    simp only [wtF]
    rcases List.mem_cons.mp h with h | h
    · rw [h]; omega
    · have := ih h; omega
theorem wtL_len : ∀ ds : List Doc, ds.length ≤ wtL ds
  | [] => Nat.le_refl _
  | d :: ds => by
    have a := wtL_len ds
    have b := wt_pos d
    simp only [wtL, List.length_cons]; omega
theorem wtF_len : ∀ ds : List Doc, ds.length ≤ wtF ds
  | [] => Nat.le_refl _
  | d :: ds => by
    have a := wtF_len ds
    simp only [wtF, List.length_cons]; omega
theorem inner_len (d : Doc) : (inner d).length ≤ wt d + 1 := by
  cases d with
  | fill ds => have := wtF_len ds; simp only [inner, wt]; omega
  | row ds => have := wtL_len ds; simp only [inner, wt]; omega
  | choice a b => have := wt_pos a; have := wt_pos b; simp only [inner, wt, List.length_cons, List.length_nil]; omega
  | _ => simp only [inner, wt, List.length_cons, List.length_nil]; omega
theorem inner_less {d e : Doc} (h : e ∈ inner d) : dep e < dep d ∧ sz e ≤ sz d ∧ wt e ≤ wt d := by
  cases d with
  | nest n d => rw [List.mem_singleton.mp h]; simp only [dep, sz, wt]; omega
  | align d => rw [List.mem_singleton.mp h]; simp only [dep, sz, wt]; omega
  | group d => rw [List.mem_singleton.mp h]; simp only [dep, sz, wt]; omega
  | choice a b =>
    simp only [inner, List.mem_cons, List.not_mem_nil, or_false] at h
    rcases h with h | h <;> (rw [h]; simp only [dep, sz, wt]; omega)
  | fill ds =>
    have a := depL_of (ds := ds) h
    have b := szF_of (ds := ds) h
    have c := wtF_of (ds := ds) h
    simp only [dep, sz, wt]; omega
  | row ds =>
    have a := depL_of (ds := ds) h
    have b := szL_of (ds := ds) h
    have c := wtL_of (ds := ds) h
    simp only [dep, sz, wt]; omega
  | text s => cases h
  | line s => cases h
  | hard => cases h
  | blank => cases h
  | gap => cases h
  | raw ss => cases h
/-- small enough -/
structure Sm (n : Nat) (d : Doc) : Prop where
  dep : dep d ≤ n
  sz : sz d ≤ 1000000
  wt : wt d ≤ 1000000
theorem Sm.inner {n : Nat} {d e : Doc} (s : Sm (n + 1) d) (h : e ∈ inner d) : Sm n e := by
  obtain ⟨a, b, c⟩ := inner_less h
  have := s.dep
  have := s.sz
  have := s.wt
  exact ⟨by omega, by omega, by omega⟩
theorem glue_one (sep : Str) (o : Option Str) : glue sep [o] = o := by
  cases o with
  | none => rfl
  | some x =>
    unfold glue
    rw [if_neg (by simp)]
    rfl
theorem flat_rest {d : Doc} (h1 : kd d ≠ .text ∧ kd d ≠ .line) (h2 : kd d ≠ .gap) (h3 : kd d ≠ .hard ∧ kd d ≠ .blank ∧ kd d ≠ .raw) (h4 : kd d ≠ .choice) :
    flat d = glue (if kd d = .fill then cBlank else Str.empty) ((inner d).map flat) ∧
      ((((inner d).map flat).map (·.getD Str.empty)).map (·.length)).sum + ((inner d).map flat).length * (if kd d = .fill then cBlank else Str.empty).length ≤ sz d := by
  have one : ∀ e : Doc, (((([e] : List Doc).map flat).map (·.getD Str.empty)).map (·.length)).sum + (([e] : List Doc).map flat).length * Str.empty.length ≤ sz e := fun e => by
    show ((flat e).getD Str.empty).length + 0 + 1 * 0 ≤ sz e
    cases q : flat e with
    | none => exact Nat.zero_le _
    | some x => exact flat_len e x q
  cases d with
  | nest n d => exact ⟨(glue_one _ _).symm, Nat.le_trans (one d) (Nat.le_add_left _ _)⟩
  | align d => exact ⟨(glue_one _ _).symm, one d⟩
  | group d => exact ⟨(glue_one _ _).symm, one d⟩
  | fill ds =>
    have a := flats_lenF ds
    rw [flats_map] at a
    refine ⟨by rw [flat, flats_map]; rfl, ?_⟩
    have e : cBlank.length = 1 := by decide
    show _ + (ds.map flat).length * cBlank.length ≤ szF ds
    rw [e]
    exact a
  | row ds =>
    have a := flats_len ds
    rw [flats_map] at a
    refine ⟨by rw [flat, flats_map]; rfl, ?_⟩
    show _ + (ds.map flat).length * 0 ≤ szL ds
    rw [Nat.mul_zero, Nat.add_zero]
    exact a
  | text s => exact absurd rfl h1.1
  | line s => exact absurd rfl h1.2
  | gap => exact absurd rfl h2
  | hard => exact absurd rfl h3.1
  | blank => exact absurd rfl h3.2.1
  | raw ss => exact absurd rfl h3.2.2
  | choice a b => exact absurd rfl h4
def spFlat (n : Nat) : Sp := fun vs H Q _ => ∃ (d : Doc) (v : V), vs = [v] ∧ DAt H d v ∧ Sm n d ∧ ∀ H', Same H H' → Q (optV (flat d)) H'
abbrev nFlat : List Str := ["document", "word", "texts", "one"]
theorem scFlat : FnScope nFlat ["document"] (defScope sFlat) := ⟨rfl, rfl, rfl, by decide +kernel, rfl, by decide +kernel, by decide +kernel⟩
theorem ok_flat {n : Nat} {f g : Addr} {fd gd : FuncData} (F : Fun K "flat_text" "flat_text" sFlat f fd) (S : FnOk P w K mg base CX0 (n + 2) f fd ["document"] (spFlat n)) (bS : Binds K fd ["document"] []) (mS : mg "flat_text" = some (.ref f))
    (G : FnOk P w K mg base CX0 1 g gd ["document"] spInner) (bG : Binds K gd ["document"] []) (kG : PySem.W.keepIn K (.ref g) = true) (mG : mg "inner_ones" = some (.ref g)) : FnOk P w K mg base CX0 (n + 3) f fd ["document"] (spFlat (n + 1)) := by
  refine F.ok scFlat (fun vs H Q E h => ?_) (fun cdv A outer s H vs Q E hr h => ?_)
  · obtain ⟨d, v, rfl, _⟩ := h
    rfl
  obtain ⟨d, v, rfl, hd, hsm, q⟩ := h
  have hr1 : Room 1 _ := hr.mono (by omega)
  refine ⟨_, pss_cons (ps_set (i := 1) scFlat.nd rfl (Or.inl rfl) (pe_ix ix_tup (pv 0) pe_int (fun _ _ => rfl)))
    (pss_cons (ps_if (pt_cmp (pc_in2 (pv 1)) (by with_unfolding_all rfl)) (pss_one (ps_ret (pe_ix ix_tup (pv 0) pe_int (fun _ _ => rfl)))) pss_nil)
    (pss_cons (ps_if (pt_cmp (pc_is (pv 1)) (nomark _)) (pss_one (ps_ret pe_str)) pss_nil)
    (pss_cons (ps_if (pt_cmp (pc_in3 (pv 1)) (by with_unfolding_all rfl)) (pss_one (ps_ret pe_non)) pss_nil)
    (pss_cons (ps_setLc (i := 2) (own := [("one", 3)]) (g := gName 3) (tt := tYes) rfl scFlat.nd rfl rfl (sw_true rfl rfl rfl (by decide +kernel)) (pi_tup (pe_call G hr1 rfl mG kG bG .nil pass0 (pa_cons (pv 0) pa_nil)))
        (blkOk_by (N := nFlat) (own := [("one", 3)]) (sc := defScope sFlat) (by decide +kernel)) (fun _ _ _ _ _ => pg_name (i := 3) scFlat.nd rfl (Or.inl rfl)) (fun _ _ _ _ _ => pts_nil)
        (fun _ _ _ _ _ => pe_call S hr rfl mS F.kp bS .nil pass0 (pa_cons (pv 3) pa_nil)))
    (pss_cons (ps_if (pt_cmp (pc_is (pv 1)) (nomark _)) (pss_one (ps_ret (pe_ifExp (pt_cmpR op_notN (pe_ix ix_list (pv 2) pe_int (fun _ _ => rfl)) pe_non (nomark _)) (pe_ix ix_list (pv 2) pe_int (fun _ _ => rfl)) (pe_ix ix_list (pv 2) pe_int (fun _ _ => rfl))))) pss_nil)
    (pss_cons (ps_if (pt_cmpR op_in_seq pe_non (pv 2) (by with_unfolding_all rfl)) (pss_one (ps_ret pe_non)) pss_nil)
    (pss_one (ps_ret (pe_join (pe_ifExp (pt_cmp (pc_is (pv 1)) (nomark _)) pe_str pe_str) (pv 2)))))))))), ?_⟩
  obtain ⟨a, ys, rfl, ha⟩ := hd.head
  refine ⟨_, rfl, a, _, 0, _, rfl, rfl, SqT.of ha, atI_nat (j := 0) rfl, _, rfl, _, rfl, fun H1 s1 => ⟨_, rfl, ite2 (fun c1 => ?_) (fun c1 => ⟨_, rfl, _, rfl, _, rfl, ite2 (fun c2 => ?_) (fun c2 => ⟨_, rfl, _, rfl, fun H2 s2 => ⟨_, rfl, ite2 (fun c3 => ?_) (fun c3 => ?_)⟩⟩)⟩)⟩⟩
  · rcases in2_yes .text .line c1 with c | c
    · obtain ⟨x, rfl⟩ := kd_text c
      obtain ⟨a', e1, h⟩ := hd
      cases e1
      cases up_inj ha h
      exact ⟨_, rfl, a, _, 1, .str x, rfl, rfl, SqT.of (s1 _ _ ha), rfl, q H1 s1⟩
    · obtain ⟨x, rfl⟩ := kd_line c
      obtain ⟨a', e1, h⟩ := hd
      cases e1
      cases up_inj ha h
      exact ⟨_, rfl, a, _, 1, .str x, rfl, rfl, SqT.of (s1 _ _ ha), rfl, q H1 s1⟩
  · cases kd_gap (is_yes .gap c2)
    exact q H1 s1
  · rcases in3_yes .hard .blank .raw c3 with c | c | c
    · cases kd_hard c
      exact q H2 (s1.trans s2)
    · cases kd_blank c
      exact q H2 (s1.trans s2)
    · obtain ⟨ss, rfl⟩ := kd_raw c
      exact q H2 (s1.trans s2)
  have s12 := s1.trans s2
  refine ⟨_, rfl, d, .ref a, rfl, hd.mono (.of s12), fun b xs H3 s3 hb hxs => ⟨b, rfl, ⟨_, SqT.of hb⟩, fun D hD => ?_⟩⟩
  have s13 := s12.trans s3
  refine lc_tup (K := K) (a := b) (xs := xs) (fun j H' => Same H3 H' ∧ H' D = some (.lst (((inner d).take j).map fun e => optV (flat e)))) ⟨same_new hD _, upd_same⟩ (fun j H' _ z => SqT.of (z.1 _ _ hb)) ?_ ?_
  · rintro j x H4 hx ⟨s4, hacc⟩
    obtain ⟨e, he, ge⟩ := hxs.get hx
    have hj : j < xs.length := (List.getElem?_eq_some_iff.mp hx).1
    have l := hxs.len
    refine ⟨rfl, _, rfl, e, x, rfl, ge.mono (.of s4), hsm.inner (List.mem_of_getElem? he), fun H5 s5 => ⟨_, s5 _ _ hacc, ?_, same_upd (s4.trans s5) hD, ?_⟩⟩
    · rw [List.length_map, List.length_take, line_eq]
      have := inner_len d
      have := hsm.wt
      omega
    · rw [upd_same, List.take_add_one, he, List.map_append]
      rfl
  · rintro H4 ⟨s4, hacc⟩
    rw [hxs.len, List.take_length] at hacc
    have s14 := s13.trans s4
    refine ⟨_, rfl, _, rfl, _, rfl, ite2 (fun c4 => ?_) (fun c4 => ?_)⟩
    · obtain ⟨e, e', rfl⟩ := kd_choice (is_yes .choice c4)
      have hacc : H4 D = some (.lst [optV (flat e), optV (flat e')]) := hacc
      refine ⟨_, rfl, D, _, 0, _, rfl, rfl, SqL.of hacc, rfl, rfl, _, rfl, ?_⟩
      show if (!decide (optV (flat e) = V.non)) = true then _ else _
      rw [opt_none]
      cases hf : flat e with
      | some x =>
        have ef : flat (.choice e e') = some x := by simp only [flat, hf]
        rw [hf] at hacc
        rw [ef] at q
        exact iteY rfl ⟨_, rfl, D, _, 0, _, rfl, rfl, SqL.of hacc, rfl, q H4 s14⟩
      | none =>
        have ef : flat (.choice e e') = flat e' := by simp only [flat, hf]
        rw [hf] at hacc
        rw [ef] at q
        exact iteN rfl ⟨_, rfl, D, _, 1, _, rfl, rfl, SqL.of hacc, rfl, q H4 s14⟩
    · obtain ⟨fe, fl⟩ := flat_rest (in2_no .text .line c1) (is_no .gap c2) (in3_no .hard .blank .raw c3) (is_no .choice c4)
      have em : (inner d).map (fun e => optV (flat e)) = ((inner d).map flat).map optV := by
        rw [List.map_map]
        rfl
      rw [em] at hacc
      refine ⟨_, rfl, D, _, rfl, .inl (SqL.of hacc), rfl, flat_opt _, _, rfl, ?_⟩
      show if inV .non (((inner d).map flat).map optV) = true then _ else _
      rw [inV_none]
      by_cases hn : none ∈ (inner d).map flat
      · have e : flat d = none := by rw [fe, glue, if_pos hn]
        rw [e] at q
        exact iteY (decide_eq_true hn) (q H4 s14)
      · have e : flat d = some (Str.join (if kd d = .fill then cBlank else Str.empty) (((inner d).map flat).map (·.getD Str.empty))) := by rw [fe, glue, if_neg hn]
        rw [e] at q
        rw [opts_some hn] at hacc
        refine iteN (decide_eq_false hn) ⟨_, rfl, _, rfl, _, rfl, ?_⟩
        have hs := hsm.sz
        have ll : (((inner d).map flat).map (·.getD Str.empty)).length = ((inner d).map flat).length := List.length_map _
        refine ite2 (fun c5 => ?_) (fun c5 => ?_)
        · rw [if_pos (is_yes .fill c5)] at q fl
          refine ⟨⟨_, rfl⟩, _, rfl, _, D, _, rfl, rfl, .inl (SqL.of hacc), ?_, ?_⟩
          · show _ + _ * cBlank.length ≤ _
            rw [ll]
            omega
          · show Q (.str (Txt.join cBlank _)) H4
            rw [TL.join_eq]
            exact q H4 s14
        · rw [if_neg (is_no .fill c5)] at q fl
          refine ⟨⟨_, rfl⟩, _, rfl, _, D, _, rfl, rfl, .inl (SqL.of hacc), ?_, ?_⟩
          · show _ + _ * Str.empty.length ≤ _
            rw [ll]
            omega
          · show Q (.str (Txt.join Str.empty _)) H4
            rw [TL.join_eq]
            exact q H4 s14
theorem no_flat {n : Nat} {f : Addr} {fd : FuncData} : FnOk P w K mg base CX0 n f fd ["document"] (spFlat 0) := by
  have no : ∀ vs H Q E, ¬ spFlat 0 vs H Q E := fun vs H Q E h => by
    obtain ⟨d, v, _, _, ⟨h0, _, _⟩, _⟩ := h
    cases d <;> simp only [dep] at h0 <;> omega
  exact ⟨fun vs H Q E h => absurd h (no vs H Q E), fun A outer s H args us vs Q E _ _ _ _ h => absurd h (no vs H Q E)⟩
theorem all_flat {f g : Addr} {fd gd : FuncData} (F : Fun K "flat_text" "flat_text" sFlat f fd) (bS : Binds K fd ["document"] []) (mS : mg "flat_text" = some (.ref f))
    (G : FnOk P w K mg base CX0 1 g gd ["document"] spInner) (bG : Binds K gd ["document"] []) (kG : PySem.W.keepIn K (.ref g) = true) (mG : mg "inner_ones" = some (.ref g)) : ∀ n : Nat, FnOk P w K mg base CX0 (n + 2) f fd ["document"] (spFlat n)
  | 0 => no_flat
  | n + 1 => ok_flat F (all_flat F bS mS G bG kG mG n) bS mS G bG kG mG
end LK

/-! K13Chs -/
namespace LK
open PySem L2 LD
variable {P : Program} {w : World} {K : PySem.W.Frag} {mg : Str → Option Value} {base : Heap}

theorem StsAt.snoc {H : Hp} : ∀ {fs : List LD.Step} {xs : List V} {f : LD.Step} {x : V}, StsAt H fs xs → StAt H f x → StsAt H (fs ++ [f]) (xs ++ [x])
  | [], xs, f, x, e, h => by rw [show xs = [] from e]; exact ⟨x, [], rfl, h, rfl⟩
  | c :: fs, xs, f, x, ⟨y, ys, e, g, q⟩, h => by
    rw [e]
    exact ⟨y, ys ++ [x], rfl, g, StsAt.snoc q h⟩
theorem StsAt.len {H : Hp} : ∀ {fs : List LD.Step} {xs : List V}, StsAt H fs xs → xs.length = fs.length
  | [], xs, e => by rw [show xs = [] from e]; rfl
  | f :: fs, xs, ⟨x, ys, e, g, q⟩ => by rw [e, List.length_cons, List.length_cons, StsAt.len q]
theorem StsAt.get {H : Hp} : ∀ {fs : List LD.Step} {xs : List V} {i : Nat} {f : LD.Step}, StsAt H fs xs → fs[i]? = some f → ∃ x, xs[i]? = some x ∧ StAt H f x
  | [], xs, i, f, e, h => by cases h
  | c :: fs, xs, 0, f, ⟨y, ys, e, g, q⟩, h => by
    cases h
    rw [e]
    exact ⟨y, rfl, g⟩
  | c :: fs, xs, i + 1, f, ⟨y, ys, e, g, q⟩, h => by
    rw [e]
    exact StsAt.get (i := i) q (by simpa using h)
def ownN (d : Doc) : Int := match d with
  | .group _ => 1
  | .choice _ _ => 1
  | .gap => 1
  | .fill ds => ((ds.length - 1 : Nat) : Int)
  | _ => 0
theorem chsL_sum : ∀ ds : List Doc, (chsL ds : Int) = (ds.map fun e => (chs e : Int)).sum
  | [] => rfl
  | d :: ds => by
    rw [chsL, List.map_cons, List.sum_cons, ← chsL_sum ds]
    omega
theorem chs_sum (d : Doc) : (chs d : Int) = ownN d + ((inner d).map fun e => (chs e : Int)).sum := by
  cases d with
  | group d => simp [chs, ownN, inner]
  | choice a b => simp [chs, ownN, inner]
  | gap => rfl
  | fill ds =>
    have := chsL_sum ds
    simp only [chs, ownN, inner]
    omega
  | row ds =>
    have := chsL_sum ds
    simp only [chs, ownN, inner]
    omega
  | nest n d => simp [chs, ownN, inner]
  | align d => simp [chs, ownN, inner]
  | text s => rfl
  | line s => rfl
  | hard => rfl
  | blank => rfl
  | raw ss => rfl
theorem own_no {d : Doc} (h1 : kd d ≠ .group ∧ kd d ≠ .choice ∧ kd d ≠ .gap) (h2 : kd d ≠ .fill) : ownN d = 0 := by
  cases d <;> first | rfl | exact absurd rfl h1.1 | exact absurd rfl h1.2.1 | exact absurd rfl h1.2.2 | exact absurd rfl h2
theorem own_yes {d : Doc} (h1 : kd d = .group ∨ kd d = .choice ∨ kd d = .gap) : ownN d = 1 ∧ kd d ≠ .fill := by
  cases d <;> first | exact ⟨rfl, fun z => by cases z⟩ | (rcases h1 with h | h | h <;> cases h)
def spChs (n : Nat) : Sp := fun vs H Q _ => ∃ (d : Doc) (v : V), vs = [v] ∧ DAt H d v ∧ Sm n d ∧ ∀ H', Same H H' → Q (.int (chs d : Nat)) H'
abbrev nChs : List Str := ["document", "own", "one"]
theorem scChs : FnScope nChs ["document"] (defScope sChs) := ⟨rfl, rfl, rfl, by decide +kernel, rfl, by decide +kernel, by decide +kernel⟩
theorem ok_chs {n : Nat} {f g : Addr} {fd gd : FuncData} (F : Fun K "choices_in" "choices_in" sChs f fd) (S : FnOk P w K mg base CX0 (n + 2) f fd ["document"] (spChs n)) (bS : Binds K fd ["document"] []) (mS : mg "choices_in" = some (.ref f))
    (G : FnOk P w K mg base CX0 1 g gd ["document"] spInner) (bG : Binds K gd ["document"] []) (kG : PySem.W.keepIn K (.ref g) = true) (mG : mg "inner_ones" = some (.ref g)) (T : Tp mg) : FnOk P w K mg base CX0 (n + 3) f fd ["document"] (spChs (n + 1)) := by
  refine F.ok scChs (fun vs H Q E h => ?_) (fun cdv A outer s H vs Q E hr h => ?_)
  · obtain ⟨d, v, rfl, _⟩ := h
    rfl
  obtain ⟨d, v, rfl, hd, hsm, q⟩ := h
  have hr1 : Room 1 _ := hr.mono (by omega)
  refine ⟨_, pss_cons (ps_set (i := 1) scChs.nd rfl (Or.inl rfl) (pe_callTy call_int1 (by rfl) T.int (by decide +kernel) (pa_cons (pe_cmp (pc_in3 (pe_ix ix_tup (pv 0) pe_int (fun _ _ => rfl))) (by with_unfolding_all rfl)) pa_nil)))
    (C8.pss_cut (ps_if (pt_cmp (pc_is (pe_ix ix_tup (pv 0) pe_int (fun _ _ => rfl))) (nomark _)) (pss_one (ps_set (i := 1) scChs.nd rfl (Or.inl rfl)
        (pe_callB (call_max2 rfl) (by rfl) T.max (by decide +kernel) (pa_cons pe_int (pa_cons (pe_op op_sub (pe_callB call_len_seq (by rfl) T.len PySem.boot_len (pa_cons (pe_ix ix_tup (pv 0) pe_int (fun _ _ => rfl)) pa_nil)) pe_int) pa_nil))))) pss_nil)
    (pss_one (ps_ret (pe_op op_add (pv 1) (pe_callB (cr_sum rfl) (by rfl) T.sum (by decide +kernel) (pa_cons (pe_lc (own := [("one", 2)]) (g := gName 2) (tt := tYes) rfl scChs.nd (pi_tup (pe_call G hr1 rfl mG kG bG .nil pass0 (pa_cons (pv 0) pa_nil)))
        (blkOk_by (N := nChs) (own := [("one", 2)]) (sc := defScope sChs) (by decide +kernel)) (fun _ _ _ _ _ => pg_name (i := 2) scChs.nd rfl (Or.inl rfl)) (fun _ _ _ _ _ => pts_nil)
        (fun _ _ _ _ _ => pe_call S hr rfl mS F.kp bS .nil pass0 (pa_cons (pv 2) pa_nil))) pa_nil)))))), ?_⟩
  obtain ⟨a, ys, rfl, ha⟩ := hd.head
  refine ⟨_, rfl, a, _, 0, _, rfl, rfl, SqT.of ha, atI_nat (j := 0) rfl, _, rfl, fun H1 s1 => .inr ⟨_, rfl, ?_⟩⟩
  refine ⟨fun σ H' => Same H H' ∧ σ = [some (.ref a), some (.int (ownN d)), none], ?_, ?_⟩
  · refine ⟨_, rfl, a, _, 0, _, rfl, rfl, SqT.of (s1 _ _ ha), atI_nat (j := 0) rfl, _, rfl, _, rfl, ite2 (fun c1 => ?_) (fun c1 => ?_)⟩
    · obtain ⟨ds, rfl⟩ := kd_fill (is_yes .fill c1)
      obtain ⟨a', b, xs, e1, h, hb, hx⟩ := hd
      cases e1
      cases up_inj ha h
      refine ⟨_, rfl, a, _, 1, .ref b, rfl, rfl, SqT.of (s1 _ _ ha), rfl, b, _, rfl, .inr (SqT.of (s1 _ _ hb)), _, _, rfl, rfl, _, _, rfl, ⟨s1, ?_⟩⟩
      have e : (if ((xs.length : Int) - 1) > 0 then ((xs.length : Int) - 1) else 0) = ownN (.fill ds) := by
        rw [hx.len]
        show _ = ((ds.length - 1 : Nat) : Int)
        split <;> omega
      show [some (V.ref a), some (V.int (if ((xs.length : Int) - 1) > 0 then ((xs.length : Int) - 1) else 0)), none] = _
      rw [e]
    · have c2 := is_no .fill c1
      refine ⟨s1, ?_⟩
      have e : (if (decide (kn (kd d) = kn .group) || decide (kn (kd d) = kn .choice) || decide (kn (kd d) = kn .gap)) = true then (1 : Int) else 0) = ownN d := by
        split
        · rename_i h
          exact (own_yes (in3_yes _ _ _ h)).1.symm
        · rename_i h
          exact (own_no (in3_no _ _ _ h) c2).symm
      show [some (V.ref a), some (V.int (if (decide (kn (kd d) = kn .group) || decide (kn (kd d) = kn .choice) || decide (kn (kd d) = kn .gap)) = true then (1 : Int) else 0)), none] = _
      rw [e]
  · rintro σ H2 ⟨s2, rfl⟩
    refine ⟨_, rfl, _, rfl, d, .ref a, rfl, hd.mono (.of s2), fun b xs H3 s3 hb hxs => ⟨b, rfl, ⟨_, SqT.of hb⟩, fun D hD => ?_⟩⟩
    refine lc_tup (K := K) (a := b) (xs := xs) (fun j H' => Same H3 H' ∧ H' D = some (.lst (((inner d).take j).map fun e => V.int (chs e : Nat)))) ⟨same_new hD _, upd_same⟩ (fun j H' _ z => SqT.of (z.1 _ _ hb)) ?_ ?_
    · rintro j x H4 hx ⟨s4, hacc⟩
      obtain ⟨e, he, ge⟩ := hxs.get hx
      have hj : j < xs.length := (List.getElem?_eq_some_iff.mp hx).1
      have l := hxs.len
      refine ⟨rfl, _, rfl, e, x, rfl, ge.mono (.of s4), hsm.inner (List.mem_of_getElem? he), fun H5 s5 => ⟨_, s5 _ _ hacc, ?_, same_upd (s4.trans s5) hD, ?_⟩⟩
      · rw [List.length_map, List.length_take, line_eq]
        have := inner_len d
        have := hsm.wt
        omega
      · rw [upd_same, List.take_add_one, he, List.map_append]
        rfl
    · rintro H4 ⟨s4, hacc⟩
      rw [hxs.len, List.take_length] at hacc
      have em : (inner d).map (fun e => V.int (chs e : Nat)) = ((inner d).map fun e => (chs e : Int)).map V.int := by
        rw [List.map_map]
        rfl
      rw [em] at hacc
      refine ⟨D, _, rfl, SqL.of hacc, _, _, rfl, rfl, ?_⟩
      show Q (.int (ownN d + ((inner d).map fun e => (chs e : Int)).sum)) H4
      rw [← chs_sum]
      exact q H4 (s2.trans (s3.trans s4))
theorem no_chs {n : Nat} {f : Addr} {fd : FuncData} : FnOk P w K mg base CX0 n f fd ["document"] (spChs 0) := by
  have no : ∀ vs H Q E, ¬ spChs 0 vs H Q E := fun vs H Q E h => by
    obtain ⟨d, v, _, _, ⟨h0, _, _⟩, _⟩ := h
    cases d <;> simp only [dep] at h0 <;> omega
  exact ⟨fun vs H Q E h => absurd h (no vs H Q E), fun A outer s H args us vs Q E _ _ _ _ h => absurd h (no vs H Q E)⟩
theorem all_chs {f g : Addr} {fd gd : FuncData} (F : Fun K "choices_in" "choices_in" sChs f fd) (bS : Binds K fd ["document"] []) (mS : mg "choices_in" = some (.ref f))
    (G : FnOk P w K mg base CX0 1 g gd ["document"] spInner) (bG : Binds K gd ["document"] []) (kG : PySem.W.keepIn K (.ref g) = true) (mG : mg "inner_ones" = some (.ref g)) (T : Tp mg) : ∀ n : Nat, FnOk P w K mg base CX0 (n + 2) f fd ["document"] (spChs n)
  | 0 => no_chs
  | n + 1 => ok_chs F (all_chs F bS mS G bG kG mG T n) bS mS G bG kG mG T
end LK

/-! K14Raw -/
namespace LK
open PySem L2 LD
variable {P : Program} {w : World} {K : PySem.W.Frag} {mg : Str → Option Value} {base : Heap}
abbrev sRaw : Stmt := top 13
abbrev sGroup : Stmt := top 14
abbrev sFillSt : Stmt := top 15
abbrev sInside : Stmt := top 16
abbrev sSteps : Stmt := top 17

theorem at_last (ss : List Str) (h : ss ≠ []) : atI (ss.map V.str) (-1) = some (V.str (lastS ss)) := by
  have hl : (ss.map V.str).length = ss.length := List.length_map _
  have h0 : 0 < ss.length := List.length_pos_iff.mpr h
  unfold atI
  have e : ixN (ss.map V.str).length (-1) = some (ss.length - 1) := by
    unfold ixN
    rw [if_neg (by omega), hl]
    rw [if_pos (by omega)]
    refine congrArg some ?_
    omega
  rw [e]
  show (ss.map V.str)[ss.length - 1]? = _
  rw [List.getElem?_map]
  have : ss[ss.length - 1]? = some (lastS ss) := by
    unfold lastS
    rw [List.getLastD_eq_getLast?, List.getLast?_eq_getElem?]
    have : ss.length - 1 < ss.length := by omega
    rw [List.getElem?_eq_getElem this]
    rfl
  rw [this]
  rfl
theorem sum_lens (l : List Str) : (l.map fun s => s.length + 1).sum = (l.map (·.length)).sum + l.length := by
  induction l with
  | nil => rfl
  | cons x l ih => simp only [List.map_cons, List.sum_cons, List.length_cons, ih]; omega
def spRaw : Sp := fun vs H Q _ => ∃ (c : Col) (i : Nat) (ss : List Str) (r : Rest) (b : Addr) (v : V), vs = [colV c, .int i, .ref b, v] ∧ H b = some (.tup (ss.map V.str)) ∧ ss ≠ [] ∧ RAt H r v ∧ i ≤ 4000000 ∧ (ss.map fun s => s.length + 1).sum ≤ 4000000 ∧
  ∀ p H', Same H H' → StAt H' (rawStep c i ss r) (.ref p) → Q (.ref p) H'
abbrev nRaw : List Str := ["column", "indent", "strings", "rest", "written", "behind"]
theorem scRaw : FnScope nRaw ["column", "indent", "strings", "rest"] (defScope sRaw) := ⟨rfl, rfl, rfl, by decide +kernel, rfl, by decide +kernel, by decide +kernel⟩
theorem ok_raw {f g : Addr} {fd gd : FuncData} (F : Fun K "raw_step" "raw_step" sRaw f fd) (G : FnOk P w K mg base CX0 2 g gd ["column", "indent", "string"] spPut) (b : Binds K gd ["column", "indent", "string"] []) (kp : PySem.W.keepIn K (.ref g) = true) (mG : mg "put" = some (.ref g)) (T : Tp mg) :
    FnOk P w K mg base CX0 3 f fd ["column", "indent", "strings", "rest"] spRaw := by
  refine F.ok scRaw (fun vs H Q E h => ?_) (fun cdv A outer s H vs Q E hr h => ?_)
  · obtain ⟨c, i, ss, r, b, v, rfl, _⟩ := h
    rfl
  obtain ⟨c, i, ss, r, bs, v, rfl, hb, hne, hv, hi, hs, q⟩ := h
  refine ⟨_, pss_cons (ps_asg (pe_call G hr rfl mG kp b .nil pass0 (pa_cons (pv 0) (pa_cons (pv 1) (pa_cons (pe_ix ix_tup (pv 2) pe_int (fun _ _ => rfl)) pa_nil))))
      (pg_tup rfl (pgs_cons (pg_name (i := 4) scRaw.nd rfl (Or.inl rfl)) (pgs_cons (pg_name (i := 5) scRaw.nd rfl (Or.inl rfl)) pgs_nil))))
    (pss_one (ps_ret (pe_tup (pa_cons (pe_join pe_str (pe_lst (pa_cons (pv 4) (StX.pa_star (pe_slice sl_tup (pv 2) (po_some pe_int) po_none) pa_nil))))
      (pa_cons (pe_callB call_len_str (by rfl) T.len PySem.boot_len (pa_cons (pe_ix ix_tup (pv 2) (pe_un un_neg pe_int) (fun _ _ => rfl)) pa_nil)) (pa_cons (pv 3) (pa_cons pe_bl pa_nil))))))), ?_⟩
  obtain ⟨x, xs, rfl⟩ : ∃ x xs, ss = x :: xs := by
    cases ss with
    | nil => exact absurd rfl hne
    | cons x xs => exact ⟨x, xs, rfl⟩
  have hsum := sum_lens (x :: xs)
  rw [List.map_cons, List.sum_cons] at hsum hs
  refine ⟨_, rfl, _, rfl, _, rfl, bs, _, 0, .str x, rfl, rfl, SqT.of hb, atI_nat (j := 0) rfl, c, i, x, rfl, by omega, by omega, fun p H1 s1 e1 => ?_⟩
  refine ⟨p, _, rfl, SqT.of e1, rfl, _, _, rfl, _, _, rfl, rfl, ⟨_, rfl⟩, _, rfl, _, rfl, _, rfl, bs, _, rfl, SqT.of (s1 _ _ hb), not_all (i := 1) (by decide) (Nat.le_add_left 1 _), fun p2 n2 => ?_⟩
  generalize hu : upd H1 p2 _ = H2
  obtain ⟨s2, e2⟩ := new_of n2 hu
  rw [show cutV ((x :: xs).map V.str) (some 1) none = xs.map V.str from cut1 _ _] at e2
  have hw : (put c i x).1.length ≤ i + x.length := (put_lim (L := max (c.getD 0) i + x.length) (n := 0) (by omega) (by omega)).1
  have l1 : (xs.map V.str).length = xs.length := List.length_map _
  rw [sum_lens] at hs
  refine ⟨p2, _, rfl, .inl (SqT.of e2), ?_, fun p3 n3 => ?_⟩
  · show (xs.map V.str ++ []).length + 1 ≤ sizeLine
    rw [List.append_nil, l1, line_eq]
    omega
  generalize hu3 : upd H2 p3 _ = H3
  obtain ⟨s3, e3⟩ := new_of n3 hu3
  have e3 : H3 p3 = some (.lst (((put c i x).1 :: xs).map V.str)) := by
    rw [List.map_cons]
    have z : xs.map V.str ++ [] = xs.map V.str := List.append_nil _
    rw [← z]
    exact e3
  have s13 := s1.trans (s2.trans s3)
  refine ⟨_, p3, (put c i x).1 :: xs, rfl, rfl, .inl (SqL.of e3), ?_, ?_⟩
  · rw [List.map_cons, List.sum_cons, List.length_cons]
    have : Str.length (Str.ofString "\n") = 1 := by decide
    rw [this]
    omega
  refine ⟨_, rfl, _, rfl, bs, _, -1, .str (lastS (x :: xs)), rfl, rfl, SqT.of (s13 _ _ hb), at_last _ hne, _, rfl, ?_, _, rfl, big4, newly fun p4 H4 s4 e4 _ => q p4 H4 (s13.trans s4) ?_⟩
  · have := last_len (x :: xs)
    rw [sum_lens, List.map_cons, List.sum_cons, List.length_cons] at this
    rw [line_eq]
    omega
  · refine ⟨p4, v, rfl, ?_, hv.mono (.of (s13.trans s4))⟩
    rw [e4]
    show some (HO.tup [.str (Txt.join cLf _), _, _, _]) = some (HO.tup [.str (Str.join cLf _), _, _, _])
    rw [TL.join_eq]
    rfl
end LK

/-! K15Group -/
namespace LK
open PySem L2 LD
variable {P : Program} {w : World} {K : PySem.W.Frag} {mg : Str → Option Value} {base : Heap}

def spGroup (n : Nat) : Sp := fun vs H Q _ => ∃ (c : Col) (i : Nat) (d : Doc) (r : Rest) (x v : V), vs = [colV c, .int i, x, v] ∧ DAt H d x ∧ RAt H r v ∧ Sm n d ∧ r.length ≤ 500000 ∧
  ∀ p xs H', Same H H' → H' p = some (.lst xs) → StsAt H' (groupSteps c i d r) xs → Q (.ref p) H'
abbrev nGroup : List Str := ["column", "indent", "inside", "rest", "broken", "flat"]
theorem scGroup : FnScope nGroup ["column", "indent", "inside", "rest"] (defScope sGroup) := ⟨rfl, rfl, rfl, by decide +kernel, rfl, by decide +kernel, by decide +kernel⟩
theorem ok_group {n : Nat} {f g e : Addr} {fd gd ed : FuncData} (F : Fun K "group_steps" "group_steps" sGroup f fd) (G : FnOk P w K mg base CX0 (n + 2) g gd ["document"] (spFlat n)) (bG : Binds K gd ["document"] []) (kG : PySem.W.keepIn K (.ref g) = true) (mG : mg "flat_text" = some (.ref g))
    (L : FnOk P w K mg base CX0 1 e ed ["column", "indent", "documents", "rest"] spLeft) (bL : Binds K ed ["column", "indent", "documents", "rest"] []) (kL : PySem.W.keepIn K (.ref e) = true) (mL : mg "left" = some (.ref e)) :
    FnOk P w K mg base CX0 (n + 3) f fd ["column", "indent", "inside", "rest"] (spGroup n) := by
  refine F.ok scGroup (fun vs H Q E h => ?_) (fun cdv A outer s H vs Q E hr h => ?_)
  · obtain ⟨c, i, d, r, x, v, rfl, _⟩ := h
    rfl
  obtain ⟨c, i, d, r, x, v, rfl, hx, hv, hsm, hl, q⟩ := h
  have hr1 : Room 1 _ := hr.mono (by omega)
  refine ⟨_, pss_cons (ps_set (i := 4) scGroup.nd rfl (Or.inl rfl) (pe_tup (pa_cons pe_str (pa_cons (pv 0) (pa_cons (pe_tup (pa_cons (pe_tup (pa_cons (pv 1) (pa_cons (pv 2) pa_nil))) (StX.pa_star (pv 3) pa_nil))) (pa_cons pe_bl pa_nil))))))
    (pss_cons (ps_set (i := 5) scGroup.nd rfl (Or.inl rfl) (pe_call G hr rfl mG kG bG .nil pass0 (pa_cons (pv 2) pa_nil)))
    (pss_one (ps_ret (pe_ifExp (pt_cmpR op_isN (pv 5) pe_non (nomark _)) (pe_lst (pa_cons (pv 4) pa_nil))
      (pe_lst (pa_cons (pe_call L hr1 rfl mL kL bL .nil pass0 (pa_cons (pv 0) (pa_cons (pv 1) (pa_cons (pe_tup (pa_cons (pe_tup (pa_cons pe_str (pa_cons (pv 5) pa_nil))) pa_nil)) (pa_cons (pv 3) pa_nil))))) (pa_cons (pv 4) pa_nil))))))), ?_⟩
  refine ⟨_, rfl, _, rfl, _, rfl, big2, fun p1 n1 => ?_⟩
  generalize hu1 : upd H p1 _ = H1
  obtain ⟨s1, e1⟩ := new_of n1 hu1
  obtain ⟨a, ys, rfl, ha, hys⟩ := hv
  have hyl := hys.len
  refine ⟨_, rfl, a, ys, rfl, .inl (SqT.of (s1 _ _ ha)), ?_, fun p2 n2 => ?_⟩
  · show (ys ++ []).length + 1 ≤ sizeLine
    rw [List.append_nil, line_eq]
    omega
  generalize hu2 : upd H1 p2 _ = H2
  obtain ⟨s2, e2⟩ := new_of n2 hu2
  refine ⟨big4, fun p3 n3 => ?_⟩
  generalize hu3 : upd H2 p3 _ = H3
  obtain ⟨s3, e3⟩ := new_of n3 hu3
  have s13 := s1.trans (s2.trans s3)
  have brk : StAt H3 ⟨Str.empty, c, (i, d) :: r, true⟩ (.ref p3) := by
    have z : ys ++ [] = ys := List.append_nil _
    refine ⟨p3, .ref p2, rfl, e3, p2, _, rfl, s3 _ _ e2, .ref p1, _, rfl, ⟨p1, x, rfl, s3 _ _ (s2 _ _ e1), hx.mono (.of s13)⟩, ?_⟩
    rw [z]
    exact hys.mono (.of s13)
  refine ⟨_, rfl, d, x, rfl, hx.mono (.of s13), hsm, fun H4 s4 => ?_⟩
  have s14 := s13.trans s4
  refine ⟨_, rfl, rfl, _, rfl, ?_⟩
  show if decide (optV (flat d) = V.non) = true then _ else _
  rw [opt_none]
  cases hf : flat d with
  | none =>
    have ge : groupSteps c i d r = [⟨Str.empty, c, (i, d) :: r, true⟩] := by simp only [groupSteps, hf]
    rw [ge] at q
    exact iteY rfl ⟨_, rfl, big1, newly fun p5 H5 s5 e5 _ => q p5 _ H5 (s14.trans s5) e5 ⟨_, _, rfl, brk.mono (.of (s4.trans s5)), rfl⟩⟩
  | some x5 =>
    have ge : groupSteps c i d r = [left c i [.text x5] r, ⟨Str.empty, c, (i, d) :: r, true⟩] := by simp only [groupSteps, hf]
    rw [ge] at q
    refine iteN rfl ⟨_, rfl, _, rfl, _, rfl, big2, fun p5 n5 => ?_⟩
    generalize hu5 : upd H4 p5 _ = H5
    obtain ⟨s5, e5⟩ := new_of n5 hu5
    refine ⟨big1, fun p6 n6 => ?_⟩
    generalize hu6 : upd H5 p6 _ = H6
    obtain ⟨s6, e6⟩ := new_of n6 hu6
    have s16 := s14.trans (s5.trans s6)
    refine ⟨_, rfl, c, i, [.text x5], r, p6, _, .ref a, rfl, e6, ⟨.ref p5, [], rfl, ⟨p5, rfl, s6 _ _ e5⟩, rfl⟩, ⟨a, ys, rfl, s16 _ _ ha, hys.mono (.of s16)⟩, ?_, fun p7 H7 s7 e7 => ?_⟩
    · show 1 + r.length ≤ 1000000
      omega
    · exact ⟨_, rfl, big2, newly fun p8 H8 s8 e8 _ => q p8 _ H8 (s16.trans (s7.trans s8)) e8 ⟨_, _, rfl, e7.mono (.of s8), _, _, rfl, brk.mono (.of (s4.trans (s5.trans (s6.trans (s7.trans s8))))), rfl⟩⟩
end LK

/-! K16Inside -/
namespace LK
open PySem L2 LD
variable {P : Program} {w : World} {K : PySem.W.Frag} {mg : Str → Option Value} {base : Heap}

def spFillSt : Sp := fun vs H Q _ => ∃ (c : Col) (i : Nat) (ds : List Doc) (r : Rest) (b : Addr) (xs : List V) (v : V), vs = [colV c, .int i, .ref b, v] ∧ H b = some (.tup xs) ∧ DsAt H ds xs ∧ RAt H r v ∧ ds.length + r.length ≤ 900000 ∧
  ∀ p H', Same H H' → StAt H' (fillStep c i ds r) (.ref p) → Q (.ref p) H'
abbrev nFillSt : List Str := ["column", "indent", "documents", "rest"]
theorem scFillSt : FnScope nFillSt ["column", "indent", "documents", "rest"] (defScope sFillSt) := ⟨rfl, rfl, rfl, by decide +kernel, rfl, by decide +kernel, by decide +kernel⟩
theorem ok_fillSt {f e : Addr} {fd ed : FuncData} (F : Fun K "fill_step" "fill_step" sFillSt f fd)
    (L : FnOk P w K mg base CX0 1 e ed ["column", "indent", "documents", "rest"] spLeft) (bL : Binds K ed ["column", "indent", "documents", "rest"] []) (kL : PySem.W.keepIn K (.ref e) = true) (mL : mg "left" = some (.ref e)) (T : Tp mg) :
    FnOk P w K mg base CX0 2 f fd ["column", "indent", "documents", "rest"] spFillSt := by
  refine F.ok scFillSt (fun vs H Q E h => ?_) (fun cdv A outer s H vs Q E hr h => ?_)
  · obtain ⟨c, i, ds, r, b, xs, v, rfl, _⟩ := h
    rfl
  obtain ⟨c, i, ds, r, b, xs, v, rfl, hb, hx, hv, hl, q⟩ := h
  refine ⟨_, pss_cons (ps_if (pt_cmpR op_lt (pe_callB call_len_seq (by rfl) T.len PySem.boot_len (pa_cons (pv 2) pa_nil)) pe_int (nomark _)) (pss_one (ps_ret (pe_call L hr rfl mL kL bL .nil pass0 (pa_cons (pv 0) (pa_cons (pv 1) (pa_cons (pv 2) (pa_cons (pv 3) pa_nil))))))) pss_nil)
    (pss_one (ps_ret (pe_call L hr rfl mL kL bL .nil pass0 (pa_cons (pv 0) (pa_cons (pv 1) (pa_cons (pe_tup (pa_cons (pe_ix ix_tup (pv 2) pe_int (fun _ _ => rfl)) (pa_cons (pe_tup (pa_cons pe_str pa_nil)) (pa_cons (pe_tup (pa_cons pe_str (pa_cons (pe_slice sl_tup (pv 2) (po_some pe_int) po_none) pa_nil))) pa_nil)))) (pa_cons (pv 3) pa_nil))))))), ?_⟩
  have xl := hx.len
  refine ⟨_, rfl, b, xs, rfl, .inr (SqT.of hb), _, _, rfl, rfl, _, rfl, ite2 (fun c1 => ?_) (fun c1 => ?_)⟩
  · have c1 : (xs.length : Int) < 2 := of_decide_eq_true c1
    have fe : fillStep c i ds r = left c i ds r := by
      match ds with
      | [] => rfl
      | [d] => rfl
      | d :: e :: es => simp only [List.length_cons] at xl; omega
    rw [fe] at q
    exact ⟨_, rfl, _, rfl, _, rfl, _, rfl, c, i, ds, r, b, xs, v, rfl, hb, hx, hv, by omega, q⟩
  · have c1 : ¬ (xs.length : Int) < 2 := fun z => c1 (decide_eq_true z)
    obtain ⟨d, d2, es, rfl⟩ : ∃ d d2 es, ds = d :: d2 :: es := by
      match ds with
      | [] => simp only [List.length_nil] at xl; omega
      | [d] => simp only [List.length_cons, List.length_nil] at xl; omega
      | d :: e :: es => exact ⟨d, e, es, rfl⟩
    obtain ⟨x, ys, rfl, hx1, hx2⟩ := hx
    refine ⟨_, rfl, _, rfl, _, rfl, b, _, 0, x, rfl, rfl, SqT.of hb, atI_nat (j := 0) rfl, big1, fun p1 n1 => ?_⟩
    generalize hu1 : upd H p1 _ = H1
    obtain ⟨s1, e1⟩ := new_of n1 hu1
    refine ⟨_, rfl, _, rfl, b, _, rfl, SqT.of (s1 _ _ hb), not_all (i := 1) (by decide) (Nat.le_add_left 1 _), fun p2 n2 => ?_⟩
    generalize hu2 : upd H1 p2 _ = H2
    obtain ⟨s2, e2⟩ := new_of n2 hu2
    rw [cut1] at e2
    refine ⟨big2, fun p3 n3 => ?_⟩
    generalize hu3 : upd H2 p3 _ = H3
    obtain ⟨s3, e3⟩ := new_of n3 hu3
    refine ⟨big3, fun p4 n4 => ?_⟩
    generalize hu4 : upd H3 p4 _ = H4
    obtain ⟨s4, e4⟩ := new_of n4 hu4
    have s14 := s1.trans (s2.trans (s3.trans s4))
    refine ⟨_, rfl, c, i, [d, .gap, .fill (d2 :: es)], r, p4, _, v, rfl, e4, ?_, hv.mono (.of s14), ?_, fun p5 H5 s5 e5 => q p5 H5 (s14.trans s5) e5⟩
    · exact ⟨x, _, rfl, hx1.mono (.of s14), .ref p1, _, rfl, ⟨p1, rfl, s4 _ _ (s3 _ _ (s2 _ _ e1))⟩, .ref p3, [], rfl, ⟨p3, p2, ys, rfl, s4 _ _ e3, s4 _ _ (s3 _ _ e2), hx2.mono (.of s14)⟩, rfl⟩
    · simp only [List.length_cons, List.length_nil] at hl ⊢
      omega

/-- what leaves others -/
def Inside (d : Doc) : Prop := kd d = .nest ∨ kd d = .align ∨ kd d = .group ∨ kd d = .choice ∨ kd d = .fill ∨ kd d = .row
def spInside (n : Nat) : Sp := fun vs H Q _ => ∃ (c : Col) (i : Nat) (d : Doc) (r : Rest) (x v : V), vs = [colV c, .int i, x, v] ∧ DAt H d x ∧ Inside d ∧ RAt H r v ∧ Sm (n + 1) d ∧ (inner d).length + r.length ≤ 400000 ∧
  ∀ p xs H', Same H H' → H' p = some (.lst xs) → StsAt H' (stepsOf c i d r) xs → Q (.ref p) H'
abbrev nInside : List Str := ["column", "indent", "document", "rest", "word", "one"]
theorem scInside : FnScope nInside ["column", "indent", "document", "rest"] (defScope sInside) := ⟨rfl, rfl, rfl, by decide +kernel, rfl, by decide +kernel, by decide +kernel⟩
theorem ok_inside {n : Nat} {f g e u : Addr} {fd gd ed ud : FuncData} (F : Fun K "inside_steps" "inside_steps" sInside f fd) (G : FnOk P w K mg base CX0 (n + 3) g gd ["column", "indent", "inside", "rest"] (spGroup n)) (bG : Binds K gd ["column", "indent", "inside", "rest"] []) (kG : PySem.W.keepIn K (.ref g) = true) (mG : mg "group_steps" = some (.ref g))
    (L : FnOk P w K mg base CX0 1 e ed ["column", "indent", "documents", "rest"] spLeft) (bL : Binds K ed ["column", "indent", "documents", "rest"] []) (kL : PySem.W.keepIn K (.ref e) = true) (mL : mg "left" = some (.ref e))
    (U : FnOk P w K mg base CX0 2 u ud ["column", "indent", "documents", "rest"] spFillSt) (bU : Binds K ud ["column", "indent", "documents", "rest"] []) (kU : PySem.W.keepIn K (.ref u) = true) (mU : mg "fill_step" = some (.ref u)) :
    FnOk P w K mg base CX0 (n + 4) f fd ["column", "indent", "document", "rest"] (spInside n) := by
  refine F.ok scInside (fun vs H Q E h => ?_) (fun cdv A outer s H vs Q E hr h => ?_)
  · obtain ⟨c, i, d, r, x, v, rfl, _⟩ := h
    rfl
  obtain ⟨c, i, d, r, x, v, rfl, hd, hin, hv, hsm, hl, q⟩ := h
  have hr1 : Room 1 _ := hr.mono (by omega)
  have hr2 : Room 2 _ := hr.mono (by omega)
  refine ⟨_, pss_cons (ps_set (i := 4) scInside.nd rfl (Or.inl rfl) (pe_ix ix_tup (pv 2) pe_int (fun _ _ => rfl)))
    (pss_cons (ps_if (pt_cmp (pc_is (pv 4)) (nomark _)) (pss_one (ps_ret (pe_lst (pa_cons (pe_call L hr1 rfl mL kL bL .nil pass0 (pa_cons (pv 0) (pa_cons (pe_op op_add (pv 1) (pe_ix ix_tup (pv 2) pe_int (fun _ _ => rfl))) (pa_cons (pe_slice sl_tup (pv 2) (po_some pe_int) po_none) (pa_cons (pv 3) pa_nil))))) pa_nil)))) pss_nil)
    (pss_cons (ps_if (pt_cmp (pc_is (pv 4)) (nomark _)) (pss_one (ps_ret (pe_lst (pa_cons (pe_call L hr1 rfl mL kL bL .nil pass0 (pa_cons (pv 0) (pa_cons (pe_ifExp (pt_cmpR op_isN (pv 0) pe_non (nomark _)) (pv 1) (pv 0)) (pa_cons (pe_slice sl_tup (pv 2) (po_some pe_int) po_none) (pa_cons (pv 3) pa_nil))))) pa_nil)))) pss_nil)
    (pss_cons (ps_if (pt_cmp (pc_is (pv 4)) (nomark _)) (pss_one (ps_ret (pe_call G hr rfl mG kG bG .nil pass0 (pa_cons (pv 0) (pa_cons (pv 1) (pa_cons (pe_ix ix_tup (pv 2) pe_int (fun _ _ => rfl)) (pa_cons (pv 3) pa_nil))))))) pss_nil)
    (pss_cons (ps_if (pt_cmp (pc_is (pv 4)) (nomark _)) (pss_one (ps_ret (pe_lc (own := [("one", 5)]) (g := gName 5) (tt := tYes) rfl scInside.nd (pi_tup (pe_slice sl_tup (pv 2) (po_some pe_int) po_none))
        (blkOk_by (N := nInside) (own := [("one", 5)]) (sc := defScope sInside) (by decide +kernel)) (fun _ _ _ _ _ => pg_name (i := 5) scInside.nd rfl (Or.inl rfl)) (fun _ _ _ _ _ => pts_nil)
        (fun _ _ _ _ _ => pe_call L hr1 rfl mL kL bL .nil pass0 (pa_cons (pv 0) (pa_cons (pv 1) (pa_cons (pe_tup (pa_cons (pv 5) pa_nil)) (pa_cons (pv 3) pa_nil)))))))) pss_nil)
    (pss_one (ps_ret (pe_lst (pa_cons (pe_ifExp (pt_cmp (pc_is (pv 4)) (nomark _)) (pe_call U hr2 rfl mU kU bU .nil pass0 (pa_cons (pv 0) (pa_cons (pv 1) (pa_cons (pe_ix ix_tup (pv 2) pe_int (fun _ _ => rfl)) (pa_cons (pv 3) pa_nil)))))
        (pe_call L hr1 rfl mL kL bL .nil pass0 (pa_cons (pv 0) (pa_cons (pv 1) (pa_cons (pe_ix ix_tup (pv 2) pe_int (fun _ _ => rfl)) (pa_cons (pv 3) pa_nil)))))) pa_nil)))))))), ?_⟩
  obtain ⟨a, ys, rfl, ha⟩ := hd.head
  refine ⟨_, rfl, a, _, 0, _, rfl, rfl, SqT.of ha, atI_nat (j := 0) rfl, _, rfl, _, rfl, _, rfl, ite2 (fun c1 => ?_) (fun c1 => ⟨_, rfl, _, rfl, _, rfl, ite2 (fun c2 => ?_) (fun c2 => ⟨_, rfl, _, rfl, _, rfl, ite2 (fun c3 => ?_) (fun c3 => ⟨_, rfl, _, rfl, _, rfl, ite2 (fun c4 => ?_) (fun c4 => ?_)⟩)⟩)⟩)⟩
  · obtain ⟨m, d, rfl⟩ := kd_nest (is_yes .nest c1)
    obtain ⟨a', x, e1, h, hx⟩ := hd
    cases e1
    cases up_inj ha h
    refine ⟨_, rfl, _, rfl, _, rfl, a, _, 1, .int m, rfl, rfl, SqT.of ha, rfl, _, _, rfl, rfl, _, rfl, _, rfl, a, _, rfl, SqT.of ha, not_all (i := 2) (by decide) (Nat.le_add_left 1 _), fun p1 n1 => ?_⟩
    generalize hu1 : upd H p1 _ = H1
    obtain ⟨s1, e1⟩ := new_of n1 hu1
    rw [cut2] at e1
    exact ⟨_, rfl, c, i + m, [d], r, p1, [x], v, rfl, e1, ⟨x, [], rfl, hx.mono (.of s1), rfl⟩, hv.mono (.of s1), by simp only [inner, List.length_cons, List.length_nil] at hl ⊢; omega,
      fun p2 H2 s2 e2 => ⟨big1, newly fun p3 H3 s3 e3 _ => q p3 _ H3 (s1.trans (s2.trans s3)) e3 ⟨_, _, rfl, e2.mono (.of s3), rfl⟩⟩⟩
  · obtain ⟨d, rfl⟩ := kd_align (is_yes .align c2)
    obtain ⟨a', x, e1, h, hx⟩ := hd
    cases e1
    cases up_inj ha h
    refine ⟨_, rfl, _, rfl, rfl, _, rfl, ?_⟩
    show if decide (colV c = V.non) = true then _ else _
    rw [col_none]
    cases c with
    | none =>
      refine iteY rfl ⟨_, rfl, _, rfl, _, rfl, a, _, rfl, SqT.of ha, not_all (i := 1) (by decide) (Nat.le_add_left 1 _), fun p1 n1 => ?_⟩
      generalize hu1 : upd H p1 _ = H1
      obtain ⟨s1, e1⟩ := new_of n1 hu1
      rw [cut1] at e1
      exact ⟨_, rfl, none, i, [d], r, p1, [x], v, rfl, e1, ⟨x, [], rfl, hx.mono (.of s1), rfl⟩, hv.mono (.of s1), by simp only [inner, List.length_cons, List.length_nil] at hl ⊢; omega,
        fun p2 H2 s2 e2 => ⟨big1, newly fun p3 H3 s3 e3 _ => q p3 _ H3 (s1.trans (s2.trans s3)) e3 ⟨_, _, rfl, e2.mono (.of s3), rfl⟩⟩⟩
    | some k =>
      refine iteN rfl ⟨_, rfl, _, rfl, _, rfl, a, _, rfl, SqT.of ha, not_all (i := 1) (by decide) (Nat.le_add_left 1 _), fun p1 n1 => ?_⟩
      generalize hu1 : upd H p1 _ = H1
      obtain ⟨s1, e1⟩ := new_of n1 hu1
      rw [cut1] at e1
      exact ⟨_, rfl, some k, k, [d], r, p1, [x], v, rfl, e1, ⟨x, [], rfl, hx.mono (.of s1), rfl⟩, hv.mono (.of s1), by simp only [inner, List.length_cons, List.length_nil] at hl ⊢; omega,
        fun p2 H2 s2 e2 => ⟨big1, newly fun p3 H3 s3 e3 _ => q p3 _ H3 (s1.trans (s2.trans s3)) e3 ⟨_, _, rfl, e2.mono (.of s3), rfl⟩⟩⟩
  · obtain ⟨d, rfl⟩ := kd_group (is_yes .group c3)
    obtain ⟨a', x, e1, h, hx⟩ := hd
    cases e1
    cases up_inj ha h
    exact ⟨_, rfl, _, rfl, _, rfl, a, _, 1, x, rfl, rfl, SqT.of ha, rfl, _, rfl, c, i, d, r, x, v, rfl, hx, hv, hsm.inner (e := d) (List.mem_singleton.mpr rfl), by omega, fun p xs H' s e hs => q p xs H' s e hs⟩
  · obtain ⟨d, d', rfl⟩ := kd_choice (is_yes .choice c4)
    obtain ⟨a', x, y, e1, h, hx, hy⟩ := hd
    cases e1
    cases up_inj ha h
    refine ⟨_, rfl, _, rfl, a, _, rfl, SqT.of ha, not_all (i := 1) (by decide) (Nat.le_add_left 1 _), fun p1 n1 => ?_⟩
    generalize hu1 : upd H p1 _ = H1
    obtain ⟨s1, e1⟩ := new_of n1 hu1
    rw [cut1] at e1
    refine ⟨p1, rfl, ⟨_, SqT.of e1⟩, fun D hD => ?_⟩
    refine lc_tup (K := K) (a := p1) (xs := [x, y]) (fun j H' => Same H1 H' ∧ ∃ acc, H' D = some (.lst acc) ∧ acc.length = j ∧ StsAt H' ((stepsOf c i (.choice d d') r).take j) acc) ⟨same_new hD _, [], upd_same, rfl, rfl⟩ (fun j H' _ z => SqT.of (z.1 _ _ e1)) ?_ ?_
    · rintro j z H2 hz ⟨s2, acc, hacc, hlen, hst⟩
      have hj : j < 2 := (List.getElem?_eq_some_iff.mp hz).1
      have s12 := s1.trans s2
      obtain ⟨e, hz', he⟩ : ∃ e, DAt H e z ∧ (stepsOf c i (.choice d d') r)[j]? = some (left c i [e] r) := by
        match j, hj with
        | 0, _ => cases hz; exact ⟨d, hx, rfl⟩
        | 1, _ => cases hz; exact ⟨d', hy, rfl⟩
      refine ⟨rfl, _, rfl, _, rfl, _, rfl, big1, fun p3 n3 => ?_⟩
      generalize hu3 : upd H2 p3 _ = H3
      obtain ⟨s3, e3⟩ := new_of n3 hu3
      have s13 := s12.trans s3
      refine ⟨_, rfl, c, i, [e], r, p3, [z], v, rfl, e3, ⟨z, [], rfl, hz'.mono (.of s13), rfl⟩, hv.mono (.of s13), by simp only [inner, List.length_cons, List.length_nil] at hl ⊢; omega, fun p4 H4 s4 e4 => ?_⟩
      have hD4 : H4 D = some (.lst acc) := s4 _ _ (s3 _ _ hacc)
      refine ⟨acc, hD4, by rw [hlen, line_eq]; omega, same_upd (s2.trans (s3.trans s4)) hD, acc ++ [.ref p4], upd_same, by rw [List.length_append, hlen]; rfl, ?_⟩
      rw [List.take_add_one, he]
      exact ((hst.mono (.of (s3.trans s4))).snoc e4).mono (tk_upd hD4)
    · rintro H2 ⟨s2, acc, hacc, hlen, hst⟩
      exact q D acc H2 (s1.trans s2) hacc hst
  · refine ⟨_, rfl, _, rfl, _, rfl, ite2 (fun c5 => ?_) (fun c5 => ?_)⟩
    · obtain ⟨ds, rfl⟩ := kd_fill (is_yes .fill c5)
      obtain ⟨a', b, xs, e1, h, hb, hx⟩ := hd
      cases e1
      cases up_inj ha h
      exact ⟨_, rfl, _, rfl, _, rfl, a, _, 1, .ref b, rfl, rfl, SqT.of ha, rfl, _, rfl, c, i, ds, r, b, xs, v, rfl, hb, hx, hv, Nat.le_trans hl (by decide),
        fun p2 H2 s2 e2 => ⟨big1, newly fun p3 H3 s3 e3 _ => q p3 _ H3 (s2.trans s3) e3 ⟨_, _, rfl, e2.mono (.of s3), rfl⟩⟩⟩
    · have k : kd d = .row := by
        rcases hin with k | k | k | k | k | k
        · exact absurd k (is_no .nest c1)
        · exact absurd k (is_no .align c2)
        · exact absurd k (is_no .group c3)
        · exact absurd k (is_no .choice c4)
        · exact absurd k (is_no .fill c5)
        · exact k
      obtain ⟨ds, rfl⟩ := kd_row k
      obtain ⟨a', b, xs, e1, h, hb, hx⟩ := hd
      cases e1
      cases up_inj ha h
      exact ⟨_, rfl, _, rfl, _, rfl, a, _, 1, .ref b, rfl, rfl, SqT.of ha, rfl, _, rfl, c, i, ds, r, b, xs, v, rfl, hb, hx, hv, Nat.le_trans hl (by decide),
        fun p2 H2 s2 e2 => ⟨big1, newly fun p3 H3 s3 e3 _ => q p3 _ H3 (s2.trans s3) e3 ⟨_, _, rfl, e2.mono (.of s3), rfl⟩⟩⟩
end LK

/-! K17Steps -/
namespace LK
open PySem L2 LD
variable {P : Program} {w : World} {K : PySem.W.Frag} {mg : Str → Option Value} {base : Heap}

def spSteps (n : Nat) : Sp := fun vs H Q _ => ∃ (c : Col) (i : Nat) (d : Doc) (r : Rest) (v : V), vs = [colV c, v] ∧ RAt H ((i, d) :: r) v ∧ Sm (n + 1) d ∧ i ≤ 4000000 ∧ (inner d).length + r.length ≤ 400000 ∧
  ∀ p xs H', Same H H' → H' p = some (.lst xs) → StsAt H' (stepsOf c i d r) xs → Q (.ref p) H'
abbrev nSteps : List Str := ["column", "rest", "indent", "document", "behind", "word", "steps"]
theorem scSteps : FnScope nSteps ["column", "rest"] (defScope sSteps) := ⟨rfl, rfl, rfl, by decide +kernel, rfl, by decide +kernel, by decide +kernel⟩
theorem ok_steps {n : Nat} {f g e u t : Addr} {fd gd ed ud td : FuncData} (F : Fun K "steps_from" "steps_from" sSteps f fd)
    (G : FnOk P w K mg base CX0 2 g gd ["column", "indent", "string"] spPut) (bG : Binds K gd ["column", "indent", "string"] []) (kG : PySem.W.keepIn K (.ref g) = true) (mG : mg "put" = some (.ref g))
    (L : FnOk P w K mg base CX0 1 e ed ["column", "rest"] spEnded) (bL : Binds K ed ["column", "rest"] []) (kL : PySem.W.keepIn K (.ref e) = true) (mL : mg "ended" = some (.ref e))
    (U : FnOk P w K mg base CX0 3 u ud ["column", "indent", "strings", "rest"] spRaw) (bU : Binds K ud ["column", "indent", "strings", "rest"] []) (kU : PySem.W.keepIn K (.ref u) = true) (mU : mg "raw_step" = some (.ref u))
    (T : FnOk P w K mg base CX0 (n + 4) t td ["column", "indent", "document", "rest"] (spInside n)) (bT : Binds K td ["column", "indent", "document", "rest"] []) (kT : PySem.W.keepIn K (.ref t) = true) (mT : mg "inside_steps" = some (.ref t)) :
    FnOk P w K mg base CX0 (n + 5) f fd ["column", "rest"] (spSteps n) := by
  refine F.ok scSteps (fun vs H Q E h => ?_) (fun cdv A outer s H vs Q E hr h => ?_)
  · obtain ⟨c, i, d, r, v, rfl, _⟩ := h
    rfl
  obtain ⟨c, i, d, r, v, rfl, hv, hsm, hi, hl, q⟩ := h
  have hr1 : Room 1 _ := hr.mono (by omega)
  have hr2 : Room 2 _ := hr.mono (by omega)
  have hr3 : Room 3 _ := hr.mono (by omega)
  refine ⟨_, pss_cons (ps_asg (pe_tup (pa_cons (pe_ix ix_tup (pv 1) pe_int (fun _ _ => rfl)) (pa_cons (pe_slice sl_tup (pv 1) (po_some pe_int) po_none) pa_nil)))
      (pg_tup rfl (pgs_cons (pg_tup rfl (pgs_cons (pg_name (i := 2) scSteps.nd rfl (Or.inl rfl)) (pgs_cons (pg_name (i := 3) scSteps.nd rfl (Or.inl rfl)) pgs_nil))) (pgs_cons (pg_name (i := 4) scSteps.nd rfl (Or.inl rfl)) pgs_nil))))
    (pss_cons (ps_set (i := 5) scSteps.nd rfl (Or.inl rfl) (pe_ix ix_tup (pv 3) pe_int (fun _ _ => rfl)))
    (pss_cons (ps_if (pt_cmp (pc_is (pv 5)) (nomark _)) (pss_one (ps_ret (pe_lst (pa_cons (pe_tup (StX.pa_star (pe_call G hr2 rfl mG kG bG .nil pass0 (pa_cons (pv 0) (pa_cons (pv 2) (pa_cons (pe_ix ix_tup (pv 3) pe_int (fun _ _ => rfl)) pa_nil)))) (pa_cons (pv 4) (pa_cons pe_bl pa_nil)))) pa_nil)))) pss_nil)
    (pss_cons (ps_if (pt_cmp (pc_in2 (pv 5)) (by with_unfolding_all rfl)) (pss_one (ps_ret (pe_lst (pa_cons (pe_call L hr1 rfl mL kL bL .nil pass0 (pa_cons (pv 0) (pa_cons (pv 4) pa_nil))) pa_nil)))) pss_nil)
    (pss_cons (ps_if (pt_cmp (pc_is (pv 5)) (nomark _)) (pss_one (ps_ret (pe_lst (pa_cons (pe_tup (pa_cons (pe_ifExp (pt_cmpR op_isN (pv 0) pe_non (nomark _)) pe_str pe_str) (pa_cons pe_non (pa_cons (pv 4) (pa_cons pe_bl pa_nil))))) pa_nil)))) pss_nil)
    (pss_cons (ps_if (pt_cmp (pc_is (pv 5)) (nomark _)) (pss_cons (ps_set (i := 6) scSteps.nd rfl (Or.inl rfl) (pe_lst (pa_cons (pe_call L hr1 rfl mL kL bL .nil pass0 (pa_cons (pv 0) (pa_cons (pv 4) pa_nil))) pa_nil)))
        (pss_one (ps_ret (pe_ifExp (pt_cmpR op_isN (pv 0) pe_non (nomark _)) (pv 6) (pe_lst (pa_cons (pe_tup (pa_cons pe_str (pa_cons (pe_op op_add (pv 0) pe_int) (pa_cons (pv 4) (pa_cons pe_bl pa_nil))))) (StX.pa_star (pv 6) pa_nil))))))) pss_nil)
    (pss_cons (ps_if (pt_cmp (pc_is (pv 5)) (nomark _)) (pss_one (ps_ret (pe_lst (pa_cons (pe_call U hr3 rfl mU kU bU .nil pass0 (pa_cons (pv 0) (pa_cons (pv 2) (pa_cons (pe_ix ix_tup (pv 3) pe_int (fun _ _ => rfl)) (pa_cons (pv 4) pa_nil))))) pa_nil)))) pss_nil)
    (pss_one (ps_ret (pe_call T hr rfl mT kT bT .nil pass0 (pa_cons (pv 0) (pa_cons (pv 2) (pa_cons (pv 3) (pa_cons (pv 4) pa_nil))))))))))))), ?_⟩
  obtain ⟨a0, zs, rfl, ha0, z, zr, rfl, ⟨p0, x, rfl, hp0, hd0⟩, hr0⟩ := hv
  refine ⟨_, rfl, a0, _, 0, .ref p0, rfl, rfl, SqT.of ha0, atI_nat (j := 0) rfl, _, rfl, _, rfl, a0, _, rfl, SqT.of ha0, not_all (i := 1) (by decide) (Nat.le_add_left 1 _), fun p1 n1 => ?_⟩
  generalize hu1 : upd H p1 _ = H1
  obtain ⟨s1, e1⟩ := new_of n1 hu1
  rw [cut1] at e1
  refine ⟨big2, fun p2 n2 => ?_⟩
  generalize hu2 : upd H1 p2 _ = H2
  obtain ⟨s2, e2⟩ := new_of n2 hu2
  have s12 := s1.trans s2
  have hp : H2 p0 = some (.tup [.int i, x]) := s12 _ _ hp0
  have hd : DAt H2 d x := hd0.mono (.of s12)
  have hr' : RAt H2 r (.ref p1) := ⟨p1, zr, rfl, s2 _ _ e1, hr0.mono (.of s12)⟩
  have q : ∀ p xs H', Same H2 H' → H' p = some (.lst xs) → StsAt H' (stepsOf c i d r) xs → Q (.ref p) H' := fun p xs H' s => q p xs H' (s12.trans s)
  clear hu1 hu2 s1 s2 s12 e1 hd0 hr0 ha0 hp0
  refine ⟨p2, _, rfl, SqT.of e2, rfl, _, _, rfl, ⟨p0, _, rfl, SqT.of hp, rfl, _, _, rfl, _, _, rfl, rfl, ?_⟩⟩
  refine ⟨_, _, rfl, rfl, ?_⟩
  obtain ⟨a, ys, rfl, ha⟩ := hd.head
  refine ⟨_, rfl, a, _, 0, _, rfl, rfl, SqT.of ha, atI_nat (j := 0) rfl, _, rfl, _, rfl, _, rfl, ite2 (fun c1 => ?_) (fun c1 => ⟨_, rfl, _, rfl, fun H3 s3 => ⟨_, rfl, ite2 (fun c2 => ?_) (fun c2 => ⟨_, rfl, _, rfl, _, rfl, ite2 (fun c3 => ?_) (fun c3 => ⟨_, rfl, _, rfl, _, rfl, ite2 (fun c4 => ?_) (fun c4 => ⟨_, rfl, _, rfl, _, rfl, ite2 (fun c5 => ?_) (fun c5 => ?_)⟩)⟩)⟩)⟩⟩)⟩
  · obtain ⟨x, rfl⟩ := kd_text (is_yes .text c1)
    obtain ⟨a', e1, h⟩ := hd
    cases e1
    cases up_inj ha h
    have := hsm.sz
    simp only [sz] at this
    refine ⟨_, rfl, _, rfl, _, rfl, a, _, 1, .str x, rfl, rfl, SqT.of ha, rfl, c, i, x, rfl, by omega, by omega, fun p3 H3 s3 e3 => ?_⟩
    refine ⟨p3, _, rfl, .inl (SqT.of e3), _, rfl, big4, fun p4 n4 => ?_⟩
    generalize hu4 : upd H3 p4 _ = H4
    obtain ⟨s4, e4⟩ := new_of n4 hu4
    have s24 := s3.trans s4
    exact ⟨big1, newly fun p5 H5 s5 e5 _ => q p5 _ H5 (s24.trans s5) e5 ⟨_, _, rfl, ⟨p4, .ref p1, rfl, s5 _ _ e4, hr'.mono (.of (s24.trans s5))⟩, rfl⟩⟩
  · have st : stepsOf c i d r = [ended c r] := by
      rcases in2_yes .line .hard c2 with k | k
      · obtain ⟨x, rfl⟩ := kd_line k
        rfl
      · cases kd_hard k
        rfl
    rw [st] at q
    exact ⟨_, rfl, _, rfl, c, r, .ref p1, rfl, hr'.mono (.of s3), fun p4 H4 s4 e4 => ⟨big1, newly fun p5 H5 s5 e5 _ => q p5 _ H5 (s3.trans (s4.trans s5)) e5 ⟨_, _, rfl, e4.mono (.of s5), rfl⟩⟩⟩
  · cases kd_blank (is_yes .blank c3)
    refine ⟨_, rfl, rfl, _, rfl, ?_⟩
    show if decide (colV c = V.non) = true then _ else _
    rw [col_none]
    have fin : ∀ x : Str, x = (if c.isNone then cLf else cLf2) → [V.non, V.ref p1, V.bl false].length + 1 ≤ sizeLine ∧ ∀ p, H3 p = none → ([V.ref p].length ≤ sizeLine ∧ ∀ p', upd H3 p (.tup [.str x, .non, .ref p1, .bl false]) p' = none → Q (.ref p') (upd (upd H3 p (.tup [.str x, .non, .ref p1, .bl false])) p' (.lst [.ref p]))) := fun x hx => by
      refine ⟨big4, fun p4 n4 => ?_⟩
      generalize hu4 : upd H3 p4 _ = H4
      obtain ⟨s4, e4⟩ := new_of n4 hu4
      rw [hx] at e4
      exact ⟨big1, newly fun p5 H5 s5 e5 _ => q p5 _ H5 (s3.trans (s4.trans s5)) e5 ⟨_, _, rfl, ⟨p4, .ref p1, rfl, s5 _ _ e4, hr'.mono (.of (s3.trans (s4.trans s5)))⟩, rfl⟩⟩
    cases c with
    | none => exact iteY rfl ⟨_, rfl, fin _ rfl⟩
    | some k => exact iteN rfl ⟨_, rfl, fin _ rfl⟩
  · cases kd_gap (is_yes .gap c4)
    refine ⟨_, rfl, _, rfl, c, r, .ref p1, rfl, hr'.mono (.of s3), fun p4 H4 s4 e4 => ⟨big1, fun p5 n5 => ?_⟩⟩
    generalize hu5 : upd H4 p5 _ = H5
    obtain ⟨s5, e5⟩ := new_of n5 hu5
    have s35 := s3.trans (s4.trans s5)
    refine ⟨_, rfl, rfl, _, rfl, ?_⟩
    show if decide (colV c = V.non) = true then _ else _
    rw [col_none]
    cases c with
    | none => exact iteY rfl ⟨_, rfl, q p5 _ H5 s35 e5 ⟨_, _, rfl, e4.mono (.of s5), rfl⟩⟩
    | some k =>
      refine iteN rfl ⟨_, rfl, _, _, rfl, rfl, _, rfl, big4, fun p6 n6 => ?_⟩
      generalize hu6 : upd H5 p6 _ = H6
      obtain ⟨s6, e6⟩ := new_of n6 hu6
      refine ⟨_, rfl, p5, _, rfl, .inr (SqL.of (s6 _ _ e5)), big2, newly fun p7 H7 s7 e7 _ => q p7 _ H7 (s35.trans (s6.trans s7)) e7 ⟨_, _, rfl, ⟨p6, .ref p1, rfl, s7 _ _ e6, hr'.mono (.of (s35.trans (s6.trans s7)))⟩, _, _, rfl, e4.mono (.of (s5.trans (s6.trans s7))), rfl⟩⟩
  · obtain ⟨ss, rfl⟩ := kd_raw (is_yes .raw c5)
    obtain ⟨a', b, e1, h, hb, hne⟩ := hd
    cases e1
    cases up_inj ha h
    have := hsm.sz
    simp only [sz] at this
    exact ⟨_, rfl, _, rfl, _, rfl, a, _, 1, .ref b, rfl, rfl, SqT.of (s3 _ _ ha), rfl, _, rfl, c, i, ss, r, b, .ref p1, rfl, s3 _ _ hb, hne, hr'.mono (.of s3), by omega, by omega,
      fun p4 H4 s4 e4 => ⟨big1, newly fun p5 H5 s5 e5 _ => q p5 _ H5 (s3.trans (s4.trans s5)) e5 ⟨_, _, rfl, e4.mono (.of s5), rfl⟩⟩⟩
  · have hin : Inside d := by
      have d1 := is_no .text c1
      have d2 := in2_no .line .hard c2
      have d3 := is_no .blank c3
      have d4 := is_no .gap c4
      have d5 := is_no .raw c5
      unfold Inside
      cases hk : kd d with
      | text => exact absurd hk d1
      | line => exact absurd hk d2.1
      | hard => exact absurd hk d2.2
      | blank => exact absurd hk d3
      | gap => exact absurd hk d4
      | raw => exact absurd hk d5
      | nest => exact .inl rfl
      | align => exact .inr (.inl rfl)
      | group => exact .inr (.inr (.inl rfl))
      | choice => exact .inr (.inr (.inr (.inl rfl)))
      | fill => exact .inr (.inr (.inr (.inr (.inl rfl))))
      | row => exact .inr (.inr (.inr (.inr (.inr rfl))))
    exact ⟨_, rfl, _, rfl, _, rfl, _, rfl, c, i, d, r, .ref a, .ref p1, rfl, hd.mono (.of s3), hin, hr'.mono (.of s3), hsm, hl, fun p xs H' s e h => q p xs H' (s3.trans s) e h⟩
end LK

/-! K18Walked -/
namespace LK
open PySem L2 LD
variable {P : Program} {w : World} {K : PySem.W.Frag} {mg : Str → Option Value} {base : Heap}
abbrev sWalked : Stmt := top 18

/-! ### what a step leaves is small -/
theorem sm_leaf {n : Nat} {d : Doc} (h1 : dep d = 1) (h2 : sz d ≤ 1000000) (h3 : wt d = 1) : Sm (n + 1) d := ⟨by omega, h2, by omega⟩
theorem steps_sm {n : Nat} {c : Col} {i : Nat} {d : Doc} {r : Rest} {st : LD.Step} (hd : Sm (n + 1) d) (hr : ∀ x ∈ r, Sm (n + 1) x.2) (hst : st ∈ stepsOf c i d r) : ∀ x ∈ st.r, Sm (n + 1) x.2 := by
  have one : ∀ {s t : LD.Step}, s ∈ [t] → s = t := fun h => List.mem_singleton.mp h
  have up : ∀ {e : Doc}, e ∈ inner d → Sm (n + 1) e := fun h => by
    have := hd.inner h
    exact ⟨Nat.le_trans this.dep (Nat.le_succ _), this.sz, this.wt⟩
  have lf : ∀ {j : Nat} {ds : List Doc}, (∀ e ∈ ds, Sm (n + 1) e) → ∀ x ∈ (left c j ds r).r, Sm (n + 1) x.2 := fun {j ds} h x hx => by
    rcases List.mem_append.mp hx with hx | hx
    · obtain ⟨e, he, rfl⟩ := List.mem_map.mp hx
      exact h e he
    · exact hr x hx
  have br : ∀ {e : Doc} {j : Nat}, Sm (n + 1) e → ∀ x ∈ ((j, e) :: r : Rest), Sm (n + 1) x.2 := fun h x hx => by
    rcases List.mem_cons.mp hx with hx | hx
    · rw [hx]; exact h
    · exact hr x hx
  cases d with
  | text s => cases one hst; exact hr
  | line s => cases one hst; exact hr
  | hard => cases one hst; exact hr
  | blank => cases one hst; exact hr
  | gap =>
    cases c with
    | none => cases one hst; exact hr
    | some k =>
      rcases List.mem_cons.mp hst with hst | hst
      · cases hst; exact hr
      · cases one hst; exact hr
  | raw ss => cases one hst; exact hr
  | nest m d => cases one hst; exact lf fun e he => up he
  | align d => cases one hst; exact lf fun e he => up he
  | group d =>
    have hsz := hd.sz
    simp only [sz] at hsz
    simp only [stepsOf, groupSteps] at hst
    split at hst
    · cases one hst; exact br (up (List.mem_singleton.mpr rfl))
    · rename_i f hf
      rcases List.mem_cons.mp hst with hst | hst
      · cases hst
        refine lf fun e he => ?_
        rw [List.mem_singleton.mp he]
        have := flat_len d f hf
        exact sm_leaf rfl (by simp only [sz]; omega) rfl
      · cases one hst; exact br (up (List.mem_singleton.mpr rfl))
  | choice a b =>
    rcases List.mem_cons.mp hst with hst | hst
    · cases hst
      exact lf fun e he => up (by rw [List.mem_singleton.mp he]; exact List.mem_cons_self ..)
    · cases one hst
      exact lf fun e he => up (by rw [List.mem_singleton.mp he]; exact List.mem_cons_of_mem _ (List.mem_cons_self ..))
  | fill ds =>
    cases one hst
    match ds, hd, @up with
    | [], hd, up => exact lf fun e he => up he
    | [d], hd, up => exact lf fun e he => up he
    | d :: d2 :: es, hd, up =>
      refine lf fun e he => ?_
      simp only [List.mem_cons, List.not_mem_nil, or_false] at he
      rcases he with he | he | he
      · rw [he]; exact up (List.mem_cons_self ..)
      · rw [he]; exact sm_leaf rfl (by simp only [sz]; omega) rfl
      · rw [he]
        have h1 := hd.dep
        have h2 := hd.sz
        have h3 := hd.wt
        simp only [dep, sz, wt, depL, szF, wtF] at h1 h2 h3
        exact ⟨by simp only [dep, depL]; omega, by simp only [sz, szF]; omega, by simp only [wt, wtF]; omega⟩
  | row ds => cases one hst; exact lf fun e he => up he
theorem rest_len : ∀ r : Rest, r.length ≤ wtR r
  | [] => Nat.le_refl _
  | x :: r => by
    have := rest_len r
    have := wt_pos x.2
    simp only [wtR, List.length_cons]
    omega
/-- small enough to be walked -/
structure Fit (n : Nat) (d : Doc) : Prop where
  dep : dep d ≤ n
  sz : sz d ≤ 100000
  wt : wt d ≤ 100000
  all : LD.wt d * (LD.sz d + 2) ≤ 16000000
theorem Fit.sm {n : Nat} {d : Doc} (h : Fit n d) : Sm n d := ⟨h.dep, Nat.le_trans h.sz (by decide), Nat.le_trans h.wt (by decide)⟩
/-- what holds between two turns -/
structure Going (n : Nat) (d : Doc) (ways : List Nat) (s : WS) : Prop where
  ends : Ends ways (tr d) s
  lim : Lim (sz d) s.c s.r
  sm : ∀ x ∈ s.r, Sm (n + 1) x.2
  len : (s.w.map (·.length)).sum + wtR s.r * (sz d + 2) ≤ 16000000
  many : s.w.length + wtR s.r ≤ 100000
theorem Going.start {n : Nat} {d : Doc} (ways : List Nat) (h : Fit (n + 1) d) : Going n d ways ⟨none, [(0, d)], [], [], 0⟩ where
  ends := Ends.start ways d
  lim := Lim.start d
  sm := fun x hx => by
    rw [List.mem_singleton.mp hx]
    exact h.sm
  len := by
    have := h.all
    simp only [List.map_nil, List.sum_nil, wtR, Nat.zero_add, Nat.add_zero]
    exact this
  many := by
    have := h.wt
    simp only [List.length_nil, wtR]
    omega
theorem Going.step {n : Nat} {d e : Doc} {ways : List Nat} {s : WS} {i : Nat} {r : Rest} (g : Going n d ways s) (hw : ∀ k ∈ ways, k < 2) (hr : s.r = (i, e) :: r) :
    ∃ st, chosen ways s.t (stepsOf s.c i e r) = some st ∧ Going n d ways (s.by (taken ways s.t (stepsOf s.c i e r)) st) ∧ wtR st.r < wtR s.r := by
  obtain ⟨st, h1, h2, h3⟩ := g.ends.step hw hr
  have hl := steps_less h2
  have lim := g.lim
  rw [hr] at lim
  obtain ⟨l1, l2⟩ := steps_lim lim h2
  have sm := g.sm
  rw [hr] at sm
  have wr : wtR s.r = wt e + wtR r := by rw [hr]; rfl
  refine ⟨st, h1, ⟨h3, l1, steps_sm (sm _ (List.mem_cons_self ..)) (fun x hx => sm x (List.mem_cons_of_mem _ hx)) h2, ?_, ?_⟩, by omega⟩
  · have a := g.len
    have m : (wtR st.r + 1) * (sz d + 2) ≤ wtR s.r * (sz d + 2) := Nat.mul_le_mul_right _ (by omega)
    rw [Nat.succ_mul] at m
    show (((s.w ++ [st.w]).map (·.length)).sum + wtR st.r * (sz d + 2)) ≤ _
    rw [List.map_append, List.sum_append, List.map_singleton, List.sum_singleton]
    omega
  · have a := g.many
    show (s.w ++ [st.w]).length + wtR st.r ≤ _
    rw [List.length_append, List.length_singleton]
    omega
theorem Going.few {n : Nat} {d : Doc} {ways : List Nat} {s : WS} (g : Going n d ways s) : s.t.length < (texts d).length := by
  have a := congrArg List.length g.ends.way
  rw [List.length_append] at a
  have b := (tr d).go_len ways
  rw [tr_leaves] at b
  omega
theorem at_snoc {α : Type} (xs : List α) (y : α) : atI (xs ++ [y]) (-1) = some y := by
  have hl : (xs ++ [y]).length = xs.length + 1 := by rw [List.length_append]; rfl
  unfold atI
  have e : ixN (xs ++ [y]).length (-1) = some xs.length := by
    unfold ixN
    rw [if_neg (by omega), hl, if_pos (by omega)]
    refine congrArg some ?_
    omega
  rw [e]
  show (xs ++ [y])[xs.length]? = some y
  rw [List.getElem?_append_right (Nat.le_refl _), Nat.sub_self]
  rfl
end LK

/-! K19Walked -/
namespace LK
open PySem L2 LD
variable {P : Program} {w : World} {K : PySem.W.Frag} {mg : Str → Option Value} {base : Heap}

abbrev numV (ks : List Nat) : List V := ks.map fun k => V.int (k : Nat)
/-- a walk's answer -/
def WkAt (H : Hp) (x : Str) (ks : List Nat) (p : Addr) : Prop := ∃ (b : Addr) (m : Nat), H p = some (.tup [.str x, .ref b, .int m]) ∧ H b = some (.tup (numV ks))
def spWalked (n : Nat) : Sp := fun vs H Q _ => ∃ (d : Doc) (v : V) (ways : List Nat) (wa : Addr), vs = [v, .ref wa] ∧ DAt H d v ∧ Fit (n + 1) d ∧ (texts d).length ≤ 1000 ∧ H wa = some (.tup (numV ways)) ∧ (∀ k ∈ ways, k < 2) ∧ ways.length ≤ 1000 ∧
  ∀ p H', Same H H' → WkAt H' ((tr d).go ways).1 ((tr d).go ways).2 p → Q (.ref p) H'
abbrev nWalked : List Str := ["document", "ways", "column", "rest", "written", "taken", "broken", "steps", "string", "is_broken"]
theorem scWalked : FnScope nWalked ["document", "ways"] (defScope sWalked) := ⟨rfl, rfl, rfl, by decide +kernel, rfl, by decide +kernel, by decide +kernel⟩
theorem sts_ref {H : Hp} {sts : List LD.Step} {ss : List V} (h : StsAt H sts ss) (hn : sts ≠ []) : ∃ a ys, ss = .ref a :: ys := by
  cases sts with
  | nil => exact absurd rfl hn
  | cons st sts =>
    obtain ⟨x, ys, e, ⟨a, r, e2, _⟩, _⟩ := h
    exact ⟨a, ys, by rw [e, e2]⟩
theorem steps_ne (c : Col) (i : Nat) (d : Doc) (r : Rest) : stepsOf c i d r ≠ [] := by
  rcases steps_few c i d r with ⟨s, e⟩ | ⟨s, t, e⟩ <;> (rw [e]; exact fun z => by cases z)
theorem ref_num {a : Addr} {ys : List V} {l : List Nat} : V.ref a :: ys ≠ numV l := by
  cases l with
  | nil => exact fun z => by cases z
  | cons k l => exact fun z => by cases z
theorem ref_str {a : Addr} {ys : List V} {l : List Str} : V.ref a :: ys ≠ l.map V.str := by
  cases l with
  | nil => exact fun z => by cases z
  | cons k l => exact fun z => by cases z
/-- the loop's state -/
structure Loop (n : Nat) (d : Doc) (ways : List Nat) (v : V) (wa : Addr) (H : Hp) (s : WS) (σ : L2.St) (H' : Hp) : Prop where
  going : Going n d ways s
  same : Same H H'
  st : ∃ (rv : V) (wr tk : Addr) (x7 x8 x9 : Option V), σ = [some v, some (.ref wa), some (colV s.c), some rv, some (.ref wr), some (.ref tk), some (.int (s.b : Nat)), x7, x8, x9] ∧ RAt H' s.r rv ∧
    H wr = none ∧ H tk = none ∧ wr ≠ tk ∧ H' wr = some (.lst (s.w.map V.str)) ∧ H' tk = some (.lst (numV s.t))
theorem ok_walked {n : Nat} {f g : Addr} {fd gd : FuncData} (F : Fun K "walked" "walked" sWalked f fd)
    (G : FnOk P w K mg base CX0 (n + 5) g gd ["column", "rest"] (spSteps n)) (bG : Binds K gd ["column", "rest"] []) (kG : PySem.W.keepIn K (.ref g) = true) (mG : mg "steps_from" = some (.ref g)) (T : Tp mg) :
    FnOk P w K mg base CX0 (n + 6) f fd ["document", "ways"] (spWalked n) := by
  refine F.ok scWalked (fun vs H Q E h => ?_) (fun cdv A outer s H vs Q E hr h => ?_)
  · obtain ⟨d, v, ways, wa, rfl, _⟩ := h
    rfl
  obtain ⟨d, v, ways, wa, rfl, hd, hfit, hfew, hwa, htwo, hwl, q⟩ := h
  have hu : A.units + 3 + 64 < cLine := hr.units
  refine ⟨_, pss_cons (ps_asg (pe_tup (pa_cons pe_non (pa_cons (pe_tup (pa_cons (pe_tup (pa_cons pe_int (pa_cons (pv 0) pa_nil))) pa_nil)) (pa_cons (pe_lst pa_nil) (pa_cons (pe_lst pa_nil) (pa_cons pe_int pa_nil))))))
      (pg_tup rfl (pgs_cons (pg_name (i := 2) scWalked.nd rfl (Or.inl rfl)) (pgs_cons (pg_name (i := 3) scWalked.nd rfl (Or.inl rfl)) (pgs_cons (pg_name (i := 4) scWalked.nd rfl (Or.inl rfl)) (pgs_cons (pg_name (i := 5) scWalked.nd rfl (Or.inl rfl)) (pgs_cons (pg_name (i := 6) scWalked.nd rfl (Or.inl rfl)) pgs_nil)))))))
    (pss_cons (ps_while PassesOwn.never (pt_cmpR (op_neT0 hr.units) (pv 3) (pe_tup pa_nil) (nomark _))
      (pss_cons (ps_set (i := 7) scWalked.nd rfl (Or.inl rfl) (pe_call G hr rfl mG kG bG .nil pass0 (pa_cons (pv 2) (pa_cons (pv 3) pa_nil))))
      (C8.pss_cut (ps_if (pt_cmpR op_eq (pe_callB call_len_seq (by rfl) T.len PySem.boot_len (pa_cons (pv 7) pa_nil)) pe_int (nomark _))
          (pss_one (ps_expr (pe_bm PySem.F.plainAttrs_list PySem.F.slot_list_append PySem.F.type_list_append mt_append (pv 5) (pa_cons (pe_ifExp (pt_cmpR op_lt (pe_callB call_len_seq (by rfl) T.len PySem.boot_len (pa_cons (pv 5) pa_nil)) (pe_callB call_len_seq (by rfl) T.len PySem.boot_len (pa_cons (pv 1) pa_nil)) (nomark _))
            (pe_ix ix_tup (pv 1) (pe_callB call_len_seq (by rfl) T.len PySem.boot_len (pa_cons (pv 5) pa_nil)) (fun _ _ => rfl)) pe_int) pa_nil)))) pss_nil)
      (pss_cons (ps_asg (pe_ix ix_list (pv 7) (pe_ifExp (pt_cmpR op_eq (pe_callB call_len_seq (by rfl) T.len PySem.boot_len (pa_cons (pv 7) pa_nil)) pe_int (nomark _)) (pe_ix ix_list (pv 5) (pe_un un_neg pe_int) (fun _ _ => rfl)) pe_int) (fun _ _ => rfl))
          (pg_tup rfl (pgs_cons (pg_name (i := 8) scWalked.nd rfl (Or.inl rfl)) (pgs_cons (pg_name (i := 2) scWalked.nd rfl (Or.inl rfl)) (pgs_cons (pg_name (i := 3) scWalked.nd rfl (Or.inl rfl)) (pgs_cons (pg_name (i := 9) scWalked.nd rfl (Or.inl rfl)) pgs_nil))))))
      (pss_cons (ps_expr (pe_bm PySem.F.plainAttrs_list PySem.F.slot_list_append PySem.F.type_list_append mt_append (pv 4) (pa_cons (pv 8) pa_nil)))
      (pss_one (ps_aug (i := 6) scWalked.nd rfl (Or.inl rfl) (pe_callTy call_int1 (by rfl) T.int (by decide +kernel) (pa_cons (pv 9) pa_nil)) ip_add))))))
    )
    (pss_one (ps_ret (pe_tup (pa_cons (pe_join pe_str (pv 4)) (pa_cons (pe_callTy call_tuple_of (by rfl) T.tuple (by decide +kernel) (pa_cons (pv 5) pa_nil)) (pa_cons (pv 6) pa_nil))))))), ?_⟩
  -- the start
  refine ⟨_, rfl, big2, fun p1 n1 => ?_⟩
  generalize hu1 : upd H p1 _ = H1
  obtain ⟨s1, e1⟩ := new_of n1 hu1
  refine ⟨big1, fun p2 n2 => ?_⟩
  generalize hu2 : upd H1 p2 _ = H2
  obtain ⟨s2, e2⟩ := new_of n2 hu2
  refine ⟨Nat.zero_le _, fun p3 n3 => ?_⟩
  generalize hu3 : upd H2 p3 _ = H3
  obtain ⟨s3, e3⟩ := new_of n3 hu3
  refine ⟨Nat.zero_le _, fun p4 n4 => ?_⟩
  generalize hu4 : upd H3 p4 _ = H4
  obtain ⟨s4, e4⟩ := new_of n4 hu4
  refine ⟨(by decide : (5 : Nat) ≤ sizeLine), fun p5 n5 => ?_⟩
  generalize hu5 : upd H4 p5 _ = H5
  obtain ⟨s5, e5⟩ := new_of n5 hu5
  have s14 := s1.trans (s2.trans (s3.trans s4))
  have s15 := s14.trans s5
  refine ⟨p5, _, rfl, SqT.of e5, rfl, _, _, rfl, _, _, rfl, _, _, rfl, _, _, rfl, _, _, rfl, rfl, ?_⟩
  have st0 : Loop n d ways v wa H ⟨none, [(0, d)], [], [], 0⟩ _ H5 := ⟨Going.start ways hfit, s15, .ref p2, p3, p4, none, none, none, rfl, ⟨p2, _, rfl, s5 _ _ (s4 _ _ (s3 _ _ e2)), .ref p1, [], rfl, ⟨p1, v, rfl, s5 _ _ (s4 _ _ (s3 _ _ (s2 _ _ e1))), hd.mono (.of s15)⟩, rfl⟩,
    s1.free (s2.free n3), s1.free (s2.free (s3.free n4)), ne_of_none e3 n4, s5 _ _ (s4 _ _ e3), s5 _ _ e4⟩
  refine ⟨fun m σ H' => ∃ ws : WS, Loop n d ways v wa H ws σ H' ∧ m = wtR ws.r, ⟨_, _, st0, rfl⟩, ?_⟩
  rintro m σ H6 ⟨ws, ⟨going, same, rv, wr, tk, x7, x8, x9, rfl, ⟨ra, xs, rfl, hra, hxs⟩, nwr, ntk, nwt, hwr, htk⟩, hm⟩
  refine ⟨_, rfl, Nat.zero_le _, fun p6 n6 => ?_⟩
  generalize hu6 : upd H6 p6 _ = H7
  obtain ⟨s7, e7⟩ := new_of n6 hu6
  have same7 := same.trans s7
  refine ⟨ra, p6, xs, rfl, rfl, SqT.of (s7 _ _ hra), SqT.of e7, _, rfl, ?_⟩
  have hfew2 := going.few
  have hmany := going.many
  cases hr0 : ws.r with
  | nil =>
    rw [hr0] at hxs
    have : xs = [] := hxs
    subst this
    obtain ⟨t1, t2⟩ := going.ends.done hr0
    have hl := going.len
    refine iteN rfl ⟨⟨_, rfl⟩, _, rfl, _, wr, ws.w, rfl, rfl, .inl (SqL.of (s7 _ _ hwr)), ?_, _, rfl, tk, _, rfl, .inl ⟨SqL.of (s7 _ _ htk), fun p8 n8 => ?_⟩⟩
    · have : Str.length (Str.ofString "") = 0 := by decide
      rw [this]
      omega
    generalize hu8 : upd H7 p8 _ = H8
    obtain ⟨s8, e8⟩ := new_of n8 hu8
    refine ⟨_, rfl, big3, newly fun p9 H9 s9 e9 _ => q p9 H9 (same7.trans (s8.trans s9)) ⟨p8, ws.b, ?_, ?_⟩⟩
    · rw [e9, ← t1]
      show some (HO.tup [.str (Txt.join Str.empty _), _, _]) = _
      rw [TL.join_eq]
    · rw [← t2]
      exact s9 _ _ e8
  | cons it r =>
    obtain ⟨i, e⟩ := it
    obtain ⟨st, hst, going', hless⟩ := going.step htwo hr0
    have hwr0 : wtR ws.r = wt e + wtR r := by rw [hr0]; rfl
    have hsm : Sm (n + 1) e := going.sm (i, e) (by rw [hr0]; exact List.mem_cons_self ..)
    have hi : i ≤ 100000 := by
      have := going.lim.ind (i, e) (by rw [hr0]; exact List.mem_cons_self ..)
      have := hfit.sz
      omega
    rw [hr0] at hxs
    have hxn : xs.isEmpty = false := by
      obtain ⟨x, ys, rfl, _⟩ := hxs
      rfl
    refine iteY (by rw [hxn]; rfl) ⟨fun σ' H' => ∃ ws' : WS, Loop n d ways v wa H ws' σ' H' ∧ wtR ws'.r < wtR ws.r, fun σ' H' ⟨ws', l, hlt⟩ => ⟨_, by rw [hm]; exact hlt, ws', l, rfl⟩, ?_⟩
    refine ⟨_, rfl, _, rfl, ws.c, i, e, r, .ref ra, rfl, ⟨ra, xs, rfl, s7 _ _ hra, hxs.mono (.of s7)⟩, hsm, by omega, ?_, fun sl ss H8 s8 e8 hss => ?_⟩
    · have := inner_len e
      have := rest_len r
      omega
    have same8 := same7.trans s8
    have hwr8 := s8 _ _ (s7 _ _ hwr)
    have htk8 := s8 _ _ (s7 _ _ htk)
    have hsl : ss.length = (stepsOf ws.c i e r).length := hss.len
    have ltk : (numV ws.t).length = ws.t.length := List.length_map _
    have lwa : (numV ways).length = ways.length := List.length_map _
    obtain ⟨sa, sr, hss1⟩ := sts_ref hss (steps_ne _ _ _ _)
    have nst : sl ≠ tk := ne_of e8 htk8 (by
      rw [hss1]
      intro z
      injection z with z
      exact ref_num z)
    have nsw : sl ≠ wr := ne_of e8 hwr8 (by
      rw [hss1]
      intro z
      injection z with z
      exact ref_str z)
    generalize hS : stepsOf ws.c i e r = S at hss hst hsl going'
    refine ⟨fun σ' H' => σ' = [some v, some (.ref wa), some (colV ws.c), some (.ref ra), some (.ref wr), some (.ref tk), some (.int (ws.b : Nat)), some (.ref sl), x8, x9] ∧ Same H H' ∧ H' wr = some (.lst (ws.w.map V.str)) ∧
      H' tk = some (.lst (numV (taken ways ws.t S))) ∧ H' sl = some (.lst ss) ∧ StsAt H' S ss, ?_, ?_⟩
    · refine ⟨_, rfl, sl, ss, rfl, .inl (SqL.of e8), rfl, _, rfl, ite2 (fun c1 => ?_) (fun c1 => ?_)⟩
      · have c1 : S.length = 2 := by
          have c1 := of_decide_eq_true c1
          injection c1 with c1
          omega
        have tk2 : taken ways ws.t S = ws.t ++ [pick ways ws.t] := by
          unfold taken
          rw [if_pos c1]
        rw [tk2]
        have put_ : ∀ j : Nat, j = pick ways ws.t → ∃ l xs y, V.ref tk = V.ref l ∧ [V.int (j : Nat)] = [y] ∧ H8 l = some (.lst xs) ∧ xs.length < sizeLine ∧
            (([some v, some (.ref wa), some (colV ws.c), some (.ref ra), some (.ref wr), some (.ref tk), some (.int (ws.b : Nat)), some (.ref sl), x8, x9] : L2.St) = [some v, some (.ref wa), some (colV ws.c), some (.ref ra), some (.ref wr), some (.ref tk), some (.int (ws.b : Nat)), some (.ref sl), x8, x9] ∧
              Same H (upd H8 l (.lst (xs ++ [y]))) ∧ (upd H8 l (.lst (xs ++ [y]))) wr = some (.lst (ws.w.map V.str)) ∧ (upd H8 l (.lst (xs ++ [y]))) tk = some (.lst (numV (ws.t ++ [pick ways ws.t]))) ∧ (upd H8 l (.lst (xs ++ [y]))) sl = some (.lst ss) ∧ StsAt (upd H8 l (.lst (xs ++ [y]))) S ss) := fun j hj => by
          refine ⟨tk, _, _, rfl, rfl, htk8, ?_, rfl, same_upd same8 ntk, by rw [upd_ne nwt]; exact hwr8, ?_, by rw [upd_ne nst]; exact e8, hss.mono (tk_upd htk8)⟩
          · rw [ltk, line_eq]
            omega
          · rw [upd_same, hj]
            show _ = some (HO.lst ((ws.t ++ [pick ways ws.t]).map _))
            rw [List.map_append]
            rfl
        refine ⟨_, rfl, .inl ⟨rfl, _, Or.inl (Or.inl htk8)⟩, _, rfl, tk, _, rfl, .inl (SqL.of htk8), _, rfl, wa, _, rfl, .inr (SqT.of (same8 _ _ hwa)), _, _, rfl, rfl, _, rfl, ite2 (fun c2 => ?_) (fun c2 => ?_)⟩
        · have c2 : ws.t.length < ways.length := by
            have c2 := of_decide_eq_true c2
            omega
          refine ⟨_, rfl, _, rfl, tk, _, rfl, .inl (SqL.of htk8), wa, _, _, .int (pick ways ws.t : Nat), rfl, rfl, SqT.of (same8 _ _ hwa), ?_, put_ _ rfl⟩
          rw [ltk]
          refine atI_nat ?_
          rw [List.getElem?_map, List.getElem?_eq_getElem c2]
          show some (V.int _) = _
          unfold pick
          rw [if_pos c2, List.getD_eq_getElem?_getD, List.getElem?_eq_getElem c2]
          rfl
        · refine put_ 0 ?_
          unfold pick
          rw [if_neg fun z => c2 (decide_eq_true (by rw [ltk, lwa]; omega))]
      · have c1 : S.length ≠ 2 := fun z => c1 (decide_eq_true (by rw [hsl, z]; rfl))
        have tk2 : taken ways ws.t S = ws.t := by
          unfold taken
          rw [if_neg c1]
        rw [tk2]
        exact ⟨rfl, same8, hwr8, htk8, e8, hss⟩
    · rintro σ9 H9 ⟨rfl, same9, hwr9, htk9, hsl9, hss9⟩
      obtain ⟨j, hj, hj2, hj0⟩ : ∃ j, S[j]? = some st ∧ (S.length = 2 → j = pick ways ws.t) ∧ (S.length ≠ 2 → j = 0) := by
        unfold chosen at hst
        by_cases c : S.length = 2
        · rw [if_pos c] at hst
          exact ⟨_, hst, fun _ => rfl, fun z => absurd c z⟩
        · rw [if_neg c] at hst
          exact ⟨_, hst, fun z => absurd z c, fun _ => rfl⟩
      obtain ⟨y, hy, a, rv2, rfl, ha, hra2⟩ := hss9.get hj
      have hwl9 : (ws.w.map V.str).length < sizeLine := by
        rw [List.length_map, line_eq]
        omega
      refine ⟨_, rfl, _, rfl, sl, ss, rfl, .inl (SqL.of hsl9), rfl, _, rfl, ite2 (fun c1 => ⟨_, rfl, _, rfl, tk, _, -1, .int (j : Nat), rfl, rfl, SqL.of htk9, ?_, sl, ss, _, .ref a, rfl, rfl, SqL.of hsl9, atI_nat hy, a, _, rfl, SqT.of ha, rfl, _, _, rfl, _, _, rfl, _, _, rfl, _, _, rfl, rfl, ?_⟩)
        (fun c1 => ⟨sl, ss, 0, .ref a, rfl, rfl, SqL.of hsl9, ?_, a, _, rfl, SqT.of ha, rfl, _, _, rfl, _, _, rfl, _, _, rfl, _, _, rfl, rfl, ?_⟩)⟩
      · have c1 : S.length = 2 := by
          have c1 := of_decide_eq_true c1
          injection c1 with c1
          omega
        have tk2 : numV (taken ways ws.t S) = numV ws.t ++ [V.int (pick ways ws.t : Nat)] := by
          unfold taken
          rw [if_pos c1]
          exact List.map_append ..
        rw [tk2, hj2 c1]
        exact at_snoc _ _
      rotate_left
      · have c1 : S.length ≠ 2 := fun z => c1 (decide_eq_true (by rw [hsl, z]; rfl))
        have := hj0 c1
        subst this
        exact atI_nat (j := 0) hy
      rotate_left
      all_goals
        refine ⟨_, rfl, .inl ⟨rfl, _, Or.inl (Or.inl hwr9)⟩, _, rfl, wr, _, _, rfl, rfl, hwr9, hwl9, ?_⟩
        refine ⟨_, rfl, _, rfl, .inr ⟨_, rfl, _, _, rfl, rfl, ?_⟩⟩
        refine ⟨ws.by (taken ways ws.t S) st, ⟨going', same_upd same9 nwr, rv2, wr, tk, some (.ref sl), some (.str st.w), some (.bl st.b), ?_, hra2.mono (tk_upd hwr9), nwr, ntk, nwt, ?_, ?_⟩, hless⟩
        · have e : ((ws.b : Nat) : Int) + (if st.b = true then 1 else 0) = ((ws.by (taken ways ws.t S) st).b : Nat) := by
            show _ = ((ws.b + if st.b = true then 1 else 0 : Nat) : Int)
            split <;> rfl
          rw [← e]
          rfl
        · rw [upd_same]
          show _ = some (HO.lst ((ws.w ++ [st.w]).map V.str))
          rw [List.map_append]
          rfl
        · rw [upd_ne nwt.symm]
          exact htk9
end LK

/-! K20Walks -/
namespace LK
open PySem L2 LD
variable {P : Program} {w : World} {K : PySem.W.Frag} {mg : Str → Option Value} {base : Heap}
abbrev sLay : Stmt := top 19
abbrev sWalks : Stmt := top 20
abbrev sLays : Stmt := top 21

def spLay (n : Nat) : Sp := fun vs H Q _ => ∃ (d : Doc) (v : V) (wa : Addr), vs = [v, .ref wa] ∧ DAt H d v ∧ Fit (n + 1) d ∧ (texts d).length ≤ 1000 ∧ H wa = some (.tup []) ∧ ∀ H', Same H H' → Q (.str (first d)) H'
theorem scLay : FnScope ["document", "ways"] ["document", "ways"] (defScope sLay) := ⟨rfl, rfl, rfl, by decide +kernel, rfl, by decide +kernel, by decide +kernel⟩
theorem ok_lay {n : Nat} {f g : Addr} {fd gd : FuncData} (F : Fun K "layout_by" "layout_by" sLay f fd)
    (G : FnOk P w K mg base CX0 (n + 6) g gd ["document", "ways"] (spWalked n)) (bG : Binds K gd ["document", "ways"] []) (kG : PySem.W.keepIn K (.ref g) = true) (mG : mg "walked" = some (.ref g)) :
    FnOk P w K mg base CX0 (n + 7) f fd ["document", "ways"] (spLay n) := by
  refine F.ok scLay (fun vs H Q E h => ?_) (fun cdv A outer s H vs Q E hr h => ?_)
  · obtain ⟨d, v, wa, rfl, _⟩ := h
    rfl
  obtain ⟨d, v, wa, rfl, hd, hfit, hfew, hwa, q⟩ := h
  refine ⟨_, pss_one (ps_ret (pe_ix ix_tup (pe_call G hr rfl mG kG bG .nil pass0 (pa_cons (pv 0) (pa_cons (pv 1) pa_nil))) pe_int (fun _ _ => rfl))), ?_⟩
  exact ⟨_, rfl, _, rfl, d, v, [], wa, rfl, hd, hfit, hfew, hwa, (fun k h => by cases h), (by decide), fun p H' s' ⟨b, m, hp, _⟩ => ⟨p, _, 0, .str (first d), rfl, rfl, SqT.of hp, rfl, q H' s'⟩⟩

/-- the ways that are still to be gone -/
def WaysAt (H : Hp) : List (List Nat) → List V → Prop
  | [], xs => xs = []
  | q :: l, xs => ∃ a ys, xs = .ref a :: ys ∧ H a = some (.tup (numV q)) ∧ WaysAt H l ys
theorem WaysAt.mono {H H' : Hp} (k : Tk H H') : ∀ {l : List (List Nat)} {xs : List V}, WaysAt H l xs → WaysAt H' l xs
  | [], xs, e => e
  | q :: l, xs, ⟨a, ys, e, g, h⟩ => ⟨a, ys, e, k _ _ g, WaysAt.mono k h⟩
theorem WaysAt.len {H : Hp} : ∀ {l : List (List Nat)} {xs : List V}, WaysAt H l xs → xs.length = l.length
  | [], xs, e => by rw [show xs = [] from e]; rfl
  | q :: l, xs, ⟨a, ys, e, g, h⟩ => by rw [e, List.length_cons, List.length_cons, WaysAt.len h]
theorem WaysAt.app {H : Hp} : ∀ {l m : List (List Nat)} {xs ys : List V}, WaysAt H l xs → WaysAt H m ys → WaysAt H (l ++ m) (xs ++ ys)
  | [], m, xs, ys, e, h => by rw [show xs = [] from e]; exact h
  | q :: l, m, xs, ys, ⟨a, zs, e, g, h⟩, h' => by
    rw [e]
    exact ⟨a, zs ++ ys, rfl, g, WaysAt.app h h'⟩
theorem WaysAt.last {H : Hp} : ∀ {l : List (List Nat)} {q : List Nat} {xs : List V}, WaysAt H (l ++ [q]) xs → ∃ ys a, xs = ys ++ [.ref a] ∧ H a = some (.tup (numV q)) ∧ WaysAt H l ys
  | [], q, xs, ⟨a, ys, e, g, h⟩ => ⟨[], a, by rw [e, show ys = [] from h]; rfl, g, rfl⟩
  | p :: l, q, xs, ⟨a, ys, e, g, h⟩ => by
    obtain ⟨zs, b, e2, g2, h2⟩ := WaysAt.last h
    exact ⟨.ref a :: zs, b, by rw [e, e2]; rfl, g2, a, zs, rfl, g, h2⟩
theorem cut_to (xs : List V) (i : Nat) : cutV xs none (some (i : Int)) = xs.take i := by
  unfold cutV
  show (xs.drop 0).take (HT.sIx xs.length xs.length (some (i : Int)) - 0) = _
  rw [HT.sIx_nat, List.drop_zero, Nat.sub_zero]
  by_cases h : i ≤ xs.length
  · rw [Nat.min_eq_left h]
  · rw [Nat.min_eq_right (by omega), List.take_of_length_le (Nat.le_refl _), List.take_of_length_le (by omega)]
theorem num_take (ks : List Nat) (i : Nat) : (numV ks).take i = numV (ks.take i) := List.map_take.symm
theorem num_snoc (ks : List Nat) (k : Nat) : numV (ks ++ [k]) = numV ks ++ [V.int (k : Nat)] := List.map_append ..
theorem num_len (ks : List Nat) : (numV ks).length = ks.length := List.length_map _
theorem opens_take (n : Nat) (t : List Nat) (j : Nat) (h : j < t.length - n) : (opens n t).take (j + 1) = (opens n t).take j ++ [t.take (n + j) ++ [1]] := by
  have hl : (opens n t).length = t.length - n := by
    unfold opens
    rw [List.length_map, List.length_range']
  rw [List.take_add_one]
  have : (opens n t)[j]? = some (t.take (n + j) ++ [1]) := by
    unfold opens
    rw [List.getElem?_map, List.getElem?_range' (by omega)]
    simp
  rw [this]
  rfl
theorem opens_len (n : Nat) (t : List Nat) : (opens n t).length = t.length - n := by
  unfold opens
  rw [List.length_map, List.length_range']

def spWalks (n : Nat) : Sp := fun vs H Q _ => ∃ (d : Doc) (v : V), vs = [v] ∧ DAt H d v ∧ Fit (n + 1) d ∧ chs d ≤ 12 ∧ (texts d).length ≤ 900 ∧
  ∀ p (fs : List Fd) xs H', Same H H' → H' p = some (.lst xs) → FdsAt H' fs xs → (fs.map (·.2.1)).Perm (texts d) → Q (.ref p) H'
/-- the loop's state -/
structure LoopA (d : Doc) (v : V) (H : Hp) (fs : List Fd) (line : List (List Nat)) (σ : L2.St) (H' : Hp) : Prop where
  work : Work (tr d) (fs.map (·.2.1)) line
  same : Same H H'
  st : ∃ (fl ll : Addr) (fv lv : List V) (x3 x4 x5 x6 x7 : Option V), σ = [some v, some (.ref fl), some (.ref ll), x3, x4, x5, x6, x7] ∧ H fl = none ∧ H ll = none ∧ fl ≠ ll ∧
    H' fl = some (.lst fv) ∧ FdsAt H' fs fv ∧ H' ll = some (.lst lv) ∧ WaysAt H' line lv
abbrev nWalks : List Str := ["document", "found", "line", "begun", "text", "ways", "broken", "place"]
theorem scWalks : FnScope nWalks ["document"] (defScope sWalks) := ⟨rfl, rfl, rfl, by decide +kernel, rfl, by decide +kernel, by decide +kernel⟩
theorem ok_walks {n : Nat} {f g e : Addr} {fd gd ed : FuncData} {tm : Tok} (F : Fun K "all_walks" "all_walks" sWalks f fd)
    (C : FnOk P w K mg base CX0 (n + 3) e ed ["document"] (spChs (n + 1))) (bC : Binds K ed ["document"] []) (kC : PySem.W.keepIn K (.ref e) = true) (mC : mg "choices_in" = some (.ref e))
    (G : FnOk P w K mg base CX0 (n + 6) g gd ["document", "ways"] (spWalked n)) (bG : Binds K gd ["document", "ways"] []) (kG : PySem.W.keepIn K (.ref g) = true) (mG : mg "walked" = some (.ref g))
    (mM : mg "MOST_CHOICES" = some (.int 12 tm)) (T : Tp mg) :
    FnOk P w K mg base CX0 (n + 7) f fd ["document"] (spWalks n) := by
  refine F.ok scWalks (fun vs H Q E h => ?_) (fun cdv A outer s H vs Q E hr h => ?_)
  · obtain ⟨d, v, rfl, _⟩ := h
    rfl
  obtain ⟨d, v, rfl, hd, hfit, hch, hfew, q⟩ := h
  have hr3 : Room (n + 3) _ := hr.mono (by omega)
  refine ⟨_, pss_cons (ps_if (pt_cmpR op_gt (pe_call C hr3 rfl mC kC bC .nil pass0 (pa_cons (pv 0) pa_nil)) (pe_glob (v := V.int 12) rfl mM ⟨_, rfl⟩) (nomark _)) pss_never pss_nil)
    (pss_cons (ps_par (i := 1) (j := 2) rfl scWalks.nd rfl rfl (by decide) rfl rfl (pa_cons (pe_lst pa_nil) (pa_cons (pe_lst (pa_cons (pe_tup pa_nil) pa_nil)) pa_nil)) rfl)
    (pss_cons (ps_while PassesOwn.never (pt_cmpR (op_neL0 hr.units) (pv 2) (pe_lst pa_nil) (nomark _))
      (pss_cons (ps_set (i := 3) scWalks.nd rfl (Or.inl rfl) (pe_bm0 PySem.F.plainAttrs_list PySem.F.slot_list_pop PySem.F.type_list_pop mt_pop (pv 2)))
      (pss_cons (ps_asg (pe_call G hr rfl mG kG bG .nil pass0 (pa_cons (pv 0) (pa_cons (pv 3) pa_nil)))
          (pg_tup rfl (pgs_cons (pg_name (i := 4) scWalks.nd rfl (Or.inl rfl)) (pgs_cons (pg_name (i := 5) scWalks.nd rfl (Or.inr rfl)) (pgs_cons (pg_name (i := 6) scWalks.nd rfl (Or.inl rfl)) pgs_nil)))))
      (pss_cons (ps_expr (pe_bm PySem.F.plainAttrs_list PySem.F.slot_list_append PySem.F.type_list_append mt_append (pv 1) (pa_cons (pe_tup (pa_cons (pv 5) (pa_cons (pv 4) (pa_cons (pv 6) pa_nil)))) pa_nil)))
      (pss_one (ps_expr (pe_bm PySem.F.plainAttrs_list PySem.F.slot_list_extend PySem.F.type_list_extend mt_extend (pv 2) (pa_cons (pe_lc (own := [("place", 7)]) (g := gName 7) (tt := tYes) (te := tTup (StX.tStar K (tSl (rSlT K) (tVar 5) tNoPart (tPart (tVar 7))) (tCons (tC (.int 1)) tNil))) rfl scWalks.nd
          (pi_range2 rfl T.range (pa_cons (pe_callB call_len_seq (by rfl) T.len PySem.boot_len (pa_cons (pv 3) pa_nil)) (pa_cons (pe_callB call_len_seq (by rfl) T.len PySem.boot_len (pa_cons (pv 5) pa_nil)) pa_nil)))
          (blkOk_by (N := nWalks) (own := [("place", 7)]) (sc := defScope sWalks) (by decide +kernel)) (fun _ _ _ _ _ => pg_name (i := 7) scWalks.nd rfl (Or.inl rfl)) (fun _ _ _ _ _ => pts_nil)
          (fun _ _ _ _ _ => pe_tup (StX.pa_star (pe_slice sl_tup (pv 5) po_none (po_some (pv 7))) (pa_cons pe_int pa_nil)))) pa_nil))))))))
    (pss_one (ps_ret (pe_callB (cr_sortF hr.units) (by rfl) T.sorted (by decide +kernel) (pa_cons (pv 1) pa_nil)))))), ?_⟩
  refine ⟨_, rfl, d, v, rfl, hd, hfit.sm, fun H1 s1 => ⟨_, _, rfl, rfl, _, rfl, iteN (decide_eq_false (by omega)) ?_⟩⟩
  refine ⟨Nat.zero_le _, fun p2 n2 => ?_⟩
  generalize hu2 : upd H1 p2 _ = H2
  obtain ⟨s2, e2⟩ := new_of n2 hu2
  refine ⟨Nat.zero_le _, fun p3 n3 => ?_⟩
  generalize hu3 : upd H2 p3 _ = H3
  obtain ⟨s3, e3⟩ := new_of n3 hu3
  refine ⟨big1, fun p4 n4 => ?_⟩
  generalize hu4 : upd H3 p4 _ = H4
  obtain ⟨s4, e4⟩ := new_of n4 hu4
  have s14 := s1.trans (s2.trans (s3.trans s4))
  refine ⟨_, _, rfl, ?_⟩
  have st0 : LoopA d v H [] [[]] _ H4 := ⟨Work.start (tr d), s14, p2, p4, [], [.ref p3], none, none, none, none, none, rfl, s1.free n2, s1.free (s2.free (s3.free n4)), ne_of_none (s3 _ _ e2) n4, s4 _ _ (s3 _ _ e2), rfl, e4, p3, [], rfl, s4 _ _ e3, rfl⟩
  clear hu2 hu3 hu4 e2 e3 e4 n2 n3 n4 s2 s3 s4
  refine ⟨fun m σ H' => ∃ fs line, LoopA d v H fs line σ H' ∧ m = (line.flatMap (tr d).at).length, ⟨_, _, _, st0, rfl⟩, ?_⟩
  rintro m σ H5 ⟨fs, line, ⟨work, same, fl, ll, fv, lv, x3, x4, x5, x6, x7, rfl, nfl, nll, nfd, hfl, hfv, hll, hlv⟩, hm⟩
  refine ⟨_, rfl, Nat.zero_le _, fun p6 n6 => ?_⟩
  generalize hu6 : upd H5 p6 _ = H6
  obtain ⟨s6, e6⟩ := new_of n6 hu6
  have same6 := same.trans s6
  have hfl6 := s6 _ _ hfl
  have hll6 := s6 _ _ hll
  refine ⟨ll, p6, lv, rfl, rfl, SqL.of hll6, SqL.of e6, _, rfl, ?_⟩
  have few := work.few
  rw [tr_leaves, List.length_map] at few
  have hfl_len := hfv.len
  rcases List.eq_nil_or_concat line with rfl | ⟨l, ks, rfl⟩
  · have : lv = [] := hlv
    subst this
    have perm := work.end_
    rw [tr_leaves] at perm
    exact iteN rfl ⟨_, rfl, fl, fs, fv, rfl, hfl6, hfv.mono (.of s6), fun gs ys p hp hg np => q p gs ys _ (same6.trans (same_new np _)) upd_same (hg.mono (.of (same_new np _))) ((hp.map _).trans perm)⟩
  · rw [List.concat_eq_append] at *
    obtain ⟨ys, a, rfl, hka, hys⟩ := hlv.last
    obtain ⟨work', hless, hkl⟩ := work.turn
    have hok := work.ok ks (List.mem_append_right _ (List.mem_cons_self ..))
    have two := ok_two _ ks hok
    have hglen := (tr d).go_len ks
    rw [tr_leaves] at hglen
    generalize hG : (tr d).go ks = g at work' hless hkl hglen
    obtain ⟨tx, wy⟩ := g
    dsimp only at work' hless hkl hglen
    refine iteY (by rw [List.isEmpty_eq_false_iff.mpr (by simp)]; rfl) ⟨fun σ' H' => ∃ fs' line', LoopA d v H fs' line' σ' H' ∧ (line'.flatMap (tr d).at).length < ((l ++ [ks]).flatMap (tr d).at).length, fun σ' H' ⟨fs', line', lo, hlt⟩ => ⟨_, by rw [hm]; exact hlt, fs', line', lo, rfl⟩, ?_⟩
    refine ⟨_, rfl, .inl ⟨rfl, _, Or.inl (Or.inl hll6)⟩, ll, _, .ref a, rfl, rfl, hll6, ?_, ?_⟩
    · rw [List.length_append, List.length_singleton, Nat.add_sub_cancel, List.getElem?_append_right (Nat.le_refl _), Nat.sub_self]
      rfl
    rw [List.dropLast_concat]
    have tk7 : Tk H6 (upd H6 ll (.lst ys)) := tk_upd hll6
    have same7 : Same H (upd H6 ll (.lst ys)) := same_upd same6 nll
    have hfl7 : (upd H6 ll (.lst ys)) fl = some (.lst fv) := by rw [upd_ne nfd]; exact hfl6
    have hll7 : (upd H6 ll (.lst ys)) ll = some (.lst ys) := upd_same
    have hka7 := tk7 _ _ (s6 _ _ hka)
    have hfv7 := (hfv.mono (.of s6)).mono tk7
    have hys7 := (hys.mono (.of s6)).mono tk7
    generalize upd H6 ll (.lst ys) = H7 at tk7 same7 hfl7 hll7 hka7 hfv7 hys7
    have h7t : (texts d).length ≤ 1000 := by omega
    refine ⟨_, rfl, _, rfl, d, v, ks, a, rfl, hd.mono (.of same7), hfit, h7t, hka7, two, by omega, fun p8 H8 s8 hwk => ?_⟩
    rw [hG] at hwk
    dsimp only at hwk
    obtain ⟨b8, m8, e8, eb8⟩ := hwk
    refine ⟨p8, _, rfl, SqT.of e8, rfl, _, _, rfl, _, _, rfl, _, _, rfl, rfl, ?_⟩
    refine ⟨_, rfl, .inl ⟨rfl, _, Or.inl (Or.inl (s8 _ _ hfl7))⟩, _, rfl, _, rfl, _, rfl, big3, fun p9 n9 => ?_⟩
    generalize hu9 : upd H8 p9 _ = H9
    obtain ⟨s9, e9⟩ := new_of n9 hu9
    have s79 := s8.trans s9
    refine ⟨fl, fv, .ref p9, rfl, rfl, s79 _ _ hfl7, by rw [hfl_len, line_eq]; omega, ?_⟩
    have tk10 : Tk H9 (upd H9 fl (.lst (fv ++ [.ref p9]))) := tk_upd (s79 _ _ hfl7)
    have same10 : Same H (upd H9 fl (.lst (fv ++ [.ref p9]))) := same_upd (same7.trans s79) nfl
    have hfl10 : (upd H9 fl (.lst (fv ++ [.ref p9]))) fl = some (.lst (fv ++ [.ref p9])) := upd_same
    have hll10 : (upd H9 fl (.lst (fv ++ [.ref p9]))) ll = some (.lst ys) := by rw [upd_ne nfd.symm]; exact s79 _ _ hll7
    have hka10 := tk10 _ _ (s79 _ _ hka7)
    have hb10 := tk10 _ _ (s9 _ _ eb8)
    have hfv10 : FdsAt (upd H9 fl (.lst (fv ++ [.ref p9]))) (fs ++ [(wy, tx, m8)]) (fv ++ [.ref p9]) := ((hfv7.mono (.of s79)).snoc (f := (wy, tx, m8)) ⟨p9, b8, rfl, e9, s9 _ _ eb8⟩).mono tk10
    have hys10 := (hys7.mono (.of s79)).mono tk10
    generalize upd H9 fl (.lst (fv ++ [.ref p9])) = H10 at tk10 same10 hfl10 hll10 hka10 hb10 hfv10 hys10
    have lk := num_len ks
    have lw := num_len wy
    refine ⟨_, rfl, .inl ⟨rfl, _, Or.inl (Or.inl hll10)⟩, _, rfl, a, _, rfl, .inr (SqT.of hka10), _, rfl, b8, _, rfl, .inr (SqT.of hb10), _, _, rfl, ⟨by omega, by omega, by omega, by omega⟩, fun D hD => ?_⟩
    have hn : (((numV wy).length : Int) - ((numV ks).length : Int)).toNat = wy.length - ks.length := by omega
    rw [hn]
    refine lc_range (lo := ((numV ks).length : Int)) (n := wy.length - ks.length) (fun t H' => Same H10 H' ∧ ∃ acc, H' D = some (.lst acc) ∧ WaysAt H' ((opens ks.length wy).take t) acc) ⟨same_new hD _, [], upd_same, rfl⟩ ?_ ?_
    · rintro t H11 ht ⟨s11, acc, hacc, hwa⟩
      have hpl : ((numV ks).length : Int) + (t : Int) = ((ks.length + t : Nat) : Int) := by omega
      refine ⟨rfl, _, rfl, _, rfl, _, rfl, b8, _, rfl, SqT.of (s11 _ _ hb10), ?_, fun p12 n12 => ?_⟩
      · rintro ⟨_, z⟩
        rw [hpl, HT.sIx_nat] at z
        omega
      generalize hu12 : upd H11 p12 _ = H12
      obtain ⟨s12, e12⟩ := new_of n12 hu12
      rw [hpl, cut_to, num_take] at e12
      refine ⟨p12, _, rfl, .inl (SqT.of e12), ?_, fun p13 n13 => ?_⟩
      · rw [List.length_append, num_len, List.length_take]
        show _ + 1 ≤ _
        rw [line_eq]
        omega
      generalize hu13 : upd H12 p13 _ = H13
      obtain ⟨s13, e13⟩ := new_of n13 hu13
      have hacc13 := s13 _ _ (s12 _ _ hacc)
      refine ⟨acc, hacc13, ?_, same_upd (s11.trans (s12.trans s13)) hD, acc ++ [.ref p13], upd_same, ?_⟩
      · rw [hwa.len, List.length_take, opens_len, line_eq]
        omega
      · rw [opens_take _ _ _ ht]
        refine ((hwa.mono (.of (s12.trans s13))).app (m := [wy.take (ks.length + t) ++ [1]]) (ys := [.ref p13]) ⟨p13, [], rfl, ?_, rfl⟩).mono (tk_upd hacc13)
        rw [e13, num_snoc]
        rfl
    · rintro H11 ⟨s11, acc, hacc, hwa⟩
      rw [← opens_len, List.take_length] at hwa
      have nDl : D ≠ ll := (ne_of_none hll10 hD).symm
      have nDf : D ≠ fl := (ne_of_none hfl10 hD).symm
      have hla := hwa.len
      have hly := hys10.len
      rw [opens_len] at hla
      refine ⟨ll, D, ys, acc, rfl, rfl, s11 _ _ hll10, hacc, ?_, ?_⟩
      · rw [hly, hla, line_eq]
        have : l.length ≤ (l ++ [ks]).length := by rw [List.length_append]; omega
        omega
      have tk12 : Tk H11 (upd H11 ll (.lst (ys ++ acc))) := tk_upd (s11 _ _ hll10)
      refine ⟨fs ++ [(wy, tx, m8)], l ++ opens ks.length wy, ⟨by rw [List.map_append]; exact work', same_upd (same10.trans s11) nll, fl, ll, _, _, some (.ref a), some (.str tx), some (.ref b8), some (.int (m8 : Nat)), x7, rfl, nfl, nll, nfd, ?_, (hfv10.mono (.of s11)).mono tk12, upd_same, ((hys10.mono (.of s11)).app hwa).mono tk12⟩, hless⟩
      rw [upd_ne nfd]
      exact s11 _ _ hfl10
end LK

/-! K21Texts -/
namespace LK
open PySem L2 LD
variable {P : Program} {w : World} {K : PySem.W.Frag} {mg : Str → Option Value} {base : Heap}
abbrev sTexts : Stmt := top 32

/-- layouts: ways and texts -/
def LaysAt (H : Hp) : List Str → List V → Prop
  | [], xs => xs = []
  | t :: l, xs => ∃ a x ys, xs = .ref a :: ys ∧ H a = some (.tup [x, .str t]) ∧ LaysAt H l ys
theorem LaysAt.mono {H H' : Hp} (k : Tk H H') : ∀ {l : List Str} {xs : List V}, LaysAt H l xs → LaysAt H' l xs
  | [], xs, e => e
  | q :: l, xs, ⟨a, x, ys, e, g, h⟩ => ⟨a, x, ys, e, k _ _ g, LaysAt.mono k h⟩
theorem LaysAt.len {H : Hp} : ∀ {l : List Str} {xs : List V}, LaysAt H l xs → xs.length = l.length
  | [], xs, e => by rw [show xs = [] from e]; rfl
  | q :: l, xs, ⟨a, x, ys, e, g, h⟩ => by rw [e, List.length_cons, List.length_cons, LaysAt.len h]
theorem LaysAt.snoc {H : Hp} : ∀ {l : List Str} {xs : List V} {t : Str} {a : Addr} {x : V}, LaysAt H l xs → H a = some (.tup [x, .str t]) → LaysAt H (l ++ [t]) (xs ++ [.ref a])
  | [], xs, t, a, x, e, h => by rw [show xs = [] from e]; exact ⟨a, x, [], rfl, h, rfl⟩
  | q :: l, xs, t, a, x, ⟨b, y, ys, e, g, h⟩, h' => by
    rw [e]
    exact ⟨b, y, ys ++ [.ref a], rfl, g, LaysAt.snoc h h'⟩
theorem LaysAt.get {H : Hp} : ∀ {l : List Str} {xs : List V} {i : Nat} {x : V}, LaysAt H l xs → xs[i]? = some x → ∃ t a y, l[i]? = some t ∧ x = .ref a ∧ H a = some (.tup [y, .str t])
  | [], xs, i, x, e, h => by rw [show xs = [] from e] at h; cases h
  | q :: l, xs, 0, x, ⟨b, y, ys, e, g, _⟩, h => by
    rw [e] at h
    cases h
    exact ⟨q, b, y, rfl, rfl, g⟩
  | q :: l, xs, i + 1, x, ⟨b, y, ys, e, g, k⟩, h => by
    rw [e] at h
    exact LaysAt.get (i := i) k (by simpa using h)
def spLays (n : Nat) : Sp := fun vs H Q _ => ∃ (d : Doc) (v : V), vs = [v] ∧ DAt H d v ∧ Fit (n + 1) d ∧ chs d ≤ 12 ∧ (texts d).length ≤ 900 ∧
  ∀ p (ts : List Str) xs H', Same H H' → H' p = some (.lst xs) → LaysAt H' ts xs → ts.Perm (texts d) → Q (.ref p) H'
abbrev nLays : List Str := ["document", "ways", "text", "broken"]
theorem scLays : FnScope nLays ["document"] (defScope sLays) := ⟨rfl, rfl, rfl, by decide +kernel, rfl, by decide +kernel, by decide +kernel⟩
theorem ok_lays {n : Nat} {f g : Addr} {fd gd : FuncData} (F : Fun K "all_layouts" "all_layouts" sLays f fd)
    (G : FnOk P w K mg base CX0 (n + 7) g gd ["document"] (spWalks n)) (bG : Binds K gd ["document"] []) (kG : PySem.W.keepIn K (.ref g) = true) (mG : mg "all_walks" = some (.ref g)) :
    FnOk P w K mg base CX0 (n + 8) f fd ["document"] (spLays n) := by
  refine F.ok scLays (fun vs H Q E h => ?_) (fun cdv A outer s H vs Q E hr h => ?_)
  · obtain ⟨d, v, rfl, _⟩ := h
    rfl
  obtain ⟨d, v, rfl, hd, hfit, hch, hfew, q⟩ := h
  refine ⟨_, pss_one (ps_ret (pe_lc (own := [("ways", 1), ("text", 2), ("broken", 3)]) (g := gTup K 3 (gCons (gName 1) (gCons (gName 2) (gCons (gName 3) gNil)))) (tt := tYes) rfl scLays.nd (pi_list (pe_call G hr rfl mG kG bG .nil pass0 (pa_cons (pv 0) pa_nil)))
    (blkOk_by (N := nLays) (own := [("ways", 1), ("text", 2), ("broken", 3)]) (sc := defScope sLays) (by decide +kernel))
    (fun _ _ _ _ _ => pg_tup rfl (pgs_cons (pg_name (i := 1) scLays.nd rfl (Or.inl rfl)) (pgs_cons (pg_name (i := 2) scLays.nd rfl (Or.inl rfl)) (pgs_cons (pg_name (i := 3) scLays.nd rfl (Or.inl rfl)) pgs_nil)))) (fun _ _ _ _ _ => pts_nil)
    (fun _ _ _ _ _ => pe_tup (pa_cons (pv 1) (pa_cons (pv 2) pa_nil))))), ?_⟩
  refine ⟨_, rfl, d, v, rfl, hd, hfit, hch, hfew, fun p fs xs H1 s1 hp hfs hperm => ⟨p, rfl, ⟨_, SqL.of hp⟩, fun D hD => ?_⟩⟩
  have hlen := hperm.length_eq
  rw [List.length_map] at hlen
  have hxl := hfs.len
  refine lc_list (K := K) (a := p) (xs := xs) (fun j H' => Same H1 H' ∧ ∃ acc, H' D = some (.lst acc) ∧ LaysAt H' ((fs.map (·.2.1)).take j) acc) ⟨same_new hD _, [], upd_same, rfl⟩ (fun j H' _ z => SqL.of (z.1 _ _ hp)) ?_ ?_
  · rintro j x H2 hx ⟨s2, acc, hacc, hla⟩
    have hj : j < xs.length := (List.getElem?_eq_some_iff.mp hx).1
    obtain ⟨fo, hf, a, b, rfl, ha, hb⟩ := hfs.get hx
    refine ⟨a, _, rfl, SqT.of (s2 _ _ ha), rfl, _, _, rfl, _, _, rfl, _, _, rfl, rfl, ?_⟩
    refine ⟨rfl, _, rfl, _, rfl, big2, fun p3 n3 => ?_⟩
    generalize hu3 : upd H2 p3 _ = H3
    obtain ⟨s3, e3⟩ := new_of n3 hu3
    have hacc3 := s3 _ _ hacc
    refine ⟨acc, hacc3, ?_, same_upd (s2.trans s3) hD, acc ++ [.ref p3], upd_same, ?_⟩
    · rw [hla.len, List.length_take, List.length_map, line_eq]
      omega
    · rw [List.take_add_one, List.getElem?_map, hf]
      exact ((hla.mono (.of s3)).snoc e3).mono (tk_upd hacc3)
  · rintro H2 ⟨s2, acc, hacc, hla⟩
    rw [hxl, ← List.length_map (f := fun fo : Fd => fo.2.1), List.take_length] at hla
    exact q D _ acc H2 (s1.trans s2) hacc hla hperm

def spTexts (n : Nat) : Sp := fun vs H Q _ => ∃ (d : Doc) (v : V), vs = [v] ∧ DAt H d v ∧ Fit (n + 1) d ∧ chs d ≤ 12 ∧ (texts d).length ≤ 900 ∧
  ∀ p (ys : List Str) H', Same H H' → H' p = some (.lst (ys.map V.str)) → Rises ys → (∀ x, x ∈ ys ↔ x ∈ texts d) → Q (.ref p) H'
abbrev nTexts : List Str := ["_law_document", "_law_ways", "_law_text"]
theorem scTexts : FnScope nTexts ["_law_document"] (defScope sTexts) := ⟨rfl, rfl, rfl, by decide +kernel, rfl, by decide +kernel, by decide +kernel⟩
theorem ok_texts {n : Nat} {f g : Addr} {fd gd : FuncData} (F : Fun K "_law_texts" "_law_texts" sTexts f fd)
    (G : FnOk P w K mg base CX0 (n + 8) g gd ["document"] (spLays n)) (bG : Binds K gd ["document"] []) (kG : PySem.W.keepIn K (.ref g) = true) (mG : mg "all_layouts" = some (.ref g)) (T : Tp mg) :
    FnOk P w K mg base CX0 (n + 9) f fd ["_law_document"] (spTexts n) := by
  refine F.ok scTexts (fun vs H Q E h => ?_) (fun cdv A outer s H vs Q E hr h => ?_)
  · obtain ⟨d, v, rfl, _⟩ := h
    rfl
  obtain ⟨d, v, rfl, hd, hfit, hch, hfew, q⟩ := h
  refine ⟨_, pss_one (ps_ret (pe_callB (cr_sortS hr.units rfl) (by rfl) T.sorted (by decide +kernel) (pa_cons (pe_callTy (cr_setS rfl) (by rfl) T.set (by decide +kernel) (pa_cons (pe_lc (own := [("_law_ways", 1), ("_law_text", 2)]) (g := gTup K 2 (gCons (gName 1) (gCons (gName 2) gNil))) (tt := tYes) rfl scTexts.nd (pi_list (pe_call G hr rfl mG kG bG .nil pass0 (pa_cons (pv 0) pa_nil)))
    (blkOk_by (N := nTexts) (own := [("_law_ways", 1), ("_law_text", 2)]) (sc := defScope sTexts) (by decide +kernel))
    (fun _ _ _ _ _ => pg_tup rfl (pgs_cons (pg_name (i := 1) scTexts.nd rfl (Or.inl rfl)) (pgs_cons (pg_name (i := 2) scTexts.nd rfl (Or.inl rfl)) pgs_nil))) (fun _ _ _ _ _ => pts_nil)
    (fun _ _ _ _ _ => pv 2)) pa_nil)) pa_nil))), ?_⟩
  refine ⟨_, rfl, d, v, rfl, hd, hfit, hch, hfew, fun p ts xs H1 s1 hp hts hperm => ⟨p, rfl, ⟨_, SqL.of hp⟩, fun D hD => ?_⟩⟩
  have hlen := hperm.length_eq
  have hxl := hts.len
  refine lc_list (K := K) (a := p) (xs := xs) (fun j H' => Same H1 H' ∧ H' D = some (.lst ((ts.take j).map V.str))) ⟨same_new hD _, upd_same⟩ (fun j H' _ z => SqL.of (z.1 _ _ hp)) ?_ ?_
  · rintro j x H2 hx ⟨s2, hacc⟩
    have hj : j < xs.length := (List.getElem?_eq_some_iff.mp hx).1
    obtain ⟨t, a, y, ht, rfl, ha⟩ := hts.get hx
    refine ⟨a, _, rfl, SqT.of (s2 _ _ ha), rfl, _, _, rfl, _, _, rfl, rfl, ?_⟩
    refine ⟨rfl, _, rfl, _, hacc, ?_, same_upd s2 hD, ?_⟩
    · rw [List.length_map, List.length_take, line_eq]
      omega
    · rw [upd_same, List.take_add_one, ht, List.map_append]
      rfl
  · rintro H2 ⟨s2, hacc⟩
    rw [hxl, List.take_length] at hacc
    refine ⟨D, ts, rfl, hacc, by omega, fun p3 n3 => ?_⟩
    generalize hu3 : upd H2 p3 _ = H3
    obtain ⟨s3, e3⟩ := new_of n3 hu3
    exact ⟨p3, ts, rfl, e3, fun p4 ys hr4 hm n4 => q p4 ys _ (s1.trans (s2.trans (s3.trans (same_new n4 _)))) upd_same hr4 fun x => (hm x).trans hperm.mem_iff⟩
end LK

/-! K22Take -/
namespace LK
open PySem L2 LD
variable {P : Program} {w : World} {K : PySem.W.Frag} {mg : Str → Option Value} {base : Heap}
abbrev sBag : Stmt := top 23
abbrev sTake : Stmt := top 24
abbrev sOne : Stmt := top 25
abbrev sString : Stmt := top 26

section
variable {X : Cx}
/-- xs[i] for xs[i] op= e -/
def rGetL (K : PySem.W.Frag) : V → V → Hp → VK → Prop := fun o i H Q => ∃ (p : Addr) (xs : List V) (j : Nat) (v : V), o = .ref p ∧ i = .int (j : Nat) ∧ SqL K H p xs ∧ xs[j]? = some v ∧ Q v H
theorem get_list : PGet X (rGetL X.K) := by
  intro pins s σ H o i ov iv Q I ro ri h
  obtain ⟨p, xs, j, v, rfl, rfl, hq, hv, q⟩ := h
  cases ro
  obtain ⟨t, rfl⟩ := ri
  obtain ⟨its, r, pl, hz⟩ := I.list hq
  obtain ⟨w, ew, rw'⟩ := r.get hv
  have hl := r.length
  have hj : j < xs.length := (List.getElem?_eq_some_iff.mp hv).1
  have hn := line63
  refine wpAny_getItem_list pl.isList (by omega) (by omega) (by rw [Int.toNat_natCast]; simpa using ew) ⟨v, H, I, rw', q⟩
end
/-- the bag -/
def BagAt (H : Hp) (b sc : Addr) : Prop := ∃ (g s k : Int) (x y : V) (ns : List Int), H b = some (.lst [.int g, .int s, .int k, .ref sc, x, y]) ∧ H sc = some (.lst (ns.map V.int)) ∧ ns.length ≤ 63
/-- all but the bag stays -/
def Dr (b : Addr) (H H' : Hp) : Prop := ∀ a o, H a = some o → a ≠ b → H' a = some o
theorem Dr.refl (b : Addr) (H : Hp) : Dr b H H := fun _ _ h _ => h
theorem Dr.of {b : Addr} {H H' : Hp} (h : Same H H') : Dr b H H' := fun a o q _ => h a o q
theorem Dr.trans {b : Addr} {H H1 H2 : Hp} (x : Dr b H H1) (y : Dr b H1 H2) : Dr b H H2 := fun a o q n => y a o (x a o q n) n
theorem Dr.upd {b : Addr} {H H1 : Hp} (x : Dr b H H1) (o : HO) : Dr b H (L2.upd H1 b o) := fun a u q n => by
  rw [upd_ne n]
  exact x a u q n
theorem BagAt.lst {H : Hp} {b sc : Addr} (h : BagAt H b sc) : ∃ l, H b = some (.lst l) := let ⟨_, _, _, _, _, _, e, _⟩ := h; ⟨_, e⟩
theorem BagAt.same {H H' : Hp} {b sc : Addr} (h : BagAt H b sc) (s : Same H H') : BagAt H' b sc := by
  obtain ⟨g, z, k, x, y, ns, e, f, l⟩ := h
  exact ⟨g, z, k, x, y, ns, s _ _ e, s _ _ f, l⟩
theorem Dr.tk {b sc : Addr} {H H' : Hp} (x : Dr b H H') (h : BagAt H b sc) : Tk H H' := fun a xs q => by
  obtain ⟨l, e⟩ := h.lst
  exact x a _ q (ne_of q e (by intro z; cases z))
def spBag (K : PySem.W.Frag) : Sp := fun vs H Q _ => ∃ (a : Addr) (ns : List Int), vs = [.ref a] ∧ SqL K H a (ns.map V.int) ∧ ∀ b sc H', Same H H' → BagAt H' b sc → H b = none → Q (.ref b) H'
abbrev nBag : List Str := ["_law_script", "_law_cell"]
theorem scBag : FnScope nBag ["_law_script"] (defScope sBag) := ⟨rfl, rfl, rfl, by decide +kernel, rfl, by decide +kernel, by decide +kernel⟩
theorem ok_bag {f : Addr} {fd : FuncData} (F : Fun K "_law_bag" "_law_bag" sBag f fd) (T : Tp mg) : FnOk P w K mg base CX0 1 f fd ["_law_script"] (spBag K) := by
  refine F.ok scBag (fun vs H Q E h => ?_) (fun cdv A outer s H vs Q E hr h => ?_)
  · obtain ⟨a, ns, rfl, _⟩ := h
    rfl
  obtain ⟨a, ns, rfl, hs, q⟩ := h
  refine ⟨_, pss_one (ps_ret (pe_lst (pa_cons pe_int (pa_cons pe_int (pa_cons pe_int (pa_cons (pe_lc (own := [("_law_cell", 1)]) (g := gName 1) (tt := tYes) rfl scBag.nd (pi_list (pe_slice sl_list (pv 0) po_none (po_some pe_int)))
    (blkOk_by (N := nBag) (own := [("_law_cell", 1)]) (sc := defScope sBag) (by decide +kernel)) (fun _ _ _ _ _ => pg_name (i := 1) scBag.nd rfl (Or.inl rfl)) (fun _ _ _ _ _ => pts_nil)
    (fun _ _ _ _ _ => pe_callB call_abs (by rfl) T.abs (by decide +kernel) (pa_cons (pv 1) pa_nil))) (pa_cons pe_int (pa_cons pe_int pa_nil)))))))), ?_⟩
  refine ⟨_, rfl, _, rfl, a, _, rfl, hs, fun p1 n1 => ?_⟩
  generalize hu1 : upd H p1 _ = H1
  obtain ⟨s1, e1⟩ := new_of n1 hu1
  rw [show cutV (ns.map V.int) none (some 63) = (ns.take 63).map V.int from (cut_to _ 63).trans List.map_take.symm] at e1
  refine ⟨p1, rfl, ⟨_, SqL.of e1⟩, fun D hD => ?_⟩
  refine lc_list (K := K) (a := p1) (xs := (ns.take 63).map V.int) (fun j H' => Same H1 H' ∧ ∃ ms : List Int, H' D = some (.lst (ms.map V.int)) ∧ ms.length = j) ⟨same_new hD _, [], upd_same, rfl⟩ (fun j H' _ z => SqL.of (z.1 _ _ e1)) ?_ ?_
  · rintro j x H2 hx ⟨s2, ms, hms, hl⟩
    have hj : j < ((ns.take 63).map V.int).length := (List.getElem?_eq_some_iff.mp hx).1
    rw [List.length_map, List.length_take] at hj
    rw [List.getElem?_map] at hx
    obtain ⟨i, _, rfl⟩ := Option.map_eq_some_iff.mp hx
    refine ⟨rfl, _, rfl, _, rfl, _, hms, ?_, same_upd s2 hD, ms ++ [if i < 0 then -i else i], ?_, ?_⟩
    · rw [List.length_map, hl, line_eq]
      omega
    · rw [upd_same, List.map_append]
      rfl
    · rw [List.length_append, hl]
      rfl
  · rintro H2 ⟨s2, ms, hms, hl⟩
    rw [List.length_map, List.length_take] at hl
    exact ⟨(by decide : (6 : Nat) ≤ sizeLine), newly fun p3 H3 s3 e3 n3 => q p3 D H3 (s1.trans (s2.trans s3)) ⟨_, _, _, _, _, ms, e3, s3 _ _ hms, by omega⟩ (s1.free (s2.free n3))⟩
theorem bag_set {H H1 : Hp} {b sc : Addr} {ns l : List V} (dr : Dr b H H1) (hs : H1 sc = some (.lst ns)) (n : sc ≠ b) : Dr b H (upd H1 b (.lst l)) ∧ (upd H1 b (.lst l)) b = some (.lst l) ∧ (upd H1 b (.lst l)) sc = some (.lst ns) :=
  ⟨dr.upd _, upd_same, by rw [upd_ne n]; exact hs⟩
theorem cut_num (ns : List Int) (lo hi : Option Int) : ∃ ms : List Int, cutV (ns.map V.int) lo hi = ms.map V.int ∧ ms.length ≤ ns.length := by
  unfold cutV
  refine ⟨(ns.drop _).take _, by rw [← List.map_drop, ← List.map_take], ?_⟩
  rw [List.length_take, List.length_drop]
  omega
def spTake : Sp := fun vs H Q _ => ∃ (b sc : Addr) (m : Nat), vs = [.ref b, .int (m : Nat)] ∧ BagAt H b sc ∧ 0 < m ∧ m < 1000 ∧ ∀ (i : Nat) H', i < m → Dr b H H' → BagAt H' b sc → Q (.int (i : Nat)) H'
abbrev nTake : List Str := ["_law_bag_here", "_law_many", "_law_cell", "_law_stirred", "_law_value", "_law_begin", "_law_second"]
theorem scTake : FnScope nTake ["_law_bag_here", "_law_many"] (defScope sTake) := ⟨rfl, rfl, rfl, by decide +kernel, rfl, by decide +kernel, by decide +kernel⟩
theorem mod_nat (a : Int) (m : Nat) (h : 0 < m) : ∃ i : Nat, i < m ∧ a % (m : Int) = (i : Nat) := by
  have h1 := Int.emod_nonneg a (b := (m : Int)) (by omega)
  have h2 := Int.emod_lt_of_pos a (b := (m : Int)) (by omega)
  exact ⟨(a % (m : Int)).toNat, by omega, by omega⟩
theorem ok_take {f : Addr} {fd : FuncData} (F : Fun K "_law_take" "_law_take" sTake f fd) (T : Tp mg) : FnOk P w K mg base CX0 1 f fd ["_law_bag_here", "_law_many"] spTake := by
  refine F.ok scTake (fun vs H Q E h => ?_) (fun cdv A outer s H vs Q E hr h => ?_)
  · obtain ⟨b, sc, m, rfl, _⟩ := h
    rfl
  obtain ⟨b, sc, m, rfl, ⟨g, z, k, x, y, ns, hb, hsc, hnl⟩, hm0, hm1, q⟩ := h
  have nsb : sc ≠ b := fun e => by
    rw [e, hb] at hsc
    cases ns with
    | nil => cases hsc
    | cons a ns =>
      cases ns with
      | nil => cases hsc
      | cons a2 ns =>
        cases ns with
        | nil => cases hsc
        | cons a3 ns =>
          cases ns with
          | nil => cases hsc
          | cons a4 ns => cases hsc
  refine ⟨_, C8.pss_cut (ps_if (pt_cmpR op_eq (pe_ix ix_list (pv 0) pe_int (fun _ _ => rfl)) pe_int (nomark _))
      (pss_cons (ps_set (i := 2) scTake.nd rfl (Or.inl rfl) (pe_ix ix_list (pe_op op_cat (pe_slice sl_list (pe_ix ix_list (pv 0) pe_int (fun _ _ => rfl)) (po_some (pe_ix ix_list (pv 0) pe_int (fun _ _ => rfl))) po_none) (pe_lst (pa_cons pe_int pa_nil))) pe_int (fun _ _ => rfl)))
      (pss_cons (ps_augS (pv 0) pe_int get_list pe_int ip_add set_list)
      (C8.pss_cut (ps_if (pt_cmpR op_ge (pv 2) (pe_op op_pow pe_int pe_int) (nomark _)) (pss_one (ps_asg (pv 2) (pg_sub (pv 0) pe_int set_list))) pss_nil)
      (pss_cons (ps_set (i := 3) scTake.nd rfl (Or.inl rfl) (pe_op op_add (pe_op op_add (pe_op op_mul (pe_ix ix_list (pv 0) pe_int (fun _ _ => rfl)) pe_int) (pe_op op_mod (pe_callTy call_int1 (by rfl) T.int (by decide +kernel) (pa_cons (pv 2) pa_nil)) pe_int)) (pe_op op_mul pe_int (pe_ix ix_list (pv 0) pe_int (fun _ _ => rfl)))))
      (pss_one (ps_asg (pe_op op_mod (pe_callTy call_int1 (by rfl) T.int (by decide +kernel) (pa_cons (pv 3) pa_nil)) pe_int) (pg_sub (pv 0) pe_int set_list)))))))
      pss_nil)
    (pss_cons (ps_if (pt_cmpR op_gt (pe_ix ix_list (pv 0) pe_int (fun _ _ => rfl)) pe_int (nomark _))
      (pss_cons (ps_set (i := 4) scTake.nd rfl (Or.inl rfl) (pe_op op_mod (pe_callTy call_int1 (by rfl) T.int (by decide +kernel) (pa_cons (pe_ix ix_list (pv 0) pe_int (fun _ _ => rfl)) pa_nil)) (pv 1)))
      (pss_cons (ps_asg (pe_op op_fdiv (pe_callTy call_int1 (by rfl) T.int (by decide +kernel) (pa_cons (pe_ix ix_list (pv 0) pe_int (fun _ _ => rfl)) pa_nil)) (pv 1)) (pg_sub (pv 0) pe_int set_list))
      (pss_one (ps_ret (pv 4))))) pss_nil)
    (pss_cons (ps_set (i := 5) scTake.nd rfl (Or.inl rfl) (pe_op op_mod (pe_callTy call_int1 (by rfl) T.int (by decide +kernel) (pa_cons (pe_op op_mul (pe_op op_add (pe_ix ix_list (pv 0) pe_int (fun _ _ => rfl)) pe_int) pe_int) pa_nil)) pe_int))
    (pss_cons (ps_set (i := 6) scTake.nd rfl (Or.inl rfl) (pe_op op_mod (pe_callTy call_int1 (by rfl) T.int (by decide +kernel) (pa_cons (pe_op op_mul (pe_op op_mod (pe_callTy call_int1 (by rfl) T.int (by decide +kernel) (pa_cons (pe_op op_mul (pv 5) (pv 5)) pa_nil)) pe_int) pe_int) pa_nil)) pe_int))
    (pss_one (ps_ret (pe_op op_mod (pe_callTy call_int1 (by rfl) T.int (by decide +kernel) (pa_cons (pe_op op_fdiv (pv 6) pe_int) pa_nil)) (pv 1))))))), ?_⟩
  refine ⟨fun σ H' => ∃ (g z k : Int) (x2 x3 : Option V), σ = [some (.ref b), some (.int (m : Nat)), x2, x3, none, none, none] ∧ Dr b H H' ∧ H' b = some (.lst [.int g, .int z, .int k, .ref sc, x, y]) ∧ H' sc = some (.lst (ns.map V.int)), ?_, ?_⟩
  · refine ⟨_, rfl, b, _, 0, .int g, rfl, rfl, SqL.of hb, rfl, rfl, _, rfl, ite2 (fun c1 => ?_) (fun c1 => ⟨g, z, k, none, none, rfl, Dr.refl _ _, hb, hsc⟩)⟩
    refine ⟨_, rfl, b, _, 3, .ref sc, rfl, rfl, SqL.of hb, rfl, _, rfl, b, _, 2, .int k, rfl, rfl, SqL.of hb, rfl, _, rfl, ?_⟩
    obtain ⟨ms, hms, hml⟩ := cut_num ns (some k) none
    refine ⟨sc, _, rfl, SqL.of hsc, fun p1 n1 => ?_⟩
    generalize hu1 : upd H p1 _ = H1
    obtain ⟨s1, e1⟩ := new_of n1 hu1
    rw [hms] at e1
    refine ⟨big1, fun p2 n2 => ?_⟩
    generalize hu2 : upd H1 p2 _ = H2
    obtain ⟨s2, e2⟩ := new_of n2 hu2
    refine ⟨p1, p2, _, [V.int 0], rfl, rfl, s2 _ _ e1, e2, ?_, fun p3 n3 => ?_⟩
    · rw [List.length_map, line_eq]
      show ms.length + 1 ≤ _
      omega
    generalize hu3 : upd H2 p3 _ = H3
    obtain ⟨s3, e3⟩ := new_of n3 hu3
    obtain ⟨ce, hce⟩ : ∃ ce : Int, (ms.map V.int ++ [V.int 0])[0]? = some (V.int ce) := by
      cases ms with
      | nil => exact ⟨0, rfl⟩
      | cons i ms => exact ⟨i, rfl⟩
    have s13 := s1.trans (s2.trans s3)
    have hb3 := s13 _ _ hb
    have hsc3 := s13 _ _ hsc
    have dr3 : Dr b H H3 := .of s13
    clear hu1 hu2 hu3 s1 s2 s3 e1 e2 n1 n2 n3
    refine ⟨p3, _, 0, .int ce, rfl, rfl, SqL.of e3, atI_nat (j := 0) hce, ?_⟩
    clear e3
    -- bag[2] += 1
    refine ⟨_, rfl, b, _, 2, .int k, rfl, rfl, SqL.of hb3, rfl, _, _, rfl, rfl, b, _, 2, 2, rfl, rfl, hb3, rfl, ?_⟩
    obtain ⟨dr4, hb4, hsc4⟩ := bag_set (l := [.int g, .int z, .int (k + 1), .ref sc, x, y]) dr3 hsc3 nsb
    show C8.tCut _ _ _ _ (upd H3 b (.lst [.int g, .int z, .int (k + 1), .ref sc, x, y]))
    generalize upd H3 b (.lst [.int g, .int z, .int (k + 1), .ref sc, x, y]) = H4 at dr4 hb4 hsc4
    -- if cell >= 10 ** 18
    refine ⟨fun σ H' => ∃ g : Int, σ = [some (.ref b), some (.int (m : Nat)), some (.int ce), none, none, none, none] ∧ Dr b H H' ∧ H' b = some (.lst [.int g, .int z, .int (k + 1), .ref sc, x, y]) ∧ H' sc = some (.lst (ns.map V.int)), ?_, ?_⟩
    · refine ⟨_, rfl, _, _, rfl, rfl, ⟨by decide, by decide, by decide⟩, _, _, rfl, rfl, _, rfl, ite2 (fun c2 => ?_) (fun c2 => ⟨g, rfl, dr4, hb4, hsc4⟩)⟩
      obtain ⟨dr5, hb5, hsc5⟩ := bag_set (l := [.int ce, .int z, .int (k + 1), .ref sc, x, y]) dr4 hsc4 nsb
      exact ⟨_, rfl, _, rfl, b, _, 0, 0, rfl, rfl, hb4, rfl, ce, rfl, dr5, hb5, hsc5⟩
    · rintro σ H5 ⟨g, rfl, dr5, hb5, hsc5⟩
      refine ⟨_, rfl, b, _, 1, .int z, rfl, rfl, SqL.of hb5, rfl, _, _, rfl, rfl, .inr ⟨by decide, by decide⟩, _, rfl, .inl ⟨_, rfl, _, _, rfl, rfl, (by show (0 : Int) < 2147483647; decide), _, _, rfl, rfl, _, rfl, b, _, 2, .int (k + 1), rfl, rfl, SqL.of hb5, rfl, _, _, rfl, rfl, .inl ⟨by decide, by decide⟩, _, _, rfl, rfl, ?_⟩⟩
      refine ⟨_, rfl, .inl ⟨_, rfl, _, _, rfl, rfl, (by show (0 : Int) < 2147483647; decide), ?_⟩⟩
      refine ⟨_, rfl, b, _, 1, 1, rfl, rfl, hb5, rfl, ?_⟩
      obtain ⟨dr6, hb6, hsc6⟩ := bag_set (l := ([.int g, .int z, .int (k + 1), .ref sc, x, y] : List V).set 1 (.int ((z * 48271 + ce % 2147483647 + 7919 * (k + 1)) % 2147483647))) dr5 hsc5 nsb
      exact ⟨g, _, k + 1, _, _, rfl, dr6, hb6, hsc6⟩
  · rintro σ H1 ⟨g, z, k, x2, x3, rfl, dr1, hb1, hsc1⟩
    refine ⟨_, rfl, b, _, 0, .int g, rfl, rfl, SqL.of hb1, rfl, _, _, rfl, rfl, _, rfl, ite2 (fun c1 => ?_) (fun c1 => ?_)⟩
    · refine ⟨_, rfl, b, _, 0, .int g, rfl, rfl, SqL.of hb1, rfl, .inl ⟨_, rfl, _, rfl, _, _, rfl, rfl, (by omega), ?_⟩⟩
      refine ⟨_, rfl, b, _, 0, .int g, rfl, rfl, SqL.of hb1, rfl, .inl ⟨_, rfl, _, rfl, _, _, rfl, rfl, ⟨by omega, by omega⟩, ?_⟩⟩
      refine ⟨_, rfl, b, _, 0, 0, rfl, rfl, hb1, rfl, ?_⟩
      obtain ⟨dr2, hb2, hsc2⟩ := bag_set (l := ([.int g, .int z, .int k, .ref sc, x, y] : List V).set 0 (.int (g / (m : Int)))) dr1 hsc1 nsb
      obtain ⟨i, hi, ei⟩ := mod_nat g m hm0
      refine ⟨_, rfl, ?_⟩
      show Q (.int (g % (m : Int))) _
      rw [ei]
      exact q i _ hi dr2 ⟨_, _, _, x, y, ns, hb2, hsc2, hnl⟩
    · refine ⟨_, rfl, b, _, 1, .int z, rfl, rfl, SqL.of hb1, rfl, _, _, rfl, rfl, _, _, rfl, rfl, .inr ⟨by decide, by decide⟩, .inl ⟨_, rfl, _, _, rfl, rfl, (by show (0 : Int) < 1000000007; decide), ?_⟩⟩
      have b1 := Int.emod_nonneg ((z + 1) * 39373) (b := 1000000007) (by decide)
      have b2 := Int.emod_lt_of_pos ((z + 1) * 39373) (b := 1000000007) (by decide)
      refine ⟨_, rfl, _, rfl, _, _, rfl, rfl, .inl ⟨by omega, by omega⟩, .inl ⟨_, rfl, _, _, rfl, rfl, (by show (0 : Int) < 998244353; decide), _, _, rfl, rfl, .inr ⟨by decide, by decide⟩, .inl ⟨_, rfl, _, _, rfl, rfl, (by show (0 : Int) < 998244353; decide), ?_⟩⟩⟩
      refine ⟨_, rfl, _, _, rfl, rfl, ⟨by decide, by decide⟩, .inl ⟨_, rfl, _, rfl, _, _, rfl, rfl, (by omega), ?_⟩⟩
      obtain ⟨i, hi, ei⟩ := mod_nat ((((z + 1) * 39373) % 1000000007 * (((z + 1) * 39373) % 1000000007)) % 998244353 * 30011 % 998244353 / 7) m hm0
      show Q (.int (((((z + 1) * 39373) % 1000000007 * (((z + 1) * 39373) % 1000000007)) % 998244353 * 30011 % 998244353 / 7) % (m : Int))) H1
      rw [ei]
      exact q i H1 hi dr1 ⟨_, _, _, x, y, ns, hb1, hsc1, hnl⟩
end LK

/-! K23Leaf -/
namespace LK
open PySem L2 LD
variable {P : Program} {w : World} {K : PySem.W.Frag} {mg : Str → Option Value} {base : Heap}
abbrev sLeaf : Stmt := top 27

def spOne : Sp := fun vs H Q _ => ∃ (b sc t : Addr) (xs : List V), vs = [.ref b, .ref t] ∧ BagAt H b sc ∧ H t = some (.lst xs) ∧ t ≠ b ∧ 0 < xs.length ∧ xs.length < 1000 ∧ ∀ x H', x ∈ xs → Dr b H H' → BagAt H' b sc → Q x H'
theorem scOne : FnScope ["_law_bag_here", "_law_things"] ["_law_bag_here", "_law_things"] (defScope sOne) := ⟨rfl, rfl, rfl, by decide +kernel, rfl, by decide +kernel, by decide +kernel⟩
theorem ok_one {f g : Addr} {fd gd : FuncData} (F : Fun K "_law_one" "_law_one" sOne f fd) (G : FnOk P w K mg base CX0 1 g gd ["_law_bag_here", "_law_many"] spTake) (bG : Binds K gd ["_law_bag_here", "_law_many"] []) (kG : PySem.W.keepIn K (.ref g) = true) (mG : mg "_law_take" = some (.ref g)) (T : Tp mg) :
    FnOk P w K mg base CX0 2 f fd ["_law_bag_here", "_law_things"] spOne := by
  refine F.ok scOne (fun vs H Q E h => ?_) (fun cdv A outer s H vs Q E hr h => ?_)
  · obtain ⟨b, sc, t, xs, rfl, _⟩ := h
    rfl
  obtain ⟨b, sc, t, xs, rfl, hb, ht, ntb, h0, h1, q⟩ := h
  refine ⟨_, pss_one (ps_ret (pe_ix ix_list (pv 1) (pe_call G hr rfl mG kG bG .nil pass0 (pa_cons (pv 0) (pa_cons (pe_callB call_len_seq (by rfl) T.len PySem.boot_len (pa_cons (pv 1) pa_nil)) pa_nil))) (fun _ _ => rfl))), ?_⟩
  refine ⟨_, rfl, _, rfl, _, rfl, t, xs, rfl, .inl (SqL.of ht), b, sc, xs.length, rfl, hb, h0, h1, fun i H1 hi dr hb1 => ?_⟩
  exact ⟨t, xs, _, xs[i], rfl, rfl, SqL.of (dr _ _ ht ntb), atI_nat (List.getElem?_eq_getElem hi), q _ H1 (List.getElem_mem hi) dr hb1⟩

def words : List Str := ["a", "bb", "x =", "alpha,", "(", "one", "", " ", "of two", "a longer word", ")"]
theorem words_short : ∀ s ∈ words, s.length ≤ 13 := by decide +kernel
def spString : Sp := fun vs H Q _ => ∃ (b sc : Addr), vs = [.ref b] ∧ BagAt H b sc ∧ ∀ (s : Str) H', s.length ≤ 13 → Dr b H H' → BagAt H' b sc → Q (.str s) H'
theorem scString : FnScope ["_law_bag_here"] ["_law_bag_here"] (defScope sString) := ⟨rfl, rfl, rfl, by decide +kernel, rfl, by decide +kernel, by decide +kernel⟩
theorem ok_string {f g : Addr} {fd gd : FuncData} (F : Fun K "_law_string" "_law_string" sString f fd) (G : FnOk P w K mg base CX0 2 g gd ["_law_bag_here", "_law_things"] spOne) (bG : Binds K gd ["_law_bag_here", "_law_things"] []) (kG : PySem.W.keepIn K (.ref g) = true) (mG : mg "_law_one" = some (.ref g)) :
    FnOk P w K mg base CX0 3 f fd ["_law_bag_here"] spString := by
  refine F.ok scString (fun vs H Q E h => ?_) (fun cdv A outer s H vs Q E hr h => ?_)
  · obtain ⟨b, sc, rfl, _⟩ := h
    rfl
  obtain ⟨b, sc, rfl, hb, q⟩ := h
  refine ⟨_, pss_one (ps_ret (pe_call G hr rfl mG kG bG .nil pass0 (pa_cons (pv 0) (pa_cons (pe_lst (pa_cons pe_str (pa_cons pe_str (pa_cons pe_str (pa_cons pe_str (pa_cons pe_str (pa_cons pe_str (pa_cons pe_str (pa_cons pe_str (pa_cons pe_str (pa_cons pe_str (pa_cons pe_str pa_nil)))))))))))) pa_nil)))), ?_⟩
  refine ⟨_, rfl, (by decide : (11 : Nat) ≤ sizeLine), fun p n1 => ?_⟩
  generalize hu1 : upd H p _ = H1
  obtain ⟨s1, e1⟩ := new_of n1 hu1
  have e1 : H1 p = some (.lst (words.map V.str)) := e1
  have npb : p ≠ b := by
    obtain ⟨l, e⟩ := hb.lst
    exact (ne_of_none e n1).symm
  refine ⟨b, sc, p, words.map V.str, rfl, hb.same s1, e1, npb, by decide, by decide, fun x H2 hx dr hb2 => ?_⟩
  obtain ⟨z, hz, rfl⟩ := List.mem_map.mp hx
  exact q z H2 (words_short z hz) ((Dr.of s1).trans dr) hb2

/-! ### what may still come -/
def LeftAt (H : Hp) (l : Addr) (x y : Nat) : Prop := H l = some (.lst [.int (x : Nat), .int (y : Nat)])
def Dr2 (b l : Addr) (H H' : Hp) : Prop := ∀ a o, H a = some o → a ≠ b → a ≠ l → H' a = some o
theorem Dr2.of {b l : Addr} {H H' : Hp} (h : Dr b H H') : Dr2 b l H H' := fun a o q n _ => h a o q n
theorem Dr2.same {b l : Addr} {H H' : Hp} (h : Same H H') : Dr2 b l H H' := fun a o q _ _ => h a o q
theorem Dr2.trans {b l : Addr} {H H1 H2 : Hp} (x : Dr2 b l H H1) (y : Dr2 b l H1 H2) : Dr2 b l H H2 := fun a o q n m => y a o (x a o q n m) n m
theorem Dr2.tk {b sc l : Addr} {H H' : Hp} (x : Dr2 b l H H') (h : BagAt H b sc) {p q : Nat} (g : LeftAt H l p q) : Tk H H' := fun a xs e => by
  obtain ⟨z, hz⟩ := h.lst
  exact x a _ e (ne_of e hz (by intro z; cases z)) (ne_of e g (by intro z; cases z))
theorem Dr2.upd {b l : Addr} {H H1 : Hp} (x : Dr2 b l H H1) (o : HO) : Dr2 b l H (L2.upd H1 l o) := fun a u q n m => by
  rw [upd_ne m]
  exact x a u q n m
theorem BagAt.ne {H : Hp} {b sc l : Addr} {p q : Nat} (h : BagAt H b sc) (g : LeftAt H l p q) : l ≠ b := fun e => by
  obtain ⟨_, _, _, _, _, _, f, _⟩ := h
  rw [← e, show H l = _ from g] at f
  cases f
theorem BagAt.left {H : Hp} {b sc l : Addr} {p q : Nat} (h : BagAt H b sc) (g : LeftAt H l p q) (p' q' : Nat) : BagAt (L2.upd H l (.lst [.int (p' : Nat), .int (q' : Nat)])) b sc := by
  obtain ⟨u, z, k, x, y, ns, e, f, ln⟩ := h
  have n1 : b ≠ l := fun z => by
    rw [z, show H l = _ from g] at e
    cases e
  by_cases n2 : sc = l
  · exact ⟨u, z, k, x, y, [(p' : Int), (q' : Int)], by rw [upd_ne n1]; exact e, by rw [n2, upd_same]; rfl, (by show 2 ≤ 63; decide)⟩
  · exact ⟨u, z, k, x, y, ns, by rw [upd_ne n1]; exact e, by rw [upd_ne n2]; exact f, ln⟩
/-- another object is written -/
theorem BagAt.upd {H : Hp} {b sc D : Addr} {o : HO} (h : BagAt H b sc) (n1 : D ≠ b) (n2 : D ≠ sc) : BagAt (L2.upd H D o) b sc := by
  obtain ⟨u, z, k, x, y, ns, e, f, ln⟩ := h
  exact ⟨u, z, k, x, y, ns, by rw [upd_ne n1.symm]; exact e, by rw [upd_ne n2.symm]; exact f, ln⟩
theorem BagAt.fresh {H : Hp} {b sc D : Addr} (h : BagAt H b sc) (n : H D = none) : D ≠ b ∧ D ≠ sc := by
  obtain ⟨u, z, k, x, y, ns, e, f, ln⟩ := h
  exact ⟨(ne_of_none e n).symm, (ne_of_none f n).symm⟩
theorem Dr2.fresh {b l D : Addr} {H H1 : Hp} {o : HO} (x : Dr2 b l H H1) (n : H D = none) : Dr2 b l H (L2.upd H1 D o) := fun a u q n1 n2 => by
  rw [upd_ne (ne_of_none q n)]
  exact x a u q n1 n2
/-- bounds of a drawn document -/
structure Gen (k : Nat) (a b : Nat) (d : Doc) : Prop where
  dep : dep d ≤ k
  wt : wt d ≤ a
  sz : sz d ≤ b
def spLeaf : Sp := fun vs H Q _ => ∃ (b sc l : Addr) (x y : Nat), vs = [.ref b, .ref l] ∧ BagAt H b sc ∧ LeftAt H l x y ∧
  ∀ (d : Doc) (v : V) (x' : Nat) (H' : Hp), Gen 1 1 42 d → DAt H' d v → chs d + x' ≤ x → Dr2 b l H H' → BagAt H' b sc → LeftAt H' l x' y → Q v H'
abbrev nLeaf : List Str := ["_law_bag_here", "_law_left", "_law_way", "_law_part"]
theorem scLeaf : FnScope nLeaf ["_law_bag_here", "_law_left"] (defScope sLeaf) := ⟨rfl, rfl, rfl, by decide +kernel, rfl, by decide +kernel, by decide +kernel⟩
theorem ok_leaf {f g e u : Addr} {fd gd ed ud : FuncData} (F : Fun K "_law_leaf" "_law_leaf" sLeaf f fd)
    (G : FnOk P w K mg base CX0 1 g gd ["_law_bag_here", "_law_many"] spTake) (bG : Binds K gd ["_law_bag_here", "_law_many"] []) (kG : PySem.W.keepIn K (.ref g) = true) (mG : mg "_law_take" = some (.ref g))
    (O : FnOk P w K mg base CX0 2 e ed ["_law_bag_here", "_law_things"] spOne) (bO : Binds K ed ["_law_bag_here", "_law_things"] []) (kO : PySem.W.keepIn K (.ref e) = true) (mO : mg "_law_one" = some (.ref e))
    (S : FnOk P w K mg base CX0 3 u ud ["_law_bag_here"] spString) (bS : Binds K ud ["_law_bag_here"] []) (kS : PySem.W.keepIn K (.ref u) = true) (mS : mg "_law_string" = some (.ref u)) (T : Tp mg) :
    FnOk P w K mg base CX0 4 f fd ["_law_bag_here", "_law_left"] spLeaf := by
  refine F.ok scLeaf (fun vs H Q E h => ?_) (fun cdv A outer s H vs Q E hr h => ?_)
  · obtain ⟨b, sc, l, x, y, rfl, _⟩ := h
    rfl
  obtain ⟨b, sc, l, x, y, rfl, hb, hl, q⟩ := h
  have hr1 : Room 1 _ := hr.mono (by decide)
  have hr2 : Room 2 _ := hr.mono (by decide)
  refine ⟨_, pss_cons (ps_set (i := 2) scLeaf.nd rfl (Or.inl rfl) (pe_call G hr1 rfl mG kG bG .nil pass0 (pa_cons (pv 0) (pa_cons pe_int pa_nil))))
    (pss_cons (ps_if (pt_cmpR op_lt (pv 2) pe_int (nomark _)) (pss_one (ps_ret (pe_tup (pa_cons pe_str (pa_cons (pe_call S hr rfl mS kS bS .nil pass0 (pa_cons (pv 0) pa_nil)) pa_nil))))) pss_nil)
    (pss_cons (ps_if (pt_cmpR op_lt (pv 2) pe_int (nomark _)) (pss_one (ps_ret (pe_tup (pa_cons pe_str (pa_cons (pe_call O hr2 rfl mO kO bO .nil pass0 (pa_cons (pv 0) (pa_cons (pe_lst (pa_cons pe_str (pa_cons pe_str pa_nil))) pa_nil))) pa_nil))))) pss_nil)
    (C8.pss_cut (ps_if (PW.pt (pw_and (pt_cmpR op_eq (pv 2) pe_int (nomark _)) (pw_and (pt_cmpR op_gt (pe_ix ix_list (pv 1) pe_int (fun _ _ => rfl)) pe_int (nomark _)) (pw_and1 (pt_cmpR op_eq (pe_call G hr1 rfl mG kG bG .nil pass0 (pa_cons (pv 0) (pa_cons pe_int pa_nil))) pe_int (nomark _))))))
        (pss_cons (ps_augS (pv 1) pe_int get_list pe_int ip_sub set_list) (pss_one (ps_ret (pe_tup (pa_cons pe_str pa_nil))))) pss_nil)
    (pss_cons (ps_if (pt_cmpR op_eq (pv 2) pe_int (nomark _)) (pss_one (ps_ret (pe_tup (pa_cons pe_str pa_nil)))) pss_nil)
    (pss_cons (ps_if (pt_cmpR op_eq (pv 2) pe_int (nomark _)) (pss_one (ps_ret (pe_tup (pa_cons pe_str pa_nil)))) pss_nil)
    (pss_one (ps_ret (pe_tup (pa_cons pe_str (pa_cons (pe_callTy call_tuple_of (by rfl) T.tuple (by decide +kernel) (pa_cons (pe_lc (own := [("_law_part", 3)]) (g := gName 3) (tt := tYes) rfl scLeaf.nd
        (pi_range1 rfl T.range (pa_cons (pe_call O hr2 rfl mO kO bO .nil pass0 (pa_cons (pv 0) (pa_cons (pe_lst (pa_cons pe_int (pa_cons pe_int pa_nil))) pa_nil))) pa_nil))
        (blkOk_by (N := nLeaf) (own := [("_law_part", 3)]) (sc := defScope sLeaf) (by decide +kernel)) (fun _ _ _ _ _ => pg_name (i := 3) scLeaf.nd rfl (Or.inl rfl)) (fun _ _ _ _ _ => pts_nil)
        (fun _ _ _ _ _ => pe_call S hr rfl mS kS bS .nil pass0 (pa_cons (pv 0) pa_nil))) pa_nil)) pa_nil)))))))))), ?_⟩
  refine ⟨_, rfl, b, sc, 12, rfl, hb, by decide, by decide, fun i H1 hi dr1 hb1 => ?_⟩
  have hl1 : LeftAt H1 l x y := dr1 _ _ hl (hb.ne hl)
  have d1 : Dr2 b l H H1 := .of dr1
  have q : ∀ (d : Doc) (v : V) (x' : Nat) (H' : Hp), Gen 1 1 42 d → DAt H' d v → chs d + x' ≤ x → Dr2 b l H1 H' → BagAt H' b sc → LeftAt H' l x' y → Q v H' := fun d v x' H' g a c dr => q d v x' H' g a c (d1.trans dr)
  clear hb hl dr1 d1
  refine ⟨_, rfl, _, _, rfl, rfl, _, rfl, ite2 (fun c1 => ?_) (fun c1 => ⟨_, rfl, _, _, rfl, rfl, _, rfl, ite2 (fun c2 => ?_) (fun c2 => ?_)⟩)⟩
  · refine ⟨_, rfl, b, sc, rfl, hb1, fun z H2 hz dr2 hb2 => ⟨big2, newly fun p H3 s3 e3 _ => q (.text z) _ x H3 ⟨Nat.le_refl _, Nat.le_refl _, by simp only [sz]; omega⟩ ⟨p, rfl, e3⟩ (by simp only [chs]; omega) ((Dr2.of dr2).trans (.same s3)) (hb2.same s3) (s3 _ _ (dr2 _ _ hl1 (hb1.ne hl1)))⟩⟩
  · refine ⟨_, rfl, big2, fun p n2 => ?_⟩
    generalize hu2 : upd H1 p _ = H2
    obtain ⟨s2, e2⟩ := new_of n2 hu2
    have npb : p ≠ b := by
      obtain ⟨l, e⟩ := hb1.lst
      exact (ne_of_none e n2).symm
    refine ⟨b, sc, p, _, rfl, hb1.same s2, e2, npb, by decide, by decide, fun z H3 hz dr3 hb3 => ?_⟩
    obtain ⟨y', rfl, hy⟩ : ∃ y' : Str, z = .str y' ∧ y'.length ≤ 1 := by
      rcases List.mem_cons.mp hz with h | h
      · exact ⟨_, h, by decide⟩
      · rcases List.mem_cons.mp h with h | h
        · exact ⟨_, h, by decide⟩
        · cases h
    exact ⟨big2, newly fun p H4 s4 e4 _ => q (.line y') _ x H4 ⟨Nat.le_refl _, Nat.le_refl _, by simp only [sz]; omega⟩ ⟨p, rfl, e4⟩ (by simp only [chs]; omega) ((Dr2.same s2).trans ((Dr2.of dr3).trans (.same s4))) (hb3.same s4) (s4 _ _ (dr3 _ _ (s2 _ _ hl1) ((hb1.same s2).ne (s2 _ _ hl1))))⟩
  · have y01 : ∃ x1 : Nat, x1 ≤ x ∧ LeftAt H1 l x1 y := ⟨x, Nat.le_refl _, hl1⟩
    refine ⟨fun σ H' => σ = [some (.ref b), some (.ref l), some (.int (i : Nat)), none] ∧ Dr2 b l H1 H' ∧ BagAt H' b sc ∧ LeftAt H' l x y, ?_, ?_⟩
    · refine ⟨_, rfl, rfl, _, rfl, ite2 (fun c3 => ?_) (fun c3 => ⟨rfl, fun _ _ h _ _ => h, hb1, hl1⟩)⟩
      refine ⟨_, rfl, l, _, 0, .int (x : Nat), rfl, rfl, SqL.of hl1, rfl, _, _, rfl, rfl, _, rfl, ite2 (fun c4 => ?_) (fun c4 => ⟨rfl, fun _ _ h _ _ => h, hb1, hl1⟩)⟩
      refine ⟨_, rfl, b, sc, 2, rfl, hb1, by decide, by decide, fun k H2 hk dr2 hb2 => ?_⟩
      have hl2 : LeftAt H2 l x y := dr2 _ _ hl1 (hb1.ne hl1)
      refine ⟨rfl, _, rfl, ite2 (fun c5 => ?_) (fun c5 => ⟨rfl, .of dr2, hb2, hl2⟩)⟩
      have hx : 0 < x := by
        have := of_decide_eq_true c4
        omega
      have ex : (x : Int) - 1 = ((x - 1 : Nat) : Int) := by omega
      refine ⟨_, rfl, l, _, 0, .int (x : Nat), rfl, rfl, SqL.of hl2, rfl, _, _, rfl, rfl, l, _, 0, 0, rfl, rfl, hl2, rfl, ?_⟩
      show tNext _ _ (upd H2 l (.lst [.int ((x : Int) - 1), .int (y : Nat)]))
      rw [ex]
      have hb3 := hb2.left hl2 (x - 1) y
      have dr3 : Dr2 b l H1 (upd H2 l (.lst [.int ((x - 1 : Nat) : Int), .int (y : Nat)])) := (Dr2.of dr2).upd _
      have hl3 : LeftAt (upd H2 l (.lst [.int ((x - 1 : Nat) : Int), .int (y : Nat)])) l (x - 1) y := upd_same
      generalize upd H2 l (.lst [.int ((x - 1 : Nat) : Int), .int (y : Nat)]) = H3 at hb3 dr3 hl3
      exact ⟨big1, newly fun p H4 s4 e4 _ => q .gap _ (x - 1) H4 ⟨Nat.le_refl _, Nat.le_refl _, by simp only [sz]; omega⟩ ⟨p, rfl, e4⟩ (by simp only [chs]; omega) (dr3.trans (.same s4)) (hb3.same s4) (s4 _ _ hl3)⟩
    · rintro σ H2 ⟨rfl, d2, hb2, hl2⟩
      refine ⟨_, rfl, rfl, _, rfl, ite2 (fun c3 => ?_) (fun c3 => ⟨_, rfl, rfl, _, rfl, ite2 (fun c4 => ?_) (fun c4 => ?_)⟩)⟩
      · exact ⟨big1, newly fun p H4 s4 e4 _ => q .hard _ x H4 ⟨Nat.le_refl _, Nat.le_refl _, by simp only [sz]; omega⟩ ⟨p, rfl, e4⟩ (by simp only [chs]; omega) (d2.trans (.same s4)) (hb2.same s4) (s4 _ _ hl2)⟩
      · exact ⟨big1, newly fun p H4 s4 e4 _ => q .blank _ x H4 ⟨Nat.le_refl _, Nat.le_refl _, by simp only [sz]; omega⟩ ⟨p, rfl, e4⟩ (by simp only [chs]; omega) (d2.trans (.same s4)) (hb2.same s4) (s4 _ _ hl2)⟩
      · refine ⟨_, rfl, big2, fun p n3 => ?_⟩
        generalize hu3 : upd H2 p _ = H3
        obtain ⟨s3, e3⟩ := new_of n3 hu3
        have npb : p ≠ b := by
          obtain ⟨l, e⟩ := hb2.lst
          exact (ne_of_none e n3).symm
        refine ⟨b, sc, p, _, rfl, hb2.same s3, e3, npb, by decide, by decide, fun z H4 hz dr4 hb4 => ?_⟩
        obtain ⟨n, rfl, hn2, hn3⟩ : ∃ n : Nat, z = .int (n : Nat) ∧ 2 ≤ n ∧ n ≤ 3 := by
          rcases List.mem_cons.mp hz with h | h
          · exact ⟨2, h, by decide, by decide⟩
          · rcases List.mem_cons.mp h with h | h
            · exact ⟨3, h, by decide, by decide⟩
            · cases h
        have d4 : Dr2 b l H1 H4 := d2.trans ((Dr2.same s3).trans (.of dr4))
        have hl4 : LeftAt H4 l x y := dr4 _ _ (s3 _ _ hl2) ((hb2.same s3).ne (s3 _ _ hl2))
        refine ⟨_, rfl, by omega, by omega, fun D hD => ?_⟩
        obtain ⟨nDb, nDs⟩ := hb4.fresh hD
        have nDl : D ≠ l := (ne_of_none hl4 hD).symm
        rw [Int.toNat_natCast]
        refine lc_range (lo := 0) (n := n) (fun t H' => Dr2 b l H4 H' ∧ BagAt H' b sc ∧ LeftAt H' l x y ∧ ∃ ss : List Str, H' D = some (.lst (ss.map V.str)) ∧ ss.length = t ∧ ∀ z ∈ ss, z.length ≤ 13) ⟨.same (same_new hD _), hb4.same (same_new hD _), same_new hD _ _ _ hl4, [], upd_same, rfl, fun _ h => by cases h⟩ ?_ ?_
        · rintro t H5 ht ⟨d5, hb5, hl5, ss, hss, hlen, hsl⟩
          refine ⟨rfl, _, rfl, b, sc, rfl, hb5, fun z H6 hz dr6 hb6 => ?_⟩
          have hss6 := dr6 _ _ hss nDb
          have hl6 : LeftAt H6 l x y := dr6 _ _ hl5 (hb5.ne hl5)
          refine ⟨_, hss6, ?_, (d5.trans (.of dr6)).fresh hD, hb6.upd nDb nDs, by rw [LeftAt, upd_ne nDl.symm]; exact hl6, ss ++ [z], ?_, ?_, ?_⟩
          · rw [List.length_map, hlen, line_eq]
            omega
          · rw [upd_same, List.map_append]
            rfl
          · rw [List.length_append, hlen]
            rfl
          · intro z' hz'
            rcases List.mem_append.mp hz' with h | h
            · exact hsl z' h
            · rw [List.mem_singleton.mp h]
              exact hz
        · rintro H5 ⟨d5, hb5, hl5, ss, hss, hlen, hsl⟩
          refine ⟨D, _, rfl, .inl ⟨SqL.of hss, fun p6 n6 => ?_⟩⟩
          generalize hu6 : upd H5 p6 _ = H6
          obtain ⟨s6, e6⟩ := new_of n6 hu6
          have hsum : sz (.raw ss) ≤ 42 := by
            have : ∀ ss : List Str, (∀ z ∈ ss, z.length ≤ 13) → (ss.map fun s => s.length + 1).sum ≤ 14 * ss.length := by
              intro ss
              induction ss with
              | nil => intro _; exact Nat.le_refl _
              | cons a ss ih =>
                intro h
                have h1 := h a (List.mem_cons_self ..)
                have h2 := ih fun z hz => h z (List.mem_cons_of_mem _ hz)
                rw [List.map_cons, List.sum_cons, List.length_cons]
                omega
            have := this ss hsl
            show (ss.map fun s => s.length + 1).sum ≤ 42
            omega
          refine ⟨big2, newly fun p7 H7 s7 e7 _ => q (.raw ss) _ x H7 ⟨Nat.le_refl _, Nat.le_refl _, hsum⟩ ⟨p7, p6, rfl, e7, s7 _ _ e6, ?_⟩ (by simp only [chs]; omega) (d4.trans (d5.trans (.same (s6.trans s7)))) (hb5.same (s6.trans s7)) ((s6.trans s7) _ _ hl5)⟩
          rintro rfl
          rw [← hlen] at hn2
          exact absurd hn2 (by decide)
end LK

/-! K24Doc -/
namespace LK
open PySem L2 LD
variable {P : Program} {w : World} {K : PySem.W.Frag} {mg : Str → Option Value} {base : Heap}
abbrev sDoc : Stmt := top 28

def WW : Nat → Nat
  | 0 => 0
  | 1 => 1
  | k + 2 => 1 + 4 * (WW (k + 1) + 2)
def SS : Nat → Nat
  | 0 => 0
  | 1 => 42
  | k + 2 => 4 * (SS (k + 1) + 1)
theorem depL_le {k : Nat} : ∀ {ds : List Doc}, (∀ d ∈ ds, dep d ≤ k) → depL ds ≤ k
  | [], _ => Nat.zero_le _
  | d :: ds, h => by
    have h1 := h d (List.mem_cons_self ..)
    have h2 := depL_le fun e he => h e (List.mem_cons_of_mem _ he)
    show max (dep d) (depL ds) ≤ k
    omega
theorem wtL_le {a : Nat} : ∀ {ds : List Doc}, (∀ d ∈ ds, wt d ≤ a) → wtL ds ≤ ds.length * a ∧ wtF ds ≤ ds.length * (a + 2)
  | [], _ => ⟨Nat.zero_le _, Nat.zero_le _⟩
  | d :: ds, h => by
    have h1 := h d (List.mem_cons_self ..)
    have h2 := wtL_le fun e he => h e (List.mem_cons_of_mem _ he)
    rw [List.length_cons, Nat.succ_mul, Nat.succ_mul]
    exact ⟨by show wt d + wtL ds ≤ _; omega, by show wt d + 2 + wtF ds ≤ _; omega⟩
theorem szL_le {a : Nat} : ∀ {ds : List Doc}, (∀ d ∈ ds, sz d ≤ a) → szL ds ≤ ds.length * a ∧ szF ds ≤ ds.length * (a + 1)
  | [], _ => ⟨Nat.zero_le _, Nat.zero_le _⟩
  | d :: ds, h => by
    have h1 := h d (List.mem_cons_self ..)
    have h2 := szL_le fun e he => h e (List.mem_cons_of_mem _ he)
    rw [List.length_cons, Nat.succ_mul, Nat.succ_mul]
    exact ⟨by show sz d + szL ds ≤ _; omega, by show sz d + 1 + szF ds ≤ _; omega⟩
section
variable {k a s : Nat}
theorem Gen.nest {d : Doc} {n : Nat} (h : Gen k a s d) (hn : n ≤ 4) : Gen (k + 1) (1 + 4 * (a + 2)) (4 * (s + 1)) (.nest n d) := by
  have h1 := h.dep
  have h2 := h.wt
  have h3 := h.sz
  exact ⟨by simp only [LD.dep]; omega, by simp only [LD.wt]; omega, by simp only [LD.sz]; omega⟩
theorem Gen.align {d : Doc} (h : Gen k a s d) : Gen (k + 1) (1 + 4 * (a + 2)) (4 * (s + 1)) (.align d) := by
  have h1 := h.dep
  have h2 := h.wt
  have h3 := h.sz
  exact ⟨by simp only [LD.dep]; omega, by simp only [LD.wt]; omega, by simp only [LD.sz]; omega⟩
theorem Gen.group {d : Doc} (h : Gen k a s d) : Gen (k + 1) (1 + 4 * (a + 2)) (4 * (s + 1)) (.group d) := by
  have h1 := h.dep
  have h2 := h.wt
  have h3 := h.sz
  exact ⟨by simp only [LD.dep]; omega, by simp only [LD.wt]; omega, by simp only [LD.sz]; omega⟩
theorem Gen.choice {d e : Doc} (h : Gen k a s d) (g : Gen k a s e) : Gen (k + 1) (1 + 4 * (a + 2)) (4 * (s + 1)) (.choice d e) := by
  have h1 := h.dep
  have h2 := h.wt
  have h3 := h.sz
  have g1 := g.dep
  have g2 := g.wt
  have g3 := g.sz
  exact ⟨by simp only [LD.dep]; omega, by simp only [LD.wt]; omega, by simp only [LD.sz]; omega⟩
theorem Gen.row {ds : List Doc} (h : ∀ d ∈ ds, Gen k a s d) (hl : ds.length ≤ 4) : Gen (k + 1) (1 + 4 * (a + 2)) (4 * (s + 1)) (.row ds) := by
  have h1 := depL_le fun d hd => (h d hd).dep
  have h2 := (wtL_le fun d hd => (h d hd).wt).1
  have h3 := (szL_le fun d hd => (h d hd).sz).1
  have h4 : ds.length * a ≤ 4 * a := Nat.mul_le_mul_right _ hl
  have h5 : ds.length * s ≤ 4 * s := Nat.mul_le_mul_right _ hl
  exact ⟨by simp only [LD.dep]; omega, by simp only [LD.wt]; omega, by simp only [LD.sz]; omega⟩
theorem Gen.fill {ds : List Doc} (h : ∀ d ∈ ds, Gen k a s d) (hl : ds.length ≤ 4) : Gen (k + 1) (1 + 4 * (a + 2)) (4 * (s + 1)) (.fill ds) := by
  have h1 := depL_le fun d hd => (h d hd).dep
  have h2 := (wtL_le fun d hd => (h d hd).wt).2
  have h3 := (szL_le fun d hd => (h d hd).sz).2
  have h4 : ds.length * (a + 2) ≤ 4 * (a + 2) := Nat.mul_le_mul_right _ hl
  have h5 : ds.length * (s + 1) ≤ 4 * (s + 1) := Nat.mul_le_mul_right _ hl
  exact ⟨by simp only [LD.dep]; omega, by simp only [LD.wt]; omega, by simp only [LD.sz]; omega⟩
end
/-- the documents drawn so far stand in the list at D -/
def Drawn (b sc l D : Addr) (H1 : Hp) (G : Doc → Prop) (x y t : Nat) (H' : Hp) : Prop := Dr2 b l H1 H' ∧ BagAt H' b sc ∧ ∃ (x1 : Nat), LeftAt H' l x1 y ∧
  ∃ (ds : List Doc) (xs : List V), H' D = some (.lst xs) ∧ DsAt H' ds xs ∧ ds.length = t ∧ (∀ d ∈ ds, G d) ∧ chsL ds + x1 ≤ x
section
variable {b sc l D : Addr} {H1 : Hp} {G : Doc → Prop} {x y : Nat}
theorem Drawn.start (hD : H1 D = none) (hb : BagAt H1 b sc) (hl : LeftAt H1 l x y) : Drawn b sc l D H1 G x y 0 (L2.upd H1 D (.lst [])) :=
  ⟨.same (same_new hD _), hb.same (same_new hD _), x, same_new hD _ _ _ hl, [], [], upd_same, rfl, rfl, (fun _ h => by cases h), (by simp only [chsL]; omega)⟩
theorem chsL_snoc (d : Doc) : ∀ ds : List Doc, chsL (ds ++ [d]) = chsL ds + chs d
  | [] => by simp only [List.nil_append, chsL]; omega
  | e :: ds => by
    have := chsL_snoc d ds
    simp only [List.cons_append, chsL, this]
    omega
theorem chsL_row (ds : List Doc) : chs (.row ds) = chsL ds := by simp only [chs]
end
theorem Gen.mono {k a s k' a' s' : Nat} {d : Doc} (h : Gen k a s d) (h1 : k ≤ k') (h2 : a ≤ a') (h3 : s ≤ s') : Gen k' a' s' d := ⟨Nat.le_trans h.dep h1, Nat.le_trans h.wt h2, Nat.le_trans h.sz h3⟩
theorem WW_pos : ∀ k, 1 ≤ WW (k + 1)
  | 0 => Nat.le_refl _
  | k + 1 => by simp only [WW]; omega
theorem SS_pos : ∀ k, 42 ≤ SS (k + 1)
  | 0 => Nat.le_refl _
  | k + 1 => by have := SS_pos k; simp only [SS]; omega
theorem mem_nums {ns : List Nat} {z : V} (h : z ∈ numV ns) : ∃ n : Nat, n ∈ ns ∧ z = .int (n : Nat) := by
  obtain ⟨n, hn, e⟩ := List.mem_map.mp h
  exact ⟨n, hn, e.symm⟩
theorem left_new {b sc l : Addr} {H H2 : Hp} {p q p' q' : Nat} (hb : BagAt H b sc) (hl : LeftAt H l p q) (hu : L2.upd H l (.lst [.int (p' : Nat), .int (q' : Nat)]) = H2) : LeftAt H2 l p' q' ∧ BagAt H2 b sc ∧ Dr2 b l H H2 := by
  subst hu
  exact ⟨upd_same, hb.left hl _ _, Dr2.upd (fun _ _ h _ _ => h) _⟩
theorem Drawn.step {b sc l D : Addr} {H1 H : Hp} {G : Doc → Prop} {x y t : Nat} (hD : H1 D = none) (hb1 : BagAt H1 b sc) (hl1 : LeftAt H1 l x y) (ht : t < 1000) (h : Drawn b sc l D H1 G x y t H) :
    BagAt H b sc ∧ ∃ x1 : Nat, LeftAt H l x1 y ∧ ∀ {d v} {x2 : Nat} {H2}, G d → DAt H2 d v → chs d + x2 ≤ x1 → Dr2 b l H H2 → BagAt H2 b sc → LeftAt H2 l x2 y →
      ∃ acc, H2 D = some (.lst acc) ∧ acc.length < sizeLine ∧ Drawn b sc l D H1 G x y (t + 1) (L2.upd H2 D (.lst (acc ++ [v]))) := by
  obtain ⟨dr, hb, x1, hl, ds, xs, hxs, hds, hlen, hg, hc⟩ := h
  refine ⟨hb, x1, hl, fun {d v x2 H2} g hv hc2 dr2 hb2 hl2 => ?_⟩
  obtain ⟨nDb, nDs⟩ := hb1.fresh hD
  have nDl : D ≠ l := (ne_of_none hl1 hD).symm
  have hxs2 := dr2 _ _ hxs nDb nDl
  refine ⟨xs, hxs2, by rw [hds.len, hlen, line_eq]; omega, (dr.trans dr2).fresh hD, hb2.upd nDb nDs, x2, by rw [LeftAt, upd_ne nDl.symm]; exact hl2, ds ++ [d], xs ++ [v], upd_same, ((hds.mono (dr2.tk hb hl)).snoc hv).mono (tk_upd hxs2), ?_, ?_, ?_⟩
  · rw [List.length_append, hlen]
    rfl
  · intro e he
    rcases List.mem_append.mp he with h | h
    · exact hg e h
    · rw [List.mem_singleton.mp h]
      exact g
  · rw [chsL_snoc]
    omega
def spDoc (k : Nat) : Sp := fun vs H Q _ => ∃ (b sc l : Addr) (i : Int) (deep x y : Nat), vs = [.ref b, .int i, .ref l] ∧ i = (deep : Nat) ∧ 1 ≤ deep ∧ deep ≤ k ∧ BagAt H b sc ∧ LeftAt H l x y ∧
  ∀ (d : Doc) (v : V) (x' : Nat) (H' : Hp), Gen deep (WW deep) (SS deep) d → DAt H' d v → chs d + x' ≤ x → Dr2 b l H H' → BagAt H' b sc → LeftAt H' l x' y → Q v H'
abbrev nDoc : List Str := ["_law_bag_here", "_law_deep", "_law_left", "_law_way", "_law_inside", "_law_many", "_law_part"]
theorem scDoc : FnScope nDoc ["_law_bag_here", "_law_deep", "_law_left"] (defScope sDoc) := ⟨rfl, rfl, rfl, by decide +kernel, rfl, by decide +kernel, by decide +kernel⟩
theorem ok_doc {n : Nat} {f g e u : Addr} {fd gd ed ud : FuncData} (F : Fun K "_law_doc" "_law_doc" sDoc f fd)
    (S : FnOk P w K mg base CX0 (n + 4) f fd ["_law_bag_here", "_law_deep", "_law_left"] (spDoc n)) (bS : Binds K fd ["_law_bag_here", "_law_deep", "_law_left"] []) (mS : mg "_law_doc" = some (.ref f))
    (G : FnOk P w K mg base CX0 1 g gd ["_law_bag_here", "_law_many"] spTake) (bG : Binds K gd ["_law_bag_here", "_law_many"] []) (kG : PySem.W.keepIn K (.ref g) = true) (mG : mg "_law_take" = some (.ref g))
    (O : FnOk P w K mg base CX0 2 e ed ["_law_bag_here", "_law_things"] spOne) (bO : Binds K ed ["_law_bag_here", "_law_things"] []) (kO : PySem.W.keepIn K (.ref e) = true) (mO : mg "_law_one" = some (.ref e))
    (L : FnOk P w K mg base CX0 4 u ud ["_law_bag_here", "_law_left"] spLeaf) (bL : Binds K ud ["_law_bag_here", "_law_left"] []) (kL : PySem.W.keepIn K (.ref u) = true) (mL : mg "_law_leaf" = some (.ref u)) (T : Tp mg) :
    FnOk P w K mg base CX0 (n + 5) f fd ["_law_bag_here", "_law_deep", "_law_left"] (spDoc (n + 1)) := by
  refine F.ok scDoc (fun vs H Q E h => ?_) (fun cdv A outer s H vs Q E hr h => ?_)
  · obtain ⟨b, sc, l, i, deep, x, y, rfl, _⟩ := h
    rfl
  obtain ⟨b, sc, l, i, deep, x, y, rfl, rfl, hd1, hdk, hb, hl, q⟩ := h
  have hr1 : Room 1 _ := hr.mono (by omega)
  have hr2 : Room 2 _ := hr.mono (by omega)
  have hr4 : Room 4 _ := hr.mono (by omega)
  refine ⟨_, (C8.pss_cut (ps_set (i := 3) scDoc.nd rfl (Or.inl rfl) (pe_ifExp (pt_cmpR op_gt (pv 1) pe_int (nomark _)) (pe_call G hr1 rfl mG kG bG .nil pass0 (pa_cons (pv 0) (pa_cons pe_int pa_nil))) pe_int))
    (pss_cons (ps_if (pt_cmpR op_lt (pv 3) pe_int (nomark _)) (pss_one (ps_ret (pe_call L hr4 rfl mL kL bL .nil pass0 (pa_cons (pv 0) (pa_cons (pv 2) pa_nil))))) pss_nil)
    (pss_cons (ps_if (pt_cmpR op_eq (pv 3) pe_int (nomark _)) (pss_one (ps_ret (pe_tup (pa_cons pe_str (pa_cons (pe_call O hr2 rfl mO kO bO .nil pass0 (pa_cons (pv 0) (pa_cons (pe_lst (pa_cons pe_int (pa_cons pe_int (pa_cons pe_int (pa_cons pe_int pa_nil))))) pa_nil))) (pa_cons (pe_call S hr rfl mS F.kp bS .nil pass0 (pa_cons (pv 0) (pa_cons (pe_op op_sub (pv 1) pe_int) (pa_cons (pv 2) pa_nil)))) pa_nil)))))) pss_nil)
    (C8.pss_cut (ps_if (PW.pt (pw_and (pt_cmpR op_eq (pv 3) pe_int (nomark _)) (pw_and1 (pt_cmpR op_gt (pe_ix ix_list (pv 2) pe_int (fun _ _ => rfl)) pe_int (nomark _))))) (pss_cons (ps_augS (pv 2) pe_int get_list pe_int ip_sub set_list) (pss_cons (ps_set (i := 4) scDoc.nd rfl (Or.inl rfl) (pe_call S hr rfl mS F.kp bS .nil pass0 (pa_cons (pv 0) (pa_cons (pe_op op_sub (pv 1) pe_int) (pa_cons (pv 2) pa_nil))))) (pss_cons (ps_augS (pv 2) pe_int get_list pe_int ip_add set_list) (pss_one (ps_ret (pe_tup (pa_cons pe_str (pa_cons (pv 4) pa_nil)))))))) pss_nil)
    (C8.pss_cut (ps_if (PW.pt (pw_and (pt_cmpR op_lt (pv 3) pe_int (nomark _)) (pw_and1 (pt_cmpR op_gt (pe_ix ix_list (pv 2) pe_int (fun _ _ => rfl)) pe_int (nomark _))))) (pss_cons (ps_augS (pv 2) pe_int get_list pe_int ip_sub set_list) (pss_one (ps_ret (pe_tup (pa_cons pe_str (pa_cons (pe_call S hr rfl mS F.kp bS .nil pass0 (pa_cons (pv 0) (pa_cons (pe_op op_sub (pv 1) pe_int) (pa_cons (pv 2) pa_nil)))) pa_nil)))))) pss_nil)
    (C8.pss_cut (ps_if (PW.pt (pw_and (pt_cmpR op_eq (pv 3) pe_int (nomark _)) (pw_and1 (pt_cmpR op_gt (pe_ix ix_list (pv 2) pe_int (fun _ _ => rfl)) pe_int (nomark _))))) (pss_cons (ps_augS (pv 2) pe_int get_list pe_int ip_sub set_list) (pss_one (ps_ret (pe_tup (pa_cons pe_str (pa_cons (pe_call S hr rfl mS F.kp bS .nil pass0 (pa_cons (pv 0) (pa_cons (pe_op op_sub (pv 1) pe_int) (pa_cons (pv 2) pa_nil)))) (pa_cons (pe_call S hr rfl mS F.kp bS .nil pass0 (pa_cons (pv 0) (pa_cons (pe_op op_sub (pv 1) pe_int) (pa_cons (pv 2) pa_nil)))) pa_nil))))))) pss_nil)
    (pss_cons (ps_set (i := 5) scDoc.nd rfl (Or.inl rfl) (pe_call O hr2 rfl mO kO bO .nil pass0 (pa_cons (pv 0) (pa_cons (pe_lst (pa_cons pe_int (pa_cons pe_int (pa_cons pe_int (pa_cons pe_int (pa_cons pe_int (pa_cons pe_int pa_nil))))))) pa_nil))))
    (C8.pss_cut (ps_if (PW.pt (pw_and (pt_cmpR op_lt (pv 3) pe_int (nomark _)) (pw_and1 (pt_cmpR op_gt (pe_ix ix_list (pv 2) pe_int (fun _ _ => rfl)) (pv 5) (nomark _))))) (pss_cons (ps_augS (pv 2) pe_int get_list (pe_callB (call_max2 rfl) (by rfl) T.max (by decide +kernel) (pa_cons pe_int (pa_cons (pe_op op_sub (pv 5) pe_int) pa_nil))) ip_sub set_list) (pss_one (ps_ret (pe_tup (pa_cons pe_str (pa_cons (pe_callTy call_tuple_of (by rfl) T.tuple (by decide +kernel) (pa_cons (pe_lc (own := [("_law_part", 6)]) (g := gName 6) (tt := tYes) rfl scDoc.nd
        (pi_range1 rfl T.range (pa_cons (pv 5) pa_nil))
        (blkOk_by (N := nDoc) (own := [("_law_part", 6)]) (sc := defScope sDoc) (by decide +kernel)) (fun _ _ _ _ _ => pg_name (i := 6) scDoc.nd rfl (Or.inl rfl)) (fun _ _ _ _ _ => pts_nil)
        (fun _ _ _ _ _ => (pe_call S hr rfl mS F.kp bS .nil pass0 (pa_cons (pv 0) (pa_cons (pe_op op_sub (pv 1) pe_int) (pa_cons (pv 2) pa_nil)))))) pa_nil)) pa_nil)))))) pss_nil)
    (pss_one (ps_ret (pe_tup (pa_cons pe_str (pa_cons (pe_callTy call_tuple_of (by rfl) T.tuple (by decide +kernel) (pa_cons (pe_lc (own := [("_law_part", 6)]) (g := gName 6) (tt := tYes) rfl scDoc.nd
        (pi_range1 rfl T.range (pa_cons (pe_op op_add (pv 5) (pe_callTy call_int1 (by rfl) T.int (by decide +kernel) (pa_cons (pe_cmpR op_lt (pv 5) pe_int (nomark _)) pa_nil))) pa_nil))
        (blkOk_by (N := nDoc) (own := [("_law_part", 6)]) (sc := defScope sDoc) (by decide +kernel)) (fun _ _ _ _ _ => pg_name (i := 6) scDoc.nd rfl (Or.inl rfl)) (fun _ _ _ _ _ => pts_nil)
        (fun _ _ _ _ _ => (pe_call S hr rfl mS F.kp bS .nil pass0 (pa_cons (pv 0) (pa_cons (pe_op op_sub (pv 1) pe_int) (pa_cons (pv 2) pa_nil)))))) pa_nil)) pa_nil))))))))))))), ?_⟩
  refine ⟨fun σ H' => ∃ way : Nat, σ = [some (.ref b), some (.int (deep : Nat)), some (.ref l), some (.int (way : Nat)), none, none, none] ∧ (way < 3 ∨ 2 ≤ deep) ∧ Dr2 b l H H' ∧ BagAt H' b sc ∧ LeftAt H' l x y, ?_, ?_⟩
  · refine ⟨_, rfl, _, _, rfl, rfl, _, rfl, ite2 (fun c1 => ?_) (fun c1 => ⟨0, rfl, .inl (by decide), fun _ _ h _ _ => h, hb, hl⟩)⟩
    refine ⟨_, rfl, b, sc, 14, rfl, hb, by decide, by decide, fun i H1 hi dr1 hb1 => ⟨i, rfl, .inr ?_, .of dr1, hb1, dr1 _ _ hl (hb.ne hl)⟩⟩
    have := of_decide_eq_true c1
    omega
  rintro σ H1 ⟨way, rfl, hway, d1, hb1, hl1⟩
  have q : ∀ (d : Doc) (v : V) (x' : Nat) (H' : Hp), Gen deep (WW deep) (SS deep) d → DAt H' d v → chs d + x' ≤ x → Dr2 b l H1 H' → BagAt H' b sc → LeftAt H' l x' y → Q v H' := fun d v x' H' g a c dr => q d v x' H' g a c (d1.trans dr)
  clear hb hl d1
  refine ⟨_, rfl, _, _, rfl, rfl, _, rfl, ite2 (fun c1 => ?_) (fun c1 => ?_)⟩
  · refine ⟨_, rfl, _, rfl, b, sc, l, x, y, rfl, hb1, hl1, fun d v x' H' g => q d v x' H' ?_⟩
    obtain ⟨k, rfl⟩ : ∃ k, deep = k + 1 := ⟨deep - 1, by omega⟩
    exact g.mono (by omega) (WW_pos k) (SS_pos k)
  obtain ⟨k, rfl⟩ : ∃ k, deep = k + 2 := ⟨deep - 2, by
    have : ¬ (way : Int) < 3 := fun z => c1 (decide_eq_true z)
    omega⟩
  have inn : ∀ {x1 y1 : Nat} {H1 : Hp} {R : VK}, BagAt H1 b sc → LeftAt H1 l x1 y1 → (∀ (d : Doc) (v : V) (x' : Nat) (H' : Hp), Gen (k + 1) (WW (k + 1)) (SS (k + 1)) d → DAt H' d v → chs d + x' ≤ x1 → Dr2 b l H1 H' → BagAt H' b sc → LeftAt H' l x' y1 → R v H') →
      spDoc n [.ref b, .int (((k + 2 : Nat) : Int) - 1), .ref l] H1 R E0 := fun {x1 y1 H1 R} hb hl h => ⟨b, sc, l, _, k + 1, x1, y1, rfl, by omega, by omega, by omega, hb, hl, h⟩
  refine ⟨_, rfl, rfl, _, rfl, ite2 (fun c2 => ?_) (fun c2 => ?_)⟩
  · -- nest
    refine ⟨_, rfl, big4, fun p n2 => ?_⟩
    generalize hu2 : upd H1 p _ = H2
    obtain ⟨s2, e2⟩ := new_of n2 hu2
    refine ⟨b, sc, p, _, rfl, hb1.same s2, e2, (hb1.fresh n2).1, by decide, by decide, fun z H3 hz dr3 hb3 => ?_⟩
    obtain ⟨m, hm, rfl⟩ := mem_nums (ns := [2, 0, 4, 1]) hz
    have hl3 : LeftAt H3 l x y := dr3 _ _ (s2 _ _ hl1) ((hb1.same s2).ne (s2 _ _ hl1))
    refine ⟨_, rfl, _, rfl, _, _, rfl, rfl, _, rfl, inn hb3 hl3 fun d v x' H4 g hd hc dr4 hb4 hl4 => ?_⟩
    exact ⟨big3, newly fun p H5 s5 e5 _ => q (.nest m d) _ x' H5 (g.nest ((by decide : ∀ m ∈ [2, 0, 4, 1], m ≤ 4) m hm)) ⟨p, v, rfl, e5, hd.mono (.of s5)⟩ (by simp only [chs]; omega) ((Dr2.same s2).trans ((Dr2.of dr3).trans (dr4.trans (.same s5)))) (hb4.same s5) (s5 _ _ hl4)⟩
  refine ⟨fun σ H' => σ = [some (.ref b), some (.int ((k + 2 : Nat) : Int)), some (.ref l), some (.int (way : Nat)), none, none, none] ∧ H1 = H', ?_, ?_⟩
  · -- align
    refine ⟨_, rfl, rfl, _, rfl, ite2 (fun c3 => ?_) (fun c3 => ⟨rfl, rfl⟩)⟩
    refine ⟨_, rfl, l, _, 1, .int (y : Nat), rfl, rfl, SqL.of hl1, rfl, _, _, rfl, rfl, _, rfl, ite2 (fun c4 => ?_) (fun c4 => ⟨rfl, rfl⟩)⟩
    have hy : 0 < y := by
      have := of_decide_eq_true c4
      omega
    have ey : (y : Int) - 1 = ((y - 1 : Nat) : Int) := by omega
    refine ⟨_, rfl, l, _, 1, .int (y : Nat), rfl, rfl, SqL.of hl1, rfl, _, _, rfl, rfl, l, _, 1, 1, rfl, rfl, hl1, rfl, ?_⟩
    generalize hu2 : upd H1 l _ = H2
    have hu2 : upd H1 l (.lst [.int (x : Nat), .int ((y : Int) - 1)]) = H2 := hu2
    rw [ey] at hu2
    obtain ⟨hl2, hb2, d2⟩ := left_new hb1 hl1 hu2
    refine ⟨_, rfl, _, rfl, _, _, rfl, rfl, _, rfl, inn hb2 hl2 fun d v x' H3 g hd hc d3 hb3 hl3 => ?_⟩
    refine ⟨_, rfl, l, _, 1, .int ((y - 1 : Nat) : Int), rfl, rfl, SqL.of hl3, rfl, _, _, rfl, rfl, l, _, 1, 1, rfl, rfl, hl3, rfl, ?_⟩
    generalize hu4 : upd H3 l _ = H4
    have hu4 : upd H3 l (.lst [.int (x' : Nat), .int (((y - 1 : Nat) : Int) + 1)]) = H4 := hu4
    rw [show ((y - 1 : Nat) : Int) + 1 = (y : Nat) by omega] at hu4
    obtain ⟨hl4, hb4, d4⟩ := left_new hb3 hl3 hu4
    exact ⟨_, rfl, big2, newly fun p H5 s5 e5 _ => q (.align d) _ x' H5 g.align ⟨p, v, rfl, e5, hd.mono ((d4.tk hb3 hl3).trans (.of s5))⟩ (by simp only [chs]; omega) (d2.trans (d3.trans (d4.trans (.same s5)))) (hb4.same s5) (s5 _ _ hl4)⟩
  rintro σ H' ⟨rfl, rfl⟩
  refine ⟨fun σ H' => σ = [some (.ref b), some (.int ((k + 2 : Nat) : Int)), some (.ref l), some (.int (way : Nat)), none, none, none] ∧ H1 = H', ?_, ?_⟩
  · -- group
    refine ⟨_, rfl, _, _, rfl, rfl, _, rfl, ite2 (fun c3 => ?_) (fun c3 => ⟨rfl, rfl⟩)⟩
    refine ⟨_, rfl, l, _, 0, .int (x : Nat), rfl, rfl, SqL.of hl1, rfl, _, _, rfl, rfl, _, rfl, ite2 (fun c4 => ?_) (fun c4 => ⟨rfl, rfl⟩)⟩
    have hx : 0 < x := by
      have := of_decide_eq_true c4
      omega
    have ex : (x : Int) - 1 = ((x - 1 : Nat) : Int) := by omega
    refine ⟨_, rfl, l, _, 0, .int (x : Nat), rfl, rfl, SqL.of hl1, rfl, _, _, rfl, rfl, l, _, 0, 0, rfl, rfl, hl1, rfl, ?_⟩
    generalize hu2 : upd H1 l _ = H2
    have hu2 : upd H1 l (.lst [.int ((x : Int) - 1), .int (y : Nat)]) = H2 := hu2
    rw [ex] at hu2
    obtain ⟨hl2, hb2, d2⟩ := left_new hb1 hl1 hu2
    refine ⟨_, rfl, _, rfl, _, _, rfl, rfl, _, rfl, inn hb2 hl2 fun d v x' H3 g hd hc d3 hb3 hl3 => ?_⟩
    exact ⟨big2, newly fun p H5 s5 e5 _ => q (.group d) _ x' H5 g.group ⟨p, v, rfl, e5, hd.mono (.of s5)⟩ (by simp only [chs]; omega) (d2.trans (d3.trans (.same s5))) (hb3.same s5) (s5 _ _ hl3)⟩
  rintro σ H' ⟨rfl, rfl⟩
  refine ⟨fun σ H' => σ = [some (.ref b), some (.int ((k + 2 : Nat) : Int)), some (.ref l), some (.int (way : Nat)), none, none, none] ∧ H1 = H', ?_, ?_⟩
  · -- choice
    refine ⟨_, rfl, rfl, _, rfl, ite2 (fun c3 => ?_) (fun c3 => ⟨rfl, rfl⟩)⟩
    refine ⟨_, rfl, l, _, 0, .int (x : Nat), rfl, rfl, SqL.of hl1, rfl, _, _, rfl, rfl, _, rfl, ite2 (fun c4 => ?_) (fun c4 => ⟨rfl, rfl⟩)⟩
    have hx : 0 < x := by
      have := of_decide_eq_true c4
      omega
    have ex : (x : Int) - 1 = ((x - 1 : Nat) : Int) := by omega
    refine ⟨_, rfl, l, _, 0, .int (x : Nat), rfl, rfl, SqL.of hl1, rfl, _, _, rfl, rfl, l, _, 0, 0, rfl, rfl, hl1, rfl, ?_⟩
    generalize hu2 : upd H1 l _ = H2
    have hu2 : upd H1 l (.lst [.int ((x : Int) - 1), .int (y : Nat)]) = H2 := hu2
    rw [ex] at hu2
    obtain ⟨hl2, hb2, d2⟩ := left_new hb1 hl1 hu2
    refine ⟨_, rfl, _, rfl, _, _, rfl, rfl, _, rfl, inn hb2 hl2 fun d v x' H3 g hd hc d3 hb3 hl3 => ?_⟩
    refine ⟨_, rfl, _, rfl, _, _, rfl, rfl, _, rfl, inn hb3 hl3 fun d' v' x'' H4 g' hd' hc' d4 hb4 hl4 => ?_⟩
    exact ⟨big3, newly fun p H5 s5 e5 _ => q (.choice d d') _ x'' H5 (g.choice g') ⟨p, v, v', rfl, e5, hd.mono ((d4.tk hb3 hl3).trans (.of s5)), hd'.mono (.of s5)⟩ (by simp only [chs]; omega) (d2.trans (d3.trans (d4.trans (.same s5)))) (hb4.same s5) (s5 _ _ hl4)⟩
  rintro σ H' ⟨rfl, rfl⟩
  refine ⟨_, rfl, (by decide : (6 : Nat) ≤ sizeLine), fun p n2 => ?_⟩
  generalize hu2 : upd H1 p _ = H2
  obtain ⟨s2, e2⟩ := new_of n2 hu2
  refine ⟨b, sc, p, _, rfl, hb1.same s2, e2, (hb1.fresh n2).1, (by decide), (by decide), fun z H3 hz dr3 hb3 => ?_⟩
  obtain ⟨m, hm, rfl⟩ := mem_nums (ns := [2, 3, 3, 4, 1, 0]) hz
  have hm4 : m ≤ 4 := (by decide : ∀ m ∈ [2, 3, 3, 4, 1, 0], m ≤ 4) m hm
  have hl3 : LeftAt H3 l x y := dr3 _ _ (s2 _ _ hl1) ((hb1.same s2).ne (s2 _ _ hl1))
  have q : ∀ (d : Doc) (v : V) (x' : Nat) (H' : Hp), Gen (k + 2) (WW (k + 2)) (SS (k + 2)) d → DAt H' d v → chs d + x' ≤ x → Dr2 b l H3 H' → BagAt H' b sc → LeftAt H' l x' y → Q v H' := fun d v x' H' g a c dr => q d v x' H' g a c ((Dr2.same s2).trans ((Dr2.of dr3).trans dr))
  clear hb1 hl1 hu2 s2 e2 dr3 n2 hz
  refine ⟨fun σ H' => σ = [some (.ref b), some (.int ((k + 2 : Nat) : Int)), some (.ref l), some (.int (way : Nat)), none, some (.int (m : Nat)), none] ∧ H3 = H', ?_, ?_⟩
  · -- fill
    refine ⟨_, rfl, _, _, rfl, rfl, _, rfl, ite2 (fun c3 => ?_) (fun c3 => ⟨rfl, rfl⟩)⟩
    refine ⟨_, rfl, l, _, 0, .int (x : Nat), rfl, rfl, SqL.of hl3, rfl, _, rfl, _, _, rfl, rfl, _, rfl, ite2 (fun c4 => ?_) (fun c4 => ⟨rfl, rfl⟩)⟩
    have hx : m < x := by
      have := of_decide_eq_true c4
      omega
    have ex : (x : Int) - (if ((m : Int) - 1) > 0 then (m : Int) - 1 else 0) = ((x - (m - 1) : Nat) : Int) := by
      split <;> omega
    refine ⟨_, rfl, l, _, 0, .int (x : Nat), rfl, rfl, SqL.of hl3, rfl, _, rfl, _, _, rfl, rfl, _, _, rfl, _, _, rfl, rfl, l, _, 0, 0, rfl, rfl, hl3, rfl, ?_⟩
    generalize hu4 : upd H3 l _ = H4
    have hu4 : upd H3 l (.lst [.int ((x : Int) - (if ((m : Int) - 1) > 0 then (m : Int) - 1 else 0)), .int (y : Nat)]) = H4 := hu4
    rw [ex] at hu4
    obtain ⟨hl4, hb4, d4⟩ := left_new hb3 hl3 hu4
    refine ⟨_, rfl, _, rfl, by omega, by omega, fun D hD => ?_⟩
    rw [Int.toNat_natCast]
    refine lc_range (lo := 0) (n := m) (Drawn b sc l D H4 (Gen (k + 1) (WW (k + 1)) (SS (k + 1))) (x - (m - 1)) y) (.start hD hb4 hl4) ?_ ?_
    · intro t H5 ht dn
      obtain ⟨hb5, x5, hl5, st⟩ := Drawn.step hD hb4 hl4 (by omega) dn
      exact ⟨rfl, _, rfl, _, rfl, _, _, rfl, rfl, _, rfl, inn hb5 hl5 fun d v x' H6 g hd hc d6 hb6 hl6 => st g hd hc d6 hb6 hl6⟩
    · rintro H5 ⟨d5, hb5, x5, hl5, ds, xs, hxs, hds, hlen, hg, hc⟩
      refine ⟨D, _, rfl, .inl ⟨SqL.of hxs, fun p6 n6 => ?_⟩⟩
      generalize hu6 : upd H5 p6 _ = H6
      obtain ⟨s6, e6⟩ := new_of n6 hu6
      exact ⟨big2, newly fun p7 H7 s7 e7 _ => q (.fill ds) _ x5 H7 (Gen.fill hg (by omega)) ⟨p7, p6, xs, rfl, e7, s7 _ _ e6, hds.mono (.of (s6.trans s7))⟩ (by simp only [chs]; omega) (d4.trans (d5.trans (.same (s6.trans s7)))) (hb5.same (s6.trans s7)) ((s6.trans s7) _ _ hl5)⟩
  rintro σ H' ⟨rfl, rfl⟩
  -- row
  refine ⟨_, rfl, _, rfl, _, _, rfl, rfl, .inr ⟨_, rfl, _, _, rfl, rfl, ?_⟩⟩
  have hj : ∃ i : Nat, i ≤ 4 ∧ (m : Int) + (if decide ((m : Int) < 2) = true then 1 else 0) = (i : Nat) := by
    by_cases c : m < 2
    · exact ⟨m + 1, by omega, by rw [if_pos (decide_eq_true (by omega))]; omega⟩
    · exact ⟨m, hm4, by rw [if_neg (by rw [decide_eq_false (by omega)]; decide)]; omega⟩
  obtain ⟨j, hj4, ej⟩ := hj
  have elow : -(2 ^ 62) ≤ (m : Int) + (if decide ((m : Int) < 2) = true then 1 else 0) := by rw [ej]; omega
  have ehigh : (m : Int) + (if decide ((m : Int) < 2) = true then 1 else 0) < 2 ^ 62 := by rw [ej]; omega
  have en : ((m : Int) + (if decide ((m : Int) < 2) = true then 1 else 0)).toNat ≤ 4 := by rw [ej]; omega
  refine ⟨_, rfl, elow, ehigh, fun D hD => ?_⟩
  refine lc_range (lo := 0) (n := ((m : Int) + (if decide ((m : Int) < 2) = true then 1 else 0)).toNat) (Drawn b sc l D H3 (Gen (k + 1) (WW (k + 1)) (SS (k + 1))) x y) (.start hD hb3 hl3) ?_ ?_
  · intro t H5 ht dn
    obtain ⟨hb5, x5, hl5, st⟩ := Drawn.step hD hb3 hl3 (Nat.lt_of_lt_of_le ht (Nat.le_trans en (by decide))) dn
    exact ⟨rfl, _, rfl, _, rfl, _, _, rfl, rfl, _, rfl, inn hb5 hl5 fun d v x' H6 g hd hc d6 hb6 hl6 => st g hd hc d6 hb6 hl6⟩
  · rintro H5 ⟨d5, hb5, x5, hl5, ds, xs, hxs, hds, hlen, hg, hc⟩
    refine ⟨D, _, rfl, .inl ⟨SqL.of hxs, fun p6 n6 => ?_⟩⟩
    generalize hu6 : upd H5 p6 _ = H6
    obtain ⟨s6, e6⟩ := new_of n6 hu6
    exact ⟨big2, newly fun p7 H7 s7 e7 _ => q (.row ds) _ x5 H7 (Gen.row hg (by rw [hlen]; exact en)) ⟨p7, p6, xs, rfl, e7, s7 _ _ e6, hds.mono (.of (s6.trans s7))⟩ (by simp only [chs]; omega) (d5.trans (.same (s6.trans s7))) (hb5.same (s6.trans s7)) ((s6.trans s7) _ _ hl5)⟩
theorem no_doc {n : Nat} {f : Addr} {fd : FuncData} : FnOk P w K mg base CX0 n f fd ["_law_bag_here", "_law_deep", "_law_left"] (spDoc 0) := by
  have no : ∀ vs H Q E, ¬ spDoc 0 vs H Q E := fun vs H Q E h => by
    obtain ⟨b, sc, l, i, deep, x, y, _, _, h1, h2, _⟩ := h
    omega
  exact ⟨fun vs H Q E h => absurd h (no vs H Q E), fun A outer s H args us vs Q E _ _ _ _ h => absurd h (no vs H Q E)⟩
theorem all_doc {f g e u : Addr} {fd gd ed ud : FuncData} (F : Fun K "_law_doc" "_law_doc" sDoc f fd)
    (bS : Binds K fd ["_law_bag_here", "_law_deep", "_law_left"] []) (mS : mg "_law_doc" = some (.ref f))
    (G : FnOk P w K mg base CX0 1 g gd ["_law_bag_here", "_law_many"] spTake) (bG : Binds K gd ["_law_bag_here", "_law_many"] []) (kG : PySem.W.keepIn K (.ref g) = true) (mG : mg "_law_take" = some (.ref g))
    (O : FnOk P w K mg base CX0 2 e ed ["_law_bag_here", "_law_things"] spOne) (bO : Binds K ed ["_law_bag_here", "_law_things"] []) (kO : PySem.W.keepIn K (.ref e) = true) (mO : mg "_law_one" = some (.ref e))
    (L : FnOk P w K mg base CX0 4 u ud ["_law_bag_here", "_law_left"] spLeaf) (bL : Binds K ud ["_law_bag_here", "_law_left"] []) (kL : PySem.W.keepIn K (.ref u) = true) (mL : mg "_law_leaf" = some (.ref u)) (T : Tp mg) :
    ∀ n : Nat, FnOk P w K mg base CX0 (n + 4) f fd ["_law_bag_here", "_law_deep", "_law_left"] (spDoc n)
  | 0 => no_doc
  | n + 1 => ok_doc F (all_doc F bS mS G bG kG mG O bO kO mO L bL kL mL T n) bS mS G bG kG mG O bO kO mO L bL kL mL T
end LK

/-! K25Some -/
namespace LK
open PySem L2 LD
variable {P : Program} {w : World} {K : PySem.W.Frag} {mg : Str → Option Value} {base : Heap}
abbrev sSome : Stmt := top 29
abbrev sAlk : Stmt := top 30
abbrev sLed : Stmt := top 31

def spSome : Sp := fun vs H Q _ => ∃ (b sc : Addr) (m : Nat), vs = [.ref b, .int (m : Nat)] ∧ BagAt H b sc ∧
  ∀ (d : Doc) (v : V) (H' : Hp), Gen 5 1021 11092 d → DAt H' d v → chs d ≤ m → Dr b H H' → BagAt H' b sc → Q v H'
abbrev nSome : List Str := ["_law_bag_here", "_law_most", "_law_left", "_law_parts", "_law_part"]
theorem scSome : FnScope nSome ["_law_bag_here", "_law_most"] (defScope sSome) := ⟨rfl, rfl, rfl, by decide +kernel, rfl, by decide +kernel, by decide +kernel⟩
theorem ok_some {f g e : Addr} {fd gd ed : FuncData} (F : Fun K "_law_some_doc" "_law_some_doc" sSome f fd)
    (G : FnOk P w K mg base CX0 8 g gd ["_law_bag_here", "_law_deep", "_law_left"] (spDoc 4)) (bG : Binds K gd ["_law_bag_here", "_law_deep", "_law_left"] []) (kG : PySem.W.keepIn K (.ref g) = true) (mG : mg "_law_doc" = some (.ref g))
    (O : FnOk P w K mg base CX0 2 e ed ["_law_bag_here", "_law_things"] spOne) (bO : Binds K ed ["_law_bag_here", "_law_things"] []) (kO : PySem.W.keepIn K (.ref e) = true) (mO : mg "_law_one" = some (.ref e)) (T : Tp mg) :
    FnOk P w K mg base CX0 9 f fd ["_law_bag_here", "_law_most"] spSome := by
  refine F.ok scSome (fun vs H Q E h => ?_) (fun cdv A outer s H vs Q E hr h => ?_)
  · obtain ⟨b, sc, m, rfl, _⟩ := h
    rfl
  obtain ⟨b, sc, m, rfl, hb, q⟩ := h
  have hr2 : Room 2 _ := hr.mono (by omega)
  refine ⟨_, pss_cons (ps_set (i := 2) scSome.nd rfl (Or.inr rfl) (pe_lst (pa_cons (pv 1) (pa_cons pe_int pa_nil))))
    (pss_cons (ps_setLc (i := 3) (own := [("_law_part", 4)]) (g := gName 4) (tt := tYes) rfl scSome.nd rfl rfl (sw_true rfl rfl rfl rfl)
        (pi_range1 rfl T.range (pa_cons (pe_call O hr2 rfl mO kO bO .nil pass0 (pa_cons (pv 0) (pa_cons (pe_lst (pa_cons pe_int (pa_cons pe_int (pa_cons pe_int pa_nil)))) pa_nil))) pa_nil))
        (blkOk_by (N := nSome) (own := [("_law_part", 4)]) (sc := defScope sSome) (by decide +kernel)) (fun _ _ _ _ _ => pg_name (i := 4) scSome.nd rfl (Or.inl rfl)) (fun _ _ _ _ _ => pts_nil)
        (fun _ _ _ _ _ => pe_call G hr rfl mG kG bG .nil pass0 (pa_cons (pv 0) (pa_cons (pe_call O hr2 rfl mO kO bO .nil pass0 (pa_cons (pv 0) (pa_cons (pe_lst (pa_cons pe_int (pa_cons pe_int (pa_cons pe_int pa_nil)))) pa_nil))) (pa_cons (pv 2) pa_nil)))))
    (pss_one (ps_ret (pe_ifExp (pt_cmpR op_gt (pe_callB call_len_seq (by rfl) T.len PySem.boot_len (pa_cons (pv 3) pa_nil)) pe_int (nomark _))
      (pe_tup (pa_cons pe_str (pa_cons (pe_callTy call_tuple_of (by rfl) T.tuple (by decide +kernel) (pa_cons (pv 3) pa_nil)) pa_nil)))
      (pe_ix ix_list (pv 3) pe_int (fun _ _ => rfl)))))), ?_⟩
  refine ⟨_, rfl, big2, fun l n1 => ?_⟩
  generalize hu1 : upd H l _ = H1
  obtain ⟨s1, e1⟩ := new_of n1 hu1
  have hl1 : LeftAt H1 l m 2 := e1
  have hb1 := hb.same s1
  refine ⟨_, rfl, big3, fun p n2 => ?_⟩
  generalize hu2 : upd H1 p _ = H2
  obtain ⟨s2, e2⟩ := new_of n2 hu2
  refine ⟨b, sc, p, _, rfl, hb1.same s2, e2, (hb1.fresh n2).1, (by decide), (by decide), fun z H3 hz dr3 hb3 => ?_⟩
  obtain ⟨c, hc, rfl⟩ := mem_nums (ns := [2, 1, 3]) hz
  have hc3 : 1 ≤ c ∧ c ≤ 3 := (by decide : ∀ m ∈ [2, 1, 3], 1 ≤ m ∧ m ≤ 3) c hc
  have hl3 : LeftAt H3 l m 2 := dr3 _ _ (s2 _ _ hl1) ((hb1.same s2).ne (s2 _ _ hl1))
  have q : ∀ (d : Doc) (v : V) (H' : Hp), Gen 5 1021 11092 d → DAt H' d v → chs d ≤ m → Dr2 b l H3 H' → BagAt H' b sc → Q v H' := fun d v H' g hd hm dr =>
    q d v H' g hd hm fun a o ha nb => dr _ _ (dr3 _ _ ((s1.trans s2) _ _ ha) nb) nb (ne_of_none ha n1)
  clear hu1 hu2 e1 e2 hl1 hb1 hz
  refine ⟨_, rfl, by omega, by omega, fun D hD => ?_⟩
  rw [Int.toNat_natCast]
  refine lc_range (lo := 0) (n := c) (Drawn b sc l D H3 (Gen 4 (WW 4) (SS 4)) m 2) (.start hD hb3 hl3) ?_ ?_
  · intro t H4 ht dn
    obtain ⟨hb4, x4, hl4, st⟩ := Drawn.step hD hb3 hl3 (by omega) dn
    refine ⟨rfl, _, rfl, _, rfl, big3, fun p5 n5 => ?_⟩
    generalize hu5 : upd H4 p5 _ = H5
    obtain ⟨s5, e5⟩ := new_of n5 hu5
    refine ⟨b, sc, p5, _, rfl, hb4.same s5, e5, (hb4.fresh n5).1, (by decide), (by decide), fun z H6 hz dr6 hb6 => ?_⟩
    obtain ⟨k, hk, rfl⟩ := mem_nums (ns := [4, 4, 3]) hz
    have hl6 : LeftAt H6 l x4 2 := dr6 _ _ (s5 _ _ hl4) ((hb4.same s5).ne (s5 _ _ hl4))
    refine ⟨_, rfl, b, sc, l, _, k, x4, 2, rfl, rfl, (by decide : ∀ m ∈ [4, 4, 3], 1 ≤ m) k hk, (by decide : ∀ m ∈ [4, 4, 3], m ≤ 4) k hk, hb6, hl6, fun d v x' H7 g hd hcc dr7 hb7 hl7 => ?_⟩
    refine st ?_ hd hcc ((Dr2.same s5).trans ((Dr2.of dr6).trans dr7)) hb7 hl7
    exact g.mono ((by decide : ∀ m ∈ [4, 4, 3], m ≤ 4) k hk) ((by decide : ∀ m ∈ [4, 4, 3], WW m ≤ WW 4) k hk) ((by decide : ∀ m ∈ [4, 4, 3], SS m ≤ SS 4) k hk)
  · rintro H4 ⟨d4, hb4, x4, hl4, ds, xs, hxs, hds, hlen, hg, hcc⟩
    have hxl := hds.len
    refine ⟨_, rfl, D, _, rfl, .inl (SqL.of hxs), _, _, rfl, rfl, _, rfl, ite2 (fun c1 => ?_) (fun c1 => ?_)⟩
    · refine ⟨_, rfl, D, _, rfl, .inl ⟨SqL.of hxs, fun p6 n6 => ?_⟩⟩
      generalize hu6 : upd H4 p6 _ = H6
      obtain ⟨s6, e6⟩ := new_of n6 hu6
      exact ⟨big2, newly fun p7 H7 s7 e7 _ => q (.row ds) _ H7 (Gen.row hg (by omega)) ⟨p7, p6, xs, rfl, e7, s7 _ _ e6, hds.mono (.of (s6.trans s7))⟩ (by simp only [chs]; omega) (d4.trans (.same (s6.trans s7))) (hb4.same (s6.trans s7))⟩
    · match ds, xs, hds with
      | [], _, _ =>
        exact absurd (show 0 = c from hlen) (by omega)
      | d :: ds, _, ⟨x, ys, rfl, gx, hds⟩ =>
        refine ⟨_, rfl, D, _, 0, x, rfl, rfl, SqL.of hxs, atI_nat (j := 0) rfl, ?_⟩
        have g := hg d (List.mem_cons_self ..)
        exact q d x H4 (g.mono (by decide) (by decide) (by decide)) gx (by simp only [chsL] at hcc; omega) d4 hb4
end LK

/-! K26Alk -/
namespace LK
open PySem L2 LD
variable {P : Program} {w : World} {K : PySem.W.Frag} {mg : Str → Option Value} {base : Heap}

def spAlk : Sp := fun vs H Q _ => ∃ (b sc : Addr) (d : Doc) (v : V), vs = [.ref b, v] ∧ BagAt H b sc ∧ DAt H d v ∧
  ∀ (w : Nat) (v' : V) (H' : Hp), DAt H' (alk w d) v' → Dr b H H' → BagAt H' b sc → Q v' H'
abbrev nAlk : List Str := ["_law_bag_here", "_law_document", "_law_way"]
theorem scAlk : FnScope nAlk ["_law_bag_here", "_law_document"] (defScope sAlk) := ⟨rfl, rfl, rfl, by decide +kernel, rfl, by decide +kernel, by decide +kernel⟩
theorem ok_alk {f g : Addr} {fd gd : FuncData} (F : Fun K "_law_alike_documents" "_law_alike_documents" sAlk f fd)
    (G : FnOk P w K mg base CX0 1 g gd ["_law_bag_here", "_law_many"] spTake) (bG : Binds K gd ["_law_bag_here", "_law_many"] []) (kG : PySem.W.keepIn K (.ref g) = true) (mG : mg "_law_take" = some (.ref g)) :
    FnOk P w K mg base CX0 2 f fd ["_law_bag_here", "_law_document"] spAlk := by
  refine F.ok scAlk (fun vs H Q E h => ?_) (fun cdv A outer s H vs Q E hr h => ?_)
  · obtain ⟨b, sc, d, v, rfl, _⟩ := h
    rfl
  obtain ⟨b, sc, d, v, rfl, hb, hd, q⟩ := h
  refine ⟨_, (pss_cons (ps_set (i := 2) scAlk.nd rfl (Or.inl rfl) (pe_call G hr rfl mG kG bG .nil pass0 (pa_cons (pv 0) (pa_cons pe_int pa_nil))))
    (pss_cons (ps_if (pt_cmpR op_eq (pv 2) pe_int (nomark _)) (pss_one (ps_ret (pe_tup (pa_cons pe_str (pa_cons (pe_tup (pa_cons (pv 1) pa_nil)) pa_nil))))) pss_nil)
    (pss_cons (ps_if (pt_cmpR op_eq (pv 2) pe_int (nomark _)) (pss_one (ps_ret (pe_tup (pa_cons pe_str (pa_cons (pe_tup (pa_cons (pe_tup (pa_cons pe_str (pa_cons pe_str pa_nil))) (pa_cons (pe_tup (pa_cons pe_str (pa_cons (pe_tup pa_nil) pa_nil))) (pa_cons (pv 1) (pa_cons (pe_tup (pa_cons pe_str (pa_cons (pe_tup (pa_cons (pe_tup (pa_cons pe_str (pa_cons pe_str pa_nil))) pa_nil)) pa_nil))) pa_nil))))) pa_nil))))) pss_nil)
    (pss_cons (ps_if (pt_cmpR op_eq (pv 2) pe_int (nomark _)) (pss_one (ps_ret (pe_tup (pa_cons pe_str (pa_cons pe_int (pa_cons (pv 1) pa_nil)))))) pss_nil)
    (pss_cons (ps_if (pt_cmpR op_eq (pv 2) pe_int (nomark _)) (pss_one (ps_ret (pe_tup (pa_cons pe_str (pa_cons (pv 1) (pa_cons (pv 1) pa_nil)))))) pss_nil)
    (pss_cons (ps_if (pt_cmpR op_eq (pv 2) pe_int (nomark _)) (pss_one (ps_ret (pe_tup (pa_cons pe_str (pa_cons (pe_tup (pa_cons (pv 1) pa_nil)) pa_nil))))) pss_nil)
    (pss_cons (ps_if (pt_cmpR op_eq (pv 2) pe_int (nomark _)) (pss_one (ps_ret (pe_tup (pa_cons pe_str (pa_cons pe_int (pa_cons (pe_tup (pa_cons pe_str (pa_cons pe_int (pa_cons (pv 1) pa_nil)))) pa_nil)))))) pss_nil)
    (pss_one (ps_ret (pe_tup (pa_cons pe_str (pa_cons (pe_tup (pa_cons (pe_tup (pa_cons pe_str (pa_cons (pe_tup pa_nil) pa_nil))) (pa_cons (pe_tup (pa_cons pe_str (pa_cons pe_int (pa_cons (pe_tup (pa_cons pe_str (pa_cons (pe_tup (pa_cons (pv 1) (pa_cons (pe_tup (pa_cons pe_str (pa_cons (pe_tup pa_nil) pa_nil))) pa_nil))) pa_nil))) pa_nil)))) pa_nil))) pa_nil)))))))))))), ?_⟩
  refine ⟨_, rfl, b, sc, 7, rfl, hb, by decide, by decide, fun i H0 hi dr0 hb0 => ?_⟩
  have hd0 := hd.mono (dr0.tk hb)
  refine ⟨_, rfl, rfl, _, rfl, ite2 (fun c0 => ?_) (fun c0 => ?_)⟩
  · refine ⟨_, rfl, big1, fun p1 n1 => ?_⟩
    generalize hu1 : upd H0 p1 _ = H1
    obtain ⟨s1, e1⟩ := new_of n1 hu1
    refine ⟨big2, fun p2 n2 => ?_⟩
    generalize hu2 : upd H1 p2 _ = H2
    obtain ⟨s2, e2⟩ := new_of n2 hu2
    exact q 0 _ H2 ⟨p2, p1, _, rfl, e2, (s2 _ _ e1), ⟨_, _, rfl, (hd0.mono (.of (s1.trans s2))), rfl⟩⟩ (dr0.trans (.of (s1.trans s2))) (hb0.same (s1.trans s2))
  refine ⟨_, rfl, rfl, _, rfl, ite2 (fun c1 => ?_) (fun c1 => ?_)⟩
  · refine ⟨big2, fun p1 n1 => ?_⟩
    generalize hu1 : upd H0 p1 _ = H1
    obtain ⟨s1, e1⟩ := new_of n1 hu1
    refine ⟨Nat.zero_le _, fun p2 n2 => ?_⟩
    generalize hu2 : upd H1 p2 _ = H2
    obtain ⟨s2, e2⟩ := new_of n2 hu2
    refine ⟨big2, fun p3 n3 => ?_⟩
    generalize hu3 : upd H2 p3 _ = H3
    obtain ⟨s3, e3⟩ := new_of n3 hu3
    refine ⟨_, rfl, big2, fun p4 n4 => ?_⟩
    generalize hu4 : upd H3 p4 _ = H4
    obtain ⟨s4, e4⟩ := new_of n4 hu4
    refine ⟨big1, fun p5 n5 => ?_⟩
    generalize hu5 : upd H4 p5 _ = H5
    obtain ⟨s5, e5⟩ := new_of n5 hu5
    refine ⟨big2, fun p6 n6 => ?_⟩
    generalize hu6 : upd H5 p6 _ = H6
    obtain ⟨s6, e6⟩ := new_of n6 hu6
    refine ⟨big4, fun p7 n7 => ?_⟩
    generalize hu7 : upd H6 p7 _ = H7
    obtain ⟨s7, e7⟩ := new_of n7 hu7
    refine ⟨big2, fun p8 n8 => ?_⟩
    generalize hu8 : upd H7 p8 _ = H8
    obtain ⟨s8, e8⟩ := new_of n8 hu8
    exact q 1 _ H8 ⟨p8, p7, _, rfl, e8, (s8 _ _ e7), ⟨_, _, rfl, ⟨p1, rfl, ((s2.trans (s3.trans (s4.trans (s5.trans (s6.trans (s7.trans s8)))))) _ _ e1)⟩, ⟨_, _, rfl, ⟨p3, p2, _, rfl, ((s4.trans (s5.trans (s6.trans (s7.trans s8)))) _ _ e3), ((s3.trans (s4.trans (s5.trans (s6.trans (s7.trans s8))))) _ _ e2), rfl⟩, ⟨_, _, rfl, (hd0.mono (.of (s1.trans (s2.trans (s3.trans (s4.trans (s5.trans (s6.trans (s7.trans s8))))))))), ⟨_, _, rfl, ⟨p6, p5, _, rfl, ((s7.trans s8) _ _ e6), ((s6.trans (s7.trans s8)) _ _ e5), ⟨_, _, rfl, ⟨p4, rfl, ((s5.trans (s6.trans (s7.trans s8))) _ _ e4)⟩, rfl⟩⟩, rfl⟩⟩⟩⟩⟩ (dr0.trans (.of (s1.trans (s2.trans (s3.trans (s4.trans (s5.trans (s6.trans (s7.trans s8))))))))) (hb0.same (s1.trans (s2.trans (s3.trans (s4.trans (s5.trans (s6.trans (s7.trans s8))))))))
  refine ⟨_, rfl, rfl, _, rfl, ite2 (fun c2 => ?_) (fun c2 => ?_)⟩
  · refine ⟨_, rfl, big3, fun p1 n1 => ?_⟩
    generalize hu1 : upd H0 p1 _ = H1
    obtain ⟨s1, e1⟩ := new_of n1 hu1
    exact q 2 _ H1 ⟨p1, _, rfl, e1, (hd0.mono (.of s1))⟩ (dr0.trans (.of s1)) (hb0.same s1)
  refine ⟨_, rfl, rfl, _, rfl, ite2 (fun c3 => ?_) (fun c3 => ?_)⟩
  · refine ⟨_, rfl, _, rfl, big3, fun p1 n1 => ?_⟩
    generalize hu1 : upd H0 p1 _ = H1
    obtain ⟨s1, e1⟩ := new_of n1 hu1
    exact q 3 _ H1 ⟨p1, _, _, rfl, e1, (hd0.mono (.of s1)), (hd0.mono (.of s1))⟩ (dr0.trans (.of s1)) (hb0.same s1)
  refine ⟨_, rfl, rfl, _, rfl, ite2 (fun c4 => ?_) (fun c4 => ?_)⟩
  · refine ⟨_, rfl, big1, fun p1 n1 => ?_⟩
    generalize hu1 : upd H0 p1 _ = H1
    obtain ⟨s1, e1⟩ := new_of n1 hu1
    refine ⟨big2, fun p2 n2 => ?_⟩
    generalize hu2 : upd H1 p2 _ = H2
    obtain ⟨s2, e2⟩ := new_of n2 hu2
    exact q 4 _ H2 ⟨p2, p1, _, rfl, e2, (s2 _ _ e1), ⟨_, _, rfl, (hd0.mono (.of (s1.trans s2))), rfl⟩⟩ (dr0.trans (.of (s1.trans s2))) (hb0.same (s1.trans s2))
  refine ⟨_, rfl, rfl, _, rfl, ite2 (fun c5 => ?_) (fun c5 => ?_)⟩
  · refine ⟨_, rfl, big3, fun p1 n1 => ?_⟩
    generalize hu1 : upd H0 p1 _ = H1
    obtain ⟨s1, e1⟩ := new_of n1 hu1
    refine ⟨big3, fun p2 n2 => ?_⟩
    generalize hu2 : upd H1 p2 _ = H2
    obtain ⟨s2, e2⟩ := new_of n2 hu2
    exact q 5 _ H2 ⟨p2, _, rfl, e2, ⟨p1, _, rfl, (s2 _ _ e1), (hd0.mono (.of (s1.trans s2)))⟩⟩ (dr0.trans (.of (s1.trans s2))) (hb0.same (s1.trans s2))
  refine ⟨Nat.zero_le _, fun p1 n1 => ?_⟩
  generalize hu1 : upd H0 p1 _ = H1
  obtain ⟨s1, e1⟩ := new_of n1 hu1
  refine ⟨big2, fun p2 n2 => ?_⟩
  generalize hu2 : upd H1 p2 _ = H2
  obtain ⟨s2, e2⟩ := new_of n2 hu2
  refine ⟨_, rfl, Nat.zero_le _, fun p3 n3 => ?_⟩
  generalize hu3 : upd H2 p3 _ = H3
  obtain ⟨s3, e3⟩ := new_of n3 hu3
  refine ⟨big2, fun p4 n4 => ?_⟩
  generalize hu4 : upd H3 p4 _ = H4
  obtain ⟨s4, e4⟩ := new_of n4 hu4
  refine ⟨big2, fun p5 n5 => ?_⟩
  generalize hu5 : upd H4 p5 _ = H5
  obtain ⟨s5, e5⟩ := new_of n5 hu5
  refine ⟨big2, fun p6 n6 => ?_⟩
  generalize hu6 : upd H5 p6 _ = H6
  obtain ⟨s6, e6⟩ := new_of n6 hu6
  refine ⟨big3, fun p7 n7 => ?_⟩
  generalize hu7 : upd H6 p7 _ = H7
  obtain ⟨s7, e7⟩ := new_of n7 hu7
  refine ⟨big2, fun p8 n8 => ?_⟩
  generalize hu8 : upd H7 p8 _ = H8
  obtain ⟨s8, e8⟩ := new_of n8 hu8
  refine ⟨big2, fun p9 n9 => ?_⟩
  generalize hu9 : upd H8 p9 _ = H9
  obtain ⟨s9, e9⟩ := new_of n9 hu9
  exact q 6 _ H9 ⟨p9, p8, _, rfl, e9, (s9 _ _ e8), ⟨_, _, rfl, ⟨p2, p1, _, rfl, ((s3.trans (s4.trans (s5.trans (s6.trans (s7.trans (s8.trans s9)))))) _ _ e2), ((s2.trans (s3.trans (s4.trans (s5.trans (s6.trans (s7.trans (s8.trans s9))))))) _ _ e1), rfl⟩, ⟨_, _, rfl, ⟨p7, _, rfl, ((s8.trans s9) _ _ e7), ⟨p6, p5, _, rfl, ((s7.trans (s8.trans s9)) _ _ e6), ((s6.trans (s7.trans (s8.trans s9))) _ _ e5), ⟨_, _, rfl, (hd0.mono (.of (s1.trans (s2.trans (s3.trans (s4.trans (s5.trans (s6.trans (s7.trans (s8.trans s9)))))))))), ⟨_, _, rfl, ⟨p4, p3, _, rfl, ((s5.trans (s6.trans (s7.trans (s8.trans s9)))) _ _ e4), ((s4.trans (s5.trans (s6.trans (s7.trans (s8.trans s9))))) _ _ e3), rfl⟩, rfl⟩⟩⟩⟩, rfl⟩⟩⟩ (dr0.trans (.of (s1.trans (s2.trans (s3.trans (s4.trans (s5.trans (s6.trans (s7.trans (s8.trans s9)))))))))) (hb0.same (s1.trans (s2.trans (s3.trans (s4.trans (s5.trans (s6.trans (s7.trans (s8.trans s9)))))))))

theorem led_snoc (d : Doc) : ∀ ds : List Doc, led (ds ++ [d]) = led ds ++ ((if ds.isEmpty then [] else [Doc.gap]) ++ [d])
  | [] => rfl
  | [e] => rfl
  | e :: f :: es => by
    have h := led_snoc d (f :: es)
    show e :: .gap :: led (f :: (es ++ [d])) = e :: .gap :: (led (f :: es) ++ _)
    rw [show led (f :: (es ++ [d])) = _ from h]
    rfl
theorem led_empty : ∀ ds : List Doc, (led ds).isEmpty = ds.isEmpty
  | [] => rfl
  | [e] => rfl
  | e :: f :: es => rfl
theorem led_len : ∀ ds : List Doc, (led ds).length ≤ 2 * ds.length
  | [] => Nat.le_refl _
  | [e] => by simp only [led, List.length_cons, List.length_nil]; omega
  | e :: f :: es => by
    have := led_len (f :: es)
    simp only [led, List.length_cons] at this ⊢
    omega
theorem DsAt.app {H : Hp} : ∀ {r q : List Doc} {xs ys : List V}, DsAt H r xs → DsAt H q ys → DsAt H (r ++ q) (xs ++ ys)
  | [], q, xs, ys, e, h => by rw [show xs = [] from e]; exact h
  | it :: r, q, xs, ys, ⟨x, zs, e, g, h⟩, h' => by
    rw [e]
    exact ⟨x, zs ++ ys, rfl, g, DsAt.app h h'⟩
def spLed : Sp := fun vs H Q _ => ∃ (ds : List Doc) (v : V), vs = [v] ∧ DAt H (.fill ds) v ∧ ds.length ≤ 4 ∧ ∀ (v' : V) (H' : Hp), Same H H' → DAt H' (.row (led ds)) v' → Q v' H'
abbrev nLed : List Str := ["_law_document", "_law_some", "_law_its"]
theorem scLed : FnScope nLed ["_law_document"] (defScope sLed) := ⟨rfl, rfl, rfl, by decide +kernel, rfl, by decide +kernel, by decide +kernel⟩
theorem ok_led {f : Addr} {fd : FuncData} (F : Fun K "_law_fill_led" "_law_fill_led" sLed f fd) (T : Tp mg) :
    FnOk P w K mg base CX0 1 f fd ["_law_document"] spLed := by
  refine F.ok scLed (fun vs H Q E h => ?_) (fun cdv A outer s H vs Q E hr h => ?_)
  · obtain ⟨ds, v, rfl, _⟩ := h
    rfl
  obtain ⟨ds, v, rfl, ⟨a, a2, xs, rfl, ha, ha2, hds⟩, h4, q⟩ := h
  refine ⟨_, pss_cons (ps_set (i := 1) scLed.nd rfl (Or.inl rfl) (pe_lst pa_nil))
    (pss_cons (ps_for PassesOwn.never rfl (pi_tup (pe_ix ix_tup (pv 0) pe_int (fun _ _ => rfl))) (pg_name (i := 2) scLed.nd rfl (Or.inl rfl))
      (pss_one (ps_set (i := 1) scLed.nd rfl (Or.inl rfl) (pe_op op_cat (pe_op op_cat (pv 1) (pe_op op_rep (pe_lst (pa_cons (pe_tup (pa_cons pe_str pa_nil)) pa_nil))
        (pe_callTy call_int1 (by rfl) T.int (by decide +kernel) (pa_cons (pe_cmpR (op_neL0 hr.units) (pv 1) (pe_lst pa_nil) (nomark _)) pa_nil)))) (pe_lst (pa_cons (pv 2) pa_nil))))))
    (pss_one (ps_ret (pe_tup (pa_cons pe_str (pa_cons (pe_callTy call_tuple_of (by rfl) T.tuple (by decide +kernel) (pa_cons (pv 1) pa_nil)) pa_nil)))))), ?_⟩
  refine ⟨Nat.zero_le _, fun p1 n1 => ?_⟩
  generalize hu1 : upd H p1 _ = H1
  obtain ⟨s1, e1⟩ := new_of n1 hu1
  refine ⟨_, rfl, a, _, 1, .ref a2, rfl, rfl, SqT.of (s1 _ _ ha), rfl, a2, rfl, ⟨_, SqT.of (s1 _ _ ha2)⟩, ?_⟩
  refine for_tup (K := K) (a := a2) (xs := xs) (fun j σ H' => Same H H' ∧ ∃ (D : Addr) (acc : List V) (x2 : Option V), σ = [some (.ref a), some (.ref D), x2] ∧ H' D = some (.lst acc) ∧ DsAt H' (led (ds.take j)) acc)
    ⟨s1, p1, [], none, rfl, e1, rfl⟩ (fun j σ H' _ z => SqT.of (z.1 _ _ ha2)) ?_ ?_
  · rintro j x σ H2 hx ⟨s2, D, acc, x2, rfl, hacc, hda⟩
    have hj : j < xs.length := (List.getElem?_eq_some_iff.mp hx).1
    obtain ⟨d, hd, gx⟩ := hds.get hx
    have hjd : j < ds.length := by rw [← hds.len]; exact hj
    have hal := hda.len
    have hll := led_len (ds.take j)
    rw [List.length_take] at hll
    refine ⟨_, rfl, big1, fun p3 n3 => ?_⟩
    generalize hu3 : upd H2 p3 _ = H3
    obtain ⟨s3, e3⟩ := new_of n3 hu3
    refine ⟨big1, fun p4 n4 => ?_⟩
    generalize hu4 : upd H3 p4 _ = H4
    obtain ⟨s4, e4⟩ := new_of n4 hu4
    refine ⟨_, rfl, Nat.zero_le _, fun p5 n5 => ?_⟩
    generalize hu5 : upd H4 p5 _ = H5
    obtain ⟨s5, e5⟩ := new_of n5 hu5
    have s35 := s3.trans (s4.trans s5)
    refine ⟨D, p5, acc, rfl, rfl, SqL.of (s35 _ _ hacc), SqL.of e5, .inr ⟨_, rfl, ?_⟩⟩
    have hk : ∀ k : Bool, -(2 ^ 63) ≤ (if k = true then (1 : Int) else 0) ∧ (if k = true then (1 : Int) else 0) < 2 ^ 63 ∧ [V.ref p3].length * (if k = true then (1 : Int) else 0).toNat ≤ sizeLine := by
      intro k
      cases k <;> exact ⟨by decide, by decide, by show 1 * _ ≤ _; decide⟩
    refine ⟨p4, _, _, rfl, rfl, s5 _ _ e4, (hk _).1, (hk _).2.1, (hk _).2.2, fun p6 n6 => ?_⟩
    generalize hu6 : upd H5 p6 _ = H6
    obtain ⟨s6, e6⟩ := new_of n6 hu6
    obtain ⟨gs, zs, ez, hgs, eg⟩ : ∃ (gs : List Doc) (zs : List V), (List.replicate (if (!acc.isEmpty) = true then (1 : Int) else 0).toNat [V.ref p3]).flatten = zs ∧ DsAt H6 gs zs ∧ gs = (if (ds.take j).isEmpty then [] else [Doc.gap]) := by
      have em : (ds.take j).isEmpty = acc.isEmpty := by
        rw [← led_empty]
        generalize led (ds.take j) = g at hal
        cases g with
        | nil => cases acc with
          | nil => rfl
          | cons y acc => cases hal
        | cons z g => cases acc with
          | nil => cases hal
          | cons y acc => rfl
      rw [em]
      cases acc with
      | nil => exact ⟨[], [], rfl, rfl, rfl⟩
      | cons y acc => exact ⟨[.gap], [.ref p3], rfl, ⟨_, _, rfl, ⟨p3, rfl, (s4.trans (s5.trans s6)) _ _ e3⟩, rfl⟩, rfl⟩
    have e6 : H6 p6 = some (.lst zs) := by rw [← ez]; exact e6
    have hzl : zs.length ≤ 1 := by
      rw [hgs.len, eg]
      split <;> decide
    have s36 := s35.trans s6
    refine ⟨D, p6, acc, zs, rfl, rfl, s36 _ _ hacc, e6, by rw [line_eq]; omega, fun p7 n7 => ?_⟩
    generalize hu7 : upd H6 p7 _ = H7
    obtain ⟨s7, e7⟩ := new_of n7 hu7
    refine ⟨_, rfl, big1, fun p8 n8 => ?_⟩
    generalize hu8 : upd H7 p8 _ = H8
    obtain ⟨s8, e8⟩ := new_of n8 hu8
    refine ⟨p7, p8, _, [x], rfl, rfl, s8 _ _ e7, e8, by rw [List.length_append, line_eq]; show _ + 1 ≤ _; omega, fun p9 n9 => ?_⟩
    generalize hu9 : upd H8 p9 _ = H9
    obtain ⟨s9, e9⟩ := new_of n9 hu9
    have s69 := s7.trans (s8.trans s9)
    refine ⟨s2.trans (s36.trans s69), p9, acc ++ zs ++ [x], some x, rfl, e9, ?_⟩
    have et : ds.take (j + 1) = ds.take j ++ [d] := by
      rw [List.take_add_one, hd]
      rfl
    rw [et, led_snoc, ← List.append_assoc, ← eg]
    exact DsAt.snoc ((hda.mono (.of (s36.trans s69))).app (hgs.mono (.of s69))) (gx.mono (.of (s2.trans (s36.trans s69))))
  · rintro σ H2 ⟨s2, D, acc, x2, rfl, hacc, hda⟩
    rw [hds.len, List.take_length] at hda
    refine ⟨_, rfl, D, _, rfl, .inl ⟨SqL.of hacc, fun p6 n6 => ?_⟩⟩
    generalize hu6 : upd H2 p6 _ = H6
    obtain ⟨s6, e6⟩ := new_of n6 hu6
    exact ⟨big2, newly fun p7 H7 s7 e7 _ => q _ H7 (s2.trans (s6.trans s7)) ⟨p7, p6, acc, rfl, e7, s7 _ _ e6, hda.mono (.of (s6.trans s7))⟩⟩
end LK

/-! K27Facts -/
namespace LK
open PySem PySem.Spec PyProof.Rows L2 LD

/-! ### two rising lists with the same texts are one -/
theorem rises_same : ∀ {ys zs : List Str}, Rises ys → Rises zs → (∀ x, x ∈ ys ↔ x ∈ zs) → ys = zs
  | [], [], _, _, _ => rfl
  | [], z :: zs, _, _, m => absurd ((m z).mpr (List.mem_cons_self ..)) (by simp)
  | y :: ys, [], _, _, m => absurd ((m y).mp (List.mem_cons_self ..)) (by simp)
  | y :: ys, z :: zs, h, g, m => by
    obtain ⟨h1, h2⟩ := List.pairwise_cons.mp h
    obtain ⟨g1, g2⟩ := List.pairwise_cons.mp g
    have e : y = z := by
      rcases List.mem_cons.mp ((m y).mp (List.mem_cons_self ..)) with e | hy
      · exact e
      rcases List.mem_cons.mp ((m z).mpr (List.mem_cons_self ..)) with e | hz
      · exact e.symm
      exact absurd (List.lt_trans (g1 y hy) (h1 z hz)) (List.lt_irrefl _)
    subst e
    rw [rises_same h2 g2 fun x => ⟨fun hx => ?_, fun hx => ?_⟩]
    · rcases List.mem_cons.mp ((m x).mp (List.mem_cons_of_mem _ hx)) with e | h
      · rw [e] at hx
        exact absurd (h1 y hx) (List.lt_irrefl _)
      · exact h
    · rcases List.mem_cons.mp ((m x).mpr (List.mem_cons_of_mem _ hx)) with e | h
      · rw [e] at hx
        exact absurd (g1 y hx) (List.lt_irrefl _)
      · exact h
section
variable {X : Cx}
/-- xs != ys of two lists of the same texts -/
def rNeLS (K : PySem.W.Frag) : V → V → Hp → VK → Prop := fun x y H Q => ∃ (a b : Addr) (ys : List Str), x = .ref a ∧ y = .ref b ∧ SqL K H a (ys.map V.str) ∧ SqL K H b (ys.map V.str) ∧ Q (.bl false) H
theorem op_neLS (hu : X.A.units + 64 < cLine) : OpR X (compareOp .NotEq) (rNeLS X.K) := by
  intro pins s σ H x y v u Q I rx ry h
  obtain ⟨a, b, ys, rfl, rfl, ha, hb, q⟩ := h
  cases rx
  cases ry
  obtain ⟨its, r, ta, _⟩ := I.list ha
  obtain ⟨its2, r2, tb, _⟩ := I.list hb
  have h1 := r.length
  have h2 := r2.length
  have hall : ∀ n : Nat, (!(List.range n).all fun _ => true) = false := fun n => by simp
  have key := SeqAt.RcNeAt.lists (A := X.A) (s := s) (e := fun _ => true) ta.isList tb.isList (by rw [List.size_toArray, List.size_toArray]; omega) (by omega) (fun j hj1 hj2 => by
    rw [List.size_toArray] at hj1 hj2
    have hy : (ys.map V.str)[j]? = some (V.str (ys[j]'(by rw [List.length_map] at h1; omega))) := by
      rw [List.getElem?_map, List.getElem?_eq_getElem]
      rfl
    obtain ⟨w1, e1, t1, rfl⟩ := r.get hy
    obtain ⟨w2, e2, t2, rfl⟩ := r2.get hy
    rw [List.getElem_toArray, List.getElem_toArray, (List.getElem?_eq_some_iff.mp e1).2, (List.getElem?_eq_some_iff.mp e2).2]
    have z := SeqAt.EqAt.str_str (A := X.A.in1) (s := s) (ys[j]'(by rw [List.length_map] at h1; omega)) t1 (ys[j]'(by rw [List.length_map] at h1; omega)) t2
    rw [beq_self_eq_true] at z
    exact z)
  rw [hall] at key
  exact ne_by key ⟨.bl false, H, I, rfl, q⟩
end
/-! ### the bounds -/
theorem Gen.fit {n k a s : Nat} {d : Doc} (h : Gen k a s d) (hk : k ≤ n) (ha : a ≤ 1100) (hs : s ≤ 12000) : Fit n d := by
  have h2 : LD.wt d ≤ 1100 := Nat.le_trans h.wt ha
  have h3 : LD.sz d + 2 ≤ 12002 := by have := h.sz; omega
  have h4 : LD.wt d * (LD.sz d + 2) ≤ 1100 * 12002 := Nat.mul_le_mul h2 h3
  exact ⟨Nat.le_trans h.dep hk, by omega, by omega, by omega⟩
theorem alk_gen (w : Nat) {d : Doc} {k a s : Nat} (h : Gen k a s d) (hs : 1 ≤ s) (hk : 1 ≤ k) : Gen (k + 3) (a + 8) (s + 4) (alk w d) := by
  have h1 := h.dep
  have h2 := h.wt
  have h3 := h.sz
  have e0 : (Str.empty : Str).length = 0 := rfl
  unfold alk
  split
  · exact ⟨by simp only [LD.dep, depL]; omega, by simp only [LD.wt, wtL]; omega, by simp only [LD.sz, szL]; omega⟩
  split
  · exact ⟨by simp only [LD.dep, depL]; omega, by simp only [LD.wt, wtL]; omega, by simp only [LD.sz, szL, e0]; omega⟩
  split
  · exact ⟨by simp only [LD.dep]; omega, by simp only [LD.wt]; omega, by simp only [LD.sz]; omega⟩
  split
  · exact ⟨by simp only [LD.dep]; omega, by simp only [LD.wt]; omega, by simp only [LD.sz]; omega⟩
  split
  · exact ⟨by simp only [LD.dep, depL]; omega, by simp only [LD.wt, wtF]; omega, by simp only [LD.sz, szF]; omega⟩
  split
  · exact ⟨by simp only [LD.dep]; omega, by simp only [LD.wt]; omega, by simp only [LD.sz]; omega⟩
  · exact ⟨by simp only [LD.dep, depL]; omega, by simp only [LD.wt, wtL, wtF]; omega, by simp only [LD.sz, szL, szF]; omega⟩
theorem alk_chs (w : Nat) (d : Doc) : chs (alk w d) ≤ 1 + 2 * chs d := by
  unfold alk
  repeat' split
  all_goals simp only [chs, chsL, List.length_cons, List.length_nil]; omega
theorem few_of {d : Doc} {n : Nat} (h : chs d ≤ n) : (texts d).length ≤ 2 ^ n := Nat.le_trans (texts_few d) (Nat.pow_le_pow_right (by decide) h)

/-! ### the fill of texts and what it is led to -/
theorem chsL_text : ∀ ss : List Str, chsL (ss.map .text) = 0
  | [] => rfl
  | s :: ss => by simp only [List.map_cons, chsL, chs, chsL_text ss]
theorem led_chs : ∀ ss : List Str, chsL (led (ss.map .text)) = ss.length - 1
  | [] => rfl
  | [s] => rfl
  | s :: t :: ss => by
    have h := led_chs (t :: ss)
    simp only [List.map_cons] at h ⊢
    simp only [led, chsL, chs, h, List.length_cons]
    omega
theorem led_dep : ∀ ss : List Str, depL (led (ss.map .text)) ≤ 1
  | [] => Nat.zero_le _
  | [s] => Nat.le_refl _
  | s :: t :: ss => by
    have h := led_dep (t :: ss)
    simp only [List.map_cons] at h ⊢
    simp only [led, depL, dep]
    omega
theorem led_wt : ∀ ss : List Str, wtL (led (ss.map .text)) ≤ 2 * ss.length
  | [] => Nat.zero_le _
  | [s] => by simp only [List.map_cons, List.map_nil, led, wtL, wt, List.length_cons, List.length_nil]; omega
  | s :: t :: ss => by
    have h := led_wt (t :: ss)
    simp only [List.map_cons, List.length_cons] at h ⊢
    simp only [led, wtL, wt] at h ⊢
    omega
theorem led_sz : ∀ ss : List Str, (∀ z ∈ ss, z.length ≤ 13) → szL (led (ss.map .text)) ≤ 14 * ss.length
  | [], _ => Nat.zero_le _
  | [s], h => by
    have := h s (List.mem_cons_self ..)
    simp only [List.map_cons, List.map_nil, led, szL, sz, List.length_cons, List.length_nil]
    omega
  | s :: t :: ss, h => by
    have h1 := h s (List.mem_cons_self ..)
    have h2 := led_sz (t :: ss) fun z hz => h z (List.mem_cons_of_mem _ hz)
    simp only [List.map_cons, List.length_cons] at h2 ⊢
    simp only [led, szL, sz] at h2 ⊢
    omega
theorem text_gen {ss : List Str} (h : ∀ z ∈ ss, z.length ≤ 13) : ∀ d ∈ ss.map Doc.text, Gen 1 1 13 d := fun d hd => by
  obtain ⟨z, hz, rfl⟩ := List.mem_map.mp hd
  exact ⟨Nat.le_refl _, Nat.le_refl _, h z hz⟩
theorem words_gen {ss : List Str} (h : ∀ z ∈ ss, z.length ≤ 13) (hl : ss.length ≤ 4) : Gen 2 13 56 (.fill (ss.map .text)) := Gen.fill (text_gen h) (by rw [List.length_map]; exact hl)
theorem led_gen {ss : List Str} (h : ∀ z ∈ ss, z.length ≤ 13) (hl : ss.length ≤ 4) : Gen 2 13 56 (.row (led (ss.map .text))) := by
  have h1 := led_dep ss
  have h2 := led_wt ss
  have h3 := led_sz ss h
  exact ⟨by simp only [LD.dep]; omega, by simp only [LD.wt]; omega, by simp only [LD.sz]; omega⟩
theorem words_chs {ss : List Str} (hl : ss.length ≤ 4) : chs (.fill (ss.map .text)) ≤ 3 ∧ chs (.row (led (ss.map .text))) ≤ 3 := by
  have h1 := chsL_text ss
  have h2 := led_chs ss
  exact ⟨by simp only [chs, h1, List.length_map]; omega, by simp only [chs, h2]; omega⟩
end LK

/-! K28Law -/
namespace LK
open PySem L2 LD
variable {P : Program} {w : World} {K : PySem.W.Frag} {mg : Str → Option Value} {base : Heap}
abbrev sLaw : Stmt := top 33

def spLaw (K : PySem.W.Frag) : Sp := fun vs H Q _ => ∃ (a : Addr) (ns : List Int), vs = [.ref a] ∧ SqL K H a (ns.map V.int) ∧ ns.length ≤ 63 ∧ ∀ H', Q (.bl true) H'
abbrev nLaw : List Str := ["_law_script", "_law_bag_here", "_law_turn", "_law_document", "_law_words", "_law_part", "_law_outside", "_law_pair", "_law_its", "_law_flat", "_law_plain", "_law_one_here"]
/-- a row of it alone, a group of it -/
def pd (o : Str) (e : Doc) : Doc := if o = "row" then .row [e] else .group e
theorem pd_gen (o : Str) {e : Doc} (h : Gen 2 13 56 e) : Gen 3 16 57 (pd o e) := by
  have h1 := h.dep
  have h2 := h.wt
  have h3 := h.sz
  unfold pd
  split
  · exact ⟨by simp only [LD.dep, depL]; omega, by simp only [LD.wt, wtL]; omega, by simp only [LD.sz, szL]; omega⟩
  · exact ⟨by simp only [LD.dep]; omega, by simp only [LD.wt]; omega, by simp only [LD.sz]; omega⟩
theorem pd_chs (o : Str) {e : Doc} (h : chs e ≤ 3) : chs (pd o e) ≤ 4 := by
  unfold pd
  split
  · simp only [chs, chsL]; omega
  · simp only [chs]; omega
theorem scLaw : FnScope nLaw ["_law_script"] (defScope sLaw) := ⟨rfl, rfl, rfl, by decide +kernel, rfl, by decide +kernel, by decide +kernel⟩
theorem ok_law {f aB aSD aO aX aAL aST aLE aFL aLY : Addr} {fd fB fSD fO fX fAL fST fLE fFL fLY : FuncData} (F : Fun K "law" "law" sLaw f fd)
    (B : FnOk P w K mg base CX0 1 aB fB ["_law_script"] (spBag K)) (bB : Binds K fB ["_law_script"] []) (kB : PySem.W.keepIn K (.ref aB) = true) (mB : mg "_law_bag" = some (.ref aB))
    (SD : FnOk P w K mg base CX0 9 aSD fSD ["_law_bag_here", "_law_most"] spSome) (bSD : Binds K fSD ["_law_bag_here", "_law_most"] []) (kSD : PySem.W.keepIn K (.ref aSD) = true) (mSD : mg "_law_some_doc" = some (.ref aSD))
    (O : FnOk P w K mg base CX0 2 aO fO ["_law_bag_here", "_law_things"] spOne) (bO : Binds K fO ["_law_bag_here", "_law_things"] []) (kO : PySem.W.keepIn K (.ref aO) = true) (mO : mg "_law_one" = some (.ref aO))
    (X : FnOk P w K mg base CX0 17 aX fX ["_law_document"] (spTexts 8)) (bX : Binds K fX ["_law_document"] []) (kX : PySem.W.keepIn K (.ref aX) = true) (mX : mg "_law_texts" = some (.ref aX))
    (AL : FnOk P w K mg base CX0 2 aAL fAL ["_law_bag_here", "_law_document"] spAlk) (bAL : Binds K fAL ["_law_bag_here", "_law_document"] []) (kAL : PySem.W.keepIn K (.ref aAL) = true) (mAL : mg "_law_alike_documents" = some (.ref aAL))
    (ST : FnOk P w K mg base CX0 3 aST fST ["_law_bag_here"] spString) (bST : Binds K fST ["_law_bag_here"] []) (kST : PySem.W.keepIn K (.ref aST) = true) (mST : mg "_law_string" = some (.ref aST))
    (LE : FnOk P w K mg base CX0 1 aLE fLE ["_law_document"] spLed) (bLE : Binds K fLE ["_law_document"] []) (kLE : PySem.W.keepIn K (.ref aLE) = true) (mLE : mg "_law_fill_led" = some (.ref aLE))
    (FL : FnOk P w K mg base CX0 10 aFL fFL ["document"] (spFlat 8)) (bFL : Binds K fFL ["document"] []) (kFL : PySem.W.keepIn K (.ref aFL) = true) (mFL : mg "flat_text" = some (.ref aFL))
    (LY : FnOk P w K mg base CX0 15 aLY fLY ["document", "ways"] (spLay 8)) (bLY : Binds K fLY ["document", "ways"] []) (kLY : PySem.W.keepIn K (.ref aLY) = true) (mLY : mg "layout_by" = some (.ref aLY))
    (T : Tp mg) : FnOk P w K mg base CX0 60 f fd ["_law_script"] (spLaw K) := by
  refine F.ok scLaw (fun vs H Q E h => ?_) (fun cdv A outer s H vs Q E hr h => ?_)
  · obtain ⟨a, ns, rfl, _⟩ := h
    rfl
  obtain ⟨a, ns, rfl, hs, hl, q⟩ := h
  have hr1 : Room 1 _ := hr.mono (by omega)
  have hr2 : Room 2 _ := hr.mono (by omega)
  have hr3 : Room 3 _ := hr.mono (by omega)
  have hr9 : Room 9 _ := hr.mono (by omega)
  have hr10 : Room 10 _ := hr.mono (by omega)
  have hr15 : Room 15 _ := hr.mono (by omega)
  have hr17 : Room 17 _ := hr.mono (by omega)
  refine ⟨_, (pss_cons (ps_set (i := 1) scLaw.nd rfl (Or.inr rfl) (pe_call B hr1 rfl mB kB bB .nil pass0 (pa_cons (pv 0) pa_nil)))
    (pss_cons (ps_for PassesOwn.never rfl (pi_range1 rfl T.range (pa_cons pe_int pa_nil)) (pg_name (i := 2) scLaw.nd rfl (Or.inl rfl))
    (pss_cons (ps_set (i := 3) scLaw.nd rfl (Or.inl rfl) (pe_call SD hr9 rfl mSD kSD bSD .nil pass0 (pa_cons (pv 1) (pa_cons (pe_call O hr2 rfl mO kO bO .nil pass0 (pa_cons (pv 1) (pa_cons (pe_lst (pa_cons pe_int (pa_cons pe_int pa_nil))) pa_nil))) pa_nil))))
    (C8.pss_cut (ps_if (pt_cmpR (op_neLS hr.units) (pe_call X hr17 rfl mX kX bX .nil pass0 (pa_cons (pe_call AL hr2 rfl mAL kAL bAL .nil pass0 (pa_cons (pv 1) (pa_cons (pv 3) pa_nil))) pa_nil)) (pe_call X hr17 rfl mX kX bX .nil pass0 (pa_cons (pv 3) pa_nil)) (nomark _)) (pss_one (ps_ret pe_bl)) pss_nil)
    (C8.pss_cut (ps_set (i := 4) scLaw.nd rfl (Or.inl rfl) (pe_tup (pa_cons pe_str (pa_cons (pe_callTy call_tuple_of (by rfl) T.tuple (by decide +kernel) (pa_cons (pe_lc (own := [("_law_part", 5)]) (g := gName 5) (tt := tYes) rfl scLaw.nd
      (pi_range1 rfl T.range (pa_cons (pe_call O hr2 rfl mO kO bO .nil pass0 (pa_cons (pv 1) (pa_cons (pe_lst (pa_cons pe_int (pa_cons pe_int (pa_cons pe_int (pa_cons pe_int pa_nil))))) pa_nil))) pa_nil))
      (blkOk_by (N := nLaw) (own := [("_law_part", 5)]) (sc := defScope sLaw) (by decide +kernel)) (fun _ _ _ _ _ => pg_name (i := 5) scLaw.nd rfl (Or.inl rfl)) (fun _ _ _ _ _ => pts_nil) (fun _ _ _ _ _ => (pe_tup (pa_cons pe_str (pa_cons (pe_call ST hr3 rfl mST kST bST .nil pass0 (pa_cons (pv 1) pa_nil)) pa_nil))))) pa_nil)) pa_nil))))
    (pss_cons (ps_for PassesOwn.never rfl (pi_tup (pe_tup (pa_cons pe_str (pa_cons pe_str pa_nil)))) (pg_name (i := 6) scLaw.nd rfl (Or.inr rfl))
    (pss_cons (ps_setLc (i := 7) (own := [("_law_its", 8)]) (g := gName 8) (tt := tYes) rfl scLaw.nd rfl rfl (sw_true rfl rfl rfl rfl)
      (pi_tup (pe_tup (pa_cons (pv 4) (pa_cons (pe_call LE hr1 rfl mLE kLE bLE .nil pass0 (pa_cons (pv 4) pa_nil)) pa_nil))))
      (blkOk_by (N := nLaw) (own := [("_law_its", 8)]) (sc := defScope sLaw) (by decide +kernel)) (fun _ _ _ _ _ => pg_name (i := 8) scLaw.nd rfl (Or.inl rfl)) (fun _ _ _ _ _ => pts_nil) (fun _ _ _ _ _ => (pe_ifExp (pt_cmp (pc_is (pv 6)) (nomark _)) (pe_tup (pa_cons (pv 6) (pa_cons (pe_tup (pa_cons (pv 8) pa_nil)) pa_nil))) (pe_tup (pa_cons (pv 6) (pa_cons (pv 8) pa_nil))))))
    (pss_one (ps_if (pt_cmpR (op_neLS hr.units) (pe_call X hr17 rfl mX kX bX .nil pass0 (pa_cons (pe_ix ix_list (pv 7) pe_int (fun _ _ => rfl)) pa_nil)) (pe_call X hr17 rfl mX kX bX .nil pass0 (pa_cons (pe_ix ix_list (pv 7) pe_int (fun _ _ => rfl)) pa_nil)) (nomark _)) (pss_one (ps_ret pe_bl)) pss_nil))))
    (pss_cons (ps_set (i := 9) scLaw.nd rfl (Or.inl rfl) (pe_call FL hr10 rfl mFL kFL bFL .nil pass0 (pa_cons (pv 3) pa_nil)))
    (pss_cons (ps_set (i := 10) scLaw.nd rfl (Or.inl rfl) (pe_call LY hr15 rfl mLY kLY bLY .nil pass0 (pa_cons (pe_tup (pa_cons pe_str (pa_cons (pv 3) pa_nil))) (pa_cons (pe_tup pa_nil) pa_nil))))
    (C8.pss_cut (ps_if (PW.pt (pw_and (pt_cmpR op_notN (pv 9) pe_non (nomark _)) (pw_and1 (pt_cmpR op_ne (pv 10) (pe_call LY hr15 rfl mLY kLY bLY .nil pass0 (pa_cons (pe_tup (pa_cons pe_str (pa_cons (pv 9) pa_nil))) (pa_cons (pe_tup pa_nil) pa_nil))) (nomark _))))) (pss_one (ps_ret pe_bl)) pss_nil)
    (C8.pss_cut (ps_set (i := 11) scLaw.nd rfl (Or.inl rfl) (pe_tup (pa_cons pe_str (pa_cons (pe_tup (pa_cons (pe_tup (pa_cons pe_str (pa_cons pe_str pa_nil))) (pa_cons (pe_tup (pa_cons pe_str (pa_cons (pe_ifExp (pt_cmpR op_notN (pv 9) pe_non (nomark _)) (pv 9) pe_str) pa_nil))) pa_nil))) pa_nil))))
    (pss_one (ps_for PassesOwn.never rfl (pi_tup (pe_tup (pa_cons (pe_tup (pa_cons pe_str (pa_cons (pv 11) pa_nil))) (pa_cons (pe_tup (pa_cons pe_str (pa_cons (pv 11) pa_nil))) pa_nil)))) (pg_name (i := 8) scLaw.nd rfl (Or.inl rfl))
    (pss_one (ps_if (pt_cmpR op_ne (pe_call LY hr15 rfl mLY kLY bLY .nil pass0 (pa_cons (pv 8) (pa_cons (pe_tup pa_nil) pa_nil))) (pe_call LY hr15 rfl mLY kLY bLY .nil pass0 (pa_cons (pv 11) (pa_cons (pe_tup pa_nil) pa_nil))) (nomark _)) (pss_one (ps_ret pe_bl)) pss_nil)))))))))))))
    (pss_one (ps_ret pe_bl)))), ?_⟩
  refine ⟨_, rfl, a, ns, rfl, hs, fun b sc H1 s1 hb1 _ => ?_⟩
  refine ⟨_, rfl, by decide, by decide, ?_⟩
  refine for_range (lo := 0) (n := 2) (fun _ σ H' => BagAt H' b sc ∧ ∃ x2 x3 x4 x5 x6 x7 x8 x9 x10 x11 : Option V, σ = [some (.ref a), some (.ref b), x2, x3, x4, x5, x6, x7, x8, x9, x10, x11])
    ⟨hb1, none, none, none, none, none, none, none, none, none, none, rfl⟩ ?_ (fun σ H' _ => q H')
  rintro j σ H2 hj ⟨hb2, x2, x3, x4, x5, x6, x7, x8, x9, x10, x11, rfl⟩
  clear hs s1 hb1
  -- the document
  refine ⟨_, rfl, _, rfl, big2, fun p3 n3 => ?_⟩
  generalize hu3 : upd H2 p3 _ = H3
  obtain ⟨s3, e3⟩ := new_of n3 hu3
  refine ⟨b, sc, p3, _, rfl, hb2.same s3, e3, (hb2.fresh n3).1, by decide, by decide, fun z H4 hz dr4 hb4 => ?_⟩
  obtain ⟨m, hm, rfl⟩ := mem_nums (ns := [3, 4]) hz
  refine ⟨b, sc, m, rfl, hb4, fun d v H5 g5 hd5 hc5 dr5 hb5 => ?_⟩
  have hc : chs d ≤ 4 := Nat.le_trans hc5 ((by decide : ∀ m ∈ [3, 4], m ≤ 4) m hm)
  have hfit : Fit 9 d := g5.fit (by decide) (by decide) (by decide)
  have hfew := few_of hc
  generalize (0 : Int) + (j : Nat) = jj
  clear hz hm dr4 dr5 hb2 hb4 e3 s3 hu3 n3 hc5 hj
  -- its texts
  refine ⟨fun σ H' => BagAt H' b sc ∧ DAt H' d v ∧ σ = [some (.ref a), some (.ref b), some (.int jj), some v, x4, x5, x6, x7, x8, x9, x10, x11], ?_, ?_⟩
  · refine ⟨_, rfl, _, rfl, b, sc, d, v, rfl, hb5, hd5, fun wy v6 H6 hd6 dr6 hb6 => ?_⟩
    have hd6' := hd5.mono (dr6.tk hb5)
    obtain ⟨alm, all⟩ := alk_texts wy d
    have hac := alk_chs wy d
    refine ⟨alk wy d, v6, rfl, hd6, (alk_gen wy g5 (by decide) (by decide)).fit (by decide) (by decide) (by decide), by omega, by omega, fun p7 ys H7 s7 e7 r7 m7 => ?_⟩
    refine ⟨_, rfl, d, v, rfl, hd6'.mono (.of s7), hfit, by omega, by omega, fun p8 zs H8 s8 e8 r8 m8 => ?_⟩
    have ez : ys = zs := rises_same r7 r8 fun x => (m7 x).trans ((alm x).trans (m8 x).symm)
    subst ez
    exact ⟨p7, p8, ys, rfl, rfl, SqL.of (s8 _ _ e7), SqL.of e8, _, rfl, ite2 (fun c => by cases c) fun _ => ⟨hb6.same (s7.trans s8), hd6'.mono (.of (s7.trans s8)), rfl⟩⟩
  rintro σ H6 ⟨hb6, hd6, rfl⟩
  clear hb5 hd5
  -- words
  refine ⟨fun σ H' => BagAt H' b sc ∧ DAt H' d v ∧ ∃ (ss : List Str) (vw : V) (x5 : Option V), ss.length ≤ 4 ∧ (∀ z ∈ ss, z.length ≤ 13) ∧ DAt H' (.fill (ss.map .text)) vw ∧
    σ = [some (.ref a), some (.ref b), some (.int jj), some v, some vw, x5, x6, x7, x8, x9, x10, x11], ?_, ?_⟩
  · refine ⟨_, rfl, big4, fun p7 n7 => ?_⟩
    generalize hu7 : upd H6 p7 _ = H7
    obtain ⟨s7, e7⟩ := new_of n7 hu7
    refine ⟨b, sc, p7, _, rfl, hb6.same s7, e7, (hb6.fresh n7).1, by decide, by decide, fun z H8 hz dr8 hb8 => ?_⟩
    obtain ⟨m, hm, rfl⟩ := mem_nums (ns := [3, 4, 1, 0]) hz
    have hm4 : m ≤ 4 := (by decide : ∀ m ∈ [3, 4, 1, 0], m ≤ 4) m hm
    have hd8 := (hd6.mono (.of s7)).mono (dr8.tk (hb6.same s7))
    refine ⟨_, rfl, by omega, by omega, fun D hD => ?_⟩
    rw [Int.toNat_natCast]
    obtain ⟨nDb, nDs⟩ := hb8.fresh hD
    refine lc_range (lo := 0) (n := m) (fun t H' => Dr b H8 H' ∧ BagAt H' b sc ∧ ∃ (ss : List Str) (xs : List V), H' D = some (.lst xs) ∧ DsAt H' (ss.map .text) xs ∧ ss.length = t ∧ ∀ z ∈ ss, z.length ≤ 13)
      ⟨.of (same_new hD _), hb8.same (same_new hD _), [], [], upd_same, rfl, rfl, fun _ h => by cases h⟩ ?_ ?_
    · rintro t H9 ht ⟨dr9, hb9, ss, xs, hxs, hds, hlen, hsl⟩
      refine ⟨rfl, _, rfl, b, sc, rfl, hb9, fun z H10 hz dr10 hb10 => ⟨big2, fun p11 n11 => ?_⟩⟩
      generalize hu11 : upd H10 p11 _ = H11
      obtain ⟨s11, e11⟩ := new_of n11 hu11
      have hxs11 := s11 _ _ (dr10 _ _ hxs nDb)
      have hxl := hds.len
      rw [List.length_map] at hxl
      refine ⟨xs, hxs11, by rw [line_eq]; omega, fun a o ha nb => ?_, (hb10.same s11).upd nDb nDs, ss ++ [z], xs ++ [.ref p11], upd_same, ?_, ?_, ?_⟩
      · rw [upd_ne (ne_of_none ha hD)]
        exact s11 _ _ (dr10 _ _ (dr9 _ _ ha nb) nb)
      · rw [List.map_append]
        exact ((hds.mono ((dr10.tk hb9).trans (.of s11))).snoc (d := .text z) ⟨p11, rfl, e11⟩).mono (tk_upd hxs11)
      · rw [List.length_append, hlen]
        rfl
      · intro z' hz'
        rcases List.mem_append.mp hz' with h | h
        · exact hsl z' h
        · rw [List.mem_singleton.mp h]
          exact hz
    · rintro H9 ⟨dr9, hb9, ss, xs, hxs, hds, hlen, hsl⟩
      refine ⟨D, _, rfl, .inl ⟨SqL.of hxs, fun p10 n10 => ?_⟩⟩
      generalize hu10 : upd H9 p10 _ = H10
      obtain ⟨s10, e10⟩ := new_of n10 hu10
      refine ⟨big2, newly fun p11 H11 s11 e11 _ => ⟨hb9.same (s10.trans s11), (hd8.mono (dr9.tk hb8)).mono (.of (s10.trans s11)), ss, .ref p11, _, by omega, hsl, ⟨p11, p10, xs, rfl, e11, s11 _ _ e10, hds.mono (.of (s10.trans s11))⟩, rfl⟩⟩
  rintro σ H7 ⟨hb7, hd7, ss, vw, x5, hss4, hss, hw7, rfl⟩
  clear hb6 hd6
  -- rows and groups
  refine ⟨big2, fun p8 n8 => ?_⟩
  generalize hu8 : upd H7 p8 _ = H8
  obtain ⟨s8, e8⟩ := new_of n8 hu8
  refine ⟨p8, rfl, ⟨_, SqT.of e8⟩, ?_⟩
  refine for_tup (K := K) (a := p8) (xs := [.str "row", .str "group"]) (fun j σ H' => Same H8 H' ∧ ∃ x6 x7 x8 : Option V, σ = [some (.ref a), some (.ref b), some (.int jj), some v, some vw, x5, x6, x7, x8, x9, x10, x11])
    ⟨fun _ _ h => h, _, _, _, rfl⟩ (fun j σ H' _ z => SqT.of (z.1 _ _ e8)) ?_ ?_
  · rintro j x σ H9 hx ⟨s9, x6, x7, x8, rfl⟩
    obtain ⟨o, rfl, ho⟩ : ∃ o : Str, x = .str o ∧ (o = "row" ∨ o = "group") := by
      rcases List.mem_cons.mp (List.mem_of_getElem? hx) with h | h
      · exact ⟨_, h, .inl rfl⟩
      · exact ⟨_, List.mem_singleton.mp h, .inr rfl⟩
    have hw9 := hw7.mono (.of (s8.trans s9))
    refine ⟨_, rfl, _, rfl, ss.map .text, vw, rfl, hw9, by rw [List.length_map]; exact hss4, fun v10 H10 s10 hl10 => ⟨big2, fun p11 n11 => ?_⟩⟩
    generalize hu11 : upd H10 p11 _ = H11
    obtain ⟨s11, e11⟩ := new_of n11 hu11
    have hw11 := hw9.mono (.of (s10.trans s11))
    have hl11 := hl10.mono (.of s11)
    have hin : DsAt H11 [.fill (ss.map .text), .row (led (ss.map .text))] [vw, v10] := ⟨_, _, rfl, hw11, _, _, rfl, hl11, rfl⟩
    refine ⟨p11, rfl, ⟨_, SqT.of e11⟩, fun D hD => ?_⟩
    refine lc_tup (K := K) (a := p11) (xs := [vw, v10]) (fun j H' => Same H11 H' ∧ ∃ acc, H' D = some (.lst acc) ∧ DsAt H' (([.fill (ss.map .text), .row (led (ss.map .text))] : List Doc).take j |>.map (pd o)) acc)
      ⟨same_new hD _, [], upd_same, rfl⟩ (fun j H' _ z => SqT.of (z.1 _ _ e11)) ?_ ?_
    · rintro j x H12 hx ⟨s12, acc, hacc, hda⟩
      obtain ⟨e, he, ge⟩ := hin.get hx
      have hal := hda.len
      rw [List.length_map, List.length_take] at hal
      have et : (([.fill (ss.map .text), .row (led (ss.map .text))] : List Doc).take (j + 1)).map (pd o) = (([.fill (ss.map .text), .row (led (ss.map .text))] : List Doc).take j).map (pd o) ++ [pd o e] := by
        rw [List.take_add_one, he, List.map_append]
        rfl
      refine ⟨rfl, _, rfl, _, rfl, _, rfl, ite2 (fun c => ?_) (fun c => ?_)⟩
      · have eo : o = "row" := of_decide_eq_true c
        refine ⟨_, rfl, _, rfl, big1, fun p13 n13 => ?_⟩
        generalize hu13 : upd H12 p13 _ = H13
        obtain ⟨s13, e13⟩ := new_of n13 hu13
        refine ⟨big2, fun p14 n14 => ?_⟩
        generalize hu14 : upd H13 p14 _ = H14
        obtain ⟨s14, e14⟩ := new_of n14 hu14
        have hacc14 := (s13.trans s14) _ _ hacc
        refine ⟨acc, hacc14, by rw [line_eq]; simp only [List.length_cons, List.length_nil] at hal; omega, same_upd (s12.trans (s13.trans s14)) hD, acc ++ [.ref p14], upd_same, ?_⟩
        rw [et]
        refine ((hda.mono (.of (s13.trans s14))).snoc (d := pd o e) ?_).mono (tk_upd hacc14)
        rw [pd, if_pos eo]
        subst eo
        exact ⟨p14, p13, _, rfl, e14, s14 _ _ e13, _, _, rfl, ge.mono (.of (s12.trans (s13.trans s14))), rfl⟩
      · have eo : ¬ o = "row" := fun z => c (decide_eq_true z)
        have eg : o = "group" := ho.resolve_left eo
        refine ⟨_, rfl, _, rfl, big2, fun p14 n14 => ?_⟩
        generalize hu14 : upd H12 p14 _ = H14
        obtain ⟨s14, e14⟩ := new_of n14 hu14
        have hacc14 := s14 _ _ hacc
        refine ⟨acc, hacc14, by rw [line_eq]; simp only [List.length_cons, List.length_nil] at hal; omega, same_upd (s12.trans s14) hD, acc ++ [.ref p14], upd_same, ?_⟩
        rw [et]
        refine ((hda.mono (.of s14)).snoc (d := pd o e) ?_).mono (tk_upd hacc14)
        rw [pd, if_neg eo]
        subst eg
        exact ⟨p14, _, rfl, e14, ge.mono (.of (s12.trans s14))⟩
    · rintro H12 ⟨s12, acc, hacc, _, _, rfl, h1, _, _, rfl, h2, rfl⟩
      have g1 := pd_gen o (words_gen hss hss4)
      have g2 := pd_gen o (led_gen hss hss4)
      have c1 := pd_chs o (words_chs hss4).1
      have c2 := pd_chs o (words_chs hss4).2
      have f1 := few_of c1
      have f2 := few_of c2
      refine ⟨_, rfl, D, _, 0, _, rfl, rfl, SqL.of hacc, rfl, pd o (.fill (ss.map .text)), _, rfl, h1, g1.fit (by decide) (by decide) (by decide), by omega, by omega, fun p13 ys H13 s13 e13 r13 m13 => ?_⟩
      refine ⟨_, rfl, D, _, 1, _, rfl, rfl, SqL.of (s13 _ _ hacc), rfl, pd o (.row (led (ss.map .text))), _, rfl, h2.mono (.of s13), g2.fit (by decide) (by decide) (by decide), by omega, by omega, fun p14 zs H14 s14 e14 r14 m14 => ?_⟩
      have ez : ys = zs := rises_same r13 r14 fun x => by
        rw [m13, m14]
        unfold pd
        split
        · rw [led_row]
        · rw [led_group]
      subst ez
      exact ⟨p13, p14, ys, rfl, rfl, SqL.of (s14 _ _ e13), SqL.of e14, _, rfl, ite2 (fun c => by cases c) fun _ => ⟨s9.trans (s10.trans (s11.trans (s12.trans (s13.trans s14)))), _, _, _, rfl⟩⟩
  · rintro σ H9 ⟨s9, x6, x7, x8, rfl⟩
    have hb9 := hb7.same (s8.trans s9)
    have hd9 := hd7.mono (.of (s8.trans s9))
    clear hb7 hd7 hw7 e8 hu8 n8
    -- the flat text
    refine ⟨_, rfl, d, v, rfl, hd9, (g5.fit (n := 8) (by decide) (by decide) (by decide)).sm, fun H10 s10 => ?_⟩
    have hfl := flat_len d
    have hsz := g5.sz
    refine ⟨_, rfl, big2, fun p11 n11 => ?_⟩
    generalize hu11 : upd H10 p11 _ = H11
    obtain ⟨s11, e11⟩ := new_of n11 hu11
    refine ⟨Nat.zero_le _, fun p12 n12 => ?_⟩
    generalize hu12 : upd H11 p12 _ = H12
    obtain ⟨s12, e12⟩ := new_of n12 hu12
    have hgg : Gen 6 1023 11092 (.group d) := ⟨by have := g5.dep; simp only [LD.dep]; omega, by have := g5.wt; simp only [LD.wt]; omega, by simp only [LD.sz]; omega⟩
    have hgc : chs (.group d) ≤ 5 := by simp only [chs]; omega
    have hgf := few_of hgc
    refine ⟨.group d, .ref p11, p12, rfl, ⟨p11, v, rfl, s12 _ _ e11, hd9.mono (.of (s10.trans (s11.trans s12)))⟩, hgg.fit (by decide) (by decide) (by decide), by omega, e12, fun H13 s13 => ?_⟩
    have s1013 := s10.trans (s11.trans (s12.trans s13))
    have hb13 := hb9.same s1013
    have hd13 := hd9.mono (.of s1013)
    clear hu11 hu12 e11 e12 n11 n12 s1013 hb9 hd9 s10 s11 s12 s13
    refine ⟨fun σ H' => Same H13 H' ∧ σ = [some (.ref a), some (.ref b), some (.int jj), some v, some vw, x5, x6, x7, x8, some (optV (flat d)), some (.str (first (.group d))), x11], ?_, ?_⟩
    · refine ⟨_, rfl, rfl, _, rfl, ?_⟩
      rw [opt_none]
      cases hf : flat d with
      | none => exact ite2 (fun c => by cases c) fun _ => ⟨fun _ _ h => h, rfl⟩
      | some t =>
        have ht := hfl t hf
        refine ite2 (fun _ => ?_) fun c => absurd rfl c
        refine ⟨_, rfl, _, rfl, big2, fun p14 n14 => ?_⟩
        generalize hu14 : upd H13 p14 _ = H14
        obtain ⟨s14, e14⟩ := new_of n14 hu14
        refine ⟨Nat.zero_le _, fun p15 n15 => ?_⟩
        generalize hu15 : upd H14 p15 _ = H15
        obtain ⟨s15, e15⟩ := new_of n15 hu15
        have htg : Gen 1 1 11092 (.text t) := ⟨Nat.le_refl _, Nat.le_refl _, by simp only [LD.sz]; omega⟩
        have htf := few_of (d := .text t) (n := 0) (Nat.le_refl _)
        refine ⟨.text t, .ref p14, p15, rfl, ⟨p14, rfl, s15 _ _ e14⟩, htg.fit (by decide) (by decide) (by decide), by omega, e15, fun H16 s16 => ⟨rfl, _, rfl, ?_⟩⟩
        rw [first_group hf, decide_eq_true rfl]
        exact ite2 (fun c => by cases c) fun _ => ⟨s14.trans (s15.trans s16), rfl⟩
    rintro σ H14 ⟨s14, rfl⟩
    have hb14 := hb13.same s14
    clear hb13 hd13 s14
    -- a row of two texts
    refine ⟨fun σ H' => BagAt H' b sc ∧ ∃ (t : Str) (vo : V), t.length ≤ 11092 ∧ DAt H' (.row [.text cA, .text t]) vo ∧
      σ = [some (.ref a), some (.ref b), some (.int jj), some v, some vw, x5, x6, x7, x8, some (optV (flat d)), some (.str (first (.group d))), some vo], ?_, ?_⟩
    · refine ⟨big2, fun p15 n15 => ?_⟩
      generalize hu15 : upd H14 p15 _ = H15
      obtain ⟨s15, e15⟩ := new_of n15 hu15
      refine ⟨_, rfl, rfl, _, rfl, ?_⟩
      rw [opt_none]
      refine ite2 (fun c => ?_) (fun c => ?_)
      · obtain ⟨t, hf⟩ : ∃ t, flat d = some t := by
          cases hf : flat d with
          | none =>
            rw [hf] at c
            cases c
          | some t => exact ⟨t, rfl⟩
        refine ⟨_, rfl, ?_⟩
        refine ⟨big2, fun p16 n16 => ?_⟩
        generalize hu16 : upd H15 p16 _ = H16
        obtain ⟨s16, e16⟩ := new_of n16 hu16
        refine ⟨big2, fun p17 n17 => ?_⟩
        generalize hu17 : upd H16 p17 _ = H17
        obtain ⟨s17, e17⟩ := new_of n17 hu17
        rw [hf] at e16
        exact ⟨big2, newly fun p18 H18 s18 e18 _ => ⟨hb14.same (s15.trans (s16.trans (s17.trans s18))), t, .ref p18, Nat.le_trans (hfl t hf) hsz, ⟨p18, p17, _, rfl, e18, s18 _ _ e17, _, _, rfl, ⟨p15, rfl, (s16.trans (s17.trans s18)) _ _ e15⟩, _, _, rfl, ⟨p16, rfl, (s17.trans s18) _ _ e16⟩, rfl⟩, rfl⟩⟩
      · refine ⟨big2, fun p16 n16 => ?_⟩
        generalize hu16 : upd H15 p16 _ = H16
        obtain ⟨s16, e16⟩ := new_of n16 hu16
        refine ⟨big2, fun p17 n17 => ?_⟩
        generalize hu17 : upd H16 p17 _ = H17
        obtain ⟨s17, e17⟩ := new_of n17 hu17
        exact ⟨big2, newly fun p18 H18 s18 e18 _ => ⟨hb14.same (s15.trans (s16.trans (s17.trans s18))), _, .ref p18, by decide, ⟨p18, p17, _, rfl, e18, s18 _ _ e17, _, _, rfl, ⟨p15, rfl, (s16.trans (s17.trans s18)) _ _ e15⟩, _, _, rfl, ⟨p16, rfl, (s17.trans s18) _ _ e16⟩, rfl⟩, rfl⟩⟩
    rintro σ H15 ⟨hb15, t, vo, ht, ho15, rfl⟩
    refine ⟨_, rfl, big2, fun p16 n16 => ?_⟩
    generalize hu16 : upd H15 p16 _ = H16
    obtain ⟨s16, e16⟩ := new_of n16 hu16
    refine ⟨_, rfl, big2, fun p17 n17 => ?_⟩
    generalize hu17 : upd H16 p17 _ = H17
    obtain ⟨s17, e17⟩ := new_of n17 hu17
    refine ⟨big2, fun p18 n18 => ?_⟩
    generalize hu18 : upd H17 p18 _ = H18
    obtain ⟨s18, e18⟩ := new_of n18 hu18
    have ho18 := ho15.mono (.of (s16.trans (s17.trans s18)))
    have hin : DsAt H18 [.align (.row [.text cA, .text t]), .group (.row [.text cA, .text t])] [.ref p16, .ref p17] :=
      ⟨_, _, rfl, ⟨p16, _, rfl, (s17.trans s18) _ _ e16, ho18⟩, _, _, rfl, ⟨p17, _, rfl, s18 _ _ e17, ho18⟩, rfl⟩
    have hb18 := hb15.same (s16.trans (s17.trans s18))
    have cl : cA.length = 1 := by decide
    have go1 : Gen 2 3 11093 (.row [.text cA, .text t]) := ⟨by simp only [LD.dep, depL]; omega, by simp only [LD.wt, wtL]; omega, by simp only [LD.sz, szL, cl]; omega⟩
    have go2 : Gen 3 5 11093 (.align (.row [.text cA, .text t])) := ⟨by simp only [LD.dep, depL]; omega, by simp only [LD.wt, wtL]; omega, by simp only [LD.sz, szL, cl]; omega⟩
    have go3 : Gen 3 5 11093 (.group (.row [.text cA, .text t])) := ⟨by simp only [LD.dep, depL]; omega, by simp only [LD.wt, wtL]; omega, by simp only [LD.sz, szL, cl]; omega⟩
    have ch1 := few_of (d := .row [.text cA, .text t]) (n := 1) (by simp only [chs, chsL]; omega)
    have ch2 := few_of (d := .align (.row [.text cA, .text t])) (n := 1) (by simp only [chs, chsL]; omega)
    have ch3 := few_of (d := .group (.row [.text cA, .text t])) (n := 1) (by simp only [chs, chsL]; omega)
    refine ⟨p18, rfl, ⟨_, SqT.of e18⟩, ?_⟩
    refine for_tup (K := K) (a := p18) (xs := [.ref p16, .ref p17]) (fun j σ H' => Same H18 H' ∧ ∃ x8 : Option V, σ = [some (.ref a), some (.ref b), some (.int jj), some v, some vw, x5, x6, x7, x8, some (optV (flat d)), some (.str (first (.group d))), some vo])
      ⟨fun _ _ h => h, _, rfl⟩ (fun j σ H' _ z => SqT.of (z.1 _ _ e18)) ?_ ?_
    · rintro j x σ H19 hx ⟨s19, x8', rfl⟩
      obtain ⟨e, he, ge⟩ := hin.get hx
      obtain ⟨fe, te, ee⟩ : Fit 9 e ∧ (texts e).length ≤ 1000 ∧ first e = first (.row [.text cA, .text t]) := by
        rcases List.mem_cons.mp (List.mem_of_getElem? he) with h | h
        · rw [h]
          exact ⟨go2.fit (by decide) (by decide) (by decide), by omega, first_align _⟩
        · rw [List.mem_singleton.mp h]
          exact ⟨go3.fit (by decide) (by decide) (by decide), by omega, first_one t⟩
      refine ⟨_, rfl, Nat.zero_le _, fun p20 n20 => ?_⟩
      generalize hu20 : upd H19 p20 _ = H20
      obtain ⟨s20, e20⟩ := new_of n20 hu20
      refine ⟨e, x, p20, rfl, ge.mono (.of (s19.trans s20)), fe, te, e20, fun H21 s21 => ?_⟩
      refine ⟨_, rfl, Nat.zero_le _, fun p22 n22 => ?_⟩
      generalize hu22 : upd H21 p22 _ = H22
      obtain ⟨s22, e22⟩ := new_of n22 hu22
      refine ⟨.row [.text cA, .text t], vo, p22, rfl, ho18.mono (.of (s19.trans (s20.trans (s21.trans s22)))), go1.fit (by decide) (by decide) (by decide), by omega, e22, fun H23 s23 => ⟨rfl, _, rfl, ?_⟩⟩
      rw [ee, decide_eq_true rfl]
      exact ite2 (fun c => by cases c) fun _ => ⟨s19.trans (s20.trans (s21.trans (s22.trans s23))), _, rfl⟩
    · rintro σ H19 ⟨s19, x8', rfl⟩
      exact ⟨hb18.same s19, _, _, _, _, _, _, _, _, _, _, rfl⟩
end LK

/-! K29Mk -/
namespace LK
open PySem L2 LD
theorem all_mk {l : PySem.W.OpenLaw} {w : World} {K : PySem.W.Frag} {h : Heap} {mg : Str → Option Value} {fa f1 f2 f3 f4 f5 f6 f7 f8 f9 f10 f11 f12 f13 f14 f15 f16 f17 f18 f19 f20 f21 f22 f23 f24 f25 f26 f27 : Addr} (X : K.In h) (G : h.Ns mainGlobals mg) (hfa : mg "law" = some (.ref fa))
    {od1 an1 od2 an2 od3 an3 od4 an4 od5 an5 od6 an6 od7 an7 od8 an8 od9 an9 od10 an10 od11 an11 od12 an12 od13 an13 od14 an14 od15 an15 od16 an16 od17 an17 od18 an18 od19 an19 od20 an20 od21 an21 od22 an22 od23 an23 od24 an24 od25 an25 od26 an26 od27 an27 : Option Addr} {sl1 sl2 sl3 sl4 sl5 sl6 sl7 sl8 sl9 sl10 sl11 sl12 sl13 sl14 sl15 sl16 sl17 sl18 sl19 sl20 sl21 sl22 sl23 sl24 sl25 sl26 sl27 : Array (Option Value)} {oc1 kV1 dc1 pm1 cd1 ct1 oc2 kV2 dc2 pm2 cd2 ct2 oc3 kV3 dc3 pm3 cd3 ct3 oc4 kV4 dc4 pm4 cd4 ct4 oc5 kV5 dc5 pm5 cd5 ct5 oc6 kV6 dc6 pm6 cd6 ct6 oc7 kV7 dc7 pm7 cd7 ct7 oc8 kV8 dc8 pm8 cd8 ct8 oc9 kV9 dc9 pm9 cd9 ct9 oc10 kV10 dc10 pm10 cd10 ct10 oc11 kV11 dc11 pm11 cd11 ct11 oc12 kV12 dc12 pm12 cd12 ct12 oc13 kV13 dc13 pm13 cd13 ct13 oc14 kV14 dc14 pm14 cd14 ct14 oc15 kV15 dc15 pm15 cd15 ct15 oc16 kV16 dc16 pm16 cd16 ct16 oc17 kV17 dc17 pm17 cd17 ct17 oc18 kV18 dc18 pm18 cd18 ct18 oc19 kV19 dc19 pm19 cd19 ct19 oc20 kV20 dc20 pm20 cd20 ct20 oc21 kV21 dc21 pm21 cd21 ct21 oc22 kV22 dc22 pm22 cd22 ct22 oc23 kV23 dc23 pm23 cd23 ct23 oc24 kV24 dc24 pm24 cd24 ct24 oc25 kV25 dc25 pm25 cd25 ct25 oc26 kV26 dc26 pm26 cd26 ct26 oc27 kV27 dc27 pm27 cd27 ct27 : Value} {tm : Tok}
    (a1 : PySem.W.nsIn K mainGlobals "inner_ones" = some (some (.ref f1))) (l1 : K.lookup f1 = some ⟨oc1, od1, .func (PySem.W.fnOf "inner_ones" "inner_ones" (defArgs sInner) (defBody sInner) (defScope sInner) .none kV1 dc1 pm1 an1 cd1 ct1), sl1⟩) (c1 : PySem.W.codeIn K cd1 "inner_ones" = true) (k1 : PySem.W.keepIn K (.ref f1) = true)
    (a2 : PySem.W.nsIn K mainGlobals "flat_text" = some (some (.ref f2))) (l2 : K.lookup f2 = some ⟨oc2, od2, .func (PySem.W.fnOf "flat_text" "flat_text" (defArgs sFlat) (defBody sFlat) (defScope sFlat) .none kV2 dc2 pm2 an2 cd2 ct2), sl2⟩) (c2 : PySem.W.codeIn K cd2 "flat_text" = true) (k2 : PySem.W.keepIn K (.ref f2) = true)
    (a3 : PySem.W.nsIn K mainGlobals "choices_in" = some (some (.ref f3))) (l3 : K.lookup f3 = some ⟨oc3, od3, .func (PySem.W.fnOf "choices_in" "choices_in" (defArgs sChs) (defBody sChs) (defScope sChs) .none kV3 dc3 pm3 an3 cd3 ct3), sl3⟩) (c3 : PySem.W.codeIn K cd3 "choices_in" = true) (k3 : PySem.W.keepIn K (.ref f3) = true)
    (a4 : PySem.W.nsIn K mainGlobals "is_unwritten" = some (some (.ref f4))) (l4 : K.lookup f4 = some ⟨oc4, od4, .func (PySem.W.fnOf "is_unwritten" "is_unwritten" (defArgs sUnw) (defBody sUnw) (defScope sUnw) .none kV4 dc4 pm4 an4 cd4 ct4), sl4⟩) (c4 : PySem.W.codeIn K cd4 "is_unwritten" = true) (k4 : PySem.W.keepIn K (.ref f4) = true)
    (a5 : PySem.W.nsIn K mainGlobals "put" = some (some (.ref f5))) (l5 : K.lookup f5 = some ⟨oc5, od5, .func (PySem.W.fnOf "put" "put" (defArgs sPut) (defBody sPut) (defScope sPut) .none kV5 dc5 pm5 an5 cd5 ct5), sl5⟩) (c5 : PySem.W.codeIn K cd5 "put" = true) (k5 : PySem.W.keepIn K (.ref f5) = true)
    (a6 : PySem.W.nsIn K mainGlobals "ended" = some (some (.ref f6))) (l6 : K.lookup f6 = some ⟨oc6, od6, .func (PySem.W.fnOf "ended" "ended" (defArgs sEnded) (defBody sEnded) (defScope sEnded) .none kV6 dc6 pm6 an6 cd6 ct6), sl6⟩) (c6 : PySem.W.codeIn K cd6 "ended" = true) (k6 : PySem.W.keepIn K (.ref f6) = true)
    (a7 : PySem.W.nsIn K mainGlobals "left" = some (some (.ref f7))) (l7 : K.lookup f7 = some ⟨oc7, od7, .func (PySem.W.fnOf "left" "left" (defArgs sLeft) (defBody sLeft) (defScope sLeft) .none kV7 dc7 pm7 an7 cd7 ct7), sl7⟩) (c7 : PySem.W.codeIn K cd7 "left" = true) (k7 : PySem.W.keepIn K (.ref f7) = true)
    (a8 : PySem.W.nsIn K mainGlobals "raw_step" = some (some (.ref f8))) (l8 : K.lookup f8 = some ⟨oc8, od8, .func (PySem.W.fnOf "raw_step" "raw_step" (defArgs sRaw) (defBody sRaw) (defScope sRaw) .none kV8 dc8 pm8 an8 cd8 ct8), sl8⟩) (c8 : PySem.W.codeIn K cd8 "raw_step" = true) (k8 : PySem.W.keepIn K (.ref f8) = true)
    (a9 : PySem.W.nsIn K mainGlobals "group_steps" = some (some (.ref f9))) (l9 : K.lookup f9 = some ⟨oc9, od9, .func (PySem.W.fnOf "group_steps" "group_steps" (defArgs sGroup) (defBody sGroup) (defScope sGroup) .none kV9 dc9 pm9 an9 cd9 ct9), sl9⟩) (c9 : PySem.W.codeIn K cd9 "group_steps" = true) (k9 : PySem.W.keepIn K (.ref f9) = true)
    (a10 : PySem.W.nsIn K mainGlobals "fill_step" = some (some (.ref f10))) (l10 : K.lookup f10 = some ⟨oc10, od10, .func (PySem.W.fnOf "fill_step" "fill_step" (defArgs sFillSt) (defBody sFillSt) (defScope sFillSt) .none kV10 dc10 pm10 an10 cd10 ct10), sl10⟩) (c10 : PySem.W.codeIn K cd10 "fill_step" = true) (k10 : PySem.W.keepIn K (.ref f10) = true)
    (a11 : PySem.W.nsIn K mainGlobals "inside_steps" = some (some (.ref f11))) (l11 : K.lookup f11 = some ⟨oc11, od11, .func (PySem.W.fnOf "inside_steps" "inside_steps" (defArgs sInside) (defBody sInside) (defScope sInside) .none kV11 dc11 pm11 an11 cd11 ct11), sl11⟩) (c11 : PySem.W.codeIn K cd11 "inside_steps" = true) (k11 : PySem.W.keepIn K (.ref f11) = true)
    (a12 : PySem.W.nsIn K mainGlobals "steps_from" = some (some (.ref f12))) (l12 : K.lookup f12 = some ⟨oc12, od12, .func (PySem.W.fnOf "steps_from" "steps_from" (defArgs sSteps) (defBody sSteps) (defScope sSteps) .none kV12 dc12 pm12 an12 cd12 ct12), sl12⟩) (c12 : PySem.W.codeIn K cd12 "steps_from" = true) (k12 : PySem.W.keepIn K (.ref f12) = true)
    (a13 : PySem.W.nsIn K mainGlobals "walked" = some (some (.ref f13))) (l13 : K.lookup f13 = some ⟨oc13, od13, .func (PySem.W.fnOf "walked" "walked" (defArgs sWalked) (defBody sWalked) (defScope sWalked) .none kV13 dc13 pm13 an13 cd13 ct13), sl13⟩) (c13 : PySem.W.codeIn K cd13 "walked" = true) (k13 : PySem.W.keepIn K (.ref f13) = true)
    (a14 : PySem.W.nsIn K mainGlobals "layout_by" = some (some (.ref f14))) (l14 : K.lookup f14 = some ⟨oc14, od14, .func (PySem.W.fnOf "layout_by" "layout_by" (defArgs sLay) (defBody sLay) (defScope sLay) .none kV14 dc14 pm14 an14 cd14 ct14), sl14⟩) (c14 : PySem.W.codeIn K cd14 "layout_by" = true) (k14 : PySem.W.keepIn K (.ref f14) = true)
    (a15 : PySem.W.nsIn K mainGlobals "all_walks" = some (some (.ref f15))) (l15 : K.lookup f15 = some ⟨oc15, od15, .func (PySem.W.fnOf "all_walks" "all_walks" (defArgs sWalks) (defBody sWalks) (defScope sWalks) .none kV15 dc15 pm15 an15 cd15 ct15), sl15⟩) (c15 : PySem.W.codeIn K cd15 "all_walks" = true) (k15 : PySem.W.keepIn K (.ref f15) = true)
    (a16 : PySem.W.nsIn K mainGlobals "all_layouts" = some (some (.ref f16))) (l16 : K.lookup f16 = some ⟨oc16, od16, .func (PySem.W.fnOf "all_layouts" "all_layouts" (defArgs sLays) (defBody sLays) (defScope sLays) .none kV16 dc16 pm16 an16 cd16 ct16), sl16⟩) (c16 : PySem.W.codeIn K cd16 "all_layouts" = true) (k16 : PySem.W.keepIn K (.ref f16) = true)
    (a17 : PySem.W.nsIn K mainGlobals "_law_bag" = some (some (.ref f17))) (l17 : K.lookup f17 = some ⟨oc17, od17, .func (PySem.W.fnOf "_law_bag" "_law_bag" (defArgs sBag) (defBody sBag) (defScope sBag) .none kV17 dc17 pm17 an17 cd17 ct17), sl17⟩) (c17 : PySem.W.codeIn K cd17 "_law_bag" = true) (k17 : PySem.W.keepIn K (.ref f17) = true)
    (a18 : PySem.W.nsIn K mainGlobals "_law_take" = some (some (.ref f18))) (l18 : K.lookup f18 = some ⟨oc18, od18, .func (PySem.W.fnOf "_law_take" "_law_take" (defArgs sTake) (defBody sTake) (defScope sTake) .none kV18 dc18 pm18 an18 cd18 ct18), sl18⟩) (c18 : PySem.W.codeIn K cd18 "_law_take" = true) (k18 : PySem.W.keepIn K (.ref f18) = true)
    (a19 : PySem.W.nsIn K mainGlobals "_law_one" = some (some (.ref f19))) (l19 : K.lookup f19 = some ⟨oc19, od19, .func (PySem.W.fnOf "_law_one" "_law_one" (defArgs sOne) (defBody sOne) (defScope sOne) .none kV19 dc19 pm19 an19 cd19 ct19), sl19⟩) (c19 : PySem.W.codeIn K cd19 "_law_one" = true) (k19 : PySem.W.keepIn K (.ref f19) = true)
    (a20 : PySem.W.nsIn K mainGlobals "_law_string" = some (some (.ref f20))) (l20 : K.lookup f20 = some ⟨oc20, od20, .func (PySem.W.fnOf "_law_string" "_law_string" (defArgs sString) (defBody sString) (defScope sString) .none kV20 dc20 pm20 an20 cd20 ct20), sl20⟩) (c20 : PySem.W.codeIn K cd20 "_law_string" = true) (k20 : PySem.W.keepIn K (.ref f20) = true)
    (a21 : PySem.W.nsIn K mainGlobals "_law_leaf" = some (some (.ref f21))) (l21 : K.lookup f21 = some ⟨oc21, od21, .func (PySem.W.fnOf "_law_leaf" "_law_leaf" (defArgs sLeaf) (defBody sLeaf) (defScope sLeaf) .none kV21 dc21 pm21 an21 cd21 ct21), sl21⟩) (c21 : PySem.W.codeIn K cd21 "_law_leaf" = true) (k21 : PySem.W.keepIn K (.ref f21) = true)
    (a22 : PySem.W.nsIn K mainGlobals "_law_doc" = some (some (.ref f22))) (l22 : K.lookup f22 = some ⟨oc22, od22, .func (PySem.W.fnOf "_law_doc" "_law_doc" (defArgs sDoc) (defBody sDoc) (defScope sDoc) .none kV22 dc22 pm22 an22 cd22 ct22), sl22⟩) (c22 : PySem.W.codeIn K cd22 "_law_doc" = true) (k22 : PySem.W.keepIn K (.ref f22) = true)
    (a23 : PySem.W.nsIn K mainGlobals "_law_some_doc" = some (some (.ref f23))) (l23 : K.lookup f23 = some ⟨oc23, od23, .func (PySem.W.fnOf "_law_some_doc" "_law_some_doc" (defArgs sSome) (defBody sSome) (defScope sSome) .none kV23 dc23 pm23 an23 cd23 ct23), sl23⟩) (c23 : PySem.W.codeIn K cd23 "_law_some_doc" = true) (k23 : PySem.W.keepIn K (.ref f23) = true)
    (a24 : PySem.W.nsIn K mainGlobals "_law_alike_documents" = some (some (.ref f24))) (l24 : K.lookup f24 = some ⟨oc24, od24, .func (PySem.W.fnOf "_law_alike_documents" "_law_alike_documents" (defArgs sAlk) (defBody sAlk) (defScope sAlk) .none kV24 dc24 pm24 an24 cd24 ct24), sl24⟩) (c24 : PySem.W.codeIn K cd24 "_law_alike_documents" = true) (k24 : PySem.W.keepIn K (.ref f24) = true)
    (a25 : PySem.W.nsIn K mainGlobals "_law_fill_led" = some (some (.ref f25))) (l25 : K.lookup f25 = some ⟨oc25, od25, .func (PySem.W.fnOf "_law_fill_led" "_law_fill_led" (defArgs sLed) (defBody sLed) (defScope sLed) .none kV25 dc25 pm25 an25 cd25 ct25), sl25⟩) (c25 : PySem.W.codeIn K cd25 "_law_fill_led" = true) (k25 : PySem.W.keepIn K (.ref f25) = true)
    (a26 : PySem.W.nsIn K mainGlobals "_law_texts" = some (some (.ref f26))) (l26 : K.lookup f26 = some ⟨oc26, od26, .func (PySem.W.fnOf "_law_texts" "_law_texts" (defArgs sTexts) (defBody sTexts) (defScope sTexts) .none kV26 dc26 pm26 an26 cd26 ct26), sl26⟩) (c26 : PySem.W.codeIn K cd26 "_law_texts" = true) (k26 : PySem.W.keepIn K (.ref f26) = true)
    (a27 : PySem.W.nsIn K mainGlobals "law" = some (some (.ref f27))) (l27 : K.lookup f27 = some ⟨oc27, od27, .func (PySem.W.fnOf "law" "law" (defArgs sLaw) (defBody sLaw) (defScope sLaw) .none kV27 dc27 pm27 an27 cd27 ct27), sl27⟩) (c27 : PySem.W.codeIn K cd27 "law" = true) (k27 : PySem.W.keepIn K (.ref f27) = true)
    (z_len : PySem.W.nsIn K mainGlobals "len" = some none)
    (z_tuple : PySem.W.nsIn K mainGlobals "tuple" = some none)
    (z_range : PySem.W.nsIn K mainGlobals "range" = some none)
    (z_sorted : PySem.W.nsIn K mainGlobals "sorted" = some none)
    (z_set : PySem.W.nsIn K mainGlobals "set" = some none)
    (z_sum : PySem.W.nsIn K mainGlobals "sum" = some none)
    (z_max : PySem.W.nsIn K mainGlobals "max" = some none)
    (z_int : PySem.W.nsIn K mainGlobals "int" = some none)
    (z_abs : PySem.W.nsIn K mainGlobals "abs" = some none)
    (zM : PySem.W.nsIn K mainGlobals "MOST_CHOICES" = some (some (.int 12 tm))) :
    ∃ fd : FuncData, (∀ (s : Shared) (v : Value), BindsTo s fd ⟨[v], []⟩ [("_law_script", v)]) ∧ ∀ base : Heap, K.In base → base.Ns mainGlobals mg → FnOk l.prog w K mg base CX0 60 fa fd ["_law_script"] (spLaw K) := by
  have e := hfa.symm.trans (PySem.W.mg_of X G a27)
  cases e
  have F1 := fun_mk (st := sInner) l1 c1 k1
  have b1 := F1.binds (ps := ["document"]) fun _ _ _ _ _ _ us hl => match us, hl with | [_], _ => rfl
  have m1 := PySem.W.mg_of X G a1
  have F2 := fun_mk (st := sFlat) l2 c2 k2
  have b2 := F2.binds (ps := ["document"]) fun _ _ _ _ _ _ us hl => match us, hl with | [_], _ => rfl
  have m2 := PySem.W.mg_of X G a2
  have F3 := fun_mk (st := sChs) l3 c3 k3
  have b3 := F3.binds (ps := ["document"]) fun _ _ _ _ _ _ us hl => match us, hl with | [_], _ => rfl
  have m3 := PySem.W.mg_of X G a3
  have F4 := fun_mk (st := sUnw) l4 c4 k4
  have b4 := F4.binds (ps := ["column", "string"]) fun _ _ _ _ _ _ us hl => match us, hl with | [_, _], _ => rfl
  have m4 := PySem.W.mg_of X G a4
  have F5 := fun_mk (st := sPut) l5 c5 k5
  have b5 := F5.binds (ps := ["column", "indent", "string"]) fun _ _ _ _ _ _ us hl => match us, hl with | [_, _, _], _ => rfl
  have m5 := PySem.W.mg_of X G a5
  have F6 := fun_mk (st := sEnded) l6 c6 k6
  have b6 := F6.binds (ps := ["column", "rest"]) fun _ _ _ _ _ _ us hl => match us, hl with | [_, _], _ => rfl
  have m6 := PySem.W.mg_of X G a6
  have F7 := fun_mk (st := sLeft) l7 c7 k7
  have b7 := F7.binds (ps := ["column", "indent", "documents", "rest"]) fun _ _ _ _ _ _ us hl => match us, hl with | [_, _, _, _], _ => rfl
  have m7 := PySem.W.mg_of X G a7
  have F8 := fun_mk (st := sRaw) l8 c8 k8
  have b8 := F8.binds (ps := ["column", "indent", "strings", "rest"]) fun _ _ _ _ _ _ us hl => match us, hl with | [_, _, _, _], _ => rfl
  have m8 := PySem.W.mg_of X G a8
  have F9 := fun_mk (st := sGroup) l9 c9 k9
  have b9 := F9.binds (ps := ["column", "indent", "inside", "rest"]) fun _ _ _ _ _ _ us hl => match us, hl with | [_, _, _, _], _ => rfl
  have m9 := PySem.W.mg_of X G a9
  have F10 := fun_mk (st := sFillSt) l10 c10 k10
  have b10 := F10.binds (ps := ["column", "indent", "documents", "rest"]) fun _ _ _ _ _ _ us hl => match us, hl with | [_, _, _, _], _ => rfl
  have m10 := PySem.W.mg_of X G a10
  have F11 := fun_mk (st := sInside) l11 c11 k11
  have b11 := F11.binds (ps := ["column", "indent", "document", "rest"]) fun _ _ _ _ _ _ us hl => match us, hl with | [_, _, _, _], _ => rfl
  have m11 := PySem.W.mg_of X G a11
  have F12 := fun_mk (st := sSteps) l12 c12 k12
  have b12 := F12.binds (ps := ["column", "rest"]) fun _ _ _ _ _ _ us hl => match us, hl with | [_, _], _ => rfl
  have m12 := PySem.W.mg_of X G a12
  have F13 := fun_mk (st := sWalked) l13 c13 k13
  have b13 := F13.binds (ps := ["document", "ways"]) fun _ _ _ _ _ _ us hl => match us, hl with | [_, _], _ => rfl
  have m13 := PySem.W.mg_of X G a13
  have F14 := fun_mk (st := sLay) l14 c14 k14
  have b14 := F14.binds (ps := ["document", "ways"]) fun _ _ _ _ _ _ us hl => match us, hl with | [_, _], _ => rfl
  have m14 := PySem.W.mg_of X G a14
  have F15 := fun_mk (st := sWalks) l15 c15 k15
  have b15 := F15.binds (ps := ["document"]) fun _ _ _ _ _ _ us hl => match us, hl with | [_], _ => rfl
  have m15 := PySem.W.mg_of X G a15
  have F16 := fun_mk (st := sLays) l16 c16 k16
  have b16 := F16.binds (ps := ["document"]) fun _ _ _ _ _ _ us hl => match us, hl with | [_], _ => rfl
  have m16 := PySem.W.mg_of X G a16
  have F17 := fun_mk (st := sBag) l17 c17 k17
  have b17 := F17.binds (ps := ["_law_script"]) fun _ _ _ _ _ _ us hl => match us, hl with | [_], _ => rfl
  have m17 := PySem.W.mg_of X G a17
  have F18 := fun_mk (st := sTake) l18 c18 k18
  have b18 := F18.binds (ps := ["_law_bag_here", "_law_many"]) fun _ _ _ _ _ _ us hl => match us, hl with | [_, _], _ => rfl
  have m18 := PySem.W.mg_of X G a18
  have F19 := fun_mk (st := sOne) l19 c19 k19
  have b19 := F19.binds (ps := ["_law_bag_here", "_law_things"]) fun _ _ _ _ _ _ us hl => match us, hl with | [_, _], _ => rfl
  have m19 := PySem.W.mg_of X G a19
  have F20 := fun_mk (st := sString) l20 c20 k20
  have b20 := F20.binds (ps := ["_law_bag_here"]) fun _ _ _ _ _ _ us hl => match us, hl with | [_], _ => rfl
  have m20 := PySem.W.mg_of X G a20
  have F21 := fun_mk (st := sLeaf) l21 c21 k21
  have b21 := F21.binds (ps := ["_law_bag_here", "_law_left"]) fun _ _ _ _ _ _ us hl => match us, hl with | [_, _], _ => rfl
  have m21 := PySem.W.mg_of X G a21
  have F22 := fun_mk (st := sDoc) l22 c22 k22
  have b22 := F22.binds (ps := ["_law_bag_here", "_law_deep", "_law_left"]) fun _ _ _ _ _ _ us hl => match us, hl with | [_, _, _], _ => rfl
  have m22 := PySem.W.mg_of X G a22
  have F23 := fun_mk (st := sSome) l23 c23 k23
  have b23 := F23.binds (ps := ["_law_bag_here", "_law_most"]) fun _ _ _ _ _ _ us hl => match us, hl with | [_, _], _ => rfl
  have m23 := PySem.W.mg_of X G a23
  have F24 := fun_mk (st := sAlk) l24 c24 k24
  have b24 := F24.binds (ps := ["_law_bag_here", "_law_document"]) fun _ _ _ _ _ _ us hl => match us, hl with | [_, _], _ => rfl
  have m24 := PySem.W.mg_of X G a24
  have F25 := fun_mk (st := sLed) l25 c25 k25
  have b25 := F25.binds (ps := ["_law_document"]) fun _ _ _ _ _ _ us hl => match us, hl with | [_], _ => rfl
  have m25 := PySem.W.mg_of X G a25
  have F26 := fun_mk (st := sTexts) l26 c26 k26
  have b26 := F26.binds (ps := ["_law_document"]) fun _ _ _ _ _ _ us hl => match us, hl with | [_], _ => rfl
  have m26 := PySem.W.mg_of X G a26
  have F27 := fun_mk (st := sLaw) l27 c27 k27
  have T : Tp mg := ⟨PySem.W.mg_none_of X G z_len, PySem.W.mg_none_of X G z_tuple, PySem.W.mg_none_of X G z_range, PySem.W.mg_none_of X G z_sorted, PySem.W.mg_none_of X G z_set, PySem.W.mg_none_of X G z_sum, PySem.W.mg_none_of X G z_max, PySem.W.mg_none_of X G z_int, PySem.W.mg_none_of X G z_abs⟩
  have mM := PySem.W.mg_of X G zM
  refine ⟨PySem.W.fnOf "law" "law" (defArgs sLaw) (defBody sLaw) (defScope sLaw) .none kV27 dc27 pm27 an27 cd27 ct27, fun s v => .of_eq rfl, fun base _ _ => ?_⟩
  have R1 := ok_inner (P := l.prog) (w := w) (mg := mg) (base := base) F1
  have R2 := all_flat F2 b2 m2 R1 b1 k1 m1 8
  have R3 := all_chs F3 b3 m3 R1 b1 k1 m1 T 9
  have R4 := ok_unw (P := l.prog) (w := w) (mg := mg) (base := base) F4
  have R5 := ok_put F5 R4 b4 k4 m4 T
  have R6 := ok_ended (P := l.prog) (w := w) (mg := mg) (base := base) F6
  have R7 := ok_left (P := l.prog) (w := w) (mg := mg) (base := base) F7
  have R8 := ok_raw F8 R5 b5 k5 m5 T
  have R9 := ok_group (n := 8) F9 R2 b2 k2 m2 R7 b7 k7 m7
  have R10 := ok_fillSt F10 R7 b7 k7 m7 T
  have R11 := ok_inside (n := 8) F11 R9 b9 k9 m9 R7 b7 k7 m7 R10 b10 k10 m10
  have R12 := ok_steps (n := 8) F12 R5 b5 k5 m5 R6 b6 k6 m6 R8 b8 k8 m8 R11 b11 k11 m11
  have R13 := ok_walked (n := 8) F13 R12 b12 k12 m12 T
  have R14 := ok_lay (n := 8) F14 R13 b13 k13 m13
  have R15 := ok_walks (n := 8) F15 R3 b3 k3 m3 R13 b13 k13 m13 mM T
  have R16 := ok_lays (n := 8) F16 R15 b15 k15 m15
  have R17 := ok_bag (P := l.prog) (w := w) (mg := mg) (base := base) F17 T
  have R18 := ok_take (P := l.prog) (w := w) (mg := mg) (base := base) F18 T
  have R19 := ok_one F19 R18 b18 k18 m18 T
  have R20 := ok_string F20 R19 b19 k19 m19
  have R21 := ok_leaf F21 R18 b18 k18 m18 R19 b19 k19 m19 R20 b20 k20 m20 T
  have R22 := all_doc F22 b22 m22 R18 b18 k18 m18 R19 b19 k19 m19 R21 b21 k21 m21 T 4
  have R23 := ok_some F23 R22 b22 k22 m22 R19 b19 k19 m19 T
  have R24 := ok_alk F24 R18 b18 k18 m18
  have R25 := ok_led (P := l.prog) (w := w) (mg := mg) (base := base) F25 T
  have R26 := ok_texts (n := 8) F26 R16 b16 k16 m16 T
  exact ok_law F27 R17 b17 k17 m17 R23 b23 k23 m23 R19 b19 k19 m19 R26 b26 k26 m26 R24 b24 k24 m24 R20 b20 k20 m20 R25 b25 k25 m25 R2 b2 k2 m2 R14 b14 k14 m14 T
theorem walk {l : PySem.W.OpenLaw} {q : Program} {loose : List Str} {XP : (Str → Option Value) → Heap → Prop} {YP : World → Heap → Prop} {d : DefRec} {K : Params → PySem.W.Frag} (hn : l.most = some 63) (hdf : d.params.defaults = [])
    (hY : ∀ (w : World) (h : Heap), YP w h → (K w.params).In h)
    (F : ∀ (w : World) (mg : Str → Option Value) (fa : Addr) (h : Heap), (K w.params).In h → h.Ns mainGlobals mg → mg d.name = some (.ref fa) →
      ∃ fd : FuncData, (∀ (s : Shared) (u : Value), BindsTo s fd ⟨[u], []⟩ [("_law_script", u)]) ∧ ∀ base : Heap, (K w.params).In base → base.Ns mainGlobals mg → FnOk l.prog w (K w.params) mg base CX0 60 fa fd ["_law_script"] (spLaw (K w.params))) :
    PySem.W.WalkO q loose XP YP l.row.toRowW d [] (fun f vs => PySem.call f vs) :=
  L2.walk_of (n := 63) (k := 60) (x := "_law_script") (CX := fun _ => CX0) (sp := fun w => spLaw (K w.params)) hn (by decide) hdf ⟨rfl, by decide, by decide⟩ hY F (fun _ _ a ns hl _ hS => ⟨a, ns, rfl, hS, hl, fun _ => rfl⟩) fun _ _ _ _ _ z => z
end LK

/-! K30End -/
open PySem PySem.W PyProof.Rows in
set_option maxRecDepth 100000 in
set_option maxHeartbeats 0 in
theorem PySem.Challenge.cw_leastlaid_k35_whole_documents_in_other_w_holds : PySem.Challenge.rw_leastlaid_k35_whole_documents_in_other_w.Holds := by
  w_on; o_law; k_head; (case hw => w_witness2)
  k_fill
  refine LK.walk (l := PySem.Challenge.rw_leastlaid_k35_whole_documents_in_other_w) rfl rfl (fun w h Y => PySem.W.kIn_of Y) ?F
  case F =>
    intro w mg fa h KX G hmg
    refine' LK.all_mk KX G hmg ?a1 ?l1 ?c1 ?k1 ?a2 ?l2 ?c2 ?k2 ?a3 ?l3 ?c3 ?k3 ?a4 ?l4 ?c4 ?k4 ?a5 ?l5 ?c5 ?k5 ?a6 ?l6 ?c6 ?k6 ?a7 ?l7 ?c7 ?k7 ?a8 ?l8 ?c8 ?k8 ?a9 ?l9 ?c9 ?k9 ?a10 ?l10 ?c10 ?k10 ?a11 ?l11 ?c11 ?k11 ?a12 ?l12 ?c12 ?k12 ?a13 ?l13 ?c13 ?k13 ?a14 ?l14 ?c14 ?k14 ?a15 ?l15 ?c15 ?k15 ?a16 ?l16 ?c16 ?k16 ?a17 ?l17 ?c17 ?k17 ?a18 ?l18 ?c18 ?k18 ?a19 ?l19 ?c19 ?k19 ?a20 ?l20 ?c20 ?k20 ?a21 ?l21 ?c21 ?k21 ?a22 ?l22 ?c22 ?k22 ?a23 ?l23 ?c23 ?k23 ?a24 ?l24 ?c24 ?k24 ?a25 ?l25 ?c25 ?k25 ?a26 ?l26 ?c26 ?k26 ?a27 ?l27 ?c27 ?k27 ?z_len ?z_tuple ?z_range ?z_sorted ?z_set ?z_sum ?z_max ?z_int ?z_abs ?zM
    (case a1 => k_is)
    (case l1 => k_is)
    (case c1 => k_is)
    (case k1 => k_is)
    (case a2 => k_is)
    (case l2 => k_is)
    (case c2 => k_is)
    (case k2 => k_is)
    (case a3 => k_is)
    (case l3 => k_is)
    (case c3 => k_is)
    (case k3 => k_is)
    (case a4 => k_is)
    (case l4 => k_is)
    (case c4 => k_is)
    (case k4 => k_is)
    (case a5 => k_is)
    (case l5 => k_is)
    (case c5 => k_is)
    (case k5 => k_is)
    (case a6 => k_is)
    (case l6 => k_is)
    (case c6 => k_is)
    (case k6 => k_is)
    (case a7 => k_is)
    (case l7 => k_is)
    (case c7 => k_is)
    (case k7 => k_is)
    (case a8 => k_is)
    (case l8 => k_is)
    (case c8 => k_is)
    (case k8 => k_is)
    (case a9 => k_is)
    (case l9 => k_is)
    (case c9 => k_is)
    (case k9 => k_is)
    (case a10 => k_is)
    (case l10 => k_is)
    (case c10 => k_is)
    (case k10 => k_is)
    (case a11 => k_is)
    (case l11 => k_is)
    (case c11 => k_is)
    (case k11 => k_is)
    (case a12 => k_is)
    (case l12 => k_is)
    (case c12 => k_is)
    (case k12 => k_is)
    (case a13 => k_is)
    (case l13 => k_is)
    (case c13 => k_is)
    (case k13 => k_is)
    (case a14 => k_is)
    (case l14 => k_is)
    (case c14 => k_is)
    (case k14 => k_is)
    (case a15 => k_is)
    (case l15 => k_is)
    (case c15 => k_is)
    (case k15 => k_is)
    (case a16 => k_is)
    (case l16 => k_is)
    (case c16 => k_is)
    (case k16 => k_is)
    (case a17 => k_is)
    (case l17 => k_is)
    (case c17 => k_is)
    (case k17 => k_is)
    (case a18 => k_is)
    (case l18 => k_is)
    (case c18 => k_is)
    (case k18 => k_is)
    (case a19 => k_is)
    (case l19 => k_is)
    (case c19 => k_is)
    (case k19 => k_is)
    (case a20 => k_is)
    (case l20 => k_is)
    (case c20 => k_is)
    (case k20 => k_is)
    (case a21 => k_is)
    (case l21 => k_is)
    (case c21 => k_is)
    (case k21 => k_is)
    (case a22 => k_is)
    (case l22 => k_is)
    (case c22 => k_is)
    (case k22 => k_is)
    (case a23 => k_is)
    (case l23 => k_is)
    (case c23 => k_is)
    (case k23 => k_is)
    (case a24 => k_is)
    (case l24 => k_is)
    (case c24 => k_is)
    (case k24 => k_is)
    (case a25 => k_is)
    (case l25 => k_is)
    (case c25 => k_is)
    (case k25 => k_is)
    (case a26 => k_is)
    (case l26 => k_is)
    (case c26 => k_is)
    (case k26 => k_is)
    (case a27 => k_is)
    (case l27 => k_is)
    (case c27 => k_is)
    (case k27 => k_is)
    (case z_len => k_is)
    (case z_tuple => k_is)
    (case z_range => k_is)
    (case z_sorted => k_is)
    (case z_set => k_is)
    (case z_sum => k_is)
    (case z_max => k_is)
    (case z_int => k_is)
    (case z_abs => k_is)
    (case zM => k_is)
