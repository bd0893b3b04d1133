import PyProof.Rows.All
import PySem.Str
import PySem.Challenge.RW_steadycalls_k13_whole_cases
import HandS.Words
import Wide.All
import OpenK.AllK
import Wide.FinOn
import KE.KStateDown
import HandS.ForMost
import HandS.WordsExc
import HandS.Defaults
import HandS.Head0
import HandS.Head1
import HandS.Head2
import HandS.HeadEnd
import HandS.HeadHook1
import HandS.HeadHook2
import HandS.HeadHook3
import HandS.HeadHook4
import HandS.DictComp
import PyProof.DictUpdate
import HandS.Codes
import HandS.Star
import HandS.Style
import KE.KEqNest
import PyProof.NeKinds
import HandS.DeepEq
import HandS.Comp
import PyProof.FactsAll.dict_3
import PyProof.FactsAll.dict_4
import HandS.IsInst
import HandS.GenList
import HandS.Evl
import HandS.Walk
import HandS.Deep
import HandS.RaiseMore
import HandS.Strs
import HandS.MakeKwOnly
import HandS.WordsDict
import HandS.Small
import HandS.TupAny
import HandS.NoneIn
set_option linter.all false
/-! S00: the plain mathematics: terms, functions, books, how they run; the cases of a function. -/
namespace SC
open PySem

inductive Lf where
  | val (n : Int) | arg (i : Nat) | cel (c : Str) | tick
  deriving DecidableEq
inductive Op where
  | plus | less | same
  deriving DecidableEq
inductive Tm where
  | lf (l : Lf) | call (f : Str) (as : List Lf) | op (o : Op) (a b : Tm) | ite (c a b : Tm)
structure Fn where
  name : Str
  many : Nat
  res : Tm
  wr : List (Str × Tm)
  label : Str
  cost : Int
structure Bk where
  cells : List (Str × Str)
  fns : List Fn

/-! ### states -/
abbrev Sta := List (Str × Int)
def keysS (s : Sta) : List Str := s.map (·.1)
def look (s : Sta) (c : Str) : Int := ((s.find? fun p => decide (p.1 = c)).map (·.2)).getD 0
def setS (s : Sta) (c : Str) (v : Int) : Sta :=
  if (s.any fun p => decide (p.1 = c)) = true then s.map (fun p => if p.1 = c then (p.1, v) else p) else s ++ [(c, v)]
def mergeS (s more : Sta) : Sta := more.foldl (fun acc p => setS acc p.1 p.2) s

theorem any_key {s : Sta} {c : Str} : (s.any fun p => decide (p.1 = c)) = true ↔ c ∈ keysS s := by
  unfold keysS
  rw [List.any_eq_true]
  constructor
  · rintro ⟨p, hp, e⟩
    exact List.mem_map.mpr ⟨p, hp, of_decide_eq_true e⟩
  · intro h
    obtain ⟨p, hp, e⟩ := List.mem_map.mp h
    exact ⟨p, hp, decide_eq_true e⟩
theorem keys_setS_mem {s : Sta} {c : Str} {v : Int} (h : c ∈ keysS s) : keysS (setS s c v) = keysS s := by
  unfold setS
  rw [if_pos (any_key.mpr h)]
  unfold keysS
  rw [List.map_map]
  apply List.map_congr_left
  intro p _
  show (if p.1 = c then (p.1, v) else p).1 = p.1
  split <;> rfl
theorem setS_new {s : Sta} {c : Str} {v : Int} (h : c ∉ keysS s) : setS s c v = s ++ [(c, v)] := by
  unfold setS
  rw [if_neg fun e => h (any_key.mp e)]
theorem keys_setS_new {s : Sta} {c : Str} {v : Int} (h : c ∉ keysS s) : keysS (setS s c v) = keysS s ++ [c] := by
  rw [setS_new h]
  simp [keysS]
theorem vals_setS {s : Sta} {c : Str} {v : Int} {P : Int → Prop} (h : ∀ p ∈ s, P p.2) (hv : P v) : ∀ p ∈ setS s c v, P p.2 := by
  intro p hp
  unfold setS at hp
  split at hp
  · obtain ⟨q, hq, e⟩ := List.mem_map.mp hp
    split at e
    · rw [← e]; exact hv
    · rw [← e]; exact h q hq
  · rcases List.mem_append.mp hp with hp | hp
    · exact h p hp
    · rw [List.mem_singleton.mp hp]; exact hv
theorem look_mem {s : Sta} {c : Str} (h : c ∈ keysS s) : ∃ v, s.find? (fun p => decide (p.1 = c)) = some (c, v) ∧ look s c = v ∧ (c, v) ∈ s := by
  obtain ⟨p, hp, e⟩ := List.mem_map.mp h
  cases q : s.find? (fun p => decide (p.1 = c)) with
  | none =>
    have := List.find?_eq_none.mp q p hp
    simp [e] at this
  | some r =>
    have h1 := List.find?_some q
    have h2 := List.mem_of_find?_eq_some q
    have h3 : r.1 = c := of_decide_eq_true h1
    obtain ⟨r1, r2⟩ := r
    subst h3
    refine ⟨r2, rfl, ?_, h2⟩
    unfold look
    rw [q]
    rfl
theorem keys_mergeS {more : Sta} : ∀ {s : Sta}, (∀ p ∈ more, p.1 ∈ keysS s) → keysS (mergeS s more) = keysS s := by
  induction more with
  | nil => intro s _; rfl
  | cons p r ih =>
    intro s h
    have h1 := keys_setS_mem (v := p.2) (h p (List.mem_cons_self ..))
    show keysS (mergeS (setS s p.1 p.2) r) = keysS s
    rw [ih fun q hq => by rw [h1]; exact h q (List.mem_cons_of_mem _ hq), h1]
theorem vals_mergeS {P : Int → Prop} {more : Sta} : ∀ {s : Sta}, (∀ p ∈ s, P p.2) → (∀ p ∈ more, P p.2) → ∀ p ∈ mergeS s more, P p.2 := by
  induction more with
  | nil => intro s h _; exact h
  | cons p r ih =>
    intro s h hm
    exact ih (vals_setS h (hm p (List.mem_cons_self ..))) fun q hq => hm q (List.mem_cons_of_mem _ hq)

/-! ### running -/
def lfV (vs : List Int) (t : Int) (s : Sta) : Lf → Int
  | .val n => n
  | .arg i => vs.getD i 0
  | .cel c => look s c
  | .tick => t % 3
def Op.app : Op → Int → Int → Int
  | .plus, a, b => (a + b) % 3
  | .less, a, b => if a < b then 1 else 0
  | .same, a, b => if a = b then 1 else 0
abbrev CallF := Str → List Int → Sta → Int × Sta
def ev (cf : CallF) (vs : List Int) (t : Int) : Tm → Sta → Int × Sta
  | .lf l, s => (lfV vs t s l, s)
  | .call f as, s => cf f (as.map (lfV vs t s)) s
  | .op o a b, s => (o.app (ev cf vs t a s).1 (ev cf vs t b (ev cf vs t a s).2).1, (ev cf vs t b (ev cf vs t a s).2).2)
  | .ite c a b, s => if (ev cf vs t c s).1 ≠ 0 then ev cf vs t a (ev cf vs t c s).2 else ev cf vs t b (ev cf vs t c s).2
def wrs (cf : CallF) (vs : List Int) (t : Int) : List (Str × Tm) → Sta → Sta
  | [], s => s
  | w :: r, s => wrs cf vs t r (setS (ev cf vs t w.2 s).2 w.1 (ev cf vs t w.2 s).1)
def findF (fns : List Fn) (f : Str) : Option Fn := fns.find? fun g => decide (g.name = f)
/-- n bounds how deep calls go -/
def callN (fns : List Fn) (t : Int) : Nat → CallF
  | 0 => fun _ _ s => (0, s)
  | n + 1 => fun f vs s => match findF fns f with
    | none => (0, s)
    | some g => ((ev (callN fns t n) vs t g.res s).1, wrs (callN fns t n) vs t g.wr (ev (callN fns t n) vs t g.res s).2)
def ran (fns : List Fn) (t : Int) (n : Nat) (g : Fn) (vs : List Int) (s : Sta) : Int × Sta :=
  ((ev (callN fns t n) vs t g.res s).1, wrs (callN fns t n) vs t g.wr (ev (callN fns t n) vs t g.res s).2)
theorem callN_some {fns : List Fn} {t : Int} {n : Nat} {f : Str} {vs : List Int} {s : Sta} {g : Fn} (h : findF fns f = some g) : callN fns t (n + 1) f vs s = ran fns t n g vs s := by
  simp only [callN, h]
  rfl

/-! ### what a term names -/
def Lf.isCel : Lf → List Str
  | .cel c => [c]
  | _ => []
def Lf.isTick : Lf → Bool
  | .tick => true
  | _ => false
def cellsT : Tm → List Str
  | .lf l => l.isCel
  | .call _ as => as.flatMap Lf.isCel
  | .op _ a b => cellsT a ++ cellsT b
  | .ite c a b => cellsT c ++ (cellsT a ++ cellsT b)
def callsT : Tm → List Str
  | .lf _ => []
  | .call f _ => [f]
  | .op _ a b => callsT a ++ callsT b
  | .ite c a b => callsT c ++ (callsT a ++ callsT b)
def tickT : Tm → Bool
  | .lf l => l.isTick
  | .call _ as => as.any Lf.isTick
  | .op _ a b => tickT a || tickT b
  | .ite c a b => tickT c || (tickT a || tickT b)
def Fn.parts (g : Fn) : List Tm := g.res :: g.wr.map (·.2)
def cellsF (g : Fn) : List Str := g.parts.flatMap cellsT
def callsF (g : Fn) : List Str := g.parts.flatMap callsT
def tickF (g : Fn) : Bool := g.parts.any tickT
def touchF (g : Fn) : List Str := g.wr.map (·.1) ++ cellsF g

/-- the terms within, the first layer -/
def kids : Tm → List Tm
  | .lf _ => []
  | .call _ as => as.map .lf
  | .op _ a b => [a, b]
  | .ite c a b => [c, a, b]
def Tm.size : Tm → Nat
  | .lf _ => 1
  | .call _ as => 1 + as.length
  | .op _ a b => 1 + (a.size + b.size)
  | .ite c a b => 1 + (c.size + (a.size + b.size))
def Tm.depth : Tm → Nat
  | .lf _ => 1
  | .call _ as => if as = [] then 1 else 2
  | .op _ a b => 1 + max a.depth b.depth
  | .ite c a b => 1 + max c.depth (max a.depth b.depth)
/-- all terms within, from the outside -/
def leavesT : Tm → List Tm
  | .lf l => [.lf l]
  | .call f as => .call f as :: as.map .lf
  | .op o a b => .op o a b :: (leavesT a ++ leavesT b)
  | .ite c a b => .ite c a b :: (leavesT c ++ (leavesT a ++ leavesT b))
theorem size_pos (t : Tm) : 1 ≤ t.size := by cases t <;> simp [Tm.size]
theorem leaves_len : ∀ t : Tm, (leavesT t).length = t.size
  | .lf l => rfl
  | .call f as => by simp [leavesT, Tm.size]; omega
  | .op o a b => by simp [leavesT, Tm.size, leaves_len a, leaves_len b]; omega
  | .ite c a b => by simp [leavesT, Tm.size, leaves_len a, leaves_len b, leaves_len c]; omega
def szL (l : List Tm) : Nat := (l.map Tm.size).sum
theorem size_kids (t : Tm) : t.size = 1 + szL (kids t) := by
  cases t with
  | lf l => rfl
  | call f as =>
    show 1 + as.length = 1 + ((as.map Tm.lf).map Tm.size).sum
    congr 1
    induction as with
    | nil => rfl
    | cons a r ih => simp [Tm.size] at ih ⊢; omega
  | op o a b => simp [Tm.size, kids, szL]
  | ite c a b => simp [Tm.size, kids, szL]
theorem szL_layer (l : List Tm) : szL l = l.length + szL (l.flatMap kids) := by
  induction l with
  | nil => rfl
  | cons t r ih =>
    have h := size_kids t
    show (t.size + szL r) = _
    rw [List.flatMap_cons, List.length_cons]
    have : szL (kids t ++ r.flatMap kids) = szL (kids t) + szL (r.flatMap kids) := by simp [szL]
    rw [this]
    omega
/-- all of a layer are at most so deep -/
def DeepL (n : Nat) (l : List Tm) : Prop := ∀ t ∈ l, t.depth ≤ n
theorem deep_kids {t : Tm} {n : Nat} (h : t.depth ≤ n + 1) : DeepL n (kids t) := by
  intro u hu
  cases t with
  | lf l => cases hu
  | call f as =>
    obtain ⟨l, hl, e⟩ := List.mem_map.mp hu
    subst e
    have ne : as ≠ [] := by intro z; rw [z] at hl; cases hl
    have : (2 : Nat) ≤ n + 1 := by
      have h' := h
      unfold Tm.depth at h'
      rw [if_neg ne] at h'
      exact h'
    show 1 ≤ n
    omega
  | op o a b =>
    have h' : 1 + max a.depth b.depth ≤ n + 1 := h
    simp only [kids, List.mem_cons, List.mem_nil_iff, or_false] at hu
    rcases hu with e | e <;> subst e <;> omega
  | ite c a b =>
    have h' : 1 + max c.depth (max a.depth b.depth) ≤ n + 1 := h
    simp only [kids, List.mem_cons, List.mem_nil_iff, or_false] at hu
    rcases hu with e | e | e <;> subst e <;> omega
theorem deep_layer {l : List Tm} {n : Nat} (h : DeepL (n + 1) l) : DeepL n (l.flatMap kids) := by
  intro u hu
  obtain ⟨t, ht, hk⟩ := List.mem_flatMap.mp hu
  exact deep_kids (h t ht) u hk
theorem depth_pos (t : Tm) : 1 ≤ t.depth := by
  cases t with
  | lf l => exact Nat.le_refl _
  | call f as => unfold Tm.depth; split <;> omega
  | op o a b => unfold Tm.depth; omega
  | ite c a b => unfold Tm.depth; omega
theorem deep_zero {l : List Tm} (h : DeepL 0 l) : l = [] := by
  cases l with
  | nil => rfl
  | cons t r =>
    have h1 := h t (List.mem_cons_self ..)
    have h2 := depth_pos t
    omega

/-! names told off the leaves -/
def celOf : Tm → List Str
  | .lf l => l.isCel
  | _ => []
def calOf : Tm → List Str
  | .call f _ => [f]
  | _ => []
def tickOf : Tm → Bool
  | .lf l => l.isTick
  | _ => false
theorem cells_leaves : ∀ t : Tm, (leavesT t).flatMap celOf = cellsT t
  | .lf l => by simp [leavesT, celOf, cellsT]
  | .call f as => by
    simp only [leavesT, List.flatMap_cons, cellsT]
    show [] ++ (as.map Tm.lf).flatMap celOf = _
    rw [List.nil_append, List.flatMap_map]
    rfl
  | .op o a b => by
    simp only [leavesT, List.flatMap_cons, List.flatMap_append, cells_leaves a, cells_leaves b, cellsT]
    rfl
  | .ite c a b => by
    simp only [leavesT, List.flatMap_cons, List.flatMap_append, cells_leaves a, cells_leaves b, cells_leaves c, cellsT]
    rfl
theorem calls_leaves : ∀ t : Tm, (leavesT t).flatMap calOf = callsT t
  | .lf l => by simp [leavesT, calOf, callsT]
  | .call f as => by
    simp only [leavesT, List.flatMap_cons, callsT]
    show [f] ++ (as.map Tm.lf).flatMap calOf = _
    rw [List.flatMap_map]
    have : as.flatMap (fun a => calOf (Tm.lf a)) = [] := by
      rw [List.flatMap_eq_nil_iff]
      intro a _
      rfl
    rw [this]
    rfl
  | .op o a b => by
    simp only [leavesT, List.flatMap_cons, List.flatMap_append, calls_leaves a, calls_leaves b, callsT]
    rfl
  | .ite c a b => by
    simp only [leavesT, List.flatMap_cons, List.flatMap_append, calls_leaves a, calls_leaves b, calls_leaves c, callsT]
    rfl
theorem tick_leaves : ∀ t : Tm, (leavesT t).any tickOf = tickT t
  | .lf l => by simp [leavesT, tickOf, tickT]
  | .call f as => by
    simp only [leavesT, List.any_cons, tickT]
    show (false || (as.map Tm.lf).any tickOf) = _
    rw [Bool.false_or, List.any_map]
    rfl
  | .op o a b => by
    simp only [leavesT, List.any_cons, List.any_append, tick_leaves a, tick_leaves b, tickT]
    rfl
  | .ite c a b => by
    simp only [leavesT, List.any_cons, List.any_append, tick_leaves a, tick_leaves b, tick_leaves c, tickT]
    rfl

/-! ### books that fit -/
def lowerS (s : Str) : Prop := ∀ c ∈ s.cps.toList, 97 ≤ c ∧ c ≤ 122
def IsNm (s : Str) : Prop := 1 ≤ s.length ∧ s.length ≤ 8 ∧ lowerS s
def LfOk (cs : List Str) (many : Nat) : Lf → Prop
  | .val n => 0 ≤ n ∧ n ≤ 2
  | .arg i => i < many
  | .cel c => c ∈ cs
  | .tick => True
/-- a term over cells and the functions ahead -/
def TmOk (cs : List Str) (ahead : List Fn) (many : Nat) : Tm → Prop
  | .lf l => LfOk cs many l
  | .call f as => (∃ g ∈ ahead, g.name = f ∧ as.length = g.many) ∧ ∀ l ∈ as, LfOk cs many l
  | .op _ a b => TmOk cs ahead many a ∧ TmOk cs ahead many b
  | .ite c a b => TmOk cs ahead many c ∧ TmOk cs ahead many a ∧ TmOk cs ahead many b
def labelsL : List Str := [Str.ofString "always", Str.ofString "session", Str.ofString "statement", Str.ofString "changing"]
def kindsL : List Str := [Str.ofString "frozen", Str.ofString "setting", Str.ofString "table"]
structure GOk (cells : List (Str × Str)) (ahead : List Fn) (g : Fn) : Prop where
  many : g.many ≤ 2
  res : TmOk (cells.map (·.1)) ahead g.many g.res
  rd : g.res.depth ≤ 3
  rs : g.res.size ≤ 13
  wl : g.wr.length ≤ 1
  wr : ∀ w ∈ g.wr, (w.1, Str.ofString "table") ∈ cells ∧ TmOk (cells.map (·.1)) ahead g.many w.2 ∧ w.2.depth ≤ 2 ∧ w.2.size ≤ 4
  label : g.label ∈ labelsL
  cost : 0 ≤ g.cost ∧ g.cost ≤ 9
structure BOk (b : Bk) : Prop where
  nd : (b.cells.map (·.1) ++ b.fns.map (·.name)).Nodup
  nm : ∀ n ∈ b.cells.map (·.1) ++ b.fns.map (·.name), IsNm n
  kd : ∀ c ∈ b.cells, c.2 ∈ kindsL
  lc : b.cells.length ≤ 3
  lf : b.fns.length ≤ 3
  pos : 1 ≤ b.fns.length
  fn : ∀ i g, b.fns[i]? = some g → GOk b.cells (b.fns.take i) g
theorem BOk.ndc {b : Bk} (h : BOk b) : (b.cells.map (·.1)).Nodup := (List.nodup_append.mp h.nd).1
theorem BOk.ndf {b : Bk} (h : BOk b) : (b.fns.map (·.name)).Nodup := (List.nodup_append.mp h.nd).2.1
theorem find_name {fns : List Fn} {g : Fn} (hn : (fns.map (·.name)).Nodup) (hg : g ∈ fns) : findF fns g.name = some g := by
  unfold findF
  induction fns with
  | nil => cases hg
  | cons h r ih =>
    rw [List.map_cons, List.nodup_cons] at hn
    rcases List.mem_cons.mp hg with e | hg
    · subst e
      rw [List.find?_cons_of_pos (by simp)]
    · have ne : ¬ h.name = g.name := fun e => hn.1 (by rw [e]; exact List.mem_map.mpr ⟨g, hg, rfl⟩)
      rw [List.find?_cons_of_neg (by simpa using ne)]
      exact ih hn.2 hg
theorem find_mem {fns : List Fn} {f : Str} {g : Fn} (h : findF fns f = some g) : g ∈ fns ∧ g.name = f := by
  unfold findF at h
  exact ⟨List.mem_of_find?_eq_some h, by have := List.find?_some h; simpa using this⟩

/-! ### the cases of a function -/
def reachL (fns : List Fn) (name : Str) : List Str := fns.reverse.foldl (fun acc g => if g.name ∈ acc then acc ++ callsF g else acc) [name]
def touched (b : Bk) (name : Str) (c : Str) : Bool := (reachL b.fns name).any fun w => match findF b.fns w with
  | some g => decide (c ∈ touchF g)
  | none => false
def touchL (b : Bk) (name : Str) : List Str := (b.cells.map (·.1)).filter (touched b name)
def tickM (b : Bk) (name : Str) : Bool := (reachL b.fns name).any fun w => match findF b.fns w with
  | some g => tickF g
  | none => false
def ticksL (k : Bool) : List Int := if k = true then [0, 1, 2] else [0]
def blankS (b : Bk) : Sta := b.cells.map fun c => (c.1, 0)
def grow (acc : List Sta) (c : Str) : List Sta := acc.flatMap fun s => [setS s c 0, setS s c 1, setS s c 2]
def statesL (cs : List Str) : List Sta := cs.foldl grow [[]]
def caseL (b : Bk) (name : Str) : List (Sta × Int) := (statesL (touchL b name)).flatMap fun s => (ticksL (tickM b name)).map fun t => (mergeS (blankS b) s, t)

/-- the state that a number tells -/
def digStep (p : Sta × Nat) (c : Str) : Sta × Nat := ((c, ((p.2 % 3 : Nat) : Int)) :: p.1, p.2 / 3)
def digs (cs : List Str) (n : Nat) : Sta := (cs.reverse.foldl digStep ([], n)).1
theorem digs_from (l : List Str) : ∀ (s : Sta) (n : Nat), (l.foldl digStep (s, n)).1 = (l.foldl digStep ([], n)).1 ++ s := by
  induction l with
  | nil => intro s n; rfl
  | cons c r ih =>
    intro s n
    show (r.foldl digStep ((c, ((n % 3 : Nat) : Int)) :: s, n / 3)).1 = (r.foldl digStep ([(c, ((n % 3 : Nat) : Int))], n / 3)).1 ++ s
    rw [ih ((c, ((n % 3 : Nat) : Int)) :: s), ih [(c, ((n % 3 : Nat) : Int))]]
    simp
theorem digs_snoc (cs : List Str) (c : Str) (n : Nat) : digs (cs ++ [c]) n = digs cs (n / 3) ++ [(c, ((n % 3 : Nat) : Int))] := by
  unfold digs
  rw [List.reverse_append]
  show (cs.reverse.foldl digStep ([(c, ((n % 3 : Nat) : Int))], n / 3)).1 = _
  rw [digs_from]
theorem keys_digs (cs : List Str) : ∀ n, keysS (digs cs n) = cs := by
  have key : ∀ (l : List Str) (p : Sta × Nat), keysS (l.foldl digStep p).1 = l.reverse ++ keysS p.1 := by
    intro l
    induction l with
    | nil => intro p; rfl
    | cons c r ih =>
      intro p
      show keysS (r.foldl digStep (digStep p c)).1 = _
      rw [ih]
      simp [digStep, keysS]
  intro n
  unfold digs
  rw [key]
  simp [keysS]
theorem range3 (n : Nat) : List.range (n * 3) = (List.range n).flatMap fun q => [q * 3, q * 3 + 1, q * 3 + 2] := by
  induction n with
  | zero => rfl
  | succ n ih =>
    rw [show (n + 1) * 3 = n * 3 + 1 + 1 + 1 by omega, List.range_succ, List.range_succ, List.range_succ, ih, List.range_succ, List.flatMap_append]
    simp
theorem fm_congr {α β : Type} {l : List α} {f g : α → List β} (h : ∀ a ∈ l, f a = g a) : l.flatMap f = l.flatMap g := by
  induction l with
  | nil => rfl
  | cons a r ih => rw [List.flatMap_cons, List.flatMap_cons, h a (List.mem_cons_self ..), ih fun b hb => h b (List.mem_cons_of_mem _ hb)]
theorem states_digs (n : Nat) : ∀ cs : List Str, cs.length = n → cs.Nodup → statesL cs = (List.range (3 ^ n)).map (digs cs) := by
  induction n with
  | zero =>
    intro cs h _
    have e : cs = [] := List.length_eq_zero_iff.mp h
    subst e
    rfl
  | succ n ih =>
    intro cs h nd
    have ne : cs ≠ [] := by intro z; rw [z] at h; cases h
    obtain ⟨l, c, rfl⟩ : ∃ l c, cs = l ++ [c] := ⟨cs.dropLast, cs.getLast ne, (List.dropLast_concat_getLast ne).symm⟩
    have hl : l.length = n := by simpa using h
    have nd1 : l.Nodup := (List.nodup_append.mp nd).1
    have nc : c ∉ l := fun hc => (List.nodup_append.mp nd).2.2 c hc c (List.mem_singleton.mpr rfl) rfl
    unfold statesL
    rw [List.foldl_append]
    show grow (statesL l) c = _
    rw [ih l hl nd1, Nat.pow_succ, range3]
    unfold grow
    rw [List.flatMap_map, List.map_flatMap]
    apply fm_congr
    intro q _
    have nk : c ∉ keysS (digs l q) := by rw [keys_digs]; exact nc
    rw [setS_new nk, setS_new nk, setS_new nk]
    simp only [List.map_cons, List.map_nil, digs_snoc]
    have e1 : q * 3 / 3 = q := by omega
    have e2 : (q * 3 + 1) / 3 = q := by omega
    have e3 : (q * 3 + 2) / 3 = q := by omega
    have f1 : q * 3 % 3 = 0 := by omega
    have f2 : (q * 3 + 1) % 3 = 1 := by omega
    have f3 : (q * 3 + 2) % 3 = 2 := by omega
    rw [e1, e2, e3, f1, f2, f3]
    rfl
end SC
set_option linter.all false
set_option maxRecDepth 100000
/-! the text by places -/
namespace SC
open PySem L2
def top (i : Nat) : Stmt := PySem.Challenge.pw_steadycalls_k13_whole_cases.main.body.getD i (.Pass ⟨0, 0, 0, 0⟩)
abbrev sIsInteger : Stmt := top 18
abbrev sIsBetween : Stmt := top 19
abbrev sIsValue : Stmt := top 20
abbrev sIsName : Stmt := top 21
abbrev sHasKind : Stmt := top 22
abbrev sStatesOf : Stmt := top 26
abbrev sCheckState : Stmt := top 27
abbrev sCheckedArguments : Stmt := top 29
abbrev sRunAlone : Stmt := top 31
abbrev sInnerTerms : Stmt := top 37
abbrev sHasForm : Stmt := top 38
abbrev sIsTerm : Stmt := top 39
abbrev sLeaves : Stmt := top 40
abbrev sNamesWith : Stmt := top 41
abbrev sCellsIn : Stmt := top 42
abbrev sCallsIn : Stmt := top 43
abbrev sHasTick : Stmt := top 44
abbrev sReadsTick : Stmt := top 46
abbrev sCases : Stmt := top 47
abbrev sValueAt : Stmt := top 48
abbrev sWritesAt : Stmt := top 49
abbrev sIsLabelName : Stmt := top 52
abbrev sMadeLabel : Stmt := top 54
abbrev sAreWrites : Stmt := top 58
abbrev sCheckedCells : Stmt := top 63
abbrev sFits : Stmt := top 64
abbrev sCheckedFunctions : Stmt := top 65
abbrev sLPool : Stmt := top 68
abbrev sLDraw : Stmt := top 69
abbrev sLPick : Stmt := top 70
abbrev sLNames : Stmt := top 71
abbrev sLTerm : Stmt := top 72
abbrev sLWrites : Stmt := top 73
abbrev sLBook : Stmt := top 74
abbrev sLMadeBook : Stmt := top 75
abbrev sLFound : Stmt := top 76
abbrev sLRan : Stmt := top 77
abbrev sLCalled : Stmt := top 78
abbrev sLWorked : Stmt := top 79
abbrev sLStates : Stmt := top 80
abbrev sLReached : Stmt := top 81
abbrev sLWordsIn : Stmt := top 82
abbrev sLTouched : Stmt := top 83
abbrev sLCases : Stmt := top 84
abbrev sLInputs : Stmt := top 85
abbrev sLRunAt : Stmt := top 86
abbrev sLaw : Stmt := top 87
abbrev sCellInit : Stmt := inClass (top 25) 0
abbrev sSceneInit : Stmt := inClass (top 30) 0
abbrev sSceneRunFunction : Stmt := inClass (top 30) 1
abbrev sSceneCalled : Stmt := inClass (top 30) 2
abbrev sSceneWorked : Stmt := inClass (top 30) 3
abbrev sLabelInit : Stmt := inClass (top 53) 0
abbrev sFunctionInit : Stmt := inClass (top 59) 0
abbrev sFunctionParts : Stmt := inClass (top 59) 2
abbrev sBookInit : Stmt := inClass (top 66) 0
abbrev sBookGetitem : Stmt := inClass (top 66) 4
abbrev sBookAllCells : Stmt := inClass (top 66) 6
abbrev sBookNames : Stmt := inClass (top 66) 7
abbrev sBookCell : Stmt := inClass (top 66) 8
abbrev sBookReaches : Stmt := inClass (top 66) 9
abbrev sBookTouched : Stmt := inClass (top 66) 10
end SC
set_option Elab.async false
set_option linter.all false
set_option maxRecDepth 100000
set_option maxHeartbeats 0
/-! the head: what the top leaves, by names -/
namespace SC
open PySem PySem.Spec PyProof.Rows L2
def dIsInteger : He.DefD := ⟨("is_integer", none), "is_integer", "is_integer", defArgs sIsInteger, defBody sIsInteger, defScope sIsInteger, [], []⟩
def dIsBetween : He.DefD := ⟨("is_between", none), "is_between", "is_between", defArgs sIsBetween, defBody sIsBetween, defScope sIsBetween, [], []⟩
def dIsValue : He.DefD := ⟨("is_value", none), "is_value", "is_value", defArgs sIsValue, defBody sIsValue, defScope sIsValue, [], []⟩
def dIsName : He.DefD := ⟨("is_name", none), "is_name", "is_name", defArgs sIsName, defBody sIsName, defScope sIsName, [], []⟩
def dHasKind : He.DefD := ⟨("has_kind", none), "has_kind", "has_kind", defArgs sHasKind, defBody sHasKind, defScope sHasKind, [], []⟩
def dStatesOf : He.DefD := ⟨("states_of", none), "states_of", "states_of", defArgs sStatesOf, defBody sStatesOf, defScope sStatesOf, [], []⟩
def dCheckState : He.DefD := ⟨("check_state", none), "check_state", "check_state", defArgs sCheckState, defBody sCheckState, defScope sCheckState, [], []⟩
def dCheckedArguments : He.DefD := ⟨("checked_arguments", none), "checked_arguments", "checked_arguments", defArgs sCheckedArguments, defBody sCheckedArguments, defScope sCheckedArguments, [], []⟩
def dRunAlone : He.DefD := ⟨("run_alone", none), "run_alone", "run_alone", defArgs sRunAlone, defBody sRunAlone, defScope sRunAlone, [], [("tick", .int 0)]⟩
def dInnerTerms : He.DefD := ⟨("inner_terms", none), "inner_terms", "inner_terms", defArgs sInnerTerms, defBody sInnerTerms, defScope sInnerTerms, [], []⟩
def dHasForm : He.DefD := ⟨("has_form", none), "has_form", "has_form", defArgs sHasForm, defBody sHasForm, defScope sHasForm, [], []⟩
def dIsTerm : He.DefD := ⟨("is_term", none), "is_term", "is_term", defArgs sIsTerm, defBody sIsTerm, defScope sIsTerm, [], []⟩
def dLeaves : He.DefD := ⟨("leaves", none), "leaves", "leaves", defArgs sLeaves, defBody sLeaves, defScope sLeaves, [], []⟩
def dNamesWith : He.DefD := ⟨("names_with", none), "names_with", "names_with", defArgs sNamesWith, defBody sNamesWith, defScope sNamesWith, [], []⟩
def dCellsIn : He.DefD := ⟨("cells_in", none), "cells_in", "cells_in", defArgs sCellsIn, defBody sCellsIn, defScope sCellsIn, [], []⟩
def dCallsIn : He.DefD := ⟨("calls_in", none), "calls_in", "calls_in", defArgs sCallsIn, defBody sCallsIn, defScope sCallsIn, [], []⟩
def dHasTick : He.DefD := ⟨("has_tick", none), "has_tick", "has_tick", defArgs sHasTick, defBody sHasTick, defScope sHasTick, [], []⟩
def dReadsTick : He.DefD := ⟨("reads_tick", none), "reads_tick", "reads_tick", defArgs sReadsTick, defBody sReadsTick, defScope sReadsTick, [], []⟩
def dCases : He.DefD := ⟨("cases", none), "cases", "cases", defArgs sCases, defBody sCases, defScope sCases, [], []⟩
def dValueAt : He.DefD := ⟨("value_at", none), "value_at", "value_at", defArgs sValueAt, defBody sValueAt, defScope sValueAt, [], []⟩
def dWritesAt : He.DefD := ⟨("writes_at", none), "writes_at", "writes_at", defArgs sWritesAt, defBody sWritesAt, defScope sWritesAt, [], []⟩
def dIsLabelName : He.DefD := ⟨("is_label_name", none), "is_label_name", "is_label_name", defArgs sIsLabelName, defBody sIsLabelName, defScope sIsLabelName, [], []⟩
def dMadeLabel : He.DefD := ⟨("made_label", none), "made_label", "made_label", defArgs sMadeLabel, defBody sMadeLabel, defScope sMadeLabel, [], []⟩
def dAreWrites : He.DefD := ⟨("are_writes", none), "are_writes", "are_writes", defArgs sAreWrites, defBody sAreWrites, defScope sAreWrites, [], []⟩
def dCheckedCells : He.DefD := ⟨("checked_cells", none), "checked_cells", "checked_cells", defArgs sCheckedCells, defBody sCheckedCells, defScope sCheckedCells, [], []⟩
def dFits : He.DefD := ⟨("fits", none), "fits", "fits", defArgs sFits, defBody sFits, defScope sFits, [], []⟩
def dCheckedFunctions : He.DefD := ⟨("checked_functions", none), "checked_functions", "checked_functions", defArgs sCheckedFunctions, defBody sCheckedFunctions, defScope sCheckedFunctions, [], []⟩
def dLPool : He.DefD := ⟨("_law_pool", none), "_law_pool", "_law_pool", defArgs sLPool, defBody sLPool, defScope sLPool, [], []⟩
def dLDraw : He.DefD := ⟨("_law_draw", none), "_law_draw", "_law_draw", defArgs sLDraw, defBody sLDraw, defScope sLDraw, [], []⟩
def dLPick : He.DefD := ⟨("_law_pick", none), "_law_pick", "_law_pick", defArgs sLPick, defBody sLPick, defScope sLPick, [], []⟩
def dLNames : He.DefD := ⟨("_law_names", none), "_law_names", "_law_names", defArgs sLNames, defBody sLNames, defScope sLNames, [], []⟩
def dLTerm : He.DefD := ⟨("_law_term", none), "_law_term", "_law_term", defArgs sLTerm, defBody sLTerm, defScope sLTerm, [], []⟩
def dLWrites : He.DefD := ⟨("_law_writes", none), "_law_writes", "_law_writes", defArgs sLWrites, defBody sLWrites, defScope sLWrites, [], []⟩
def dLBook : He.DefD := ⟨("_law_book", none), "_law_book", "_law_book", defArgs sLBook, defBody sLBook, defScope sLBook, [], []⟩
def dLMadeBook : He.DefD := ⟨("_law_made_book", none), "_law_made_book", "_law_made_book", defArgs sLMadeBook, defBody sLMadeBook, defScope sLMadeBook, [], []⟩
def dLFound : He.DefD := ⟨("_law_found", none), "_law_found", "_law_found", defArgs sLFound, defBody sLFound, defScope sLFound, [], []⟩
def dLRan : He.DefD := ⟨("_law_ran", none), "_law_ran", "_law_ran", defArgs sLRan, defBody sLRan, defScope sLRan, [], []⟩
def dLCalled : He.DefD := ⟨("_law_called", none), "_law_called", "_law_called", defArgs sLCalled, defBody sLCalled, defScope sLCalled, [], []⟩
def dLWorked : He.DefD := ⟨("_law_worked", none), "_law_worked", "_law_worked", defArgs sLWorked, defBody sLWorked, defScope sLWorked, [], []⟩
def dLStates : He.DefD := ⟨("_law_states", none), "_law_states", "_law_states", defArgs sLStates, defBody sLStates, defScope sLStates, [], []⟩
def dLReached : He.DefD := ⟨("_law_reached", none), "_law_reached", "_law_reached", defArgs sLReached, defBody sLReached, defScope sLReached, [], []⟩
def dLWordsIn : He.DefD := ⟨("_law_words_in", none), "_law_words_in", "_law_words_in", defArgs sLWordsIn, defBody sLWordsIn, defScope sLWordsIn, [], []⟩
def dLTouched : He.DefD := ⟨("_law_touched", none), "_law_touched", "_law_touched", defArgs sLTouched, defBody sLTouched, defScope sLTouched, [], []⟩
def dLCases : He.DefD := ⟨("_law_cases", none), "_law_cases", "_law_cases", defArgs sLCases, defBody sLCases, defScope sLCases, [], []⟩
def dLInputs : He.DefD := ⟨("_law_inputs", none), "_law_inputs", "_law_inputs", defArgs sLInputs, defBody sLInputs, defScope sLInputs, [], []⟩
def dLRunAt : He.DefD := ⟨("_law_run_at", none), "_law_run_at", "_law_run_at", defArgs sLRunAt, defBody sLRunAt, defScope sLRunAt, [], []⟩
def dLaw : He.DefD := ⟨("law", none), "law", "law", defArgs sLaw, defBody sLaw, defScope sLaw, [], []⟩
def dCellInit : He.DefD := ⟨("Cell", some "__init__"), "__init__", "Cell.__init__", defArgs sCellInit, defBody sCellInit, defScope sCellInit, [], []⟩
def dSceneInit : He.DefD := ⟨("Scene", some "__init__"), "__init__", "Scene.__init__", defArgs sSceneInit, defBody sSceneInit, defScope sSceneInit, [], []⟩
def dSceneRunFunction : He.DefD := ⟨("Scene", some "run_function"), "run_function", "Scene.run_function", defArgs sSceneRunFunction, defBody sSceneRunFunction, defScope sSceneRunFunction, [], []⟩
def dSceneCalled : He.DefD := ⟨("Scene", some "called"), "called", "Scene.called", defArgs sSceneCalled, defBody sSceneCalled, defScope sSceneCalled, [], []⟩
def dSceneWorked : He.DefD := ⟨("Scene", some "worked"), "worked", "Scene.worked", defArgs sSceneWorked, defBody sSceneWorked, defScope sSceneWorked, [], []⟩
def dLabelInit : He.DefD := ⟨("Label", some "__init__"), "__init__", "Label.__init__", defArgs sLabelInit, defBody sLabelInit, defScope sLabelInit, [], []⟩
def dFunctionInit : He.DefD := ⟨("Function", some "__init__"), "__init__", "Function.__init__", defArgs sFunctionInit, defBody sFunctionInit, defScope sFunctionInit, [], [("cost", .int 1)]⟩
def dFunctionParts : He.DefD := ⟨("Function", some "parts"), "parts", "Function.parts", defArgs sFunctionParts, defBody sFunctionParts, defScope sFunctionParts, [], []⟩
def dBookInit : He.DefD := ⟨("Book", some "__init__"), "__init__", "Book.__init__", defArgs sBookInit, defBody sBookInit, defScope sBookInit, [], []⟩
def dBookGetitem : He.DefD := ⟨("Book", some "__getitem__"), "__getitem__", "Book.__getitem__", defArgs sBookGetitem, defBody sBookGetitem, defScope sBookGetitem, [], []⟩
def dBookAllCells : He.DefD := ⟨("Book", some "all_cells"), "all_cells", "Book.all_cells", defArgs sBookAllCells, defBody sBookAllCells, defScope sBookAllCells, [], []⟩
def dBookNames : He.DefD := ⟨("Book", some "names"), "names", "Book.names", defArgs sBookNames, defBody sBookNames, defScope sBookNames, [], []⟩
def dBookCell : He.DefD := ⟨("Book", some "cell"), "cell", "Book.cell", defArgs sBookCell, defBody sBookCell, defScope sBookCell, [], []⟩
def dBookReaches : He.DefD := ⟨("Book", some "reaches"), "reaches", "Book.reaches", defArgs sBookReaches, defBody sBookReaches, defScope sBookReaches, [], []⟩
def dBookTouched : He.DefD := ⟨("Book", some "touched"), "touched", "Book.touched", defArgs sBookTouched, defBody sBookTouched, defScope sBookTouched, [], []⟩
def fnD0 : List He.DefD := [dIsInteger, dIsBetween, dIsValue, dIsName, dHasKind, dStatesOf, dCheckState, dCheckedArguments, dRunAlone, dInnerTerms, dHasForm, dIsTerm, dLeaves, dNamesWith, dCellsIn, dCallsIn, dHasTick, dReadsTick, dCases, dValueAt, dWritesAt, dIsLabelName, dMadeLabel, dAreWrites, dCheckedCells, dFits, dCheckedFunctions, dLPool, dLDraw, dLPick]
def fnD1 : List He.DefD := [dLNames, dLTerm, dLWrites, dLBook, dLMadeBook, dLFound, dLRan, dLCalled, dLWorked, dLStates, dLReached, dLWordsIn, dLTouched, dLCases, dLInputs, dLRunAt, dLaw, dCellInit, dSceneInit, dSceneRunFunction, dSceneCalled, dSceneWorked, dLabelInit, dFunctionInit, dFunctionParts, dBookInit, dBookGetitem, dBookAllCells, dBookNames, dBookCell]
def fnD2 : List He.DefD := [dBookReaches, dBookTouched]
def fnD : List He.DefD := fnD0 ++ fnD1 ++ fnD2
def faD0 : List He.Fa := [.free "isinstance", .free "len", .free "all", .free "any", .free "list", .free "tuple", .free "dict", .free "range", .free "sum", .free "max", .free "min", .free "int", .free "abs", .free "sorted", .free "str", .free "enumerate", .free "bool", .glo "is_integer", .glo "is_between", .glo "is_value", .glo "is_name", .glo "has_kind", .glo "states_of", .glo "check_state", .glo "checked_arguments", .glo "run_alone", .glo "inner_terms", .glo "has_form", .glo "is_term", .glo "leaves", .glo "names_with", .glo "cells_in", .glo "calls_in", .glo "has_tick", .glo "reads_tick", .glo "cases", .glo "value_at", .glo "writes_at", .glo "is_label_name", .glo "made_label"]
def faD1 : List He.Fa := [.glo "are_writes", .glo "checked_cells", .glo "fits", .glo "checked_functions", .glo "_law_pool", .glo "_law_draw", .glo "_law_pick", .glo "_law_names", .glo "_law_term", .glo "_law_writes", .glo "_law_book", .glo "_law_made_book", .glo "_law_found", .glo "_law_ran", .glo "_law_called", .glo "_law_worked", .glo "_law_states", .glo "_law_reached", .glo "_law_words_in", .glo "_law_touched", .glo "_law_cases", .glo "_law_inputs", .glo "_law_run_at", .glo "law", .glo "Cell", .cls "Cell", .mkr "Cell", .keep "Cell", .glo "Scene", .cls "Scene", .mkr "Scene", .keep "Scene", .glo "Label", .cls "Label", .mkr "Label", .keep "Label", .glo "Function", .cls "Function", .mkr "Function", .keep "Function"]
def faD2 : List He.Fa := [.glo "Book", .cls "Book", .mkr "Book", .keep "Book", .noat "Cell" "name", .noat "Cell" "kind", .noat "Scene" "book", .noat "Scene" "held", .noat "Scene" "tick_now", .noat "Scene" "view_held", .noat "Label" "name", .noat "Label" "height", .noat "Function" "label", .noat "Function" "name", .noat "Function" "arguments", .noat "Function" "result", .noat "Function" "writes", .noat "Function" "cost", .noat "Book" "cell_row", .noat "Book" "row", .meth "Cell" "__init__", .meth "Scene" "__init__", .meth "Scene" "run_function", .meth "Scene" "called", .meth "Scene" "worked", .meth "Label" "__init__", .meth "Function" "__init__", .meth "Function" "parts", .meth "Book" "__init__", .meth "Book" "__getitem__", .meth "Book" "all_cells", .meth "Book" "names", .meth "Book" "cell", .meth "Book" "reaches", .meth "Book" "touched", .glo "VALUES", .glo "KINDS", .glo "PAIRS", .glo "LABELS", .str "LETTERS" "abcdefghijklmnopqrstuvwxyz"]
def faD3 : List He.Fa := [.int "MOST_LETTERS" 8, .int "MOST_VALUE" 2, .int "MOST_PARTS" 30, .int "MOST_DEPTH" 8, .int "MOST_ARGUMENTS" 2, .int "MOST_WRITES" 3, .int "MOST_COST" 99, .int "MOST_CELLS" 6, .int "MOST_FUNCTIONS" 8]
def faD : List He.Fa := faD0 ++ faD1 ++ faD2 ++ faD3
def exD0 (K : PySem.W.Frag) : Bool := He.tupB K "VALUES" [.int 0, .int 1, .int 2] && (He.tupB K "KINDS" [.str "frozen", .str "setting", .str "table"] &&
  (He.tupB K "PAIRS" [.str "plus", .str "less", .str "same"] && (He.tupB K "LABELS" [.str "always", .str "session", .str "statement", .str "changing"] &&
  (PySem.W.subIn K (.ref (He.ga K "Cell")) (.ref (He.ga K "Cell")) == some true && (PySem.W.subIn K (.ref (He.ga K "Function")) (.ref (He.ga K "Function")) == some true && PySem.W.subIn K (.ref (He.ga K "Label")) (.ref (He.ga K "Label")) == some true)))))
/-- what isinstance asks of an own class -/
def insB (K : PySem.W.Frag) (x : Str) : Bool := He.eqO (PySem.W.findIn K (.ref (He.ga K x)) "__class__") (some (some (.builtin "object.__class__"))) && (He.eqO (PySem.W.specialIn K (.builtin "object.__class__") "__get__") (some (some (.builtin "getset_descriptor.__get__"))) &&
  (decide (PySem.W.takesIn K (.builtin "object.__class__") = some true) && decide (PySem.W.mroIn K (He.ga K x) (.type "object") = some true)))
def tupN (K : PySem.W.Frag) (x : Str) : Bool := match K.lookup (He.ga K x) with
  | some ⟨.type c, none, _, _⟩ => decide (c = "tuple")
  | _ => false
def exD (K : PySem.W.Frag) : Bool := insB K "Cell" && (insB K "Function" && (decide (PySem.W.kitOne K (.type "str") (.ref (He.ga K "Label")) = some false) && (tupN K "LABELS" && exD0 K)))
def looseD0 : List PySem.Str := ["_wall", "__name__", "StoreError", "BadLabel", "BadCell", "BadPart", "BadTerm", "BadFunction", "BadState", "BadArguments", "BadTick", "UnknownName", "TooMany", "LETTERS", "MOST_LETTERS", "MOST_VALUE", "VALUES", "is_integer", "is_between", "is_value"]
def looseD1 : List PySem.Str := ["is_name", "has_kind", "KINDS", "Cell", "states_of", "check_state", "checked_arguments", "Scene", "run_alone", "MOST_PARTS", "MOST_DEPTH", "MOST_ARGUMENTS", "PAIRS", "inner_terms", "has_form", "is_term", "leaves", "names_with", "cells_in", "calls_in"]
def looseD2 : List PySem.Str := ["has_tick", "reads_tick", "cases", "value_at", "writes_at", "LABELS", "is_label_name", "Label", "made_label", "MOST_WRITES", "MOST_COST", "are_writes", "Function", "MOST_CELLS", "MOST_FUNCTIONS", "checked_cells", "fits", "checked_functions", "Book", "_law_pool"]
def looseD3 : List PySem.Str := ["_law_draw", "_law_pick", "_law_names", "_law_term", "_law_writes", "_law_book", "_law_made_book", "_law_found", "_law_ran", "_law_called", "_law_worked", "_law_states", "_law_reached", "_law_words_in", "_law_touched", "_law_cases", "_law_inputs", "_law_run_at"]
def looseD : List PySem.Str := looseD0 ++ looseD1 ++ looseD2 ++ looseD3
abbrev RR : PySem.W.OpenRow := PySem.W.OpenLaw.row PySem.Challenge.rw_steadycalls_k13_whole_cases
abbrev qD : Program := PySem.W.view RR.prog [87]
abbrev hkD : PySem.W.Hook := He.hookX 4 faD fnD [] [] exD
def obD (s : PySem.W.SharedT) : He.AlX := He.obsX 4 faD fnD [] [] exD (HandSHeadRun.getT s)
theorem obD_eq (s : PySem.W.SharedT) : obD s = hkD.obs s.abs := He.obsX_eq (HandSHeadRun.getT_eq s)
theorem runD (w : World) : HandSHeadRun.RunEq RR qD hkD obD 60000 looseD w := by
  intro os
  kernel_rfl
end SC
set_option Elab.async false
set_option linter.all false
set_option maxRecDepth 100000
/-! RA: displays of dicts with two stars. -/
namespace SC
open PySem PySem.Spec PyProof.Rows L2

section
variable {prog : Program} {w : World} {K : Type} [DecidableEq K] {knd : KeyKind prog w K} {A : Around} {E : Value → Shared → Prop} {s : Shared}
theorem dput_pairs {d : Addr} {kvs : List (K × Value)} {k : K} {key v : Value} {Q : Unit → Shared → Prop} (hkey : knd.is k key = true) (hm : s.heap.DictOf knd d kvs)
    (hQ : ∀ h', h'.DictOf knd d (stored kvs k v) → Heap.SameBut d s.heap h' → Q () { s with heap := h' }) (hsz : kvs.length ≤ sizeLine) : wpAny (model prog w) A (dictPut d (knd.hash k) key v) Q E s := by
  obtain ⟨o, es, ep, ho, hc, hd, hk, hp, hn⟩ := hm
  have hes : es.size ≤ sizeLine := by
    have e1 := hp.length
    have e2 : es.toList.length = es.size := by simp
    omega
  unfold dictPut
  refine wpAny_bind (wpAny_dictFind_of hkey ho hd hk ?_)
  have hx : (es.findIdx? fun e => knd.is k e.key) = kvs.findIdx? fun kv => decide (kv.1 = k) := by
    rw [← hp.findIdx k]
    obtain ⟨l⟩ := es
    simp
  cases hi : es.findIdx? fun e => knd.is k e.key with
  | some i =>
    refine wpAny_updateDict ho hd (hQ _ ⟨_, _, ep, Heap.get?_update_self _ ho (Obj.isFreed_of_dict (Obj.data_mapDict hd _)), hc.mapDict _, Obj.data_mapDict hd _, hk.modify _ _, ?_, ?_⟩ (Heap.SameBut.update ..))
    · rw [stored, if_pos (any_of_findIdx_some (hx ▸ hi))]
      have hl : (es.toList.findIdx? fun e => knd.is k e.key) = some i := by
        rw [← hi]
        obtain ⟨l⟩ := es
        simp
      have hmod := hp.modify hn hl v
      obtain ⟨l⟩ := es
      simpa using hmod
    · rw [stored, if_pos (any_of_findIdx_some (hx ▸ hi)), keys_map_store]
      exact hn
  | none =>
    have hnot : k ∉ kvs.map (·.1) := not_mem_of_findIdx_none (hx ▸ hi)
    have hany : ¬ (kvs.any fun kv => decide (kv.1 = k)) = true := by
      rw [List.any_eq_true]
      rintro ⟨kv, hkv, he⟩
      exact hnot (List.mem_map.mpr ⟨kv, hkv, of_decide_eq_true he⟩)
    refine wpAny_updateDictKeys (hz := hes) ho hd (hQ _ ⟨_, _, ep + 1, Heap.get?_update_self _ ho (Obj.isFreed_of_dict (Obj.data_mapDictKeys hd _)), hc.mapDictKeys _, Obj.data_mapDictKeys hd _, hk.push hkey _, ?_, ?_⟩ (Heap.SameBut.update ..))
    · rw [stored, if_neg hany]
      have happ := hp.append hkey (knd.hash k) v
      obtain ⟨l⟩ := es
      simpa using happ
    · rw [stored, if_neg hany, List.map_append, List.nodup_append]
      refine ⟨hn, by simp, ?_⟩
      intro a ha b hb
      simp only [List.map_cons, List.map_nil, List.mem_singleton] at hb
      subst hb
      exact fun e => hnot (e ▸ ha)
end

section
variable {prog : Program} {w : World} {A : Around} {E : Value → Shared → Prop} {s : Shared}
/-- ** of a dict with keys ints and texts -/
theorem merge_mapping {d o : Addr} {kvs more : List (Key × Value)} {Q : Unit → Shared → Prop} (hdo : d ≠ o) (hoS : (o == sysModules) = false) (hd : s.heap.DictOf (mixKind prog w) d kvs) (ho : s.heap.DictOf (mixKind prog w) o more)
    (hQ : ∀ h', h'.DictOf (mixKind prog w) d (merged kvs more) → Heap.SameBut d s.heap h' → Q () { s with heap := h' }) (hsz : kvs.length + more.length ≤ sizeLine) :
    wpAny (model prog w) A (mergeMapping d (.ref o) false) Q E s := by
  obtain ⟨od, esd, epd, hod, hcd, hdd, hkd, hpd, hnd⟩ := id hd
  obtain ⟨oo, eso, epo, hoo, hco, hdo', hko, hpo, hno⟩ := id ho
  have hlen : more.length = eso.size := by rw [← hpo.length]; simp
  unfold mergeMapping
  refine wpAny_bind (wpAny_isInstance ho.typeIs isSubtype_dict_dict ?_)
  rw [if_pos rfl]
  refine wpAny_bind (wpAny_specialOf ho.typeIs F.slot_dict_iter.lookup ?_)
  rw [show ((some (Value.builtin "dict.__iter__") == some (Value.builtin "dict.__iter__")) : Bool) = true from beq_self_eq_true _]
  dsimp only
  refine wpAny_bind (wpAny_pure ?_)
  dsimp only
  rw [if_neg (show ¬ ((o == sysModules) = true) by rw [hoS]; exact Bool.false_ne_true)]
  simp only [Bool.false_eq_true, if_false]
  have loop : wpAny (model prog w) A (do
      let l ← dictEntries o
      let epoch ← dictEpoch o
      forIn (List.range l.size) PUnit.unit fun i (_ : PUnit) => (do
          let l' ← dictEntries o
          match l'[i]? with
            | some e => do
              holding [e.key, e.val] (dictPut d e.hash e.key e.val)
              let ep' ← dictEpoch o
              if (ep' != epoch) = true then do
                  (unsupported "dict.changed-during-merge" : Sem PUnit)
                  pure (ForInStep.yield PUnit.unit)
                else pure (ForInStep.yield PUnit.unit)
            | _ => do
              (unsupported "dict.changed-during-merge" : Sem PUnit)
              pure (ForInStep.yield PUnit.unit) : Sem (ForInStep PUnit))
      pure ()) Q E s := by
    refine wpAny_bind (wpAny_dictEntries hoo hdo' ?_)
    refine wpAny_bind (wpAny_dictEpoch hoo hdo' ?_)
    refine wpAny_bind ?_
    rw [List.range_eq_range']
    refine wpAny_forIn_list _
      (fun rest _ s' => ∃ h' i, s' = { s with heap := h' } ∧ rest = List.range' i (eso.size - i) ∧ i ≤ eso.size ∧ h'.DictOf (mixKind prog w) d (merged kvs (more.take i)) ∧ h'.get? o = some oo ∧ Heap.SameBut d s.heap h')
      _ ?_ ?_ _ _ ⟨s.heap, 0, rfl, by simp, Nat.zero_le _, by simpa [merged] using hd, hoo, Heap.SameBut.refl _ _⟩
    · rintro x rest b s' ⟨h', i, rfl, hr, hi, hd', hoo', hs'⟩
      have hlt : i < eso.size := by
        rcases Nat.lt_or_ge i eso.size with h | h
        · exact h
        · rw [Nat.sub_eq_zero_of_le h] at hr
          simp at hr
      obtain ⟨rfl, hrest⟩ : x = i ∧ rest = List.range' (i + 1) (eso.size - (i + 1)) := by
        have e : eso.size - i = (eso.size - (i + 1)) + 1 := by omega
        rw [e, List.range'_succ] at hr
        injection hr with h1 h2
        exact ⟨h1, h2⟩
      refine wpAny_bind (wpAny_dictEntries hoo' hdo' ?_)
      rw [Array.getElem?_eq_getElem hlt]
      obtain ⟨⟨k, v⟩, hkv⟩ : ∃ kv, more[x]? = some kv := ⟨more[x]'(by rw [hlen]; exact hlt), List.getElem?_eq_getElem _⟩
      obtain ⟨hkey, hval⟩ := hpo.get? (e := eso[x]) (by simp [hlt]) hkv
      obtain ⟨k', hkey', hhash⟩ := hko eso[x] (Array.getElem_mem hlt)
      obtain rfl : k' = k := (mixKind prog w).inj _ _ _ hkey' hkey
      show wpAny _ _ (holding [eso[x].key, eso[x].val] (dictPut d eso[x].hash eso[x].key eso[x].val) >>= _) _ _ _
      rw [hhash, hval]
      have hmx : (merged kvs (more.take x)).length ≤ sizeLine := by
        have e1 := merged_length_le kvs (more.take x)
        have e2 : (more.take x).length ≤ more.length := by rw [List.length_take]; omega
        omega
      refine wpAny_bind (wpAny_holding (dput_pairs hkey hd' (fun h'' hd'' hs'' => ?_) hmx))
      have hoo'' : h''.get? o = some oo := (hs''.2 o (Ne.symm hdo)).trans hoo'
      refine wpAny_bind (wpAny_dictEpoch hoo'' hdo' ?_)
      rw [if_neg (by simp)]
      exact wpAny_pure ⟨h'', x + 1, rfl, hrest, hlt, by rw [merged_take_succ kvs more x (k', v) hkv]; exact hd'', hoo'', hs'.trans hs''⟩
    · rintro b s' ⟨h', i, rfl, hr, hi, hd', hoo', hs'⟩
      have hin : i = eso.size := by
        rcases Nat.lt_or_ge i eso.size with h | h
        · have e : eso.size - i = (eso.size - (i + 1)) + 1 := by omega
          rw [e, List.range'_succ] at hr
          exact nomatch hr
        · exact Nat.le_antisymm hi h
      refine wpAny_pure (hQ h' ?_ hs')
      rw [hin, ← hlen, List.take_length] at hd'
      exact hd'
  refine wpAny_bind (wpAny_dictEntries hod hdd ?_)
  split
  · refine wpAny_bind (wpAny_dictEntries hoo hdo' ?_)
    refine wpAny_bind ?_
    rw [← Array.forIn_toList]
    refine wpAny_forIn_list _ (fun rest _ s' => s' = s ∧ ∀ e ∈ rest, e ∈ eso) _ ?_ ?_ _ _ ⟨rfl, fun e he => by simpa using he⟩
    · rintro e rest b s' ⟨rfl, he⟩
      obtain ⟨k, hk, _⟩ := hko e (he e (List.mem_cons_self ..))
      have hr : ∀ e' ∈ rest, e' ∈ eso := fun e' h => he e' (List.mem_cons_of_mem _ h)
      rcases keyIs_shape hk with ⟨i, t, _, ek⟩ | ⟨x, t, _, ek⟩
      · rw [ek]
        exact wpAny_pure ⟨rfl, hr⟩
      · rw [ek]
        exact wpAny_pure ⟨rfl, hr⟩
    · rintro b s' ⟨rfl, _⟩
      exact loop
  · exact loop
end
end SC
set_option Elab.async false
set_option linter.all false
set_option maxRecDepth 100000
/-! RB: {k: v, **d}, {**d, **e}. -/
namespace SC
open PySem PySem.Spec PyProof.Rows L2
section
variable {prog : Program} {w : World} {A : Around} {E : Value → Shared → Prop} {s : Shared}
theorem star_one {K : Type} [DecidableEq K] {knd : KeyKind prog w K} {k v e : Sem Value} {Q : Value → Shared → Prop}
    (h : wpAny (model prog w) A (evalPairs [(k, v)]) (fun vs s1 => ∃ kvs, Carries knd vs kvs ∧ s1.heap.DictOf knd s.heap.objs.size [] ∧ ∀ h', h'.DictOf knd s.heap.objs.size (merged [] kvs) → Heap.SameBut s.heap.objs.size s1.heap h' →
      wpAny (model prog w) A e (fun u s2 => wpAny (model prog w) A (mergeMapping s.heap.objs.size u false) (fun _ s3 => Q (.ref s.heap.objs.size) s3) (fun _ _ => False) s2) E { s1 with heap := h', toks := s1.toks + vs.length }) E
      { s with heap := s.heap.push { cls := .type "dict", data := .dict #[] } }) : wpAny (model prog w) A (dictDisplay [(some k, v), (none, e)]) Q E s := by
  unfold dictDisplay
  simp only [List.forIn_cons, List.forIn_nil, List.nil_append, List.length_singleton, pure_bind, Nat.reduceBEq, Bool.false_eq_true, if_false, List.isEmpty_cons, List.isEmpty_nil, if_true, bind_assoc]
  refine wpAny_bind (wpAny_subDict (knd := knd) (by simp) (wpAny_mono h (fun vs s1 h1 => ?_) fun _ _ x => x))
  obtain ⟨kvs, c, d0, q⟩ := h1
  refine ⟨kvs, c, d0, fun h' d1 sb => ?_⟩
  try dsimp only
  refine wpAny_bind (wpAny_holding (wpAny_mono (q h' d1 sb) (fun u s2 h2 => ?_) fun _ _ x => x))
  refine wpAny_bind (wpAny_onRaise (wpAny_tryCatch (wpAny_onRaise (wpAny_holding (wpAny_mono h2 (fun _ s3 h3 => ?_) fun _ _ x => x.elim)))))
  exact wpAny_pure h3
theorem star_two {e1 e2 : Sem Value} {Q : Value → Shared → Prop}
    (h : wpAny (model prog w) A e1 (fun u s2 => wpAny (model prog w) A (mergeMapping s.heap.objs.size u false) (fun _ s3 => wpAny (model prog w) A e2 (fun u s4 => wpAny (model prog w) A (mergeMapping s.heap.objs.size u false) (fun _ s5 => Q (.ref s.heap.objs.size) s5)
      (fun _ _ => False) s4) E s3) (fun _ _ => False) s2) E { s with heap := s.heap.push { cls := .type "dict", data := .dict #[] } }) : wpAny (model prog w) A (dictDisplay [(none, e1), (none, e2)]) Q E s := by
  unfold dictDisplay
  simp only [List.forIn_cons, List.forIn_nil, List.nil_append, List.length_singleton, pure_bind, List.isEmpty_nil, if_true, bind_assoc]
  refine wpAny_bind (wpAny_alloc ?_)
  refine wpAny_bind (wpAny_holding (wpAny_mono h (fun u s2 h2 => ?_) fun _ _ x => x))
  refine wpAny_bind (wpAny_onRaise (wpAny_tryCatch (wpAny_onRaise (wpAny_holding (wpAny_mono h2 (fun _ s3 h3 => ?_) fun _ _ x => x.elim)))))
  refine wpAny_bind (wpAny_holding (wpAny_mono h3 (fun u s2 h2 => ?_) fun _ _ x => x))
  refine wpAny_bind (wpAny_onRaise (wpAny_tryCatch (wpAny_onRaise (wpAny_holding (wpAny_mono h2 (fun _ s3 h3 => ?_) fun _ _ x => x.elim)))))
  exact wpAny_pure h3
end
section
variable {X : Cx} {pos : Pos} {pins : List (Addr × Obj)} {σ : L2.St} {H : Hp} {s : Shared}
/-- d.update by **o -/
theorem merge_inv {d o : Addr} {kvs more : List (Key × V)} {u : Value} {Q : Unit → Shared → Prop} {E : Value → Shared → Prop} (I : Inv X pins σ H s) (hd : H d = some (.dK kvs)) (ho : Rd H o (.dK more)) (hne : d ≠ o) (hz : kvs.length + more.length ≤ 1000) (ru : RelV (.ref o) u)
    (h : ∀ s', Inv X pins σ (upd H d (.dK (mergeK kvs more))) s' → Q () s') : wpAny (model X.prog X.w) X.A (mergeMapping d u false) Q E s := by
  cases ru
  obtain ⟨_, nd, vs, rel, dd⟩ := dk_of I.hok hd
  obtain ⟨_, no, ws, rel2, dd2⟩ := dk_rd I.hok ho
  have l1 := Paired.length rel
  have l2 := Paired.length rel2
  refine merge_mapping hne no dd dd2 (fun h' dm sb => ?_) (by rw [sizeLine_eq]; omega)
  have hz2 : (mergeK kvs more).length ≤ sizeLine := by
    have e1 := length_mergeK more kvs
    rw [sizeLine_eq]
    omega
  have he : ∃ q, h'.get? d = some q := let ⟨q, _, _, hq, _⟩ := dm; ⟨q, hq⟩
  exact h _ (d_write (t' := s.toks) I (by rw [hd]; exact True.intro) sb he (dk_new hz2 nd (rel2.merge rel) dm))
/-- {k: v, **e} -/
def tStar1 (tk tv te : TE) : TE := fun σ H Q => ∀ p, H p = none → tk σ (upd H p (.dK [])) fun x H1 => tv σ H1 fun y H2 => H2 p = some (.dK []) ∧ ∃ key, x = kV key ∧ te σ (upd H2 p (.dK [(key, y)])) fun z H3 =>
  ∃ o more, z = .ref o ∧ H3 p = some (.dK [(key, y)]) ∧ Rd H3 o (.dK more) ∧ p ≠ o ∧ more.length ≤ 900 ∧ Q (.ref p) (upd H3 p (.dK (mergeK [(key, y)] more)))
theorem pe_star1 {k v e : Expr} {tk tv te : TE} (hk : PE X k tk) (hv : PE X v tv) (he : PE X e te) : PE X (.Dict [some k, none] [v, e] pos) (tStar1 tk tv te) := by
  refine ⟨fun pins s σ H Q I q => ?_⟩
  rw [arm_eval_Dict]
  refine wpAny_bind (wpAny_standAt ?_)
  have hn := I.hok.fresh (Nat.le_refl s.heap.objs.size)
  have I1 := I.laid (a := s.heap.objs.size) (o := .dK []) (h' := s.heap.push { cls := .type "dict", data := .dict #[] }) (t' := s.toks) (fun _ _ q => Heap.get?_push_of_some _ q) (Nat.le_refl _) (dk_empty s.heap I.big)
  have pp : PPs X pos [some k] [v] [(tk, tv)] := pps_cons hk hv pps_nil
  show wpAny _ _ (dictDisplay [(some (eval k X.env), do let x ← eval v X.env; standAt pos; pure x), (none, do let x ← eval e X.env; standAt pos; pure x)]) _ _ _
  have q0 := q _ hn
  have q1 : tPairs [(tk, tv)] σ (upd H s.heap.objs.size (.dK [])) (fun ps H2 => match ps with
    | [(x, y)] => H2 s.heap.objs.size = some (.dK []) ∧ ∃ key, x = kV key ∧ te σ (upd H2 s.heap.objs.size (.dK [(key, y)])) fun z H3 =>
      ∃ o more, z = .ref o ∧ H3 s.heap.objs.size = some (.dK [(key, y)]) ∧ Rd H3 o (.dK more) ∧ s.heap.objs.size ≠ o ∧ more.length ≤ 900 ∧ Q (.ref s.heap.objs.size) (upd H3 s.heap.objs.size (.dK (mergeK [(key, y)] more)))
    | _ => False) := q0
  refine star_one (knd := mixKind X.prog X.w) (thn (pp.run pins _ σ _ _ I1 q1) fun ws s2 ⟨ps, H2, I2, rel, q2⟩ => ?_)
  obtain ⟨x, y, rfl⟩ : ∃ x y, ps = [(x, y)] := by
    match ps, q2 with
    | [(x, y)], _ => exact ⟨x, y, rfl⟩
  obtain ⟨e0, key, ek, q2⟩ := q2
  subst ek
  obtain ⟨rs, c, rk⟩ := carries_of (P := X.prog) (w := X.w) (kvs := [(key, y)]) rel
  obtain ⟨z, hd, vs0, r0, dd⟩ := dk_of I2.hok e0
  cases r0
  refine ⟨rs, c, dd, fun h' dd' hs => ?_⟩
  have hq : ∃ q, h'.get? s.heap.objs.size = some q := let ⟨q, _, _, hq, _⟩ := dd'; ⟨q, hq⟩
  have I3 : Inv X pins σ (upd H2 s.heap.objs.size (.dK [(key, y)])) { s2 with heap := h', toks := s2.toks + ws.length } :=
    d_write I2 (by rw [e0]; exact True.intro) hs hq (dk_new (kvs := [(key, y)]) (by simp [sizeLine_eq]) hd (rk.merge .nil) dd')
  refine wpAny_bind (thn (he.run pins _ σ _ _ I3 q2) fun u s4 ⟨z, H4, I4, rz, o, more, ez, e1, e2, ne, hl, q4⟩ => ?_)
  subst ez
  refine wpAny_bind (wpAny_standAt (wpAny_pure ?_))
  exact merge_inv I4 e1 e2 ne (by simp only [List.length_singleton]; omega) rz fun s5 I5 => ⟨.ref s.heap.objs.size, _, I5, rfl, q4⟩
/-- {**d, **e} -/
def tStar2 (td te : TE) : TE := fun σ H Q => ∀ p, H p = none → td σ (upd H p (.dK [])) fun x H1 => ∃ d kvs, x = .ref d ∧ H1 p = some (.dK []) ∧ Rd H1 d (.dK kvs) ∧ p ≠ d ∧ kvs.length ≤ 400 ∧ te σ (upd H1 p (.dK (mergeK [] kvs))) fun z H3 =>
  ∃ o more, z = .ref o ∧ H3 p = some (.dK (mergeK [] kvs)) ∧ Rd H3 o (.dK more) ∧ p ≠ o ∧ more.length ≤ 400 ∧ Q (.ref p) (upd H3 p (.dK (mergeK (mergeK [] kvs) more)))
theorem pe_star2 {d e : Expr} {td te : TE} (hd : PE X d td) (he : PE X e te) : PE X (.Dict [none, none] [d, e] pos) (tStar2 td te) := by
  refine ⟨fun pins s σ H Q I q => ?_⟩
  rw [arm_eval_Dict]
  refine wpAny_bind (wpAny_standAt ?_)
  have hn := I.hok.fresh (Nat.le_refl s.heap.objs.size)
  have I1 := I.laid (a := s.heap.objs.size) (o := .dK []) (h' := s.heap.push { cls := .type "dict", data := .dict #[] }) (t' := s.toks) (fun _ _ q => Heap.get?_push_of_some _ q) (Nat.le_refl _) (dk_empty s.heap I.big)
  show wpAny _ _ (dictDisplay [(none, do let x ← eval d X.env; standAt pos; pure x), (none, do let x ← eval e X.env; standAt pos; pure x)]) _ _ _
  refine star_two (wpAny_bind (thn (hd.run pins _ σ _ _ I1 (q _ hn)) fun u s2 ⟨x, H2, I2, rx, a, kvs, ex, e0, e1, n1, l1, q2⟩ => ?_))
  subst ex
  refine wpAny_bind (wpAny_standAt (wpAny_pure ?_))
  refine merge_inv I2 e0 e1 n1 (by simp only [List.length_nil]; omega) rx fun s3 I3 => ?_
  refine wpAny_bind (thn (he.run pins _ σ _ _ I3 q2) fun u s4 ⟨z, H4, I4, rz, o, more, ez, e3, e4, n2, l2, q4⟩ => ?_)
  subst ez
  refine wpAny_bind (wpAny_standAt (wpAny_pure ?_))
  have l3 := length_mergeK kvs []
  refine merge_inv I4 e3 e4 n2 (by rw [List.length_nil] at l3; omega) rz fun s5 I5 => ⟨.ref s.heap.objs.size, _, I5, rfl, q4⟩
end
end SC
set_option Elab.async false
set_option linter.all false
set_option maxRecDepth 100000
/-! RC: o[i] by an own __getitem__; defs as constants of the module. -/
namespace SC
open PySem PySem.Spec PyProof.Rows L2

/-- a method of the class at C that lets nothing out -/
structure OwnIx (P : Program) (w : World) (K : PySem.W.Frag) (mg : Str → Option Value) (base : Heap) (k : Nat) (C : Addr) (sp : Sp) : Prop where
  ex : ∃ (f : Addr) (fd : FuncData) (ps : List Str), Meth K C "__getitem__" f ∧ PySem.W.fnIn K f = true ∧ FnOk P w K mg base CX0 k f fd ps sp ∧ Binds K fd ps []
def tOwnIx (C : Addr) (sp : Sp) (ta tb : TE) : TE := fun σ H Q => ta σ H fun x H1 => tb σ H1 fun y H2 => ∃ a dx fs, x = .ref a ∧ H2 a = some (.ins C dx fs) ∧ sp [x, y] H2 Q E0
section
variable {X : Cx} {k j : Nat} {C : Addr} {sp : Sp} {a b : Expr} {ta tb : TE} {pos : Pos}
/-- a def called at a place below the body -/
theorem run_at {pins : List (Addr × Obj)} {σ : L2.St} {H : Hp} {s : Shared} {Q : VK} {us : List Value} {vs : List V} {f : Addr} {fd : FuncData} {ps : List Str} {A1 : Around} (F : FnOk X.prog X.w X.K X.mg X.base CX0 k f fd ps sp) (hr : Room k A1) (hf : A1.frames = X.A.frames) (hb : Binds X.K fd ps [])
    (I : Inv X pins σ H s) (r : Vals vs us) (h : sp vs H Q E0) : wpAny (model X.prog X.w) A1 (call (.ref f) us) (EP X pins σ Q) X.xe s := by
  have hl : (us ++ []).length = ps.length := by rw [List.append_nil, ← r.length]; exact F.len _ _ _ _ h
  have e := I.env0
  have e0 : Env0 X.prog X.w X.K X.mg X.base A1 X.stack s H := ⟨by rw [hf]; exact e.frames, e.mod, e.bs, e.bsz, e.funs, e.frf, e.hok, e.bare⟩
  refine wpAny_call (codeAny_mono (F.run A1 X.stack s H ⟨us, []⟩ (us ++ []) vs Q E0 hr e0 (hb s us I.kIn hl) (by rw [List.append_nil]; exact r) h) fun r s' hq => ?_)
  cases r with
  | error e => exact False.elim hq
  | ok fl =>
    cases fl with
    | ret u => exact I.after hq
    | next => exact False.elim hq
    | brk => exact False.elim hq
    | cont => exact False.elim hq
theorem pe_ownIx (c : OwnIx X.prog X.w X.K X.mg X.base k C sp) (hr : Room j X.A) (hk : k + 1 ≤ j) (ha : PE X a ta) (hb : PE X b tb) (hs : ∀ o i, subscripted b true o i = runValue (.builtin "lifetime.subscript" ⟨[o, i], []⟩) := by intros; with_unfolding_all rfl) :
    PE X (.Subscript a b pos) (tOwnIx C sp ta tb) := by
  obtain ⟨f, fd, ps, me, fi, F, bi⟩ := c.ex
  refine ⟨fun pins s σ H Q I h => ?_⟩
  refine Subscript_ (binT ha hb I h fun v u s2 x y H2 I2 rx ry q => ?_)
  obtain ⟨p, dx, fs, ex, e, q⟩ := q
  subst ex
  obtain rfl : v = Value.ref p := rx
  obtain ⟨mA, J, _⟩ := ins_get I2.hok e
  obtain ⟨od, J, _⟩ := J.look
  obtain ⟨m, hF⟩ := I2.fr
  refine PySem.W.sub_K hF I2.ok.mod.kin J me.at_ fi me.fn ?_ (hs _ _)
  exact run_at F ((hr.mono hk).in1) rfl bi I2 (.cons (show L2.RelV (V.ref p) (Value.ref p) from rfl) (.cons ry .nil)) q
end
end SC
set_option Elab.async false
set_option linter.all false
set_option maxRecDepth 100000
/-! RD: lists compared with []; states compared; lists of (state, tick) compared. -/
namespace SC
open PySem PySem.Spec PyProof.Rows L2 PySem.SeqAt

section
open AutoSeq1 (wpAny_loadPart')
open MeetsSeq MeetsSeq2 MeetsSeq3 SeqRoads2
variable {prog : Program} {w : World}
theorem ne_loop1 (l b : Addr) (as bs : Array Value) (n n2 : Nat) (dd dd2 : Option Addr) (sl sl2 : Array (Option Value)) (hsz : as.size = bs.size) (k : Nat) :
    ∀ i : Nat, as.size - i = k → MeetsIn prog w (Builtin.«list.__eq__.loop» ⟨[.ref l, .ref b, rawInt i, rawInt 3], []⟩)
      (fun A R s => s.heap.get? l = some { cls := .type "list", dict := dd, data := .seq as n, slots := sl } ∧ s.heap.get? b = some { cls := .type "list", dict := dd2, data := .seq bs n2, slots := sl2 } ∧
        (∀ j (h1 : j < as.size) (h2 : j < bs.size), EqP prog w A.in1 s as[j] bs[j] true) ∧ R (.ok (.ret (.bool false))) s) := by
  induction k with
  | zero =>
    intro i hk A R s h
    obtain ⟨hp, g, d, tk, os⟩ := s
    obtain ⟨hl, hb, he, h⟩ := h
    wp_walk using wpAny_loadPart' hl, wpAny_loadPart' hb
    have hi1 : as[((i : Nat) : Int).toNat]? = none := by simp; omega
    have hi2 : bs[((i : Nat) : Int).toNat]? = none := by simp; omega
    rw [hi1, hi2]
    wp_walk using wpAny_loadPart' hl, wpAny_loadPart' hb
    show R (.ok (.ret (.bool (as.size != bs.size)))) _
    rw [hsz]
    simpa using h
  | succ k ih =>
    intro i hk A R s h
    obtain ⟨hp, g, d, tk, os⟩ := s
    obtain ⟨hl, hb, he, h⟩ := h
    wp_walk using wpAny_loadPart' hl, wpAny_loadPart' hb
    have hlt : i < as.size := by omega
    have hlt2 : i < bs.size := by omega
    have hi1 : as[((i : Nat) : Int).toNat]? = some as[i] := by simp [hlt]
    have hi2 : bs[((i : Nat) : Int).toNat]? = some bs[i] := by simp [hlt2]
    have hc : ((i : Int) + 1) = ((i + 1 : Nat) : Int) := by push_cast; rfl
    rw [hi1, hi2]
    refine wpAny_bind (he i hlt hlt2 _ _ ?_)
    wp_walk
    rw [hc]
    exact ⟨plainId_quiet plain_eq_loop _, codeAny_builtin entry_eq_loop (by
      rw [Around.under_plainId plain_eq_loop _]
      exact ih (i + 1) (by omega) A R _ ⟨hl, hb, he, h⟩)⟩
theorem ne_list1 (l b : Addr) (as bs : Array Value) (n n2 : Nat) (dd dd2 : Option Addr) (sl sl2 : Array (Option Value)) (hsz : as.size = bs.size) :
    MeetsIn prog w (Builtin.«list.__ne__» ⟨[.ref l, .ref b], []⟩)
      (fun A R s => s.heap.get? l = some { cls := .type "list", dict := dd, data := .seq as n, slots := sl } ∧ s.heap.get? b = some { cls := .type "list", dict := dd2, data := .seq bs n2, slots := sl2 } ∧
        (∀ j (h1 : j < as.size) (h2 : j < bs.size), EqP prog w A.in1 s as[j] bs[j] true) ∧ R (.ok (.ret (.bool false))) s) := by
  intro A R s h
  obtain ⟨hp, g, d, tk, os⟩ := s
  obtain ⟨hl, hb, he, h⟩ := h
  have f3 := AutoSeq1.sub_list_list
  have hne : ¬ (as.size != bs.size) = true := by simp [hsz]
  wp_walk using wpAny_loadPart' hl, wpAny_loadPart' hb
  exact ⟨plainId_quiet plain_eq_loop _, codeAny_builtin entry_eq_loop (by
    rw [Around.under_plainId plain_eq_loop _]
    exact ne_loop1 l b as bs n n2 dd dd2 sl sl2 hsz _ 0 rfl A R _ ⟨hl, hb, he, h⟩)⟩
theorem ne_lists {A : Around} {s : Shared} {l b : Addr} {as bs : Array Value} (hl : s.heap.IsList l as) (hb : s.heap.IsList b bs) (hsz : as.size = bs.size) (hu : A.units < cLine)
    (he : ∀ j (h1 : j < as.size) (h2 : j < bs.size), EqP prog w A.in1 s as[j] bs[j] true) (E Q : Value → Shared → Prop) (h : Q (.bool false) s) : wpAny (model prog w) A (compareOp .NotEq (.ref l) (.ref b)) Q E s := by
  obtain ⟨⟨cls, dd, data, sl⟩, ho, hc, n, hd⟩ := id hl
  obtain ⟨⟨cls2, dd2, data2, sl2⟩, ho2, hc2, n2, hd2⟩ := id hb
  simp only at hc hd hc2 hd2
  subst hc hd hc2 hd2
  have ta : s.TypeIs (.ref l) "list" := ⟨_, ho, rfl⟩
  have tb : s.TypeIs (.ref b) "list" := ⟨_, ho2, rfl⟩
  exact wpAny_richCompare_same_room (op := .NotEq) ta tb F.slot_list_ne (call_meetsIn F.slot_list_ne ta F.entry_list_ne (F.args_list_ne_2 _ _) (ne_list1 l b as bs n n2 dd dd2 sl sl2 hsz)
    ⟨ho, ho2, he, show Value.bool false ≠ Value.notImplemented ∧ Q (.bool false) s from ⟨(fun x => nomatch x), h⟩⟩) hu
end

/-! ### states -/
def stV (s : Sta) : List (Key × V) := s.map fun p => (Sum.inr p.1, V.int p.2)
theorem valV_st (s : Sta) (c : Str) : valV (stV s) (Sum.inr c : Key) = (s.find? fun p => decide (p.1 = c)).map fun p => V.int p.2 := by
  induction s with
  | nil => rfl
  | cons p r ih =>
    show valV ((Sum.inr p.1, V.int p.2) :: stV r) (Sum.inr c : Key) = _
    by_cases e : p.1 = c
    · rw [valV_pos (by rw [e]), List.find?_cons_of_pos (by simpa using e)]
      rfl
    · rw [valV_neg (fun z => e (Sum.inr.inj z)), ih, List.find?_cons_of_neg (by simpa using e)]
theorem stV_look {s : Sta} {c : Str} (h : c ∈ keysS s) : valV (stV s) (Sum.inr c : Key) = some (.int (look s c)) := by
  obtain ⟨v, e, l, _⟩ := look_mem h
  rw [valV_st, e, l]
  rfl
theorem stV_set (s : Sta) (c : Str) (v : Int) : putK (stV s) (Sum.inr c : Key) (.int v) = stV (setS s c v) := by
  have e : ((stV s).any fun kv => decide (kv.1 = (Sum.inr c : Key))) = (s.any fun p => decide (p.1 = c)) := by
    unfold stV
    rw [List.any_map]
    congr 1
    funext p
    show decide ((Sum.inr p.1 : Key) = Sum.inr c) = decide (p.1 = c)
    by_cases h : p.1 = c
    · rw [decide_eq_true h, decide_eq_true (by rw [h])]
    · rw [decide_eq_false h, decide_eq_false (fun z => h (Sum.inr.inj z))]
  unfold putK setS
  rw [e]
  split
  · unfold stV
    rw [List.map_map, List.map_map]
    apply List.map_congr_left
    intro p _
    show (if (Sum.inr p.1 : Key) = Sum.inr c then _ else _) = ((Sum.inr (if p.1 = c then (p.1, v) else p).1 : Key), V.int (if p.1 = c then (p.1, v) else p).2)
    by_cases h : p.1 = c
    · rw [if_pos h, if_pos (by rw [h])]
    · rw [if_neg h, if_neg (fun z => h (Sum.inr.inj z))]
  · unfold stV
    rw [List.map_append]
    rfl
theorem stV_merge : ∀ (more s : Sta), mergeK (stV s) (stV more) = stV (mergeS s more)
  | [], s => rfl
  | p :: r, s => by
    show mergeK (putK (stV s) (Sum.inr p.1 : Key) (.int p.2)) (stV r) = stV (mergeS (setS s p.1 p.2) r)
    rw [stV_set, stV_merge r]
theorem stV_len (s : Sta) : (stV s).length = s.length := by simp [stV]

/-- all of the first's cells have these values in the other -/
def hitsS (t : Sta) : Sta → Bool
  | [] => true
  | p :: r => match t.find? (fun q => decide (q.1 = p.1)) with
    | none => false
    | some q => (p.2 == q.2) && hitsS t r
def neS (s t : Sta) : Bool := !(s.length == t.length && hitsS t s)
section
variable {X : Cx}
theorem hits_st {A : Around} {s : Shared} {t : Sta} {vb : List (Key × Value)} (rb : KV (stV t) vb) : ∀ {r : Sta} {va : List (Key × Value)}, KV (stV r) va → PySem.W.KeqHits A s vb va (hitsS t r)
  | [], _, ra => by
    cases (show Paired _ [] _ from ra)
    exact .nil
  | p :: r, _, ra => by
    cases (show Paired _ (((Sum.inr p.1 : Key), V.int p.2) :: stV r) _ from ra) with
    | @cons _ q _ qs h tl =>
      obtain ⟨h1, u, h2⟩ := h
      obtain ⟨qk, qv⟩ := q
      simp only at h1 h2
      subst h1 h2
      have rr := rb.val (Sum.inr p.1 : Key)
      rw [valV_st] at rr
      show PySem.W.KeqHits A s vb _ (match t.find? (fun q => decide (q.1 = p.1)) with | none => false | some q => (p.2 == q.2) && hitsS t r)
      cases e : t.find? (fun q => decide (q.1 = p.1)) with
      | none =>
        rw [e] at rr
        exact .miss (RelO.none_of rr)
      | some z =>
        rw [e] at rr
        obtain ⟨y, hy, t', rfl⟩ := RelO.some_of rr
        exact .hit hy (SeqAt.EqAt.int_int p.2 _ z.2 _) (hits_st rb tl)
/-- s != t -/
def rNeSt : R2 := fun x y H Q => ∃ a b s t, x = .ref a ∧ y = .ref b ∧ H a = some (.dK (stV s)) ∧ H b = some (.dK (stV t)) ∧ Q (.bl (neS s t)) H
theorem op_neSt (hu : X.A.units < cLine) : OpR X (compareOp .NotEq) rNeSt := by
  intro pins s σ H x y v u Q I rx ry h
  obtain ⟨a, b, st, t, rfl, rfl, ea, eb, q⟩ := h
  obtain rfl : v = Value.ref a := rx
  obtain rfl : u = Value.ref b := ry
  obtain ⟨_, ya, va, ra, da⟩ := (show ObjOk X.prog X.w H s.heap a (.dK (stV st)) from I.hok a _ ea)
  obtain ⟨_, yb, vb, rb, db⟩ := (show ObjOk X.prog X.w H s.heap b (.dK (stV t)) from I.hok b _ eb)
  have l1 : st.length = va.length := by rw [← Paired.length ra, stV_len]
  have l2 : t.length = vb.length := by rw [← Paired.length rb, stV_len]
  refine PySem.W.keq_ne (knd := mixKind X.prog X.w) (r := hitsS t st) ya yb da db hu (fun _ => hits_st rb ra) (fin_bl I q ?_)
  unfold neS
  rw [l1, l2]
/-! ### [] -/
/-- xs == [], whatever stands in xs -/
def rEqNil (K : PySem.W.Frag) : R2 := fun x y H Q => ∃ a b xs, x = .ref a ∧ y = .ref b ∧ SqL K H a xs ∧ SqL K H b [] ∧ Q (.bl xs.isEmpty) H
def rNeNil (K : PySem.W.Frag) : R2 := fun x y H Q => ∃ a b xs, x = .ref a ∧ y = .ref b ∧ SqL K H a xs ∧ SqL K H b [] ∧ Q (.bl (!xs.isEmpty)) H
theorem op_eqNil (hu : X.A.units < cLine) : OpR X (compareOp .Eq) (rEqNil X.K) := by
  intro pins s σ H x y v u Q I rx ry h
  obtain ⟨a, b, xs, rfl, rfl, ha, hb, q⟩ := h
  obtain rfl : v = Value.ref a := rx
  obtain rfl : u = Value.ref b := ry
  obtain ⟨us, r1, p1, _⟩ := I.list ha
  obtain ⟨ws, r2, p2, _⟩ := I.list hb
  cases r2
  cases r1 with
  | nil =>
    exact SeqAt.RcAt.lists (e := fun _ => true) p1.isList p2.isList rfl hu (fun j h1 _ => absurd h1 (by simp)) X.prog X.w _ _ (fin_bl I q (by simp))
  | cons r1 t1 =>
    exact SeqAt.RcAt.lists_lengths p1.isList p2.isList (by simp) hu X.prog X.w _ _ (fin_bl I q (by simp))
theorem op_neNil (hu : X.A.units < cLine) : OpR X (compareOp .NotEq) (rNeNil X.K) := by
  intro pins s σ H x y v u Q I rx ry h
  obtain ⟨a, b, xs, rfl, rfl, ha, hb, q⟩ := h
  obtain rfl : v = Value.ref a := rx
  obtain rfl : u = Value.ref b := ry
  obtain ⟨us, r1, p1, _⟩ := I.list ha
  obtain ⟨ws, r2, p2, _⟩ := I.list hb
  cases r2
  cases r1 with
  | nil =>
    exact SeqAt.RcNeAt.lists (e := fun _ => true) p1.isList p2.isList rfl hu (fun j h1 _ => absurd h1 (by simp)) X.prog X.w _ _ (fin_bl I q (by simp))
  | cons r1 t1 =>
    exact SeqAt.RcNeAt.lists_lengths p1.isList p2.isList (by simp) hu X.prog X.w _ _ (fin_bl I q (by simp))
/-! ### lists of cases -/
def CaseAt (H : Hp) (c : Sta × Int) (v : V) : Prop := ∃ p d, v = .ref p ∧ H p = some (.tup [.ref d, .int c.2]) ∧ H d = some (.dK (stV c.1)) ∧ (keysS c.1).Nodup
theorem nodup_val {t : Sta} (nd : (keysS t).Nodup) : ∀ {c : Str} {v : Int}, (c, v) ∈ t → t.find? (fun p => decide (p.1 = c)) = some (c, v) := by
  induction t with
  | nil => intro c v h; cases h
  | cons p r ih =>
    intro c v h
    have nd' : p.1 ∉ keysS r ∧ (keysS r).Nodup := List.nodup_cons.mp nd
    rcases List.mem_cons.mp h with e | h
    · rw [← e, List.find?_cons_of_pos (by simp)]
    · have ne : ¬ p.1 = c := fun e => nd'.1 (by rw [e]; exact List.mem_map.mpr ⟨_, h, rfl⟩)
      rw [List.find?_cons_of_neg (by simpa using ne)]
      exact ih nd'.2 h
theorem KV_mem : ∀ {kvs : List (Key × V)} {vs : List (Key × Value)} {k : Key} {u : Value}, KV kvs vs → (k, u) ∈ vs → ∃ v, (k, v) ∈ kvs ∧ RelV v u
  | [], _, k, u, r, h => by cases (show Paired _ [] _ from r); cases h
  | p :: kvs, _, k, u, r, h => by
    cases (show Paired _ (p :: kvs) _ from r) with
    | @cons _ q _ qs h1 t =>
      rcases List.mem_cons.mp h with e | h
      · subst e
        obtain ⟨p1, p2⟩ := p
        obtain ⟨e1, e2⟩ := h1
        simp only at e1 e2
        subst e1
        exact ⟨p2, List.mem_cons_self .., e2⟩
      · obtain ⟨v, hv, rv⟩ := KV_mem (kvs := kvs) t h
        exact ⟨v, List.mem_cons_of_mem _ hv, rv⟩
theorem case_eq {pins : List (Addr × Obj)} {σ : L2.St} {H : Hp} {s : Shared} (I : Inv X pins σ H s) {c : Sta × Int} {x y : V} {v u : Value} (hx : CaseAt H c x) (hy : CaseAt H c y) (rx : RelV x v) (ry : RelV y u) :
    PySem.W.EqTree X.prog X.w s 3 v u true := by
  obtain ⟨p, d, rfl, hp, hd, nd⟩ := hx
  obtain ⟨q, e, rfl, hq, he, _⟩ := hy
  obtain rfl : v = Value.ref p := rx
  obtain rfl : u = Value.ref q := ry
  by_cases epq : p = q
  · subst epq
    exact .same
  obtain ⟨us, r1, p1, _⟩ := I.tuple (SqT.of hp)
  obtain ⟨ws, r2, p2, _⟩ := I.tuple (SqT.of hq)
  cases r1 with
  | cons a1 b1 =>
    cases b1 with
    | cons a1' b1' =>
      cases b1'
      cases r2 with
      | cons a2 b2 =>
        cases b2 with
        | cons a2' b2' =>
          cases b2'
          obtain ⟨t1, rfl⟩ := a1'
          obtain ⟨t2, rfl⟩ := a2'
          rename_i w1 w2
          obtain rfl : w1 = Value.ref d := a1
          obtain rfl : w2 = Value.ref e := a2
          refine PySem.W.EqTree.tuples (n := 2) (e := fun _ => true) epq (show s.heap.IsTuple p _ from p1) (show s.heap.IsTuple q _ from p2) fun j h1 h2 => ?_
          match j, h1, h2 with
          | 0, _, _ =>
            show PySem.W.EqTree X.prog X.w s 2 (.ref d) (.ref e) true
            by_cases ede : d = e
            · subst ede
              exact .same
            obtain ⟨_, ya, va, ra, da⟩ := (show ObjOk X.prog X.w H s.heap d (.dK (stV c.1)) from I.hok d _ hd)
            obtain ⟨_, yb, vb, rb, db⟩ := (show ObjOk X.prog X.w H s.heap e (.dK (stV c.1)) from I.hok e _ he)
            have l1 : va.length = vb.length := by rw [← Paired.length ra, ← Paired.length rb]
            have key : ∀ k u, (k, u) ∈ va → ∃ n z, RelV (.int n) u ∧ valueAt vb k = some z ∧ RelV (.int n) z := fun k u hm => by
              obtain ⟨v, hv, rv⟩ := KV_mem ra hm
              obtain ⟨p', hp', e'⟩ := List.mem_map.mp hv
              obtain ⟨k', n⟩ := p'
              injection e' with e1 e2
              subst e1 e2
              have rr := rb.val (Sum.inr k' : Key)
              rw [valV_st, nodup_val nd hp'] at rr
              obtain ⟨z, hz, rz⟩ := RelO.some_of rr
              exact ⟨n, z, rv, hz, rz⟩
            have dt := PySem.W.EqTree.dicts (n := 1) (knd := mixKind X.prog X.w) (e := fun _ => true) ede ya yb da db fun k u z hm hz => by
              obtain ⟨n, z', ⟨t1, rfl⟩, hz', t2, rfl⟩ := key k u hm
              rw [hz'] at hz
              cases hz
              refine .leaf fun A _ => ?_
              have := SeqAt.EqAt.int_int (A := A) (s := s) n t1 n t2
              simpa using this
            have er : (va.length == vb.length && va.all fun p => (valueAt vb p.1).isSome && true) = true := by
              rw [l1, beq_self_eq_true, Bool.true_and, List.all_eq_true]
              intro p' hp'
              obtain ⟨n, z, _, hz, _⟩ := key p'.1 p'.2 hp'
              rw [hz]
              rfl
            rw [er] at dt
            exact dt
          | 1, _, _ =>
            show PySem.W.EqTree X.prog X.w s 2 (.int c.2 t1) (.int c.2 t2) true
            refine .leaf fun A _ => ?_
            have := SeqAt.EqAt.int_int (A := A) (s := s) c.2 t1 c.2 t2
            simpa using this
          | j + 2, h1, _ => exact absurd h1 (by simp)
/-- two lists of the same cases -/
def rNeCases (K : PySem.W.Frag) : R2 := fun x y H Q => ∃ a b xs ys cs, x = .ref a ∧ y = .ref b ∧ SqL K H a xs ∧ SqL K H b ys ∧ Paired (CaseAt H) cs xs ∧ Paired (CaseAt H) cs ys ∧ Q (.bl false) H
theorem Paired_get {α β : Type} {F : α → β → Prop} : ∀ {as : List α} {bs : List β}, Paired F as bs → ∀ {j : Nat} {b : β}, bs[j]? = some b → ∃ a, as[j]? = some a ∧ F a b
  | _, _, .nil, j, b, h => by simp at h
  | _, _, .cons r t, 0, b, h => by
    simp at h
    subst h
    exact ⟨_, rfl, r⟩
  | _, _, .cons r t, j + 1, b, h => by
    obtain ⟨a, h1, h2⟩ := Paired_get t (j := j) (by simpa using h)
    exact ⟨a, by simpa using h1, h2⟩
theorem op_neCases (hu : X.A.units + 64 < cLine) : OpR X (compareOp .NotEq) (rNeCases X.K) := by
  intro pins s σ H x y v u Q I rx ry h
  obtain ⟨a, b, xs, ys, cs, rfl, rfl, ha, hb, pa, pb, q⟩ := h
  obtain rfl : v = Value.ref a := rx
  obtain rfl : u = Value.ref b := ry
  obtain ⟨us, r1, p1, _⟩ := I.list ha
  obtain ⟨ws, r2, p2, _⟩ := I.list hb
  have l1 := Paired.length pa
  have l2 := Paired.length pb
  have m1 := r1.length
  have m2 := r2.length
  refine ne_lists p1.isList p2.isList (by simp only [List.size_toArray]; omega) (by omega) (fun j h1 h2 => ?_) _ _ ⟨.bl false, H, I, rfl, q⟩
  simp only [List.size_toArray] at h1 h2
  have g1 : xs[j]? = some (xs[j]'(by omega)) := List.getElem?_eq_getElem _
  have g2 : ys[j]? = some (ys[j]'(by omega)) := List.getElem?_eq_getElem _
  obtain ⟨w1, k1, q1⟩ := r1.get g1
  obtain ⟨w2, k2, q2⟩ := r2.get g2
  obtain ⟨c1, j1, f1⟩ := Paired_get pa g1
  obtain ⟨c2, j2, f2⟩ := Paired_get pb g2
  have ec : c1 = c2 := Option.some.inj (j1.symm.trans j2)
  subst ec
  have e1 : us[j]'h1 = w1 := Option.some.inj ((List.getElem?_eq_getElem _).symm.trans k1)
  have e2 : ws[j]'h2 = w2 := Option.some.inj ((List.getElem?_eq_getElem _).symm.trans k2)
  have t := (case_eq I f1 f2 q1 q2).at X.A.in1 (by show X.A.units + 1 + 3 < cLine; omega)
  show EqP _ _ _ _ (us.toArray[j]'_) (ws.toArray[j]'_) true
  rw [List.getElem_toArray, List.getElem_toArray, e1, e2]
  exact t
end
end SC
set_option Elab.async false
set_option linter.all false
set_option maxRecDepth 100000
/-! RE: t[::-1] of a tuple, xs[::k], d.update(e). -/
namespace SC
open PySem PySem.Spec PyProof.Rows L2

section
variable {prog : Program} {w : World} {A : Around} {E : Value → Shared → Prop} {s : Shared}
theorem places_back (n : Nat) : Builtin.Slice.slicePlaces ((n : Int) - 1) (-1) (-1) = n := by
  unfold Builtin.Slice.slicePlaces
  have h1 : ¬ ((-1 : Int) > 0) := by omega
  have h2 : (- -1 : Int) = 1 := by decide
  simp only [h1, if_false, h2, Int.ediv_one]
  split <;> omega
theorem fm_cg {α β : Type} {l : List α} {f g : α → Option β} (h : ∀ a ∈ l, f a = g a) : l.filterMap f = l.filterMap g := by
  induction l with
  | nil => rfl
  | cons a r ih => rw [List.filterMap_cons, List.filterMap_cons, h a (List.mem_cons_self ..), ih fun b hb => h b (List.mem_cons_of_mem _ hb)]
theorem back_pick (xs : Array Value) : ((List.range xs.size).filterMap fun (m : Nat) => xs[(((xs.size : Int) - 1) + (m : Int) * -1).toNat]?).toArray = xs.toList.reverse.toArray := by
  have e := PySem.W.krv_pick xs
  unfold slicePick at e
  rw [PySem.W.krv_bounds] at e
  have e2 : ((sliceRange ((xs.size : Int) - 1) (-1) (-1)).filterMap (xs[·]?)).toArray = xs.toList.reverse.toArray := e
  rw [PySem.W.krv_sliceRange, List.filterMap_map] at e2
  rw [← e2]
  congr 1
  apply fm_cg
  intro m hm
  have h1 := List.mem_range.mp hm
  show xs[(((xs.size : Int) - 1) + (m : Int) * -1).toNat]? = xs[xs.size - 1 - m]?
  congr 1
  omega
theorem applied_back {sl : Addr} {vs : Value} {n : Nat} {Q : Int × Int × Nat → Shared → Prop} (hs : s.heap.IsSliceOf sl .none .none vs) (ps : IsPart vs (some (-1))) (h : Q ((n : Int) - 1, -1, n) s) :
    wpAny (model prog w) A (Builtin.Slice.sliceApplied (.ref sl) (pure (n : Int))) Q E s := by
  obtain ⟨os, hos, hcs, hds⟩ := id hs
  unfold Builtin.Slice.sliceApplied Builtin.Slice.sliceFields
  refine wpAny_bind (wpAny_bind (wpAny_field hos hds (x := .none) rfl (wpAny_bind (wpAny_field hos hds (x := .none) rfl (wpAny_bind (wpAny_field hos hds (x := vs) rfl (wpAny_pure ?_)))))))
  refine wpAny_bind (HT.slicePart_ ps ?_)
  show wpAny _ _ (if ((-1 : Int) == 0) = true then _ else _) _ _ s
  rw [if_neg (by decide)]
  refine wpAny_bind (HT.slicePart_ .none (wpAny_bind (HT.slicePart_ .none (wpAny_bind (wpAny_pure ?_)))))
  show wpAny _ _ (pure ((n : Int) - 1, (-1 : Int), Builtin.Slice.slicePlaces ((n : Int) - 1) (-1) (-1))) _ _ s
  rw [places_back]
  exact wpAny_pure h
theorem getItem_back {t sl : Addr} {items : Array Value} {vs : Value} {Q : Value → Shared → Prop} (ht : IsTup s.heap t items) (hs : s.heap.IsSliceOf sl .none .none vs) (ps : IsPart vs (some (-1)))
    (h : Q (.ref s.heap.objs.size) { s with heap := s.heap.push { cls := .type "tuple", data := .seq items.toList.reverse.toArray } }) (hsz : items.size ≤ sizeLine) : wpAny (model prog w) A (getItem (.ref t) (.ref sl)) Q E s := by
  have hrev : sizeOk (.seq items.toList.reverse.toArray) := by
    show items.toList.reverse.toArray.size ≤ sizeLine
    rw [List.size_toArray, List.length_reverse, Array.length_toList]
    exact hsz
  obtain ⟨os, hos, hcs, hds⟩ := id hs
  have hTs : s.TypeIs (.ref sl) "slice" := ⟨os, hos, hcs⟩
  unfold getItem
  try with_reducible refine wpAny_holding ?_
  first | refine wpAny_bind (wpAny_pure ?_) | skip
  refine wpAny_bind (wpAny_sequenceKey ht.typeIs (by decide) ?_)
  refine wpAny_bind (wpAny_callSpecial?_slot (name := Str.ofString "__getitem__") ht.typeIs PyProof.Rows.slot_tuple_getitem (wpAny_call_entry PyProof.Rows.slot_tuple_getitem ht.typeIs entry_tuple_getitem ?_ (args_tuple_getitem _ _)))
  show wpAny _ _ (Builtin.Tuple.tupleItemsOf (.ref t) >>= _) _ _ s
  refine wpAny_bind (tupleItemsOf_ ht ?_)
  refine wpAny_bind (wpAny_typeOf hTs ?_)
  rw [if_pos (by decide)]
  refine wpAny_bind (applied_back hs ps ?_)
  have hno : ¬ ((((items.size : Int) - 1) == 0 && (-1 : Int) == 1 && items.size == items.size) = true) := by
    intro q
    rw [Bool.and_eq_true, Bool.and_eq_true] at q
    exact absurd q.1.2 (by decide)
  show wpAny _ _ (if (((items.size : Int) - 1) == 0 && (-1 : Int) == 1 && items.size == items.size) = true then _ else _) _ _ s
  rw [if_neg hno, back_pick]
  first
    | exact wpAny_bind (m := Builtin.Tuple.tupleExact _) (wpAny_newObj_type (wpAny_pure ⟨_, rfl, wpAny_pure h⟩) hrev)
    | exact wpAny_bind (m := Builtin.Tuple.tupleExact _) (wpAny_newObj_type (wpAny_bind (wpAny_pure (wpAny_pure ⟨_, rfl, wpAny_pure h⟩))) hrev)
    | exact wpAny_bind (wpAny_bind (m := Builtin.Tuple.tupleExact _) (wpAny_newObj_type (wpAny_pure (wpAny_pure ⟨_, rfl, wpAny_pure h⟩)) hrev))
    | exact wpAny_bind (wpAny_bind (m := Builtin.Tuple.tupleExact _) (wpAny_newObj_type (wpAny_pure ⟨_, rfl, wpAny_pure h⟩) hrev))
end
section
variable {X : Cx}
/-- t[::-1] -/
def tRevT (K : PySem.W.Frag) (te : TE) : TE := fun σ H Q => te σ H fun x H1 => ∃ a xs, x = .ref a ∧ SqT K H1 a xs ∧ ∀ p, H1 p = none → Q (.ref p) (upd H1 p (.tup xs.reverse))
theorem pe_revT {e : Expr} {te : TE} {k : Nat} {p1 p2 p3 pos : Pos} (he : PE X e te) : PE X (.Subscript e (.Slice none none (some (.UnaryOp .USub (.Constant (.int 1) k p1) p2)) p3) pos) (tRevT X.K te) := by
  refine ⟨fun pins s σ H Q I h => ?_⟩
  refine Subscript_ (thn (he.run pins s σ H _ I h) fun v s1 ⟨x, H1, I1, r1, a, xs, ex, hx, q⟩ => ?_)
  subst ex
  cases r1
  have hst : PO X (some (.UnaryOp .USub (.Constant (.int 1) k p1) p2)) (tPart (tUn (rU fun i => .int (-i)) (tC (.int 1)))) := po_some (pe_un un_neg pe_int)
  refine wpAny_Slice (thn (po_none.run pins s1 σ H1 (fun o H2 => o = none ∧ H2 = H1) I1 ⟨rfl, rfl⟩) fun vl s2 ⟨l, H2, I2, pl, el, e2⟩ => ?_)
  subst el e2
  refine thn (po_none.run pins s2 σ H2 (fun o H3 => o = none ∧ H3 = H2) I2 ⟨rfl, rfl⟩) fun vu s3 ⟨u, H3, I3, pu, eu, e3⟩ => ?_
  subst eu e3
  refine thn (hst.run pins s3 σ H3 (fun o H4 => o = some (-1) ∧ H4 = H3) I3 ⟨1, rfl, -1, rfl, rfl, rfl⟩) fun vs s4 ⟨o, H4, I4, ps, eo, e4⟩ => ?_
  subst eo e4
  have I5 : Inv X pins σ H4 { s4 with heap := s4.heap.push { cls := .type "slice", data := .fields #[vl, vu, vs] } } := I4.kept (t' := s4.toks) fun b ob q => Heap.get?_push_of_some _ q
  obtain ⟨its, r, ht, hz⟩ := I5.tuple hx
  have hlen := r.length
  cases pl
  cases pu
  show wpAny (model X.prog X.w) X.A (subscriptTail e (.Slice none none (some (.UnaryOp .USub (.Constant (.int 1) k p1) p2)) p3) (.ref a) (.ref s4.heap.objs.size)) (EP X pins σ Q) X.xe { s4 with heap := s4.heap.push { cls := .type "slice", data := .fields #[.none, .none, vs] } }
  refine tail_any (ops := [.ref a, .ref s4.heap.objs.size]) ht.typeIs PyProof.Rows.slot_tuple_getitem.lookup ?_ (by with_unfolding_all rfl)
  refine getItem_back ht (Heap.IsSliceOf.new _ .none .none vs) ps ?_ (by rw [List.size_toArray]; omega)
  refine ⟨.ref _, _, I5.laid (t' := s4.toks) (o := .tup xs.reverse) (fun b ob q => Heap.get?_push_of_some _ q) (Nat.le_refl _) ?_, rfl, q _ (I5.hok.fresh (Nat.le_refl _))⟩
  exact ⟨by rw [List.length_reverse]; exact hz, _, r.reverse, IsTup.new _ _⟩
/-- xs[::k], 0 < k: some of the items -/
def tEvery (K : PySem.W.Frag) (te tk : TE) : TE := fun σ H Q => te σ H fun x H1 => ∃ a xs, x = .ref a ∧ SqL K H1 a xs ∧ tk σ H1 fun y H2 => ∃ k : Int, y = .int k ∧ 0 < k ∧ SqL K H2 a xs ∧ ∀ p zs, H2 p = none → (∀ z ∈ zs, z ∈ xs) → zs.length ≤ xs.length → Q (.ref p) (upd H2 p (.lst zs))
theorem vals_pick {xs : List V} {its : List Value} (r : Vals xs its) : ∀ (ix : List Nat), ∃ zs, Vals zs (ix.filterMap fun i => its[i]?) ∧ ∀ z ∈ zs, z ∈ xs
  | [] => ⟨[], .nil, fun _ h => nomatch h⟩
  | i :: ix => by
    obtain ⟨zs, r2, h⟩ := vals_pick r ix
    cases e : its[i]? with
    | none =>
      refine ⟨zs, ?_, h⟩
      rw [List.filterMap_cons, e]
      exact r2
    | some u =>
      have hl : i < xs.length := by
        rw [r.length]
        exact (List.getElem?_eq_some_iff.mp e).1
      obtain ⟨u', e', ru⟩ := r.get (List.getElem?_eq_getElem hl)
      rw [e] at e'
      cases e'
      refine ⟨xs[i] :: zs, ?_, fun z hz => ?_⟩
      · rw [List.filterMap_cons, e]
        exact .cons ru r2
      · rcases List.mem_cons.mp hz with q | q
        · rw [q]
          exact List.getElem_mem hl
        · exact h z q
theorem pe_every {e k : Expr} {te tk : TE} {p3 pos : Pos} (he : PE X e te) (hk : PE X k tk) : PE X (.Subscript e (.Slice none none (some k) p3) pos) (tEvery X.K te tk) := by
  refine ⟨fun pins s σ H Q I h => ?_⟩
  refine Subscript_ (thn (he.run pins s σ H _ I h) fun v s1 ⟨x, H1, I1, r1, a, xs, ex, hx, q⟩ => ?_)
  subst ex
  cases r1
  refine wpAny_Slice (thn (po_none.run pins s1 σ H1 (fun o H2 => o = none ∧ H2 = H1) I1 ⟨rfl, rfl⟩) fun vl s2 ⟨l, H2, I2, pl, el, e2⟩ => ?_)
  subst el e2
  refine thn (po_none.run pins s2 σ H2 (fun o H3 => o = none ∧ H3 = H2) I2 ⟨rfl, rfl⟩) fun vu s3 ⟨u, H3, I3, pu, eu, e3⟩ => ?_
  subst eu e3
  rw [evalPart_some]
  refine thn (hk.run pins s3 σ H3 _ I3 q) fun vs s4 ⟨y, H4, I4, ry, i, ey, hi, hx4, q⟩ => ?_
  subst ey
  obtain ⟨tk, rfl⟩ := ry
  have I5 : Inv X pins σ H4 { s4 with heap := s4.heap.push { cls := .type "slice", data := .fields #[vl, vu, .int i tk] } } := I4.kept (t' := s4.toks) fun b ob q => Heap.get?_push_of_some _ q
  obtain ⟨its, r, ht, hz⟩ := I5.list hx4
  have hlen := r.length
  show wpAny (model X.prog X.w) X.A (subscriptTail e (.Slice none none (some k) p3) (.ref a) (.ref s4.heap.objs.size)) (EP X pins σ Q) X.xe { s4 with heap := s4.heap.push { cls := .type "slice", data := .fields #[vl, vu, .int i tk] } }
  refine tail_any (ops := [.ref a, .ref s4.heap.objs.size]) ht.isList.typeIs (PySem.slot_list_getitem.lookup) ?_ (by with_unfolding_all rfl)
  refine wpAny_getItem_list_slice ht.isList (Heap.IsSliceOf.new _ vl vu (.int i tk)) pl pu (.int i tk) (by intro z; cases z; exact absurd hi (by decide)) ?_ (by rw [List.size_toArray]; omega)
  have hsz := slicePick_size_le its.toArray none none (some i)
  unfold slicePick at hsz ⊢
  generalize hix : sliceRange (sliceBounds none none (some i) its.toArray.size).1 (sliceBounds none none (some i) its.toArray.size).2.1 (sliceBounds none none (some i) its.toArray.size).2.2 = ix at hsz ⊢
  obtain ⟨zs, r2, hm⟩ : ∃ zs, Vals zs (ix.filterMap (its.toArray[·]?)) ∧ ∀ z ∈ zs, z ∈ xs := by
    obtain ⟨zs, r2, hm⟩ := vals_pick r ix
    refine ⟨zs, ?_, hm⟩
    have e : ix.filterMap (its.toArray[·]?) = ix.filterMap fun i => its[i]? := fm_cg fun i _ => List.getElem?_toArray ..
    rw [e]
    exact r2
  have hzl : zs.length ≤ xs.length := by
    rw [r2.length]
    rw [List.size_toArray, List.size_toArray] at hsz
    omega
  refine ⟨.ref _, _, I5.laid (t' := s4.toks) (o := .lst zs) (fun b ob q => Heap.get?_push_of_some _ q) (Nat.le_refl _) ?_, rfl, q _ zs (I5.hok.fresh (Nat.le_refl _)) hm hzl⟩
  exact ⟨by omega, _, 0, r2, Heap.get?_push_size _ rfl⟩
/-- d.update(e) -/
def rUpd : V → List V → Hp → VK → Prop := fun x xs H Q => ∃ d o kvs more, x = .ref d ∧ xs = [.ref o] ∧ H d = some (.dK kvs) ∧ Rd H o (.dK more) ∧ d ≠ o ∧ kvs.length + more.length ≤ 1000 ∧ Q .non (upd H d (.dK (mergeK kvs more)))
theorem mt_update : MtR X "dict.update" rUpd := by
  intro pins s σ H x xs v us Q I rx r h
  obtain ⟨d, o, kvs, more, rfl, rfl, hd, ho, ne, hz, q⟩ := h
  obtain rfl : v = Value.ref d := rx
  obtain ⟨u, rfl, ru⟩ := vals1 r
  obtain rfl : u = Value.ref o := ru
  obtain ⟨_, nd, vs, rel, dd⟩ := dk_of I.hok hd
  obtain ⟨_, no, ws, rel2, dd2⟩ := dk_rd I.hok ho
  have l1 := Paired.length rel
  have l2 := Paired.length rel2
  refine call_meetsIn F.slot_dict_update dd.typeIs F.entry_dict_update (F.args_dict_update_2 _ _) (meets_dict_update (mixKind X.prog X.w) d o ne no) ⟨vs, ws, dd, dd2, by rw [sizeLine_eq]; omega, fun h' dm _ sb => ?_⟩
  have hz2 : (mergeK kvs more).length ≤ sizeLine := by
    have e1 := length_mergeK more kvs
    rw [sizeLine_eq]
    omega
  have he : ∃ q, h'.get? d = some q := let ⟨q, _, _, hq, _⟩ := dm; ⟨q, hq⟩
  exact ⟨.non, _, d_write (t' := s.toks) I (by rw [hd]; exact True.intro) sb he (dk_new hz2 nd (rel2.merge rel) dm), rfl, q⟩
end
end SC
set_option Elab.async false
set_option linter.all false
set_option maxRecDepth 100000
/-! RF: y = {k: v for ..}. -/
namespace SC
open PySem PySem.Spec PyProof.Rows L2
variable {X : Cx}
theorem ps_setDc {i : Nat} {y : Str} {py : Pos} {kx vx tg iter : Expr} {ifs : List Expr} {scope : Scope} {own : List (Str × Nat)} {pos spos : Pos} {wi : TI} {g : TG} {tt : TT} {tk tv : TE} (hc : X.calm = true) (hN : X.N.Nodup) (hy : X.N[i]? = some y) (hyl : X.env.scope.names.lookup y = some .local)
    (hsw : swapsWith (.DictComp kx vx [⟨tg, iter, ifs, 0⟩] scope pos) (some (.Name y py)) spos.line X.env = pure true) (hi : PI X tg iter wi) (ok : BlkOk X.N X.env.scope scope own)
    (hg : ∀ (s : Shared) (H : Hp) (C : Addr) (cl : List (Str × Addr)) (fp : List Addr), PG (X.blk s H scope (compEnvC scope cl C X.env) fp) tg g) (ht : ∀ (s : Shared) (H : Hp) (C : Addr) (cl : List (Str × Addr)) (fp : List Addr), PTs (X.blk s H scope (compEnvC scope cl C X.env) fp) ifs tt)
    (hk : ∀ (s : Shared) (H : Hp) (C : Addr) (cl : List (Str × Addr)) (fp : List Addr), PE (X.blk s H scope (compEnvC scope cl C X.env) fp) kx tk)
    (he : ∀ (s : Shared) (H : Hp) (C : Addr) (cl : List (Str × Addr)) (fp : List Addr), PE (X.blk s H scope (compEnvC scope cl C X.env) fp) vx tv) (hs : ∀ x, foldedSetIterable iter X.env x = pure x := by intro _; rfl) :
    PS X (.Assign [.Name y py] (.DictComp kx vx [⟨tg, iter, ifs, 0⟩] scope pos) spos) (tAsg (tDc wi g tt tk tv (own.map (·.2))) (gName i)) := by
  refine ⟨fun pins s σ H D I h => ?_⟩
  rw [exec_Assign_Name_used _ _ _ _ hsw]
  refine wpAny_bind (wpAny_standAt (wpAny_bind ?_))
  show wpAny _ X.A (do let _ ← comprehension (.DictComp kx vx [⟨tg, iter, ifs, 0⟩] scope pos) scope X.env (firstIterPos [⟨tg, iter, ifs, 0⟩] pos) newDict false (eval iter X.env) (some (assign (.Name y py) X.env))) _ _ s
  have h : tDc wi g tt tk tv (own.map (·.2)) σ H (fun x H1 => gName i x σ H1 D.nx) := h
  refine wpAny_bind (thn (dc_core (Qf := fun _ s' => SP X pins D .next s') hc hN I hi ok hg ht hk he hs h fun L C s' m H' I' q hn f => ?_) fun _ s' hq => wpAny_pure (wpAny_pure hq))
  show wpAny _ _ (assign (.Name y py) X.env (.ref L)) _ _ _
  refine wpAny_assign_Name (store_ok2 (v := V.ref L) I' hN hy (.inl hyl) rfl (fun s2 I2 ⟨a, sb, ha⟩ => ?_) (.inr hyl))
  obtain ⟨f0, f1, f2, f3, f4, f5⟩ := f
  have haC : C ≠ a := by
    rcases ha with z | z
    · rw [z]; exact f1
    · exact fun e => f4 y a z e.symm
  refine ⟨m, hn.sameBut sb haC, fun h3 sb3 => ?_⟩
  exact ⟨_, H', I2.turned (t' := s2.toks) (fun b o hb e => (sb3.2 b hb).trans e) f0 f1 f3 f4 f5, q⟩
theorem swD_true {kx vx : Expr} {gs : List Comprehension} {scope : Scope} {pos py : Pos} {y : Str} {l : Nat} {env : Env} (hk : env.scope.kind = .function) (hy : env.scope.names.lookup y = some .local) (hl : (py.line == pos.line) = true)
    (ha : (scope.names.any fun (n, k) => n == y && (k == .local || k == .cell)) = false) : swapsWith (.DictComp kx vx gs scope pos) (some (.Name y py)) l env = pure true := by
  have ky : env.kindOf y = some .local := hy
  have hb : env.blockKind = .function := by unfold Env.blockKind; rw [hk]; rfl
  unfold swapsWith
  simp only [hb, ky, ha, Expr.pos, hl]
  rfl
end SC
set_option Elab.async false
set_option linter.all false
set_option maxRecDepth 100000
/-! RK: rules with the written part named (within comprehensions). -/
namespace SC
open PySem PySem.Spec PyProof.Rows L2
section
variable {X : Cx} {K : PySem.W.Frag}
theorem ix_tupK (h : X.K = K) : IxR X (rIxT K) := by subst h; exact ix_tup
theorem ix_listK (h : X.K = K) : IxR X (rIxL K) := by subst h; exact ix_list
theorem call_isiK (h : X.K = K) : CallR X (.builtin "isinstance") (rIsi K) := by subst h; exact call_isi
theorem call_lenK (h : X.K = K) : CallR X (.builtin "len") (fun xs H Q => ∃ x n, xs = [x] ∧ LenV K x H n ∧ Q (.int n) H) := by subst h; exact call_len
theorem op_in_seqK (h : X.K = K) : OpR X (compareOp .In) (rIn K false) := by subst h; exact op_in_seq
theorem op_notIn_seqK (h : X.K = K) : OpR X (compareOp .NotIn) (rIn K true) := by subst h; exact op_notIn_seq
theorem pe_fldK {e : Expr} {ta : TE} {f : Str} {pos : Pos} (h : X.K = K) (he : PE X e ta) (hb : attributeBase e f X.env (eval e X.env) = eval e X.env := by rfl) : PE X (.Attribute e f pos) (tFld K ta f) := by subst h; exact pe_fld he hb
theorem pi_tupK {tg l : Expr} {tl : TE} (h : X.K = K) (hl : PE X l tl) : PI X tg l (iTup K tl) := by subst h; exact pi_tup hl
theorem pi_listK {tg l : Expr} {tl : TE} (h : X.K = K) (hl : PE X l tl) : PI X tg l (iList K tl) := by subst h; exact pi_list hl
theorem sl_listK (h : X.K = K) : SlR X (rSlL K) := by subst h; exact sl_list
end
end SC
set_option Elab.async false
set_option linter.all false
set_option maxRecDepth 100000
/-! GA: a run that is known from every table of generators leaves the sleeping ones as they are. -/
namespace SC
open PySem
open Sem (wp)

def psn : GenState → GenState
  | .suspended _ l c p fs cl => .suspended (fun _ => .unsupported "") l c p fs cl
  | x => x
def IsSusp : GenState → Prop
  | .suspended .. => True
  | _ => False
def NoGen (fs : List Frame) : Prop := ∀ f ∈ fs, match f with | .gen .. => False | _ => True
theorem NoGen.split : ∀ {fs : List Frame}, NoGen fs → splitAtGen fs = none
  | [], _ => rfl
  | .ret k h g l c p kp :: fs, h' => by
    have := NoGen.split (fs := fs) fun f hf => h' f (List.mem_cons_of_mem _ hf)
    show (splitAtGen fs).map _ = none
    rw [this]; rfl
  | .gen .. :: fs, h' => (h' _ List.mem_cons_self).elim
theorem NoGen.of_split : ∀ {fs : List Frame}, splitAtGen fs = none → NoGen fs
  | [], _ => fun f hf => by simp at hf
  | .ret k h g l c p kp :: fs, h' => by
    have e : splitAtGen fs = none := by
      have z : (splitAtGen fs).map _ = none := h'
      simpa using z
    intro f hf
    rcases List.mem_cons.mp hf with rfl | hf
    · trivial
    · exact NoGen.of_split e f hf
  | .gen .. :: fs, h' => by simp [splitAtGen] at h'
theorem psn_seen (G : GenState) : (psn G).seen = G.seen := by cases G <;> rfl

section
variable (F : Nat → Option GenState)
def mix (gs : Array GenState) : Array GenState := gs.mapIdx fun k x => (F k).getD x
def mx (s : Shared) : Shared := { s with gens := mix F s.gens }
structure J (gs : Array GenState) : Prop where
  at_ : ∀ k G, F k = some G → IsSusp G ∧ gs[k]? = some (psn G)
  ng : ∀ k k0 l c p fs cl, F k = none → gs[k]? = some (.suspended k0 l c p fs cl) → NoGen fs
end
section
variable {F : Nat → Option GenState} {gs : Array GenState}
theorem mix_get (k : Nat) : (mix F gs)[k]? = gs[k]?.map fun x => (F k).getD x := by unfold mix; rw [Array.getElem?_mapIdx]
theorem mix_size : (mix F gs).size = gs.size := by unfold mix; simp
theorem mix_none {k : Nat} (h : F k = none) : (mix F gs)[k]? = gs[k]? := by
  rw [mix_get, h]
  cases gs[k]? <;> rfl
theorem mix_some {k : Nat} {G : GenState} (j : J F gs) (h : F k = some G) : (mix F gs)[k]? = some G := by
  rw [mix_get, (j.at_ k G h).2, h]
  rfl
theorem ext_get {a b : Array GenState} (h : ∀ k : Nat, a[k]? = b[k]?) : a = b := Array.ext_getElem? h
theorem mix_set {g : Nat} {x : GenState} (h : F g = none) : mix F (gs.setIfInBounds g x) = (mix F gs).setIfInBounds g x := by
  refine ext_get fun k => ?_
  rw [mix_get, Array.getElem?_setIfInBounds, Array.getElem?_setIfInBounds, mix_get, mix_size]
  by_cases e : g = k
  · subst e
    rw [if_pos rfl, if_pos rfl]
    by_cases l : g < gs.size
    · rw [if_pos l]
      show some ((F g).getD x) = some x
      rw [h]; rfl
    · rw [if_neg l]; rfl
  · rw [if_neg e, if_neg e]
theorem J.lt (j : J F gs) {k : Nat} {G : GenState} (h : F k = some G) : k < gs.size := (Array.getElem?_eq_some_iff.mp (j.at_ k G h).2).1
theorem J.none_size (j : J F gs) : F gs.size = none := by
  cases e : F gs.size with
  | none => rfl
  | some G => exact absurd (j.lt e) (Nat.lt_irrefl _)
theorem mix_push {x : GenState} (j : J F gs) : mix F (gs.push x) = (mix F gs).push x := by
  refine ext_get fun k => ?_
  rw [mix_get, Array.getElem?_push, Array.getElem?_push, mix_get, mix_size]
  by_cases e : k = gs.size
  · subst e
    rw [if_pos rfl, if_pos rfl]
    show some ((F gs.size).getD x) = some x
    rw [j.none_size]; rfl
  · rw [if_neg e, if_neg e]
theorem J.push (j : J F gs) {x : GenState} (hx : ¬ IsSusp x) : J F (gs.push x) := by
  refine ⟨fun k G h => ⟨(j.at_ k G h).1, ?_⟩, fun k k0 l c p fs cl h e => ?_⟩
  · rw [Array.getElem?_push, if_neg (Nat.ne_of_lt (j.lt h))]
    exact (j.at_ k G h).2
  · rw [Array.getElem?_push] at e
    split at e
    · cases e; exact absurd trivial hx
    · exact j.ng k k0 l c p fs cl h e
theorem J.set (j : J F gs) {g : Nat} {x : GenState} (hg : F g = none) (hx : ∀ k0 l c p fs cl, x = .suspended k0 l c p fs cl → NoGen fs) : J F (gs.setIfInBounds g x) := by
  refine ⟨fun k G h => ⟨(j.at_ k G h).1, ?_⟩, fun k k0 l c p fs cl h e => ?_⟩
  · rw [Array.getElem?_setIfInBounds, if_neg (fun z => by rw [z, h] at hg; cases hg)]
    exact (j.at_ k G h).2
  · rw [Array.getElem?_setIfInBounds] at e
    split at e
    · split at e
      · cases e; exact hx _ _ _ _ _ _ rfl
      · cases e
    · exact j.ng k k0 l c p fs cl h e
theorem mx_setGen {s : Shared} {g : Nat} {x : GenState} (h : F g = none) : mx F (s.setGen g x) = (mx F s).setGen g x := by
  show ({ s with gens := mix F (s.gens.setIfInBounds g x) } : Shared) = { s with gens := (mix F s.gens).setIfInBounds g x }
  rw [mix_set h]
def EndNG : End → Prop
  | .susp _ _ _ _ _ _ fs => NoGen fs
  | .ret _ => True
theorem EndNG.st {e : End} (h : EndNG e) : ∀ k0 l c p fs cl, e.genState = .suspended k0 l c p fs cl → NoGen fs := fun k0 l c p fs cl q => by
  cases e with
  | ret r => cases q
  | susp v g l' k c' p' fs' =>
    cases q
    exact h
theorem fresh_free {s : Shared} (j : J F s.gens) {g : Nat} {x : GenState} (e : s.gens[g]? = some x) (hx : ¬ IsSusp x) : F g = none := by
  cases q : F g with
  | none => rfl
  | some G =>
    obtain ⟨h1, h2⟩ := j.at_ g G q
    rw [e] at h2
    cases G with
    | suspended k l c p fs cl => cases h2; exact absurd trivial hx
    | fresh _ => exact h1.elim
    | running => exact h1.elim
    | finished => exact h1.elim
theorem no_unsupported {M : Model} {what : String} : ∀ {Γ : Ctx} {p : Pos} {fs : List Frame} {s : Shared} {e : End} {s' : Shared}, ¬ Runs M Γ p (.unsupported what) fs s e s' := by
  have h0 : ∀ {Γ : Ctx} {p : Pos} {s : Shared} {e : End} {s' : Shared}, ¬ Runs M Γ p (.unsupported what) [] s e s' := fun h => by cases h
  intro Γ p fs s e s' h
  cases h with
  | segRet h1 _ => exact h0 h1
  | segGen h1 _ => exact h0 h1
  | segSuspOut _ h1 => exact h0 h1
  | segSuspGen _ h1 _ _ => exact h0 h1

theorem runs_mix {M : Model} {Γ : Ctx} {p : Pos} {t : Sem PySem.Fin} {fs : List Frame} {s s' : Shared} {e : End} (h : Runs M Γ p t fs s e s') :
    NoGen fs → J F s.gens → J F s'.gens ∧ EndNG e ∧ Runs M Γ p t fs (mx F s) e (mx F s') := by
  have n0 : NoGen [] := fun f hf => by simp at hf
  induction h with
  | done => exact fun _ j => ⟨j, trivial, .done⟩
  | raise => exact fun _ j => ⟨j, trivial, .raise⟩
  | again hq _ ih => exact fun n j => let ⟨a, b, c⟩ := ih n j; ⟨a, b, .again hq c⟩
  | rule _ ih => exact fun n j => let ⟨a, b, c⟩ := ih n j; ⟨a, b, .rule c⟩
  | «at» _ ih => exact fun n j => let ⟨a, b, c⟩ := ih n j; ⟨a, b, .at c⟩
  | load ho _ ih => exact fun n j => let ⟨a, b, c⟩ := ih n j; ⟨a, b, .load ho c⟩
  | update hs _ ih => exact fun n j => let ⟨a, b, c⟩ := ih n j; ⟨a, b, .update hs c⟩
  | loadIfAlive _ ih => exact fun n j => let ⟨a, b, c⟩ := ih n j; ⟨a, b, .loadIfAlive c⟩
  | point _ ih => exact fun n j => let ⟨a, b, c⟩ := ih n j; ⟨a, b, .point c⟩
  | alloc _ ih => exact fun n j => let ⟨a, b, c⟩ := ih n j; ⟨a, b, .alloc c⟩
  | fresh _ ih => exact fun n j => let ⟨a, b, c⟩ := ih n j; ⟨a, b, .fresh c⟩
  | ask _ ih => exact fun n j => let ⟨a, b, c⟩ := ih n j; ⟨a, b, .ask c⟩
  | choose hn _ ih => exact fun n j => let ⟨a, b, c⟩ := ih n j; ⟨a, b, .choose hn c⟩
  | os _ ih => exact fun n j => let ⟨a, b, c⟩ := ih n j; ⟨a, b, .os c⟩
  | handled _ ih => exact fun n j => let ⟨a, b, c⟩ := ih n j; ⟨a, b, .handled c⟩
  | stack _ ih => exact fun n j => let ⟨a, b, c⟩ := ih n j; ⟨a, b, .stack c⟩
  | thread _ ih => exact fun n j => let ⟨a, b, c⟩ := ih n j; ⟨a, b, .thread c⟩
  | @genState g st Γ p k s e s' hg _ ih =>
    intro n j
    obtain ⟨a, b, c⟩ := ih n j
    refine ⟨a, b, ?_⟩
    cases q : F g with
    | none => exact .genState (st := st) ((mix_none q).trans hg) c
    | some G =>
      have e1 := (j.at_ g G q).2
      rw [hg] at e1
      cases e1
      rw [psn_seen] at c
      exact .genState (st := G) (mix_some j q) c
  | @newGen Γ p k s e s' c _ ih =>
    intro n j
    obtain ⟨a, b, r⟩ := ih n (j.push (fun z => z))
    refine ⟨a, b, .newGen ?_⟩
    have e1 : (mx F s).gens.size = s.gens.size := mix_size
    have e2 : mx F { s with gens := s.gens.push (.fresh c) } = { mx F s with gens := (mx F s).gens.push (.fresh c) } := by
      show ({ s with gens := mix F (s.gens.push (.fresh c)) } : Shared) = { s with gens := (mix F s.gens).push (.fresh c) }
      rw [mix_push j]
    rw [e1, ← e2]
    exact r
  | call _ _ ih1 ih2 =>
    intro n j
    obtain ⟨a, _, r⟩ := ih1 n0 j
    obtain ⟨a2, b2, r2⟩ := ih2 n a
    exact ⟨a2, b2, .call r r2⟩
  | callSusp _ ih =>
    intro n j
    obtain ⟨a, b, r⟩ := ih n0 j
    refine ⟨a, fun f hf => ?_, .callSusp r⟩
    rcases List.mem_append.mp hf with hf | hf
    · exact b f hf
    · rw [List.mem_singleton.mp hf]; trivial
  | yield => exact fun n j => ⟨j, n0, .yield⟩
  | @resumeFresh Γ p g l k s c e₁ s₁ e s' hg _ hq _ ih1 ih2 =>
    intro n j
    have fg := fresh_free j hg (fun z => z)
    obtain ⟨a, b, r⟩ := ih1 n0 (j.set fg fun _ _ _ _ _ _ q => by cases q)
    obtain ⟨a2, b2, r2⟩ := ih2 n (a.set fg b.st)
    rw [mx_setGen fg] at r
    rw [mx_setGen fg] at r2
    exact ⟨a2, b2, .resumeFresh ((mix_none fg).trans hg) r hq r2⟩
  | @resumeSuspended Γ p g r l k s k₀ l₀ c₀ p₀ fs cl e₁ s₁ e s' hg h1 hq _ ih1 ih2 =>
    intro n j
    cases q : F g with
    | none =>
      obtain ⟨a, b, r⟩ := ih1 (j.ng _ _ _ _ _ _ _ q hg) (j.set q fun _ _ _ _ _ _ q => by cases q)
      obtain ⟨a2, b2, r2⟩ := ih2 n (a.set q b.st)
      rw [mx_setGen q] at r
      rw [mx_setGen q] at r2
      exact ⟨a2, b2, .resumeSuspended ((mix_none q).trans hg) r hq r2⟩
    | some G =>
      obtain ⟨z1, z2⟩ := j.at_ g G q
      rw [hg] at z2
      cases G with
      | suspended k' l' c' p' fs' cl' =>
        cases z2
        exact absurd h1 no_unsupported
      | fresh _ => exact z1.elim
      | running => exact z1.elim
      | finished => exact z1.elim
  | resumeJustStarted hg hv _ ih =>
    intro n j
    obtain ⟨a, b, r⟩ := ih n j
    exact ⟨a, b, .resumeJustStarted ((mix_none (fresh_free j hg (fun z => z))).trans hg) hv r⟩
  | resumeThrowFresh hg _ ih =>
    intro n j
    have fg := fresh_free j hg (fun z => z)
    obtain ⟨a, b, r⟩ := ih n (j.set fg fun _ _ _ _ _ _ q => by cases q)
    rw [mx_setGen fg] at r
    exact ⟨a, b, .resumeThrowFresh ((mix_none fg).trans hg) r⟩
  | resumeRunning hg _ ih =>
    intro n j
    obtain ⟨a, b, r⟩ := ih n j
    exact ⟨a, b, .resumeRunning ((mix_none (fresh_free j hg (fun z => z))).trans hg) r⟩
  | resumeFinished hg _ ih =>
    intro n j
    obtain ⟨a, b, r⟩ := ih n j
    exact ⟨a, b, .resumeFinished ((mix_none (fresh_free j hg (fun z => z))).trans hg) r⟩
  | segRet _ _ ih1 ih2 =>
    intro n j
    obtain ⟨a, _, r⟩ := ih1 n0 j
    obtain ⟨a2, b2, r2⟩ := ih2 (fun f hf => n f (List.mem_cons_of_mem _ hf)) a
    exact ⟨a2, b2, .segRet r r2⟩
  | segGen _ _ _ _ => exact fun n _ => (n _ List.mem_cons_self).elim
  | segSuspOut hs _ ih =>
    intro n j
    obtain ⟨a, b, r⟩ := ih n0 j
    refine ⟨a, fun f hf => ?_, .segSuspOut hs r⟩
    rcases List.mem_append.mp hf with hf | hf
    · exact b f hf
    · exact n f hf
  | segSuspGen hs _ _ _ _ _ =>
    intro n _
    rw [n.split] at hs
    cases hs

theorem wp_mix {α : Type} (M : Model) (Γ : Ctx) (t : Sem α) : ∀ (Q : α → Pos → Shared → Prop) (E : Value → Pos → Shared → Prop) (p : Pos) (s : Shared), J F s.gens → wp M Γ t Q E p s →
    wp M Γ t (fun a p' s' => ∃ s0, J F s0.gens ∧ s' = mx F s0 ∧ Q a p' s0) (fun e p' s' => ∃ s0, J F s0.gens ∧ s' = mx F s0 ∧ E e p' s0) p (mx F s) := by
  have n0 : NoGen [] := fun f hf => by simp at hf
  induction t with
  | pure a => intro Q E p s j h; exact ⟨s, j, rfl, h⟩
  | raise e => intro Q E p s j h; exact ⟨s, j, rfl, h⟩
  | unsupported _ => intro Q E p s _ h; exact h
  | finish _ => intro Q E p s _ h; exact h
  | rule _ k ih => intro Q E p s j h; exact ih () Q E p s j h
  | «at» p' k ih => intro Q E p s j h; exact ih () Q E p' s j h
  | load a _ k ih => intro Q E p s j h; obtain ⟨o, ho, h⟩ := h; exact ⟨o, ho, ih o Q E p s j h⟩
  | update a _ f k ih => intro Q E p s j h; exact ⟨h.1, ih () Q E p { s with heap := s.heap.update a f } j h.2⟩
  | loadIfAlive a k ih => intro Q E p s j h; exact ih _ Q E p s j h
  | point _ k ih => intro Q E p s j h; exact ih () Q E p s j h
  | register _ _ => intro Q E p s _ h; exact h
  | alloc o k ih => intro Q E p s j h; exact ih _ Q E p { s with heap := s.heap.push o } j h
  | fresh k ih => intro Q E p s j h; exact ih _ Q E p { s with toks := s.toks + 1 } j h
  | ask k ih => intro Q E p s j h; exact ih _ Q E p s j h
  | choose src m k ih => intro Q E p s j h; exact ⟨h.1, ih _ Q E p { s with drawn := s.drawn.bump src } j h.2⟩
  | os q _ k ih => intro Q E p s j h; exact ih _ Q E p { s with os := (Os.step s.os q).1 } j h
  | call c hd _ _ k ih =>
    intro Q E p s j h
    obtain ⟨r, s', hr, h⟩ := h
    obtain ⟨a, _, r'⟩ := runs_mix (F := F) hr n0 j
    exact ⟨r, mx F s', r', ih r Q E p s' a h⟩
  | handled own k ih => intro Q E p s j h; exact ih _ Q E p s j h
  | genState g k ih =>
    intro Q E p s j h
    obtain ⟨st, hs, h⟩ := h
    have q := ih _ Q E p s j h
    cases e : F g with
    | none => exact ⟨st, (mix_none e).trans hs, q⟩
    | some G =>
      have e1 := (j.at_ g G e).2
      rw [hs] at e1
      cases e1
      rw [psn_seen] at q
      exact ⟨G, mix_some j e, q⟩
  | newGen c k ih =>
    intro Q E p s j h
    have q := ih _ Q E p { s with gens := s.gens.push (.fresh c) } (j.push (fun z => z)) h
    have e1 : (mx F s).gens.size = s.gens.size := mix_size
    have e2 : mx F { s with gens := s.gens.push (.fresh c) } = { mx F s with gens := (mx F s).gens.push (.fresh c) } := by
      show ({ s with gens := mix F (s.gens.push (.fresh c)) } : Shared) = { s with gens := (mix F s.gens).push (.fresh c) }
      rw [mix_push j]
    show wp M Γ (k (mx F s).gens.size) _ _ p { mx F s with gens := (mx F s).gens.push (.fresh c) }
    rw [e1, ← e2]
    exact q
  | resume g r _ k ih =>
    intro Q E p s j h
    obtain ⟨res, s', hw, h⟩ := h
    have main : J F s'.gens ∧ Wakes M Γ p g r (mx F s) res (mx F s') := by
      unfold Wakes at hw ⊢
      cases hg : s.gens[g]? with
      | none => rw [hg] at hw; exact hw.elim
      | some st =>
        rw [hg] at hw
        cases st with
        | fresh c =>
          have fg := fresh_free j hg (fun z => z)
          have eg : (mx F s).gens[g]? = some (.fresh c) := (mix_none fg).trans hg
          rw [eg]
          cases r with
          | send v =>
            cases v with
            | none =>
              obtain ⟨e₁, s₁, hr, q1, q2, rfl⟩ := hw
              obtain ⟨a, b, r'⟩ := runs_mix (F := F) hr n0 (j.set fg fun _ _ _ _ _ _ q => by cases q)
              rw [mx_setGen fg] at r'
              exact ⟨a.set fg b.st, e₁, mx F s₁, r', q1, q2, mx_setGen fg⟩
            | _ => obtain ⟨q1, rfl⟩ := hw; exact ⟨j, q1, rfl⟩
          | throw x =>
            obtain ⟨q1, rfl⟩ := hw
            exact ⟨j.set fg (fun _ _ _ _ _ _ q => by cases q), q1, mx_setGen fg⟩
        | suspended k₀ l₀ c₀ p₀ fs cl =>
          obtain ⟨e₁, s₁, hr, q1, q2, rfl⟩ := hw
          cases q : F g with
          | none =>
            have eg : (mx F s).gens[g]? = some (.suspended k₀ l₀ c₀ p₀ fs cl) := (mix_none q).trans hg
            rw [eg]
            obtain ⟨a, b, r'⟩ := runs_mix (F := F) hr (j.ng _ _ _ _ _ _ _ q hg) (j.set q fun _ _ _ _ _ _ q => by cases q)
            rw [mx_setGen q] at r'
            exact ⟨a.set q b.st, e₁, mx F s₁, r', q1, q2, mx_setGen q⟩
          | some G =>
            obtain ⟨z1, z2⟩ := j.at_ g G q
            rw [hg] at z2
            cases G with
            | suspended k' l' c' p' fs' cl' =>
              cases z2
              exact absurd hr no_unsupported
            | fresh _ => exact z1.elim
            | running => exact z1.elim
            | finished => exact z1.elim
        | running =>
          obtain ⟨q1, rfl⟩ := hw
          have eg : (mx F s').gens[g]? = some .running := (mix_none (fresh_free j hg (fun z => z))).trans hg
          rw [eg]
          exact ⟨j, q1, rfl⟩
        | finished =>
          obtain ⟨q1, rfl⟩ := hw
          have eg : (mx F s').gens[g]? = some .finished := (mix_none (fresh_free j hg (fun z => z))).trans hg
          rw [eg]
          exact ⟨j, q1, rfl⟩
    exact ⟨res, mx F s', main.2, ih res Q E p s' main.1 h⟩
  | yield _ _ _ _ => intro Q E p s _ h; exact h
  | stack k ih => intro Q E p s j h; exact ih _ Q E p s j h
  | fork _ _ => intro Q E p s _ h; exact h
  | thread k ih => intro Q E p s j h; exact ih _ Q E p s j h
  | await _ _ _ _ _ => intro Q E p s _ h; exact h
end

/-- the sleeping ones -/
def suspOf (gs : Array GenState) (k : Nat) : Option GenState := match gs[k]? with
  | some (.suspended a b c d e f) => some (.suspended a b c d e f)
  | _ => none
theorem suspOf_some {gs : Array GenState} {k : Nat} {G : GenState} (h : suspOf gs k = some G) : IsSusp G ∧ gs[k]? = some G := by
  unfold suspOf at h
  split at h
  · cases h; exact ⟨trivial, by assumption⟩
  · cases h
theorem suspOf_of {gs : Array GenState} {k : Nat} {G : GenState} (h : gs[k]? = some G) (hs : IsSusp G) : suspOf gs k = some G := by
  unfold suspOf
  rw [h]
  cases G <;> first | rfl | exact hs.elim
/-- what sleeps stays asleep -/
def Asleep (G0 G : Array GenState) : Prop := ∀ (k : Nat) (x : GenState), G0[k]? = some x → IsSusp x → G[k]? = some x
open PyProof.Rows (AllBare)
/-- THE RULE -/
theorem wpAny_asleep {α : Type} {M : Model} {A : Around} {t : Sem α} {Q : α → Shared → Prop} {E : Value → Shared → Prop} {s : Shared} (hb : AllBare s.gens)
    (h : ∀ G', AllBare G' → wpAny M A t Q E { s with gens := G' }) (hQ : ∀ a s', Q a s' → AllBare s'.gens) :
    wpAny M A t (fun a s' => Asleep s.gens s'.gens ∧ AllBare s'.gens ∧ ∃ G', Q a { s' with gens := G' }) (fun e s' => ∃ G', E e { s' with gens := G' }) s := by
  intro Γ p hΓ
  have j : J (suspOf s.gens) (s.gens.map psn) := by
    refine ⟨fun k G e => ⟨(suspOf_some e).1, ?_⟩, fun k k0 l c p fs cl e q => ?_⟩
    · rw [Array.getElem?_map, (suspOf_some e).2]; rfl
    · rw [Array.getElem?_map] at q
      cases z : s.gens[k]? with
      | none => rw [z] at q; cases q
      | some x =>
        rw [z] at q
        cases x with
        | suspended a b c d e' f => rw [suspOf_of z trivial] at e; cases e
        | fresh _ => cases q
        | running => cases q
        | finished => cases q
  have hbp : AllBare (s.gens.map psn) := fun y hy => by
    obtain ⟨x, hx, rfl⟩ := Array.mem_map.mp hy
    have := hb x hx
    cases x <;> first | rfl | exact this
  have em : mix (suspOf s.gens) (s.gens.map psn) = s.gens := by
    refine ext_get fun k => ?_
    rw [mix_get, Array.getElem?_map]
    cases z : s.gens[k]? with
    | none => rfl
    | some x =>
      cases x with
      | suspended a b c d e' f => rw [suspOf_of z trivial]; rfl
      | fresh c => unfold suspOf; rw [z]; rfl
      | running => unfold suspOf; rw [z]; rfl
      | finished => unfold suspOf; rw [z]; rfl
  have main := wp_mix (F := suspOf s.gens) M Γ t _ _ p { s with gens := s.gens.map psn } j (h _ hbp Γ p hΓ)
  have es : mx (suspOf s.gens) { s with gens := s.gens.map psn } = s := by
    show ({ s with gens := mix (suspOf s.gens) (s.gens.map psn) } : Shared) = s
    rw [em]
  rw [es] at main
  refine Sem.wp_mono M Γ t (fun a p' s' q => ?_) (fun e p' s' q => ?_) p s main
  · obtain ⟨s0, j0, rfl, q⟩ := q
    refine ⟨fun k x e1 e2 => mix_some j0 (suspOf_of e1 e2), fun y hy => ?_, s0.gens, q⟩
    obtain ⟨k, hk, e⟩ := Array.mem_iff_getElem.mp hy
    have e' : (mix (suspOf s.gens) s0.gens)[k]? = some y := by rw [← e]; exact Array.getElem?_eq_getElem hk
    cases z : suspOf s.gens k with
    | none =>
      rw [mix_none z] at e'
      exact hQ a s0 q y (Array.mem_of_getElem? e')
    | some G =>
      rw [mix_some j0 z] at e'
      cases e'
      exact hb _ (Array.mem_of_getElem? (suspOf_some z).2)
  · obtain ⟨s0, j0, rfl, q⟩ := q
    exact ⟨s0.gens, q⟩
end SC
set_option Elab.async false
set_option linter.all false
set_option maxRecDepth 100000
set_option maxHeartbeats 1000000
/-! GB: for within a generator; a generator's body while others sleep. -/
namespace SC
open PySem PySem.Spec PyProof.Rows L2 GenW

section
variable {M : Model} {A : Around} {R : GenEnd} {Y : Protocol} {n : Nat} {s₀ s : Shared} {c : Code} {fs : List Frame} {env : Env} {K : Flow → Sem PySem.Fin} {J : Value → Sem PySem.Fin} {gd : Bool → Bool} {lv : List Value → List Value}
theorem seg_For {target iter : Expr} {body : List Stmt} {pos : Pos} (hs : ∀ x, foldedSetIterable iter env x = pure x)
    (h : wpAny M (A.over c fs) (eval iter env) (fun x s1 => wpAny M (A.over c fs) (pyIter x) (fun it s2 => ∀ p, Seg M A R Y n s₀ (.forLoop target it body [] env) (M.den (.forLoop target it body [] env))
      (.ret (fun r => ((match r with | .ok f => (.pure f : Sem Flow) | .error e => .raise e).onRaise (cameBack env)).wrap K J gd lv) none (gd false) (lv []) c p [] :: fs) s2) (fun _ _ => False) s1) (fun _ _ => False) s) :
    Seg M A R Y n s₀ c ((exec (.For target iter body [] pos) env).wrap K J gd lv) fs s := by
  rw [exec_For]
  refine seg_bind_wrap (wpAny_standAt ?_)
  refine seg_bind_wrap (wpAny_mono h (fun x s1 h1 => ?_) fun _ _ z => z.elim)
  refine seg_bind_wrap (wpAny_of_eq (hs x) ?_)
  refine seg_bind_wrap (wpAny_standAt ?_)
  refine seg_bind_wrap (wpAny_holding (wpAny_mono h1 (fun it s2 h2 => ?_) fun _ _ z => z.elim))
  exact seg_call h2
end
section
variable {prog : Program} {w : World} {A : Around} {R : GenEnd} {Y : Protocol} {n : Nat} {s₀ s : Shared} {fs : List Frame} {env : Env}
theorem seg_forLoop {target : Expr} {it : Value} {body : List Stmt}
    (h : wpAny (model prog w) (A.over (.forLoop target it body [] env) fs) (pyNext it) (fun r s1 => match r with
      | none => Seg (model prog w) A R Y n s₀ (.block [] env) (leafOf (.ok .next)) fs s1
      | some v => wpAny (model prog w) (A.over (.forLoop target it body [] env) fs) (letOwnedTupleGo target it v) (fun _ s2 => wpAny (model prog w) (A.over (.forLoop target it body [] env) fs) (assign target env v) (fun _ s3 =>
          Seg (model prog w) A R Y n s₀ (.forLoop target it body [] env) ((execs body env).wrap (fun f => match f with
            | .next | .cont => .pure (.again (.forLoop target it body [] env))
            | .brk => .pure (.done .next)
            | .ret v => .pure (.done (.ret v))) (fun e => (do noteFrame e env; theTreesLotGoes e : Sem Unit).wrap (fun _ => .raise e) .raise id id) id id) fs s3) (fun _ _ => False) s2) (fun _ _ => False) s1) (fun _ _ => False) s) :
    Seg (model prog w) A R Y n s₀ (.forLoop target it body [] env) ((model prog w).den (.forLoop target it body [] env)) fs s := by
  show Seg _ A R Y n s₀ _ ((forTurn target it body [] env).onRaise (fun x => do noteFrame x env; theTreesLotGoes x)) fs s
  unfold forTurn
  rw [Sem.onRaise_eq_wrap]
  refine seg_bind_wrap (wpAny_standAt ?_)
  refine seg_bind_wrap (wpAny_onRaise (wpAny_mono h (fun r s1 h1 => ?_) fun _ _ z => z.elim))
  cases r with
  | none =>
    refine seg_again rfl ?_
    exact h1
  | some v =>
    refine seg_bind_wrap (wpAny_mono h1 (fun _ s2 h2 => ?_) fun _ _ z => z.elim)
    refine seg_bind_wrap (wpAny_mono h2 (fun _ s3 h3 => ?_) fun _ _ z => z.elim)
    rw [Sem.bind_eq_wrap', Sem.wrap_wrap]
    rw [Sem.wrap_congr (execs body env) _ _ (K' := fun f => match f with
            | .next | .cont => .pure (.again (.forLoop target it body [] env))
            | .brk => .pure (.done .next)
            | .ret v => .pure (.done (.ret v))) (H' := (fun e => (do noteFrame e env; theTreesLotGoes e : Sem Unit).wrap (fun _ => .raise e) .raise id id))
        (fun f => by cases f <;> rfl)
        (fun e => by first | exact Sem.bind_eq_wrap _ _ | (show (do noteFrame e env; theTreesLotGoes e : Sem Unit).bind (fun _ => .raise e) = _; rw [Sem.bind_eq_wrap]))]
    exact h3
end

/-! ### the table of generators along -/
theorem Inv_gens {X : Cx} {pins : List (Addr × Obj)} {σ : L2.St} {H : Hp} {s : Shared} {G : Array GenState} (I : Inv X pins σ H s) (hb : AllBare G) : Inv X pins σ H { s with gens := G } :=
  ⟨I.ok, I.os, hb, I.base, I.loc, I.cell, I.free, I.freeC, I.pin, I.hok, I.len⟩
theorem Inv_back {X : Cx} {pins : List (Addr × Obj)} {σ : L2.St} {H : Hp} {s : Shared} {G : Array GenState} (I : Inv X pins σ H { s with gens := G }) (hb : AllBare s.gens) : Inv X pins σ H s :=
  ⟨I.ok, I.os, hb, I.base, I.loc, I.cell, I.free, I.freeC, I.pin, I.hok, I.len⟩
/-- these sleep; ours is another -/
def Hold (z : List (Nat × GenState)) (g : Nat) (G : Array GenState) : Prop := g < G.size ∧ ∀ p ∈ z, p.1 ≠ g ∧ IsSusp p.2 ∧ G[p.1]? = some p.2
theorem Hold.asleep {z : List (Nat × GenState)} {g : Nat} {G G' : Array GenState} (h : Hold z g G) (a : Asleep G G') (hs : g + 1 ≤ G'.size) : Hold z g G' :=
  ⟨hs, fun p hp => let ⟨a1, a2, a3⟩ := h.2 p hp; ⟨a1, a2, a p.1 p.2 a3 a2⟩⟩
theorem Hold.nil {z : List (Nat × GenState)} {g : Nat} {G : Array GenState} (h : Hold z g G) : Hold [] g G := ⟨h.1, fun p hp => by simp at hp⟩

section
variable {X : Cx}
/-- the context wants no exception -/
def NoExc (X : Cx) : Prop := ∀ e s, ¬ X.xe e s
/-- an evaluation while others sleep -/
theorem hold_run {α : Type} {t : Sem α} {Q : α → Shared → Prop} {z : List (Nat × GenState)} {g : Nat} {pins : List (Addr × Obj)} {σ : L2.St} {H : Hp} {s : Shared} {E : Value → Shared → Prop} (hx : NoExc X) (I : Inv X pins σ H s) (hz : Hold z g s.gens)
    (h : ∀ s', Inv X pins σ H s' → wpAny (model X.prog X.w) X.A t Q X.xe s') (hQ : ∀ a s', Q a s' → AllBare s'.gens) :
    wpAny (model X.prog X.w) X.A t (fun a s' => Hold z g s'.gens ∧ AllBare s'.gens ∧ ∃ G', Q a { s' with gens := G' }) E s := by
  refine wpAny_gsz (n := g + 1) hz.1 (wpAny_mono (wpAny_asleep (A := X.A) (Q := Q) (E := X.xe) I.bare (fun G' hb => h _ (Inv_gens I hb)) hQ) (fun a s' q hs => ?_) fun e s' q => ?_)
  · obtain ⟨a1, a2, a3⟩ := q
    exact ⟨hz.asleep a1 hs, a2, a3⟩
  · obtain ⟨G', q⟩ := q
    exact (hx _ _ q).elim
theorem hold_pe {e : Expr} {t : TE} {z : List (Nat × GenState)} {g : Nat} {pins : List (Addr × Obj)} {σ : L2.St} {H : Hp} {s : Shared} {Q : VK} {E : Value → Shared → Prop} (he : PE X e t) (hx : NoExc X) (I : Inv X pins σ H s) (hz : Hold z g s.gens) (h : t σ H Q) :
    wpAny (model X.prog X.w) X.A (eval e X.env) (fun u s' => Hold z g s'.gens ∧ EP X pins σ Q u s') E s := by
  refine wpAny_mono (hold_run hx I hz (fun s' I' => he.run pins s' σ H Q I' h) fun a s' q => ?_) (fun u s' q => ?_) fun _ _ q => q
  · obtain ⟨_, _, I', _⟩ := q; exact I'.bare
  · obtain ⟨a1, a2, G', v, H', I', q⟩ := q
    exact ⟨a1, v, H', Inv_back I' a2, q⟩
theorem hold_pg {tg : Expr} {t : TG} {z : List (Nat × GenState)} {g : Nat} {pins : List (Addr × Obj)} {σ : L2.St} {H : Hp} {s : Shared} {v : V} {u : Value} {Q : L2.St → Hp → Prop} {E : Value → Shared → Prop} (he : PG X tg t) (hx : NoExc X) (I : Inv X pins σ H s) (hz : Hold z g s.gens) (r : RelV v u) (h : t v σ H Q) :
    wpAny (model X.prog X.w) X.A (assign tg X.env u) (fun _ s' => Hold z g s'.gens ∧ ∃ σ' H', Inv X pins σ' H' s' ∧ Q σ' H') E s := by
  refine wpAny_mono (hold_run hx I hz (fun s' I' => he.run pins s' σ H v u Q I' r h) fun a s' q => ?_) (fun u s' q => ?_) fun _ _ q => q
  · obtain ⟨_, _, I', _⟩ := q; exact I'.bare
  · obtain ⟨a1, a2, G', σ', H', I', q⟩ := q
    exact ⟨a1, σ', H', Inv_back I' a2, q⟩
end

/-! ### the body of a generator -/
structure Slp (S : Addr) (g : Nat) (v : Value) (s s' : Shared) : Prop where
  base : Slept S v s s'
  gens : ∀ (k : Nat) (x : GenState), k ≠ g → s.gens[k]? = some x → s'.gens[k]? = some x
  size : s.gens.size = s'.gens.size
theorem Slp.hold {S : Addr} {g : Nat} {v : Value} {s s' : Shared} {z : List (Nat × GenState)} (p : Slp S g v s s') (h : Hold z g s.gens) : Hold z g s'.gens :=
  ⟨by rw [← p.size]; exact h.1, fun q hq => let ⟨a1, a2, a3⟩ := h.2 q hq; ⟨a1, a2, p.gens _ _ a1 a3⟩⟩
def GI2 (X : Cx) (S : Addr) (ip : List (Addr × Obj)) (z : List (Nat × GenState)) (g : Nat) (ys : List V) (σ : L2.St) (H : Hp) (s : Shared) : Prop := GI X S ip ys σ H s ∧ Hold z g s.gens
def GY2 (X : Cx) (S : Addr) (g : Nat) : Protocol := fun n s₀ v s kap =>
  ∃ ys x ip σ H, n + 1 + ys.length = sizeLine ∧ RelV x v ∧ GI X S ip ys σ H s ∧ g < s.gens.size ∧ ∀ s', Slp S g v s s' → kap (.send .none) s'
def GSP2 (X : Cx) (S : Addr) (ip : List (Addr × Obj)) (z : List (Nat × GenState)) (g : Nat) (D : GEnds) (ys : List V) (f : Flow) (s : Shared) : Prop :=
  match f with
  | .next => ∃ σ H, GI2 X S ip z g ys σ H s ∧ D.nx ys σ H
  | .brk => ∃ σ H, GI2 X S ip z g ys σ H s ∧ D.bk ys σ H
  | .cont => ∃ σ H, GI2 X S ip z g ys σ H s ∧ D.ct ys σ H
  | .ret u => ∃ v σ H, GI2 X S ip z g ys σ H s ∧ RelV v u ∧ D.rt ys v H
abbrev GK2 (X : Cx) (S : Addr) (ip : List (Addr × Obj)) (z : List (Nat × GenState)) (g : Nat) (A : Around) (R : GenEnd) (c : Code) (fs : List Frame) (K : Flow → Sem PySem.Fin) (D : GEnds) : Prop :=
  ∀ (n : Nat) (ys : List V) (s₀ s : Shared) (f : Flow), n + ys.length = sizeLine → GSP2 X S ip z g D ys f s → Seg (model X.prog X.w) A R (GY2 X S g) n s₀ c (K f) fs s
structure GS2 (X : Cx) (st : Stmt) (t : TGn) : Prop where
  run : ∀ (A : Around) (S : Addr) (ip : List (Addr × Obj)) (z : List (Nat × GenState)) (g : Nat) (R : GenEnd) (n : Nat) (ys : List V) (s₀ : Shared) (c : Code) (fs : List Frame) (K : Flow → Sem PySem.Fin) (J : Value → Sem PySem.Fin) (gd : Bool → Bool) (lv : List Value → List Value) (s : Shared) (σ : L2.St) (H : Hp) (D : GEnds),
    GC X S ip A c fs gd → n + ys.length = sizeLine → GK2 X S ip z g A R c fs K D → GI2 X S ip z g ys σ H s → t D ys σ H →
    Seg (model X.prog X.w) A R (GY2 X S g) n s₀ c ((exec st X.env).wrap K J gd lv) fs s
structure GSs2 (X : Cx) (st : List Stmt) (t : TGn) : Prop where
  run : ∀ (A : Around) (S : Addr) (ip : List (Addr × Obj)) (z : List (Nat × GenState)) (g : Nat) (R : GenEnd) (n : Nat) (ys : List V) (s₀ : Shared) (c : Code) (fs : List Frame) (K : Flow → Sem PySem.Fin) (J : Value → Sem PySem.Fin) (gd : Bool → Bool) (lv : List Value → List Value) (s : Shared) (σ : L2.St) (H : Hp) (D : GEnds),
    GC X S ip A c fs gd → n + ys.length = sizeLine → GK2 X S ip z g A R c fs K D → GI2 X S ip z g ys σ H s → t D ys σ H →
    Seg (model X.prog X.w) A R (GY2 X S g) n s₀ c ((execs st X.env).wrap K J gd lv) fs s

section
variable {X : Cx} {st : Stmt} {rest : List Stmt}
theorem sp_gsp2 {S : Addr} {acc : Array Value} {c : Nat} {ip : List (Addr × Obj)} {z : List (Nat × GenState)} {g : Nat} {s : Shared} {D : GEnds} {ys : List V} {f : Flow} (r : Vals ys acc.toList) (hz : Hold z g s.gens) (h : SP X ((S, lstObj acc c) :: ip) (D.at ys) f s) : GSP2 X S ip z g D ys f s := by
  cases f with
  | next => obtain ⟨σ, H, I, q⟩ := h; exact ⟨σ, H, ⟨⟨acc, c, r, I⟩, hz⟩, q⟩
  | brk => obtain ⟨σ, H, I, q⟩ := h; exact ⟨σ, H, ⟨⟨acc, c, r, I⟩, hz⟩, q⟩
  | cont => obtain ⟨σ, H, I, q⟩ := h; exact ⟨σ, H, ⟨⟨acc, c, r, I⟩, hz⟩, q⟩
  | ret u => obtain ⟨v, σ, H, I, r1, q⟩ := h; exact ⟨v, σ, H, ⟨⟨acc, c, r, I⟩, hz⟩, r1, q⟩
theorem sp_bare {pins : List (Addr × Obj)} {D : Ends} {f : Flow} {s : Shared} (h : SP X pins D f s) : AllBare s.gens := by
  cases f with
  | next => obtain ⟨σ, H, I, q⟩ := h; exact I.bare
  | brk => obtain ⟨σ, H, I, q⟩ := h; exact I.bare
  | cont => obtain ⟨σ, H, I, q⟩ := h; exact I.bare
  | ret u => obtain ⟨v, σ, H, I, r1, q⟩ := h; exact I.bare
theorem sp_back {pins : List (Addr × Obj)} {D : Ends} {f : Flow} {s : Shared} {G : Array GenState} (h : SP X pins D f { s with gens := G }) (hb : AllBare s.gens) : SP X pins D f s := by
  cases f with
  | next => obtain ⟨σ, H, I, q⟩ := h; exact ⟨σ, H, Inv_back I hb, q⟩
  | brk => obtain ⟨σ, H, I, q⟩ := h; exact ⟨σ, H, Inv_back I hb, q⟩
  | cont => obtain ⟨σ, H, I, q⟩ := h; exact ⟨σ, H, Inv_back I hb, q⟩
  | ret u => obtain ⟨v, σ, H, I, r1, q⟩ := h; exact ⟨v, σ, H, Inv_back I hb, r1, q⟩
theorem hold_ps {t : TS} {z : List (Nat × GenState)} {g : Nat} {pins : List (Addr × Obj)} {σ : L2.St} {H : Hp} {s : Shared} {D : Ends} {E : Value → Shared → Prop} (hp : PS X st t) (hx : NoExc X) (I : Inv X pins σ H s) (hz : Hold z g s.gens) (h : t D σ H) :
    wpAny (model X.prog X.w) X.A (exec st X.env) (fun f s' => Hold z g s'.gens ∧ SP X pins D f s') E s := by
  refine wpAny_mono (hold_run hx I hz (fun s' I' => hp.run pins s' σ H D I' h) fun a s' q => sp_bare q) (fun u s' q => ?_) fun _ _ q => q
  obtain ⟨a1, a2, G', q⟩ := q
  exact ⟨a1, sp_back q a2⟩
theorem gs_ps2 {t : TS} (hx : NoExc X) (h : PS X st t) : GS2 X st (tPlain t) := by
  refine ⟨fun A S ip z g R n ys s₀ c fs K J gd lv s σ H D gc hn k hI ht => ?_⟩
  obtain ⟨⟨acc, cc, r, I⟩, hz⟩ := hI
  refine seg_wrap ?_
  rw [gc.over]
  exact wpAny_mono (hold_ps (E := fun _ _ => False) h hx I hz ht) (fun f s' hs => k n ys s₀ s' f hn (sp_gsp2 r hs.1 hs.2)) fun x s' hx => hx.elim
theorem gss_nil2 : GSs2 X [] tG0 := by
  refine ⟨fun A S ip z g R n ys s₀ c fs K J gd lv s σ H D gc hn k hI ht => ?_⟩
  exact seg_execs_nil (k n ys s₀ s .next hn ⟨σ, H, hI, ht⟩)
theorem gss_cons2 {t u : TGn} (a : GS2 X st t) (b : GSs2 X rest u) : GSs2 X (st :: rest) (tGThen t u) := by
  refine ⟨fun A S ip z g R n ys s₀ c fs K J gd lv s σ H D gc hn k hI ht => ?_⟩
  refine seg_execs_cons ?_
  refine a.run A S ip z g R n ys s₀ c fs _ J gd lv s σ H { D with nx := fun ys' σ' H' => u D ys' σ' H' } gc hn (fun n' ys' s₀' s' f hn' hs => ?_) hI ht
  cases f with
  | next =>
    obtain ⟨σ', H', I', q⟩ := hs
    exact b.run A S ip z g R n' ys' s₀' c fs K J gd lv s' σ' H' D gc hn' k I' q
  | brk => exact k n' ys' s₀' s' .brk hn' hs
  | cont => exact k n' ys' s₀' s' .cont hn' hs
  | ret u => exact k n' ys' s₀' s' (.ret u) hn' hs
theorem gs_yield2 {e : Expr} {yp pos : Pos} {te : TE} (hx : NoExc X) (he : PE X e te) (hco : X.env.scope.isCoroutine = false := by rfl) (hi : interactive X.env = false := by rfl) : GS2 X (.Expr (.Yield (some e) yp) pos) (tGYield te) := by
  refine ⟨fun A S ip z g R n ys s₀ c fs K J gd lv s σ H D gc hn k hI ht => ?_⟩
  obtain ⟨hlt, ht⟩ := ht
  obtain ⟨n, rfl⟩ : ∃ m, n = m + 1 := ⟨n - 1, by omega⟩
  obtain ⟨⟨acc, cc, r, I⟩, hz⟩ := hI
  refine seg_Expr_Yield gc.split gc.gd gc.guard ?_ hco hi
  rw [gc.over]
  refine wpAny_mono (hold_pe (E := fun _ _ => False) he hx I hz ht) (fun v s' hv => ?_) fun x s' hx => hx.elim
  obtain ⟨hz1, x, H1, I1, rv, q⟩ := hv
  have G1 : GI X S ip ys σ H1 s' := ⟨acc, cc, r, I1⟩
  intro kap hk
  refine ⟨ys, x, ip, σ, H1, hn, rv, G1, hz1.1, fun s'' w => hk .none s'' ?_⟩
  refine k n (ys ++ [x]) s'' s'' .next ?_ ⟨σ, H1, ⟨G1.woken gc.pn gc.ip gc.apart rv w.base, w.hold hz1⟩, q⟩
  rw [List.length_append, List.length_singleton]; omega

/-! ### for over a list that stays -/
def tGForL (wi : TE) (g : TG) (tb : TGn) : TGn := fun D ys σ H => wi σ H fun x H1 => ∃ a xs, x = .ref a ∧ ∃ W : Nat → List V → L2.St → Hp → Prop, W 0 ys σ H1 ∧ (∀ i ys σ H, W i ys σ H → i ≤ xs.length ∧ SqL X.K H a xs) ∧
  (∀ i x ys σ H, xs[i]? = some x → W i ys σ H → g x σ H fun σ2 H2 => tb { D with nx := W (i + 1), ct := fun _ _ _ => False, bk := fun _ _ _ => False, rt := fun _ _ _ => False } ys σ2 H2) ∧ ∀ ys σ H, W xs.length ys σ H → D.nx ys σ H
theorem gs_forL {iter tg : Expr} {body : List Stmt} {pos : Pos} {wi : TE} {tgr : TG} {tb : TGn} (hx : NoExc X) (hc : X.calm = true) (hi : PE X iter wi) (hg : PG X tg tgr) (hb : GSs2 X body tb)
    (hs : ∀ x, foldedSetIterable iter X.env x = pure x := by intro _; rfl) : GS2 X (.For tg iter body [] pos) (tGForL (X := X) wi tgr tb) := by
  refine ⟨fun A S ip z g R n ys s₀ c fs K J gd lv s σ H D gc hn k hI ht => ?_⟩
  obtain ⟨⟨acc, cc, r, I⟩, hz⟩ := hI
  refine seg_For hs ?_
  rw [gc.over]
  refine wpAny_mono (hold_pe (E := fun _ _ => False) hi hx I hz ht) (fun v s1 hv => ?_) fun _ _ z => z
  obtain ⟨hz1, x, H1, I1, r1, a, xs, ex, W, w0, wl, wstep, wend⟩ := hv
  subst ex
  obtain rfl : v = Value.ref a := r1
  obtain ⟨_, hq⟩ := wl _ _ _ _ w0
  obtain ⟨its, rv, p, hzz⟩ := I1.list hq
  refine wpAny_pyIter_list p.isList fun pp => ?_
  have gl := fun (kk : Result → Sem PySem.Fin) => gc_loop (k := kk) (c' := .forLoop tg (.ref s1.heap.objs.size) body [] X.env) (l := lv []) (kp := []) (p := pp) gc rfl rfl
  have hSne : S ≠ s1.heap.objs.size := Nat.ne_of_lt (Heap.lt_size (I1.pin (S, lstObj acc cc) (List.mem_append_right _ List.mem_cons_self)).1)
  have fp0 : FpOk X ((S, lstObj acc cc) :: ip) H1 s1.heap.objs.size := I1.fpOk (Nat.le_refl _) (I1.hok.fresh (Nat.le_refl _))
  obtain ⟨_, f1, f2, f3, f4, f5⟩ := fp0
  have f5' : ∀ (accx : Array Value) (ccx : Nat), ∀ p ∈ X.pn ++ ((S, lstObj accx ccx) :: ip), p.1 ≠ s1.heap.objs.size := fun accx ccx p hp => by
    rcases List.mem_append.mp hp with hp | hp
    · exact f5 p (List.mem_append_left _ hp)
    · rcases List.mem_cons.mp hp with rfl | hp
      · exact hSne
      · exact f5 p (List.mem_append_right _ (List.mem_cons_of_mem _ hp))
  have loop : ∀ (j i n : Nat) (ys : List V) (s₀ s : Shared) (σ : L2.St) (H : Hp), xs.length - i = j → n + ys.length = sizeLine → W i ys σ H → GI2 X S ip z g ys σ H s → s.heap.IsListIter s1.heap.objs.size a i → H s1.heap.objs.size = none →
      Seg (model X.prog X.w) A R (GY2 X S g) n s₀ (.forLoop tg (.ref s1.heap.objs.size) body [] X.env) ((model X.prog X.w).den (.forLoop tg (.ref s1.heap.objs.size) body [] X.env))
        (.ret (fun r => ((match r with | .ok f => (.pure f : Sem Flow) | .error e => .raise e).onRaise (cameBack X.env)).wrap K J gd lv) none (gd false) (lv []) c pp [] :: fs) s := by
    intro j
    induction j with
    | zero =>
      intro i n ys s₀ s σ H hj hn w hI hit hfree
      obtain ⟨hi, hq⟩ := wl _ _ _ _ w
      have ei : i = xs.length := by omega
      subst ei
      obtain ⟨⟨acc, cc, r, I⟩, hz⟩ := hI
      obtain ⟨its, rv, p, hzz⟩ := I.list hq
      have hl := rv.length
      refine seg_forLoop ?_
      rw [(gl _).over]
      refine wpAny_pyNext_list_end (I.ok.hd hc) hit p.isList (by simp; omega) fun h' eb => ?_
      have I' : Inv X ((S, lstObj acc cc) :: ip) σ H { s with heap := h' } := I.turned (t' := s.toks) (fun b o hb e => eb b o hb e) hfree f1 f3 f4 (f5' acc cc)
      exact seg_leaf (.ok .next) (k n ys s₀ _ .next hn ⟨σ, H, ⟨⟨acc, cc, r, I'⟩, hz⟩, wend _ _ _ w⟩)
    | succ j ih =>
      intro i n ys s₀ s σ H hj hn w hI hit hfree
      obtain ⟨hi, hq⟩ := wl _ _ _ _ w
      have hlt : i < xs.length := by omega
      obtain ⟨⟨acc, cc, r, I⟩, hz⟩ := hI
      obtain ⟨its, rv, p, hzz⟩ := I.list hq
      obtain ⟨u, hu, ru⟩ := rv.get (List.getElem?_eq_getElem hlt)
      refine seg_forLoop ?_
      rw [(gl _).over]
      refine wpAny_pyNext_list_item hit p.isList (x := u) (by simpa using hu) fun h' st' sb => ?_
      have I' : Inv X ((S, lstObj acc cc) :: ip) σ H { s with heap := h' } := I.turned (t' := s.toks) (fun b o hb e => (sb.2 b hb).trans e) hfree f1 f3 f4 (f5' acc cc)
      obtain ⟨o, e, co, d⟩ := id st'
      refine go_of (s := { s with heap := h' }) e co d (by decide) ?_
      have Ip : Inv X ((S, lstObj acc cc) :: ((s1.heap.objs.size, o) :: ip)) σ H { s with heap := h' } := I'.pins_of fun p hp => by
        rcases List.mem_cons.mp hp with hp | hp
        · exact I'.pin p (by rw [hp]; exact List.mem_append_right _ List.mem_cons_self)
        · rcases List.mem_cons.mp hp with hp | hp
          · rw [hp]; exact ⟨e, hfree, f1, f2, fun v z => by rw [d] at z; cases z⟩
          · exact I'.pin p (List.mem_append_right _ (List.mem_cons_of_mem _ hp))
      refine wpAny_mono (hold_pg (E := fun _ _ => False) hg hx Ip (show Hold z g ({ s with heap := h' } : Shared).gens from hz) ru (wstep i _ ys σ H (List.getElem?_eq_getElem hlt) w)) (fun _ s3 h3 => ?_) fun _ _ z => z
      obtain ⟨hz3, σ3, H3, I3, q3⟩ := h3
      have gip : GC X S ((s1.heap.objs.size, o) :: ip) A (.forLoop tg (.ref s1.heap.objs.size) body [] X.env) (.ret (fun r => ((match r with | .ok f => (.pure f : Sem Flow) | .error e => .raise e).onRaise (cameBack X.env)).wrap K J gd lv) none (gd false) (lv []) c pp [] :: fs) id :=
        ⟨gc.pn, fun p hp => (List.mem_cons.mp hp).elim (fun e => by rw [e]; exact Ne.symm hSne) (gc.ip p), gc.apart, (gl _).over, (gl _).split, (gl _).guard, rfl⟩
      refine hb.run A S ((s1.heap.objs.size, o) :: ip) z g R n ys s₀ _ _ _ _ id id s3 σ3 H3 { D with nx := W (i + 1), ct := fun _ _ _ => False, bk := fun _ _ _ => False, rt := fun _ _ _ => False } gip hn (fun n' ys' s₀' s4 f hn' hs => ?_) ⟨⟨acc, cc, r, I3⟩, hz3⟩ q3
      cases f with
      | next =>
        obtain ⟨σ4, H4, ⟨⟨acc4, cc4, r4, I4⟩, hz4⟩, w4⟩ := hs
        have pit := I4.pin (s1.heap.objs.size, o) (List.mem_append_right _ (List.mem_cons_of_mem _ List.mem_cons_self))
        refine seg_again rfl (ih (i + 1) n' ys' s₀' s4 σ4 H4 (by omega) hn' w4 ⟨⟨acc4, cc4, r4, I4.pins_of fun p hp => ?_⟩, hz4⟩ ⟨o, pit.1, co, d⟩ pit.2.1)
        rcases List.mem_cons.mp hp with hp | hp
        · exact I4.pin p (by rw [hp]; exact List.mem_append_right _ List.mem_cons_self)
        · exact I4.pin p (List.mem_append_right _ (List.mem_cons_of_mem _ (List.mem_cons_of_mem _ hp)))
      | cont => obtain ⟨_, _, _, q⟩ := hs; exact q.elim
      | brk => obtain ⟨_, _, _, q⟩ := hs; exact q.elim
      | ret v => obtain ⟨_, _, _, _, _, q⟩ := hs; exact q.elim
  have I2 : Inv X ((S, lstObj acc cc) :: ip) σ H1 { s1 with heap := s1.heap.push { cls := .type "list_iterator", data := .fields #[.ref a, .int 0 0] } } := I1.kept (t' := s1.toks) fun b o e => Heap.get?_push_of_some _ e
  exact loop _ 0 n ys s₀ _ σ H1 rfl hn w0 ⟨⟨acc, cc, r, I2⟩, hz1⟩ ⟨_, Heap.get?_push_size _ rfl, rfl, rfl⟩ (I1.hok.fresh (Nat.le_refl _))
end
end SC
set_option Elab.async false
set_option linter.all false
set_option maxRecDepth 100000
/-! GF: no freed place comes back. -/
namespace SC
open PySem
open Sem (wp)
structure Fz (h h' : Heap) : Prop where
  size : h.objs.size ≤ h'.objs.size
  gone : ∀ b : Nat, b < h.objs.size → h.get? b = none → h'.get? b = none
theorem Fz.refl (h : Heap) : Fz h h := ⟨Nat.le_refl _, fun _ _ e => e⟩
theorem Fz.trans {a b c : Heap} (x : Fz a b) (y : Fz b c) : Fz a c := ⟨Nat.le_trans x.size y.size, fun k h e => y.gone k (Nat.lt_of_lt_of_le h x.size) (x.gone k h e)⟩
theorem Fz.push (h : Heap) (o : Obj) : Fz h (h.push o) := by
  refine ⟨by rw [Heap.size_push]; exact Nat.le_succ _, fun b hb e => ?_⟩
  have e1 : (h.objs.push o)[b]? = h.objs[b]? := by rw [Array.getElem?_push, if_neg (Nat.ne_of_lt hb)]
  show (match (h.objs.push o)[b]? with | some ⟨_, _, .freed, _⟩ => none | o => o) = none
  rw [e1]; exact e
theorem Fz.update {h : Heap} {a : Addr} (f : Obj → Obj) (hs : (h.get? a).isSome = true) : Fz h (h.update a f) := by
  have hsz : (h.update a f).objs.size = h.objs.size := Heap.size_update ..
  refine ⟨Nat.le_of_eq hsz.symm, fun b hb e => ?_⟩
  by_cases hab : b = a
  · subst hab; rw [e] at hs; cases hs
  · exact (Heap.get?_update_other _ _ (Ne.symm hab)).trans e
theorem runs_fz {M : Model} {Γ : Ctx} {p : Pos} {t : Sem PySem.Fin} {fs : List Frame} {s s' : Shared} {e : End} (h : Runs M Γ p t fs s e s') : Fz s.heap s'.heap := by
  induction h with
  | done => exact .refl _
  | raise => exact .refl _
  | again _ _ ih => exact ih
  | rule _ ih => exact ih
  | «at» _ ih => exact ih
  | load _ _ ih => exact ih
  | update hs _ ih => exact (Fz.update _ hs).trans ih
  | loadIfAlive _ ih => exact ih
  | point _ ih => exact ih
  | alloc _ ih => exact (Fz.push _ _).trans ih
  | fresh _ ih => exact ih
  | ask _ ih => exact ih
  | choose _ _ ih => exact ih
  | os _ ih => exact ih
  | handled _ ih => exact ih
  | stack _ ih => exact ih
  | thread _ ih => exact ih
  | genState _ _ ih => exact ih
  | newGen _ ih => exact ih
  | call _ _ ih1 ih2 => exact ih1.trans ih2
  | callSusp _ ih => exact ih
  | yield => exact .refl _
  | resumeFresh _ _ _ _ ih1 ih2 => exact Fz.trans ih1 ih2
  | resumeSuspended _ _ _ _ ih1 ih2 => exact Fz.trans ih1 ih2
  | resumeJustStarted _ _ _ ih => exact ih
  | resumeThrowFresh _ _ ih => exact ih
  | resumeRunning _ _ ih => exact ih
  | resumeFinished _ _ ih => exact ih
  | segRet _ _ ih1 ih2 => exact ih1.trans ih2
  | segGen _ _ ih1 ih2 => exact Fz.trans ih1 ih2
  | segSuspOut _ _ ih => exact ih
  | segSuspGen _ _ _ _ ih1 ih2 => exact Fz.trans ih1 ih2
theorem wakes_fz {M : Model} {Γ : Ctx} {p : Pos} {g : Nat} {r : Resume} {s s' : Shared} {res : GenResult} (h : Wakes M Γ p g r s res s') : Fz s.heap s'.heap := by
  unfold Wakes at h
  split at h
  · exact h.elim
  · split at h
    · obtain ⟨e₁, s₁, hr, _, _, rfl⟩ := h
      have q := runs_fz hr
      exact q
    · rw [h.2]; exact .refl _
    · rw [h.2]; exact .refl _
  · obtain ⟨e₁, s₁, hr, _, _, rfl⟩ := h
    have q := runs_fz hr
    exact q
  · rw [h.2]; exact .refl _
  · rw [h.2]; exact .refl _
theorem wp_fz {α : Type} (M : Model) (Γ : Ctx) (h0 : Heap) (t : Sem α) : ∀ (Q : α → Pos → Shared → Prop) (E : Value → Pos → Shared → Prop) (p : Pos) (s : Shared), Fz h0 s.heap → wp M Γ t Q E p s →
    wp M Γ t (fun a p' s' => Fz h0 s'.heap ∧ Q a p' s') (fun e p' s' => Fz h0 s'.heap ∧ E e p' s') p s := by
  induction t with
  | pure a => intro Q E p s hn h; exact ⟨hn, h⟩
  | raise e => intro Q E p s hn h; exact ⟨hn, h⟩
  | unsupported _ => intro Q E p s _ h; exact h
  | finish _ => intro Q E p s _ h; exact h
  | rule _ k ih => intro Q E p s hn h; exact ih () Q E p s hn h
  | «at» p' k ih => intro Q E p s hn h; exact ih () Q E p' s hn h
  | load a _ k ih => intro Q E p s hn h; obtain ⟨o, ho, h⟩ := h; exact ⟨o, ho, ih o Q E p s hn h⟩
  | update a _ f k ih => intro Q E p s hn h; exact ⟨h.1, ih () Q E p _ (hn.trans (Fz.update f h.1)) h.2⟩
  | loadIfAlive a k ih => intro Q E p s hn h; exact ih _ Q E p s hn h
  | point _ k ih => intro Q E p s hn h; exact ih () Q E p s hn h
  | register _ _ => intro Q E p s _ h; exact h
  | alloc o k ih => intro Q E p s hn h; exact ih _ Q E p _ (hn.trans (Fz.push _ o)) h
  | fresh k ih => intro Q E p s hn h; exact ih _ Q E p { s with toks := s.toks + 1 } hn h
  | ask k ih => intro Q E p s hn h; exact ih _ Q E p s hn h
  | choose src m k ih => intro Q E p s hn h; exact ⟨h.1, ih _ Q E p { s with drawn := s.drawn.bump src } hn h.2⟩
  | os q _ k ih => intro Q E p s hn h; exact ih _ Q E p { s with os := (Os.step s.os q).1 } hn h
  | call c hd _ _ k ih => intro Q E p s hn h; obtain ⟨r, s', hr, h⟩ := h; exact ⟨r, s', hr, ih r Q E p s' (hn.trans (runs_fz hr)) h⟩
  | handled own k ih => intro Q E p s hn h; exact ih _ Q E p s hn h
  | genState g k ih => intro Q E p s hn h; obtain ⟨st, hs, h⟩ := h; exact ⟨st, hs, ih _ Q E p s hn h⟩
  | newGen c k ih => intro Q E p s hn h; exact ih _ Q E p { s with gens := s.gens.push (.fresh c) } hn h
  | resume g r _ k ih => intro Q E p s hn h; obtain ⟨res, s', hw, h⟩ := h; exact ⟨res, s', hw, ih res Q E p s' (hn.trans (wakes_fz hw)) h⟩
  | yield _ _ _ _ => intro Q E p s _ h; exact h
  | stack k ih => intro Q E p s hn h; exact ih _ Q E p s hn h
  | fork _ _ => intro Q E p s _ h; exact h
  | thread k ih => intro Q E p s hn h; exact ih _ Q E p s hn h
  | await _ _ _ _ _ => intro Q E p s _ h; exact h
theorem wpAny_fz {α : Type} {M : Model} {A : Around} {s : Shared} {t : Sem α} {Q : α → Shared → Prop} {E : Value → Shared → Prop} (h : wpAny M A t Q E s) : wpAny M A t (fun a s' => Fz s.heap s'.heap ∧ Q a s') (fun e s' => Fz s.heap s'.heap ∧ E e s') s :=
  fun Γ p hΓ => wp_fz M Γ s.heap t _ _ p s (.refl _) (h Γ p hΓ)
end SC
set_option Elab.async false
set_option linter.all false
set_option maxRecDepth 100000
set_option maxHeartbeats 1000000
/-! GC: a generator that another generator's loop walks; its side. -/
namespace SC
open PySem PySem.Spec PyProof.Rows L2 GenW

/-! ### the heap below a line -/
def cutH (h : Heap) (L : Nat) : Heap := { h with objs := h.objs.extract 0 L }
theorem cut_size {h : Heap} {L : Nat} (hl : L ≤ h.objs.size) : (cutH h L).objs.size = L := by
  show (h.objs.extract 0 L).size = L
  rw [Array.size_extract]; omega
theorem cut_get {h : Heap} {L b : Nat} (hb : b < L) : (cutH h L).get? b = h.get? b := by
  have e : (h.objs.extract 0 L)[b]? = h.objs[b]? := by
    rw [Array.getElem?_extract]
    by_cases hs : b < h.objs.size
    · rw [if_pos (by omega)]
      simp
    · rw [if_neg (by omega)]
      rw [Array.getElem?_eq_none (by omega)]
  show (match (h.objs.extract 0 L)[b]? with | some ⟨_, _, .freed, _⟩ => none | o => o) = (match h.objs[b]? with | some ⟨_, _, .freed, _⟩ => none | o => o)
  rw [e]
theorem of_cut {h : Heap} {L b : Nat} {o : Obj} (e : (cutH h L).get? b = some o) : b < L ∧ h.get? b = some o := by
  have hb : b < L := by
    have h1 : b < (h.objs.extract 0 L).size := Heap.lt_size e
    rw [Array.size_extract] at h1
    omega
  exact ⟨hb, by rw [← cut_get hb]; exact e⟩
theorem cut_funs {h base : Heap} {L : Nat} : ∀ {l : List Env}, h.FunFrames base l → (∀ b ∈ frs l, b < L) → (cutH h L).FunFrames base l
  | [], _, _ => trivial
  | env :: l, ⟨h1, ⟨a, o, h2, h3, h4, h5⟩, h6⟩, hl => by
    have ha : a < L := hl a (by unfold frs; rw [List.filterMap_cons, h2]; exact List.mem_cons_self)
    refine ⟨h1, ⟨a, o, h2, h3, by rw [cut_get ha]; exact h4, h5⟩, cut_funs h6 fun b hb => hl b ?_⟩
    unfold frs
    rw [List.filterMap_cons]
    cases env.frame with
    | none => exact hb
    | some x => exact List.mem_cons_of_mem _ hb

/-- what the inner generator leaves alone above the line -/
def KeepO (o : Obj) : Prop := o.cls ≠ .type "range_iterator" ∧ o.cls ≠ .type "list" ∧ ∀ v, o.data ≠ .cell v
/-- what the inner generator may know -/
def SimpleO (HI : Hp) : HO → Prop
  | .lst _ => True
  | .own y => (HI y).isSome = true
  | .ins _ dx _ => (HI dx).isSome = true
  | _ => False
theorem simple_ok {P : Program} {w : World} {HI H : Hp} {h : Heap} {b : Addr} {u : HO} (sub : ∀ a v, HI a = some v → H a = some v) (hs : SimpleO HI u) (x : ObjOk P w H h b u) : ObjOk P w HI h b u := by
  cases u with
  | lst xs => exact x
  | own y => exact x
  | ins C dx fs =>
    obtain ⟨d, r⟩ := x
    obtain ⟨v, hv⟩ := Option.isSome_iff_exists.mp hs
    have e := sub _ _ hv
    rw [d] at e
    cases e
    exact ⟨hv, r⟩
  | _ => exact hs.elim
theorem simple_up {P : Program} {w : World} {HI H : Hp} {h : Heap} {b : Addr} {u : HO} (sub : ∀ a v, HI a = some v → H a = some v) (hs : SimpleO HI u) (x : ObjOk P w HI h b u) : ObjOk P w H h b u := by
  cases u with
  | lst xs => exact x
  | own y => exact x
  | ins C dx fs =>
    obtain ⟨d, r⟩ := x
    exact ⟨sub _ _ d, r⟩
  | _ => exact hs.elim

/-- the fixed things: the consumer's frames, the line (our frame's address), what we know below it -/
structure IFix where
  P : Program
  w : World
  K : PySem.W.Frag
  mg : Str → Option Value
  base : Heap
  stack : List Env
  L : Addr
  HI : Hp
  os0 : OsState
structure IFix.Ok (X : IFix) : Prop where
  mod : Mod X.K X.mg X.base
  bsz : X.base.objs.size ≤ X.L
  bn : ∀ b o, X.base.get? b = some o → X.HI b = none
  frL : ∀ b ∈ frs X.stack, b < X.L
  frf : ∀ b ∈ frs X.stack, X.HI b = none
  hi : ∀ b u, X.HI b = some u → b < X.L ∧ SimpleO X.HI u
/-- between a wake (s₀) and the next sleep (s1) -/
structure IKeep (X : IFix) (s₀ s1 : Shared) : Prop where
  os : s1.os = X.os0
  bare : AllBare s1.gens
  below : ∀ b o, b < X.L → X.HI b = none → s₀.heap.get? b = some o → (b ∉ frs X.stack → s1.heap.get? b = some o) ∧ ∃ sl, s1.heap.get? b = some { o with slots := sl }
  above : ∀ b o, X.L < b → KeepO o → s₀.heap.get? b = some o → s1.heap.get? b = some o
  hid : ∀ b u, X.HI b = some u → ObjOk X.P X.w X.HI s1.heap b u
/-- what the consumer keeps of ours while we sleep -/
def PvOk (X : IFix) (pv : List (Addr × Obj)) (s : Shared) : Prop := ∀ p ∈ pv, s.heap.get? p.1 = some p.2 ∧ X.L ≤ p.1 ∧ (p.1 = X.L ∨ p.2.cls = .type "list" ∨ p.2.cls = .type "range_iterator") ∧ ∀ v, p.2.data ≠ .cell v
structure IWake (X : IFix) (pv : List (Addr × Obj)) (s : Shared) : Prop where
  os : s.os = X.os0
  bare : AllBare s.gens
  pv : ∀ p ∈ pv, s.heap.get? p.1 = some p.2
  bs : ∀ b o, X.base.get? b = some o → s.heap.get? b = some o
  funs : s.heap.FunFrames X.base X.stack
  hid : ∀ b u, X.HI b = some u → ObjOk X.P X.w X.HI s.heap b u
def YI (X : IFix) (N : Nat) (want : Nat → List (Key × V)) : Protocol := fun n s₀ v s1 kap => IKeep X s₀ s1 ∧ ∃ d, v = .ref d ∧ ObjOk X.P X.w X.HI s1.heap d (.dK (want (N - 1 - n))) ∧ X.HI d = none ∧ d ≠ X.L ∧
  (∀ b o, b < X.L → s₀.heap.get? b = some o → b ≠ d) ∧ (∀ b o, X.L < b → KeepO o → s₀.heap.get? b = some o → b ≠ d) ∧ ∃ pv, PvOk X pv s1 ∧ (∀ p ∈ pv, p.1 ≠ d) ∧ (∃ o, (X.L, o) ∈ pv) ∧ ∀ s', IWake X pv s' → kap (.send .none) s'
def RI (X : IFix) : GenEnd := fun n s₀ r s1 => (r = .ok (.ret .none) ∨ r = .ok .next) ∧ (n = 0 ∧ IKeep X s₀ s1)

/-- the inner generator's context, from a wake on -/
def icx (X : IFix) (N : List Str) (qual : Str) (scope : Scope) (f : Addr) (cd : Value) (A : Around) (s : Shared) : Cx where
  prog := X.P
  w := X.w
  K := X.K
  mg := X.mg
  base := X.base
  A := A.deeper (envOfC qual scope X.L f cd)
  N := N
  s_0 := { s with heap := cutH s.heap X.L }
  H_0 := X.HI
  env := envOfC qual scope X.L f cd
  outer := X.stack
  stack := envOfC qual scope X.L f cd :: X.stack
  ex := []
  calm := true
  fn := fun _ => true
  pn := []
  xe := fun _ _ => False

/-- all that must be kept above the line -/
noncomputable def pinL (s : Shared) (L : Addr) : List (Addr × Obj) := by
  classical
  exact (List.range s.heap.objs.size).filterMap fun b => match s.heap.get? b with
    | some o => if L < b ∧ KeepO o then some (b, o) else none
    | none => none
theorem mem_pinL {s : Shared} {L b : Addr} {o : Obj} (h1 : L < b) (h2 : KeepO o) (e : s.heap.get? b = some o) : (b, o) ∈ pinL s L := by
  unfold pinL
  refine List.mem_filterMap.mpr ⟨b, List.mem_range.mpr (Heap.lt_size e), ?_⟩
  rw [e]
  simp only
  rw [if_pos ⟨h1, h2⟩]
theorem of_pinL {s : Shared} {L : Addr} {p : Addr × Obj} (h : p ∈ pinL s L) : L < p.1 ∧ KeepO p.2 ∧ s.heap.get? p.1 = some p.2 := by
  unfold pinL at h
  obtain ⟨b, _, e⟩ := List.mem_filterMap.mp h
  split at e
  · rename_i o eo
    split at e
    · rename_i hc
      cases e
      exact ⟨hc.1, hc.2, eo⟩
    · cases e
  · cases e

/-- a scope whose names are all local -/
structure LocScope (N P : List Str) (sc : Scope) : Prop extends GScope N P sc where
  cells : ∀ L, cellsFrom L sc.names [] = []
  kinds : ∀ y ∈ sc.names, y.2 ≠ .cell ∧ y.2 ≠ .free
theorem noCell {sc : Scope} (h : ∀ y ∈ sc.names, y.2 ≠ .cell ∧ y.2 ≠ .free) {x : Str} (e : sc.names.lookup x = some .cell ∨ sc.names.lookup x = some .free) : False := by
  rcases e with e | e
  · exact (h _ (PySem.mem_of_lookup e)).1 rfl
  · exact (h _ (PySem.mem_of_lookup e)).2 rfl

section
variable {X : IFix} {N P : List Str} {qual : Str} {scope : Scope} {f : Addr} {cd : Value} {A : Around}
/-- waking: the invariant anew -/
theorem inner_inv {s : Shared} {H : Hp} {σ : L2.St} {pv : List (Addr × Obj)} (ok : X.Ok) (S : LocScope N P scope) (hd : A.handled = none) (hfr : A.frames = some X.stack) (W : IWake X pv s) (hL : H X.L = none) (hlow : ∀ b, b < X.L → H b = X.HI b)
    (hok : HOk X.P X.w H s.heap) (hk : ∀ b o, X.L < b → KeepO o → s.heap.get? b = some o → H b = none)
    (loc : ∃ m, s.heap.Ns X.L m ∧ ∀ (i : Nat) (x : Str) (v : V), N[i]? = some x → σ[i]? = some (some v) → Vis scope x → ∃ u, RelV v u ∧ scope.names.lookup x = some .local ∧ m x = some u) (len : σ.length = N.length) :
    Inv (icx X N qual scope f cd A s) (pinL s X.L) σ H s := by
  have hlt : X.L < s.heap.objs.size := let ⟨_, ns, _⟩ := loc; ns.lt
  have cs : (cutH s.heap X.L).objs.size = X.L := cut_size (Nat.le_of_lt hlt)
  have noc : ∀ x c, (cellsFrom (X.L + 1) scope.names []).lookup x = some c → False := fun x c e => by rw [S.cells] at e; cases e
  refine ⟨⟨ok.mod, S.kind, rfl, rfl, Nat.le_of_eq cs, fun x y c e => (noc x c e).elim, fun x e => ?_, fun x c _ e => (noc x c e).elim, fun _ => hd, Around.frames_deeper hfr, .inr ⟨rfl, rfl⟩, fun b z => absurd (show b ∈ ([] : List Addr) from z) (by simp), fun b o e => ⟨?_, ok.bn b o e⟩, ?_,
      fun b _ _ z => absurd (show b ∈ ([] : List Addr) from z) (by simp), fun b z => absurd (show b ∈ ([] : List Addr) from z) (by simp), cut_funs W.funs ok.frL, ok.frf⟩,
    rfl, W.bare, ⟨fun b o e n _ _ => (of_cut e).2, fun b o e n _ _ => ⟨o.slots, (of_cut e).2⟩, fun b o e n _ => ?_, fun b o e _ => ⟨o, (of_cut e).2⟩, fun b xs e => ?_, fun b o u e => ?_, fun b ps e => ?_⟩, ?_, fun x c e => (noc x c e).elim, hL, fun x c e => (noc x c e).elim, fun p hp => ?_, hok, len⟩
  · exact (noCell S.kinds e).elim
  · have hb : b < X.L := Nat.lt_of_lt_of_le (Heap.lt_size e) ok.bsz
    show (cutH s.heap X.L).get? b = some o
    rw [cut_get hb]; exact W.bs b o e
  · show X.base.objs.size ≤ (cutH s.heap X.L).objs.size
    rw [cs]; exact ok.bsz
  · have q : X.HI b = none := n
    rw [hlow b (of_cut e).1]; exact q
  · have q : X.HI b = some (.tup xs) := e
    exact ((ok.hi b _ q).2 : False).elim
  · have q : X.HI b = some (.frz o u) := e
    exact ((ok.hi b _ q).2 : False).elim
  · have q : X.HI b = some (.tbl ps) := e
    exact ((ok.hi b _ q).2 : False).elim
  · obtain ⟨m, ns, hl⟩ := loc
    refine ⟨m, ns, fun i x v e1 e2 e3 => ?_⟩
    obtain ⟨u, r, k, e⟩ := hl i x v e1 e2 e3
    exact ⟨u, r, .inl ⟨k, e⟩⟩
  · have hp' : p ∈ pinL s X.L := hp
    obtain ⟨h1, h2, h3⟩ := of_pinL hp'
    exact ⟨h3, hk p.1 p.2 h1 h2 h3, Nat.ne_of_gt h1, fun z => absurd (ok.frL p.1 z) (Nat.not_lt.mpr (Nat.le_of_lt h1)), h2.2.2⟩
/-- falling asleep -/
theorem inner_keep {s₀ s1 : Shared} {H : Hp} {σ : L2.St} {ip : List (Addr × Obj)} (ok : X.Ok) (hos : s₀.os = X.os0) (I : Inv (icx X N qual scope f cd A s₀) (pinL s₀ X.L ++ ip) σ H s1) (sub : ∀ b u, X.HI b = some u → H b = some u) : IKeep X s₀ s1 := by
  refine ⟨I.os.trans hos, I.bare, fun b o hb n e => ?_, fun b o hb hk e => ?_, fun b u e => ?_⟩
  · have e' : (cutH s₀.heap X.L).get? b = some o := by rw [cut_get hb]; exact e
    exact ⟨fun hn => I.base.keep b o e' n hn (by show b ∉ ([] : List Addr); simp), I.base.any e' n (by show b ∉ ([] : List Addr); simp)⟩
  · exact (I.pin (b, o) (List.mem_append_right _ (List.mem_append_left _ (mem_pinL hb hk e)))).1
  · exact simple_ok sub (ok.hi b u e).2 (I.hok b u (sub b u e))

/-! ### the run -/
theorem execs_append_wrap {env : Env} {K : Flow → Sem PySem.Fin} {J : Value → Sem PySem.Fin} {gd : Bool → Bool} {lv : List Value → List Value} (rest : List Stmt) : ∀ pre : List Stmt, (execs (pre ++ rest) env).wrap K J gd lv =
    (execs pre env).wrap (fun f => match f with | .next => (execs rest env).wrap K J gd lv | f => K f) J gd lv
  | [] => rfl
  | st :: pre => by
    rw [List.cons_append, execs_cons_wrap, execs_cons_wrap]
    refine Sem.wrap_congr _ _ _ (fun fl => ?_) fun _ => rfl
    cases fl with
    | next => exact execs_append_wrap rest pre
    | _ => rfl
/-- what holds at the head of the loop: the list that we made, it -/
abbrev HdrI := Addr → List V → L2.St → Hp → Prop
/-- the loop -/
theorem inner_loop {Nn : Nat} {want : Nat → List (Key × V)} {mid body : List Stmt} {e : Expr} {xp yp ep : Pos} {jx : Nat} {xn : Str} {Hdr : HdrI} {te : TE} {it r : Addr} {xs : List V} {kk : Result → Sem PySem.Fin} {ll kp : List Value} {pp : Pos}
    (ok : X.Ok) (S : LocScope N P scope) (hd : A.handled = none) (hfr : A.frames = some X.stack) (hjx : N[jx]? = some xn) (hlx : Loc scope xn)
    (hmid : ∀ s i r xs σ H, i < Nn → Hdr r xs σ H → H r = some (.lst xs) → (∀ b u, X.HI b = some u → H b = some u) → ∃ t, PSs (icx X N qual scope f cd A s) mid t ∧
      t { nx := fun σ' H' => Hdr r xs σ' H' ∧ H' r = some (.lst xs) ∧ (∀ b u, X.HI b = some u → H' b = some u) ∧ te σ' H' fun v H1 => H1 = H' ∧ ∃ d, v = .ref d ∧ H' d = some (.dK (want i)), rt := fun _ _ => False } (σ.set jx (some (.int i))) H)
    (he : ∀ s, PE (icx X N qual scope f cd A s) e te)
    (hhdr : ∀ r xs σ H H', Hdr r xs σ H → H' r = some (.lst xs) → (∀ b u, X.HI b = some u → H' b = some u) → Hdr r xs σ H')
    (hco : scope.isCoroutine = false) (hin : interactive (envOfC qual scope X.L f cd) = false) (rL : X.L < r) (itL : X.L < it)
    (hk : ∀ s₀ s1, IKeep X s₀ s1 → Seg (model X.P X.w) A (RI X) (YI X Nn want) 0 s₀ (.block [] (envOfC qual scope X.L f cd)) (leafOf (.ok .next)) [.ret kk none false ll (.func body (envOfC qual scope X.L f cd)) pp kp] s1) :
    ∀ (j i : Nat) (s₀ s : Shared) (σ : L2.St) (H : Hp), Nn - i = j → i ≤ Nn → s₀.os = X.os0 → Inv (icx X N qual scope f cd A s₀) (pinL s₀ X.L) σ H s → Hdr r xs σ H → H r = some (.lst xs) → (∀ b u, X.HI b = some u → H b = some u) →
      IsRangeIter s.heap it (0 + (i : Nat) * 1) ((Nn : Int) - (i : Nat)) 1 → FpOk (icx X N qual scope f cd A s₀) (pinL s₀ X.L) H it →
      Seg (model X.P X.w) A (RI X) (YI X Nn want) j s₀ (.forLoop (.Name xn xp) (.ref it) (mid ++ [.Expr (.Yield (some e) yp) ep]) [] (envOfC qual scope X.L f cd))
        ((model X.P X.w).den (.forLoop (.Name xn xp) (.ref it) (mid ++ [.Expr (.Yield (some e) yp) ep]) [] (envOfC qual scope X.L f cd)))
        [.ret kk none false ll (.func body (envOfC qual scope X.L f cd)) pp kp] s := by
  have T := turn_range (P := X.P) (w := X.w) (K := X.K) (tg := .Name xn xp) it 0 Nn
  have hov : A.over (.forLoop (.Name xn xp) (.ref it) (mid ++ [.Expr (.Yield (some e) yp) ep]) [] (envOfC qual scope X.L f cd)) [.ret kk none false ll (.func body (envOfC qual scope X.L f cd)) pp kp] = A.deeper (envOfC qual scope X.L f cd) := (over_loop rfl rfl).trans over_func
  have hiL : ∀ b, X.L ≤ b → X.HI b = none := fun b hb => by
    cases q : X.HI b with
    | none => rfl
    | some u => exact absurd (ok.hi b u q).1 (Nat.not_lt.mpr hb)
  intro j
  induction j with
  | zero =>
    intro i s₀ s σ H hj hi hos I hh hr sub st fp
    have ei : i = Nn := by omega
    subst ei
    refine seg_forLoop ?_
    rw [hov]
    refine wpAny_mono (T.done (icx X N qual scope f cd A s₀) rfl rfl rfl rfl i _ s σ H (fun _ _ => False) I (fun b hb => by rw [List.mem_singleton.mp hb]; exact fp) st (Nat.le_refl _)) (fun r' s' h' => ?_) fun _ _ z => z
    obtain ⟨hr', I'⟩ := h'
    subst hr'
    exact hk s₀ s' (inner_keep (ip := []) ok hos (by rw [List.append_nil]; exact I') sub)
  | succ j ih =>
    intro i s₀ s σ H hj hi hos I hh hr sub st fp
    have hlt : i < Nn := by omega
    refine seg_forLoop ?_
    rw [hov]
    refine wpAny_mono (T.item (icx X N qual scope f cd A s₀) rfl rfl rfl rfl i _ s σ H (fun _ _ => False) I (fun b hb => by rw [List.mem_singleton.mp hb]; exact fp) st hlt) (fun r' s' h' => ?_) fun _ _ z => z
    obtain ⟨u, hr', h4⟩ := h'
    subst hr'
    refine wpAny_mono h4 (fun _ s5 h5 => ?_) fun _ _ z => z
    obtain ⟨x, H5, I5, r5, ⟨eH, ex⟩, st5, fr5⟩ := h5
    subst eH ex
    have fp5 : ∀ b ∈ [it], FpOk (icx X N qual scope f cd A s₀) (pinL s₀ X.L) H5 b := fun b hb => by rw [List.mem_singleton.mp hb]; exact fp
    have I5' := I5.pinned fp5 (T.obj _ _ st5)
    refine wpAny_mono ((pg_name (X := icx X N qual scope f cd A s₀) (pos := xp) S.nd hjx hlx).run _ s5 σ H5 _ u (fun σ' H' => σ' = σ.set jx (some (.int (0 + (i : Int)))) ∧ H' = H5) I5' r5 ⟨rfl, rfl⟩) (fun _ s6 h6 => ?_) fun _ _ z => z
    obtain ⟨σ6, H6, I6, e6, e7⟩ := h6
    subst e6 e7
    rw [execs_append_wrap]
    refine seg_wrap ?_
    rw [hov]
    obtain ⟨t, ht, hq⟩ := hmid s₀ i r xs σ H6 hlt hh hr sub
    refine wpAny_mono (ht.run _ s6 _ H6 _ I6 (by rw [Int.zero_add]; exact hq)) (fun fl s7 h7 => ?_) fun _ _ z => z.elim
    cases fl with
    | brk => obtain ⟨_, _, _, q⟩ := h7; exact q.elim
    | cont => obtain ⟨_, _, _, q⟩ := h7; exact q.elim
    | ret u => obtain ⟨_, _, _, _, _, q⟩ := h7; exact q.elim
    | next =>
      obtain ⟨σ7, H7, I7, hh7, hr7, sub7, q7⟩ := h7
      refine seg_execs_cons ?_
      refine seg_Expr_Yield rfl rfl rfl ?_ hco hin
      rw [hov]
      refine wpAny_mono ((he s₀).run _ s7 σ7 H7 _ I7 q7) (fun v s8 hv => ?_) fun _ _ z => z.elim
      obtain ⟨vv, H8, I8, rv, eH8, d, ev, ed⟩ := hv
      subst eH8 ev
      obtain rfl : v = Value.ref d := rv
      intro kap hkap
      obtain ⟨m8, ns8, hl8⟩ := id I8.loc
      obtain ⟨oL, esL, epL, goL, dL, restL⟩ := id ns8
      obtain ⟨zr, its, nr, rvs, er⟩ := I8.hok r _ hr7
      obtain ⟨OI, hOc, hOd, e5, hOI⟩ : ∃ OI : Obj, OI.cls = .type "range_iterator" ∧ (∀ v, OI.data ≠ .cell v) ∧ s5.heap.get? it = some OI ∧ ∀ h : Heap, h.get? it = some OI → IsRangeIter h it (0 + ((i + 1 : Nat) : Int) * 1) ((Nn : Int) - ((i + 1 : Nat) : Int)) 1 := ⟨_, rfl, (fun v z => by cases z), st5, fun h q => q⟩
      have pit := I8.pin (it, OI) (List.mem_append_right _ (List.mem_append_right _ (mem_pinsAt (h := s5.heap) (fp := [it]) (by simp) e5)))
      have dnL : d ≠ X.L := fun z => by
        have q : H8 X.L = none := I8.free
        rw [z, q] at ed; cases ed
      have dHI : X.HI d = none := by
        cases q : X.HI d with
        | none => rfl
        | some u =>
          have q1 := sub7 d u q
          rw [ed] at q1
          cases q1
          exact ((ok.hi d _ q).2 : False).elim
      have dok : ObjOk X.P X.w X.HI s8.heap d (.dK (want i)) := I8.hok d _ ed
      have ew : Nn - 1 - j = i := by omega
      refine ⟨inner_keep ok hos I8 sub7, d, rfl, by rw [ew]; exact dok, dHI, dnL, fun b o hb e z => ?_, fun b o hb hko e z => ?_, [(X.L, oL), (r, { cls := .type "list", data := .seq its.toArray nr }), (it, OI)], fun p hp => ?_, fun p hp => ?_, ⟨oL, by simp⟩, fun s' W' => hkap .none s' ?_⟩
      · have q2 := I8.base.free b o (show (cutH s₀.heap X.L).get? b = some o by rw [cut_get hb]; exact e) (by rw [z]; exact dHI) (by show b ∉ ([] : List Addr); simp)
        rw [z, ed] at q2; cases q2
      · have q2 := (I8.pin (b, o) (List.mem_append_right _ (List.mem_append_left _ (mem_pinL hb hko e)))).2.1
        have q3 : H8 b = none := q2
        rw [z, ed] at q3; cases q3
      · rcases List.mem_cons.mp hp with hp | hp
        · rw [hp]; exact ⟨goL, Nat.le_refl _, .inl rfl, fun v z => by have z2 : oL.data = .cell v := z; rw [dL] at z2; cases z2⟩
        · rcases List.mem_cons.mp hp with hp | hp
          · rw [hp]; exact ⟨er, Nat.le_of_lt rL, .inr (.inl rfl), fun v z => by cases z⟩
          · rw [List.mem_singleton.mp hp]; exact ⟨pit.1, Nat.le_of_lt itL, .inr (.inr hOc), hOd⟩
      · rcases List.mem_cons.mp hp with hp | hp
        · rw [hp]; exact Ne.symm dnL
        · rcases List.mem_cons.mp hp with hp | hp
          · rw [hp]; exact ne_of hr7 ed (fun z => by cases z)
          · rw [List.mem_singleton.mp hp]; exact fun z => by
              have q3 : H8 it = none := pit.2.1
              have z' : it = d := z
              rw [z', ed] at q3; cases q3
      · -- woken again
        refine seg_execs_nil ?_
        have gr := W'.pv (r, { cls := .type "list", data := .seq its.toArray nr }) (by simp)
        have gi : s'.heap.get? it = some OI := W'.pv (it, OI) (by simp)
        have gL := W'.pv (X.L, oL) (by simp)
        have rn : X.HI r = none := hiL r (Nat.le_of_lt rL)
        have hneL : X.L ≠ r := Nat.ne_of_lt rL
        have subW : ∀ b u, X.HI b = some u → upd X.HI r (.lst xs) b = some u := fun b u q => by
          rw [upd_ne (fun z => by rw [z, rn] at q; cases q)]; exact q
        have rit : it ≠ r := fun z => by
          have q3 : H8 it = none := pit.2.1
          rw [z, hr7] at q3; cases q3
        refine seg_again rfl (ih (i + 1) s' s' σ7 (upd X.HI r (.lst xs)) (by omega) hlt W'.os ?_ (hhdr _ _ _ _ _ hh7 upd_same subW) upd_same subW (hOI _ gi) ?_)
        · refine inner_inv ok S hd hfr W' (by rw [upd_ne hneL]; exact hiL _ (Nat.le_refl _)) (fun b hb => upd_ne (fun z => absurd rL (by rw [← z]; exact Nat.not_lt.mpr (Nat.le_of_lt hb)))) (fun a o e => ?_) (fun b o hb hko e => ?_) ⟨m8, ns8.at' fun o e => ?_, fun i x v e1 e2 e3 => ?_⟩ I8.len
          · by_cases za : a = r
            · subst za
              rw [upd_same] at e
              cases e
              exact ⟨zr, its, nr, rvs, gr⟩
            · rw [upd_ne za] at e
              exact simple_up subW (ok.hi a o e).2 (W'.hid a o e)
          · have zb : b ≠ r := fun z => by
              rw [z, gr] at e
              cases e
              exact hko.2.1 rfl
            rw [upd_ne zb]
            exact hiL b (Nat.le_of_lt hb)
          · have e' : s8.heap.get? X.L = some o := e
            have z : o = oL := Option.some.inj (e'.symm.trans goL)
            rw [z]; exact gL
          · obtain ⟨u, ru, look⟩ := hl8 i x v e1 e2 e3
            rcases look with ⟨k1, k2⟩ | ⟨k, _⟩
            · exact ⟨u, ru, k1, k2⟩
            · exact (noCell S.kinds k).elim
        · refine ⟨by rw [upd_ne rit]; exact hiL it (Nat.le_of_lt itL), Nat.ne_of_gt itL, fun z => absurd (ok.frL it z) (Nat.not_lt.mpr (Nat.le_of_lt itL)), .inr ?_, fun x c e => ?_, fun p hp z => ?_⟩
          · show (cutH s'.heap X.L).objs.size ≤ it
            rw [cut_size (Nat.le_of_lt (Heap.lt_size gL))]; exact Nat.le_of_lt itL
          · have e' : (cellsFrom (X.L + 1) scope.names []).lookup x = some c := e
            rw [S.cells] at e'; cases e'
          · have hp' : p ∈ pinL s' X.L := hp
            obtain ⟨_, hko, hg⟩ := of_pinL hp'
            rw [z, gi] at hg
            cases hg
            exact hko.1 hOc
/-- THE RULE: pre; for x in range(..): mid; yield e -/
theorem inner_seg {Nn : Nat} {want : Nat → List (Key × V)} {pre mid : List Stmt} {arg e : Expr} {xp rp cp yp ep fp : Pos} {jx : Nat} {xn : Str} {Hdr : HdrI} {te : TE}
    (ok : X.Ok) (S : LocScope N P scope) (hd : A.handled = none) (hfr : A.frames = some X.stack) (hjx : N[jx]? = some xn) (hlx : Loc scope xn) (hNb : Nn < 2 ^ 62)
    (hgr : scope.names.lookup ("range" : Str) = some .globalImplicit) (hmr : X.mg "range" = none)
    {σ0 : L2.St} {oL : Obj} (hoL : ∃ m, (∀ h : Heap, h.get? X.L = some oL → h.Ns X.L m) ∧ ∀ (i : Nat) (x : Str) (v : V), N[i]? = some x → σ0[i]? = some (some v) → Vis scope x → ∃ u, RelV v u ∧ scope.names.lookup x = some .local ∧ m x = some u) (l0 : σ0.length = N.length)
    (hpre : ∀ s, ∃ t, PSs (icx X N qual scope f cd A s) pre t ∧ t { nx := fun σ H => (∃ r xs, Hdr r xs σ H ∧ H r = some (.lst xs) ∧ X.HI r = none) ∧ ∀ b u, X.HI b = some u → H b = some u, rt := fun _ _ => False } σ0 X.HI)
    (harg : ∀ s, ∃ ta, PA (icx X N qual scope f cd A s) [arg] ta ∧ ∀ r xs σ H Q, Hdr r xs σ H → Q [V.int Nn] H → ta σ H Q)
    (hst : ∀ s, starEach [arg] (icx X N qual scope f cd A s).env = [(false, eval arg (icx X N qual scope f cd A s).env)])
    (hmid : ∀ s i r xs σ H, i < Nn → Hdr r xs σ H → H r = some (.lst xs) → (∀ b u, X.HI b = some u → H b = some u) → ∃ t, PSs (icx X N qual scope f cd A s) mid t ∧
      t { nx := fun σ' H' => Hdr r xs σ' H' ∧ H' r = some (.lst xs) ∧ (∀ b u, X.HI b = some u → H' b = some u) ∧ te σ' H' fun v H1 => H1 = H' ∧ ∃ d, v = .ref d ∧ H' d = some (.dK (want i)), rt := fun _ _ => False } (σ.set jx (some (.int i))) H)
    (he : ∀ s, PE (icx X N qual scope f cd A s) e te)
    (hhdr : ∀ r xs σ H H', Hdr r xs σ H → H' r = some (.lst xs) → (∀ b u, X.HI b = some u → H' b = some u) → Hdr r xs σ H')
    (hco : scope.isCoroutine = false) (hin : interactive (envOfC qual scope X.L f cd) = false) : 
    ∀ s, IWake X [(X.L, oL)] s → Seg (model X.P X.w) A (RI X) (YI X Nn want) Nn s (.func (pre ++ [.For (.Name xn xp) (.Call (.Name "range" rp) [arg] [] cp) (mid ++ [.Expr (.Yield (some e) yp) ep]) [] fp]) (envOfC qual scope X.L f cd))
      ((model X.P X.w).den (.func (pre ++ [.For (.Name xn xp) (.Call (.Name "range" rp) [arg] [] cp) (mid ++ [.Expr (.Yield (some e) yp) ep]) [] fp]) (envOfC qual scope X.L f cd))) [] s := by
  intro s W
  obtain ⟨m, hm, hl⟩ := hoL
  have gL : s.heap.get? X.L = some oL := W.pv (X.L, oL) (by simp)
  have hiL : ∀ b, X.L ≤ b → X.HI b = none := fun b hb => by
    cases q : X.HI b with
    | none => rfl
    | some u => exact absurd (ok.hi b u q).1 (Nat.not_lt.mpr hb)
  have I0 : Inv (icx X N qual scope f cd A s) (pinL s X.L) σ0 X.HI s := inner_inv ok S hd hfr W (hiL _ (Nat.le_refl _)) (fun _ _ => rfl) (fun a o e => W.hid a o e) (fun b o hb _ _ => hiL b (Nat.le_of_lt hb)) ⟨m, hm _ gL, hl⟩ l0
  refine seg_func ?_
  rw [execs_append_wrap]
  obtain ⟨t, ht, hq⟩ := hpre s
  refine seg_wrap ?_
  rw [over_func]
  refine wpAny_mono (wpAny_fz (ht.run (pinL s X.L) s σ0 X.HI _ I0 hq)) (fun fl s1 h1 => ?_) (fun e s' h => h.2.elim)
  obtain ⟨fz, h1⟩ := h1
  cases fl with
  | brk => obtain ⟨_, _, _, q⟩ := h1; exact q.elim
  | cont => obtain ⟨_, _, _, q⟩ := h1; exact q.elim
  | ret u => obtain ⟨_, _, _, _, _, q⟩ := h1; exact q.elim
  | next =>
    obtain ⟨σ1, H1, I1, ⟨r, xs, hh1, hr1, hrn⟩, sub1⟩ := h1
    have hlt : X.L < s.heap.objs.size := Heap.lt_size gL
    -- the list is young
    have rL : X.L < r := by
      rcases Nat.lt_trichotomy r X.L with z | z | z
      · exfalso
        obtain ⟨_, its, nn, _, er⟩ := I1.hok r _ hr1
        cases q : s.heap.get? r with
        | none =>
          have := fz.gone r (Nat.lt_trans z hlt) q
          rw [this] at er; cases er
        | some o =>
          have q2 := I1.base.free r o (show (cutH s.heap X.L).get? r = some o by rw [cut_get z]; exact q) hrn (by show r ∉ ([] : List Addr); simp)
          rw [q2] at hr1; cases hr1
      · exfalso
        have q2 : H1 X.L = none := I1.free
        rw [z, q2] at hr1; cases hr1
      · exact z
    refine seg_execs_cons ?_
    refine seg_For (fun _ => rfl) ?_
    rw [over_func]
    obtain ⟨ta, pa, hqa⟩ := harg s
    refine Call_ (ld_blt (X := icx X N qual scope f cd A s) I1 (show (envOfC qual scope X.L f cd).kindOf "range" = some .globalImplicit from hgr) hmr boot_range (PyProof.Rows.callWith_type1 (thn (pa.run cp _ s1 σ1 H1 (fun vs H2 => vs = [V.int Nn] ∧ H2 = H1) I1 (hqa r xs σ1 H1 _ hh1 ⟨rfl, rfl⟩)) fun us s2 h2 => ?_) (hst s) rfl))
    obtain ⟨vs, H2, I2, r2, ev, eH⟩ := h2
    subst ev eH
    cases r2 with
    | cons ru rr =>
    cases rr
    obtain ⟨tk, rfl⟩ := ru
    refine call_range_1 (wpAny_pyIter_range (IsRange.new ..) (small_one (by omega) (by omega) (by omega) (by exact_mod_cast hNb)) fun pp => ?_)
    have hi2 : X.L < s2.heap.objs.size := I2.lt
    have K2 : ∀ h : Heap, ∀ o, ∀ b u, h.get? b = some u → (h.push o).get? b = some u := fun h o b u e => Heap.get?_push_of_some _ e
    refine inner_loop ok S hd hfr hjx hlx hmid he hhdr hco hin rL (Nat.lt_of_lt_of_le hi2 (Nat.le_of_lt (by rw [Heap.size_push]; exact Nat.lt_succ_self _))) (fun s₀ s' ik => ?_) Nn 0 s _ σ1 H2 (Nat.sub_zero _) (Nat.zero_le _) W.os (I2.kept (t' := _) fun b u e => K2 _ _ b u (K2 _ _ b u e)) hh1 hr1 sub1 ?_ ?_
    · refine seg_leaf (.ok .next) ?_
      show Seg _ _ _ _ _ _ _ (leafOf (.ok (.ret .none))) _ _
      exact seg_end (.ok (.ret .none)) ⟨.inl rfl, rfl, ik⟩
    · show (Heap.push _ _).get? _ = some _
      have e1 : (0 : Int) + ((0 : Nat) : Int) * 1 = 0 := by simp
      have e2 : ((Nn : Int) - ((0 : Nat) : Int)) = Builtin.Range.rangeSize 0 Nn 1 := by rw [rangeSize_one]; split <;> omega
      rw [e1, e2]
      exact Heap.get?_push_size _ rfl
    · have I3 : Inv (icx X N qual scope f cd A s) (pinL s X.L) σ1 H2 { s2 with heap := s2.heap.push { cls := Value.type "range", data := Data.fields #[Value.int 0 s2.toks, Value.int (↑Nn) tk, Value.int 1 (s2.toks + 1)] }, toks := s2.toks + 1 + 1 } := I2.kept fun b o e => Heap.get?_push_of_some _ e
      exact I3.fpOk (Nat.le_refl _) (I3.hok.fresh (Nat.le_refl _))
end
end SC
set_option Elab.async false
set_option linter.all false
set_option maxRecDepth 100000
set_option maxHeartbeats 1000000
/-! GD: a generator's loop over another generator. -/
namespace SC
open PySem PySem.Spec PyProof.Rows L2 GenW

/-- what the consumer tracks above the line -/
def PlainO : HO → Prop
  | .dK _ => True
  | .tup _ => True
  | _ => False
theorem plain_keep {P : Program} {w : World} {H : Hp} {h : Heap} {b : Addr} {u : HO} (hp : PlainO u) (x : ObjOk P w H h b u) : ∃ o, h.get? b = some o ∧ KeepO o := by
  cases u with
  | dK kvs =>
    obtain ⟨_, _, vs, _, o, es, ep, e, hc, hd, _⟩ := x
    obtain ⟨hc1, _⟩ := hc
    exact ⟨o, e, (by rw [hc1]; decide), (by rw [hc1]; decide), fun v z => by rw [hd] at z; cases z⟩
  | tup xs =>
    obtain ⟨_, its, _, o, e, hc, n, hd⟩ := x
    exact ⟨o, e, (by rw [hc]; decide), (by rw [hc]; decide), fun v z => by rw [hd] at z; cases z⟩
  | _ => exact hp.elim
theorem simple_there {P : Program} {w : World} {H HI : Hp} {h : Heap} {b : Addr} {u : HO} (hp : SimpleO HI u) (x : ObjOk P w H h b u) : ∃ o, h.get? b = some o := by
  cases u with
  | lst xs => obtain ⟨_, _, _, _, e⟩ := x; exact ⟨_, e⟩
  | own y => exact x
  | ins C dx fs => obtain ⟨_, _, _, e, _⟩ := x; exact ⟨_, e⟩
  | _ => exact hp.elim

section
variable {X : Cx} {XI : IFix}
/-- behind the inner generator's run: the consumer's invariant -/
theorem outer_after {pins pv pv' : List (Addr × Obj)} {σ : L2.St} {H H' : Hp} {s s1 : Shared} (hP : XI.P = X.prog) (hw : XI.w = X.w) (hst : XI.stack = X.stack) (hos : XI.os0 = X.s_0.os) (ok : XI.Ok) (I : Inv X (pv ++ pins) σ H s) (k : IKeep XI s s1)
    (hsub : ∀ b u, XI.HI b = some u → H b = some u) (hlt : X.s_0.heap.objs.size ≤ XI.L) (hloc : X.env.locals < XI.L) (hcl : ∀ x c, X.env.cells.lookup x = some c → c < XI.L) (hpl : ∀ p ∈ X.pn ++ pins, p.1 < XI.L ∨ (XI.L < p.1 ∧ KeepO p.2))
    (hplain : ∀ b u, XI.L ≤ b → H b = some u → PlainO u) (hfs : ∀ b ∈ X.fs, b < XI.L) (hHL : H XI.L = none)
    (h1 : ∀ b u, H b = some u → H' b = some u) (h2 : ∀ b o, s.heap.get? b = some o → (b < XI.L ∨ (XI.L < b ∧ KeepO o)) → H b = none → H' b = none)
    (h3 : ∀ b u, H' b = some u → H b = some u ∨ ∃ kvs, u = .dK kvs ∧ ObjOk XI.P XI.w XI.HI s1.heap b (.dK kvs)) (hpv : PvOk XI pv' s1) (hpv2 : ∀ p ∈ pv', H p.1 = none → H' p.1 = none) :
    Inv X (pv' ++ pins) σ H' s1 := by
  classical
  have I0 : Inv X pins σ H s := I.pins_of fun p hp => I.pin p (List.mem_append_right _ (List.mem_append_right _ hp))
  have hin : ∀ b, H b = none → XI.HI b = none := fun b n => by
    cases q : XI.HI b with
    | none => rfl
    | some u => rw [hsub b u q] at n; cases n
  have stk : ∀ b, b ≠ X.env.locals → b ∉ X.fs → b ∉ frs XI.stack := fun b a1 a2 a3 => by
    rw [hst] at a3
    rcases List.mem_cons.mp (I.stkSub b a3) with z | z
    · exact a1 z
    · exact a2 z
  -- tracked things, kept as they are
  have trk : ∀ b u o, H b = some u → XI.HI b = none → s.heap.get? b = some o → s1.heap.get? b = some o := fun b u o e n eo => by
    rcases Nat.lt_or_ge b XI.L with hb | hb
    · refine (k.below b o hb n eo).1 fun hm => ?_
      rw [hst] at hm
      rw [I.stkFree b hm] at e; cases e
    · have hpo := hplain b u hb e
      obtain ⟨o', e', hk⟩ := plain_keep hpo (I.hok b u e)
      rw [eo] at e'; cases e'
      have hb' : XI.L < b := by
        rcases Nat.lt_or_eq_of_le hb with z | z
        · exact z
        · rw [← z, hHL] at e; cases e
      exact k.above b o hb' hk eo
  have hok' : HOk X.prog X.w H' s1.heap := fun b u e => by
    rcases h3 b u e with e | ⟨kvs, eu, ok2⟩
    · cases q : XI.HI b with
      | some u' =>
        have := hsub b u' q
        rw [e] at this; cases this
        have := k.hid b u q
        rw [hP, hw] at this
        exact simple_up (fun a v z => h1 a v (hsub a v z)) (ok.hi b u q).2 this
      | none =>
        refine (I.hok b u e).stay (fun c v hc ev => ?_) (fun c z => h1 _ _ z) fun c xs z => h1 _ _ z
        rcases hc with rfl | hc
        · exact trk _ u v e q ev
        · refine trk c _ v hc ?_ ev
          cases q2 : XI.HI c with
          | none => rfl
          | some u2 =>
            exfalso
            have := hsub c u2 q2
            rw [hc] at this; cases this
            have hs := (ok.hi c _ q2).2
            have hs' : (XI.HI b).isSome = true := hs
            rw [q] at hs'; cases hs'
    · subst eu
      rw [hP, hw] at ok2
      exact ok2
  have hb1 := k.bare
  have hos1 : s1.os = s.os := by rw [k.os, hos, I.os]
  have ex : ∀ b o, (H b = none → b < XI.L ∨ (XI.L < b ∧ KeepO o)) → s.heap.get? b = some o → ∃ o', s1.heap.get? b = some o' := fun b o hc e => by
    cases q : H b with
    | none =>
      rcases hc q with z | ⟨z, z2⟩
      · obtain ⟨sl, e1⟩ := (k.below b o z (hin b q) e).2
        exact ⟨_, e1⟩
      · exact ⟨o, k.above b o z z2 e⟩
    | some u =>
      cases q2 : XI.HI b with
      | none => exact ⟨o, trk b u o q q2 e⟩
      | some u2 => exact simple_there (ok.hi b u2 q2).2 (k.hid b u2 q2)
  have main : Inv X pins σ H' { s with heap := s1.heap, gens := s1.gens, drawn := s1.drawn, toks := s1.toks } := by
    refine I0.step (ch := (List.range s.heap.objs.size).filter fun b => decide (XI.L ≤ b ∧ H b = none ∧ ∀ p ∈ X.pn ++ pins, p.1 ≠ b)) (fun b hb => ?_) (fun b o a1 a2 a3 e n => ?_) (fun b o a1 a2 a3 e n => ?_) (fun b o a3 e n => ?_) (fun b o a3 e => ?_)
      (fun b xs e => h1 b _ e) (fun b o u e => h1 b _ e) (fun b ps e => ⟨#[], by rw [h1 b _ e]; simp⟩) (fun m hm => ?_) hok' hb1
    · have hb' := of_decide_eq_true (List.mem_filter.mp hb).2
      refine ⟨.inr (Nat.le_trans hlt hb'.1), Nat.ne_of_gt (Nat.lt_of_lt_of_le hloc hb'.1), fun x c e z => ?_, hb'.2.2⟩
      have := hcl x c e
      rw [z] at this
      exact absurd this (Nat.not_lt.mpr hb'.1)
    all_goals
      have cls : ∀ b o, b ∉ ((List.range s.heap.objs.size).filter fun b => decide (XI.L ≤ b ∧ H b = none ∧ ∀ p ∈ X.pn ++ pins, p.1 ≠ b)) → s.heap.get? b = some o → H b = none → b < XI.L ∨ (XI.L < b ∧ KeepO o) := fun b o hn e n => by
        rcases Nat.lt_or_ge b XI.L with hb | hb
        · exact .inl hb
        · have : ¬ (XI.L ≤ b ∧ H b = none ∧ ∀ p ∈ X.pn ++ pins, p.1 ≠ b) := fun z => hn (List.mem_filter.mpr ⟨List.mem_range.mpr (Heap.lt_size e), decide_eq_true z⟩)
          have : ¬ ∀ p ∈ X.pn ++ pins, p.1 ≠ b := fun z => this ⟨hb, n, z⟩
          obtain ⟨p, hp, ep⟩ : ∃ p ∈ X.pn ++ pins, p.1 = b := Classical.byContradiction fun z => this fun p hp ep => z ⟨p, hp, ep⟩
          have e2 := (I0.pin p hp).1
          rw [ep, e] at e2
          have e3 : o = p.2 := Option.some.inj e2
          rcases hpl p hp with z | z
          · rw [ep] at z; exact absurd z (Nat.not_lt.mpr hb)
          · rw [ep] at z; exact .inr ⟨z.1, by rw [e3]; exact z.2⟩
    · rcases cls b o a3 e n with z | ⟨z, z2⟩
      · exact (k.below b o z (hin b n) e).1 (stk b a1 a2)
      · exact k.above b o z z2 e
    · exact (k.below b o (hfs b a2) (hin b n) e).2
    · exact h2 b o e (cls b o a3 e n) n
    · exact ex b o (fun n => cls b o a3 e n) e
    · obtain ⟨o, es, ep, ho, r⟩ := hm
      obtain ⟨sl, e1⟩ := (k.below X.env.locals o hloc (hin _ I.free) ho).2
      exact ⟨_, es, ep, e1, r⟩
  have main' : Inv X pins σ H' s1 := by
    obtain ⟨hh, gg, dd, tt, oo⟩ := s1
    have e : oo = s.os := hos1
    subst e
    exact main
  refine main'.pins_of fun p hp => ?_
  rcases List.mem_append.mp hp with hp | hp
  · obtain ⟨a1, a2, a3, a4⟩ := hpv p hp
    have hn : H p.1 = none := by
      cases q : H p.1 with
      | none => rfl
      | some u =>
        exfalso
        have hpo := hplain p.1 u a2 q
        obtain ⟨o', e', hk⟩ := plain_keep hpo (I.hok p.1 u q)
        have hne : XI.L < p.1 := by
          rcases Nat.lt_or_eq_of_le a2 with z | z
          · exact z
          · rw [← z, hHL] at q; cases q
        have e2 := k.above p.1 o' hne hk e'
        rw [a1] at e2
        have e3 : p.2 = o' := Option.some.inj e2
        rcases a3 with z | z | z
        · exact absurd z (Nat.ne_of_gt hne)
        · exact hk.2.1 (by rw [← e3]; exact z)
        · exact hk.1 (by rw [← e3]; exact z)
    exact ⟨a1, hpv2 p hp hn, Nat.ne_of_gt (Nat.lt_of_lt_of_le hloc a2), fun z => absurd (hfs p.1 z) (Nat.not_lt.mpr a2), a4⟩
  · exact main'.pin p (List.mem_append_right _ hp)
end
end SC
set_option Elab.async false
set_option linter.all false
set_option maxRecDepth 100000
set_option maxHeartbeats 1000000
/-! GE: the walk over the inner generator. -/
namespace SC
open PySem PySem.Spec PyProof.Rows L2 GenW

theorem susp_of {v : Value} {g : Bool} {l : List Value} {k : Resume → Sem PySem.Fin} {c : Code} {p : Pos} {fs : List Frame} : IsSusp (End.susp v g l k c p fs).genState := trivial
theorem wpAny_resume2 {M : Model} {A : Around} {R : GenEnd} {Y : Protocol} {n : Nat} {E : Value → Shared → Prop} {s : Shared} {g : Nat} {gs : GenState}
    {r : Resume} {l : List Value} {α : Type} {k : GenResult → Sem α} {Q : α → Shared → Prop} (hg : s.gens[g]? = some gs)
    (hgo : gs.Goes M A R Y n r (s.setGen g .running))
    (hR : ∀ x s₁, R n (s.setGen g .running) x s₁ → wpAny M A (k (End.ret x).result) Q E (s₁.setGen g .finished))
    (hY : ∀ v s₁ gs', gs'.bare = true → IsSusp gs' → Y (n - 1) (s.setGen g .running) v s₁ (fun r' s'' => match n with | 0 => False | m + 1 => gs'.Goes M A R Y m r' s'') →
      wpAny M A (k (.yielded v)) Q E (s₁.setGen g gs')) :
    wpAny M A (.resume g r l k) Q E s := by
  intro Γ p hΓ
  rw [Sem.wp_resume]
  have hB : ∀ c, (Γ.wake c p).Woken A := fun c => hΓ.wake c p
  have fin : ∀ e₁ s₁, SegEnd R Y n (Seg.next M A R Y n) (s.setGen g .running) e₁ s₁ →
      Sem.wp M Γ (k e₁.result) (fun a _ s' => Q a s') (fun e _ s' => E e s') p (s₁.setGen g e₁.genState) := by
    intro e₁ s₁ he
    cases e₁ with
    | ret x => exact hR x s₁ he Γ p hΓ
    | susp v g₀ l₀ k₀ c₀ p₀ fs₀ =>
      refine hY v s₁ _ (End.bare_of_quiet he.1) susp_of ?_ Γ p hΓ
      cases n with
      | zero => exact he.2
      | succ m => exact he.2
  have hqt : ∀ e₁ s₁, SegEnd R Y n (Seg.next M A R Y n) (s.setGen g .running) e₁ s₁ → e₁.quiet = true := by
    intro e₁ s₁ he
    cases e₁ with
    | ret x => rfl
    | susp v g₀ l₀ k₀ c₀ p₀ fs₀ => exact he.1
  cases gs with
  | fresh c =>
    obtain ⟨rfl, hs⟩ := hgo
    obtain ⟨e₁, s₁, hr, he⟩ := seg_iff.mp hs (Γ.wake c p) p rfl (hB c)
    exact ⟨_, _, by unfold Wakes; rw [hg]; exact ⟨e₁, s₁, hr, hqt e₁ s₁ he, rfl, rfl⟩, fin e₁ s₁ he⟩
  | suspended k₀ l₀ c₀ p₀ fs₀ cl =>
    obtain ⟨e₁, s₁, hr, he⟩ := seg_iff.mp hgo (Γ.wake c₀ p) p₀ rfl (hB c₀)
    exact ⟨_, _, by unfold Wakes; rw [hg]; exact ⟨e₁, s₁, hr, hqt e₁ s₁ he, rfl, rfl⟩, fin e₁ s₁ he⟩
  | running => exact hgo.elim
  | finished => exact hgo.elim

section
variable {prog : Program} {w : World} {A : Around} {E : Value → Shared → Prop} {s : Shared}
theorem next_gen2 {XI : IFix} {Nn : Nat} {want : Nat → List (Key × V)} {a : Addr} {g n : Nat} {gs : GenState} {Q : Option Value → Shared → Prop} (hh : A.handled = none)
    (hl : s.heap.NoLimit) (hroom : A.depth < recursionLimit) (hg : s.heap.IsGen a g) (hgs : s.gens[g]? = some gs)
    (hgo : gs.Goes (model prog w) A.in1 (RI XI) (YI XI Nn want) n (.send .none) (s.setGen g .running))
    (hY : ∀ v s₁ gs' m, n = m + 1 → gs'.bare = true → IsSusp gs' → YI XI Nn want m (s.setGen g .running) v s₁ (fun r' s'' => gs'.Goes (model prog w) A.in1 (RI XI) (YI XI Nn want) m r' s'') → Q (some v) (s₁.setGen g gs'))
    (hP : ∀ s₁, n = 0 → IKeep XI (s.setGen g .running) s₁ → ∀ h', (∀ b o, s₁.heap.get? b = some o → h'.get? b = some o) → Q none { s₁.setGen g .finished with heap := h' })
    (hz : ∀ v s₁ gs', n = 0 → YI XI Nn want 0 (s.setGen g .running) v s₁ (fun _ _ => False) → Q (some v) (s₁.setGen g gs')) :
    wpAny (model prog w) A (pyNext (.ref a)) Q E s := by
  unfold pyNext
  refine wpAny_bind (wpAny_attempt (wpAny_callSpecial?_slot (name := Str.ofString "__next__") hg.typeIs slot_gen_next
    (wpAny_call_entry slot_gen_next hg.typeIs entry_gen_next ?_ (args_gen_next _))))
  show wpAny _ A.in1 (Builtin.Generator.genWake (.ref a) (.send .none)) _ _ s
  unfold Builtin.Generator.genWake
  refine wpAny_bind (wpAny_holding (wpAny_genNumber hg (wpAny_bind (wpAny_genState hgs ?_))))
  cases gs with
  | running => exact hgo.elim
  | finished => exact hgo.elim
  | _ =>
    refine wpAny_bind (wpAny_roomToWake hl hroom ?_)
    show wpAny _ A.in1 (.resume g (.send .none) [] _) _ _ s
    refine wpAny_resume2 hgs hgo (fun x s₁ hx => ?_) (fun v s₁ gs' hb hsu hv => ?_)
    · obtain ⟨hr, hn, hp⟩ := hx
      have hres : End.result (.ret x) = .returned .none := by
        rcases hr with hr | hr <;> rw [hr] <;> rfl
      first | rw [hres] | simp only [hres]
      show wpAny _ A.in1 (newExc (.type "StopIteration") [] >>= _) _ _ _
      refine wpAny_bind ?_
      simp only [newExc, newTuple]
      refine wpAny_bind (wpAny_newObj_type ?_ (by size_fits))
      refine wpAny_bind (m := firstArgMember _ _) (wpAny_of_eq (a := Value.none) (by first | rfl | (simp only [firstArgMember]; rfl)) ?_)
      refine wpAny_newObj_type ?_ (by size_fits)
      simp only [raiseNew]
      refine wpAny_bind (wpAny_bind (wpAny_handled ?_))
      first | rw [show A.in1.handled = none from hh] | rw [hh]
      refine wpAny_throw ?_
      refine wpAny_bind (wpAny_isInstance (T := "StopIteration") (b := true) ⟨_, Heap.get?_push_size _ rfl, rfl⟩ isSubtype_stop ?_)
      exact wpAny_pure (hP s₁ hn hp _ fun b o hb => Heap.get?_push_of_some _ (Heap.get?_push_of_some _ hb))
    · refine wpAny_pure ⟨v, rfl, wpAny_pure ?_⟩
      cases n with
      | zero => exact hz v s₁ gs' rfl hv
      | succ m => exact hY v s₁ gs' m rfl hb hsu hv
end

/-- what a call of the inner generator's def gives -/
def IMade (P : Program) (w : World) (K : PySem.W.Frag) (mg : Str → Option Value) (base : Heap) (k : Nat) (stack : List Env) (HI : Hp) (Nn : Nat) (want : Nat → List (Key × V)) (s : Shared) (u : Value) (s' : Shared) : Prop :=
  ∃ (ga : Addr) (c : Code) (oL og : Obj) (h' : Heap) (tk : Nat), u = .ref ga ∧ s.heap.objs.size < ga ∧ s' = { s with gens := s.gens.push (.fresh c), heap := h', toks := tk } ∧ h'.get? ga = some og ∧ KeepO og ∧ (∀ h : Heap, h.get? ga = some og → h.IsGen ga s.gens.size) ∧ (∃ vs, og.cls = .type "generator" ∧ og.data = .fields vs) ∧
    (∀ b o, s.heap.get? b = some o → h'.get? b = some o) ∧ h'.get? s.heap.objs.size = some oL ∧ (∀ v, oL.data ≠ .cell v) ∧
    ∀ (A : Around), Room k A → A.frames = some stack → ∀ s'', IWake ⟨P, w, K, mg, base, stack, s.heap.objs.size, HI, s.os⟩ [(s.heap.objs.size, oL)] s'' →
      Seg (model P w) A (RI ⟨P, w, K, mg, base, stack, s.heap.objs.size, HI, s.os⟩) (YI ⟨P, w, K, mg, base, stack, s.heap.objs.size, HI, s.os⟩ Nn want) Nn s'' c ((model P w).den c) [] s''
/-- the promise of such a def: the arguments, what is known, how many, which -/
abbrev SpI := List V → Hp → Nat → (Nat → List (Key × V)) → Prop
structure GInn (P : Program) (w : World) (K : PySem.W.Frag) (mg : Str → Option Value) (base : Heap) (k : Nat) (f : Addr) (fd : FuncData) (ps : List Str) (sp : SpI) : Prop where
  len : ∀ vs HI Nn want, sp vs HI Nn want → vs.length = ps.length
  run : ∀ (A : Around) (stack : List Env) (s : Shared) (H HI : Hp) (args : Args) (us : List Value) (vs : List V) (Nn : Nat) (want : Nat → List (Key × V)), Room k A → Env0 P w K mg base A stack s H → BindsTo s fd args (ps.zip us) → Vals vs us → sp vs HI Nn want →
    (∀ b u, HI b = some u → H b = some u ∧ SimpleO HI u) → codeAny (model P w) A (.call (.ref f) args) (fun r s' => match r with | .ok (.ret u) => IMade P w K mg base k stack HI Nn want s u s' | _ => False) s
theorem ginn_of {P : Program} {w : World} {K : PySem.W.Frag} {mg : Str → Option Value} {base : Heap} {k : Nat} {f : Addr} {name qual : Str} {params : Arguments} {body : List Stmt} {scope : Scope} {dV kV doc pm cdv ct oc : Value} {an od : Option Addr}
    {osl : Array (Option Value)} {N ps : List Str} {sp : SpI} (lk : K.lookup f = some ⟨oc, od, .func (PySem.W.fnOf name qual params body scope dV kV doc pm an cdv ct), osl⟩) (hcd : PySem.W.codeIn K cdv qual = true) (S : LocScope N ps scope)
    (len : ∀ vs HI Nn want, sp vs HI Nn want → vs.length = ps.length)
    (hbody : ∀ (A : Around) (XI : IFix) (vs : List V) (Nn : Nat) (want : Nat → List (Key × V)) (oL : Obj), XI.P = P → XI.w = w → XI.K = K → XI.mg = mg → XI.base = base → XI.Ok → Room k (A.deeper (envOfC qual scope XI.L f cdv)) → A.frames = some XI.stack → A.handled = none → sp vs XI.HI Nn want →
      (∃ m, (∀ h : Heap, h.get? XI.L = some oL → h.Ns XI.L m) ∧ ∀ (i : Nat) (x : Str) (v : V), N[i]? = some x → (start N vs)[i]? = some (some v) → Vis scope x → ∃ u, RelV v u ∧ scope.names.lookup x = some .local ∧ m x = some u) →
      ∀ s, IWake XI [(XI.L, oL)] s → Seg (model XI.P XI.w) A (RI XI) (YI XI Nn want) Nn s (.func body (envOfC qual scope XI.L f cdv)) ((model XI.P XI.w).den (.func body (envOfC qual scope XI.L f cdv))) [] s) :
    GInn P w K mg base (k + 1) f (PySem.W.fnOf name qual params body scope dV kV doc pm an cdv ct) ps sp := by
  refine ⟨len, fun A stack s H HI args us vs Nn want hr e0 hb r hsp hHI => ?_⟩
  have hl := len _ _ _ _ hsp
  have KX : K.In s.heap := e0.mod.kin.keeps fun b o e => (e0.bs b o e).1
  have lim : s.heap.NoLimit := e0.mod.nolimit.keeps fun b o e => (e0.bs b o e).1
  have hkind : ∀ y ∈ ps.zip us, scope.names.lookup y.1 = some .local ∨ (scope.names.lookup y.1 = some .cell ∧ ((cellsFrom (s.heap.objs.size + 1) scope.names []).lookup y.1).isSome = true) := fun ⟨n, v⟩ hy => by
    rcases S.par n (List.of_mem_zip hy).1 with q | q
    · exact .inl q
    · exact .inr ⟨q, PySem.W.cellsFrom_some _ _ _ (.inl q)⟩
  refine codeAny_call_generator hr.depth (KX _ _ lk) rfl S.co S.gen rfl (PySem.W.codeRec_of KX hcd) (hb _ _ _ _ ?_)
  refine wpAny_newFunctionEnv_cells S.kind hkind fun env he s1 x => ?_
  subst he
  refine ⟨lim.keeps x.toInCall.keep, ?_⟩
  have I1 : Inv (gcxOf P w K mg base N qual scope f cdv A stack s H (fun _ _ _ => False) []) [] (start N vs) H s1 := inv_startG S.toGScope hr.hd e0 hl r x
  obtain ⟨h1, tk, es1, hk1⟩ := x.done
  obtain ⟨oL, es, ep, ho, hd, hrest⟩ := id x.toInCall.ns
  have ho' : s1.heap.get? s.heap.objs.size = some oL := ho
  have lt1 : s.heap.objs.size < s1.heap.objs.size := Heap.lt_size ho'
  have sub : ∀ b u, HI b = some u → b < s.heap.objs.size ∧ SimpleO HI u := fun b u e => ⟨e0.hok.lt (hHI b u e).1, (hHI b u e).2⟩
  have ok : IFix.Ok ⟨P, w, K, mg, base, stack, s.heap.objs.size, HI, s.os⟩ := ⟨e0.mod, e0.bsz, fun b o e => ?_, fun b hb => ?_, fun b hb => ?_, sub⟩
  · obtain ⟨m, hm, hl'⟩ := I1.loc
    have hm' : s1.heap.Ns s.heap.objs.size m := hm
    subst es1
    refine ⟨h1.objs.size, _, oL, _, h1.push _, _, rfl, lt1, rfl, Heap.get?_push_size _ rfl, ⟨show Value.type "generator" ≠ Value.type "range_iterator" by decide, show Value.type "generator" ≠ Value.type "list" by decide, fun v z => by cases z⟩, fun h e => ⟨_, _, _, e, rfl, rfl, rfl⟩, ⟨_, rfl, rfl⟩, fun b o e => Heap.get?_push_of_some _ (hk1 b o e), Heap.get?_push_of_some _ ho', (fun v z => by rw [hd] at z; cases z), fun Aw hrw hfr s'' W => ?_⟩
    refine hbody Aw ⟨P, w, K, mg, base, stack, s.heap.objs.size, HI, s.os⟩ vs Nn want oL rfl rfl rfl rfl rfl ok (hrw.deeper _) hfr hrw.hd hsp ⟨m, fun h e => ?_, fun i y v e1 e2 e3 => ?_⟩ s'' W
    · exact hm'.at' fun o eo => by
        have e' : h1.get? s.heap.objs.size = some o := eo
        rw [ho'] at e'; cases e'
        exact e
    · obtain ⟨u, ru, look⟩ := hl' i y v e1 e2 e3
      rcases look with ⟨k1, k2⟩ | ⟨k, _⟩
      · exact ⟨u, ru, k1, k2⟩
      · exact (noCell S.kinds k).elim
  · cases q : HI b with
    | none => exact q
    | some u =>
      have := (hHI b u q).1
      rw [(e0.bs b o e).2] at this; cases this
  · obtain ⟨_, o, ho, _⟩ := e0.funs.mem hb
    exact Heap.lt_size ho
  · cases q : HI b with
    | none => exact q
    | some u =>
      have := (hHI b u q).1
      rw [e0.frf b hb] at this; cases this
end SC
set_option Elab.async false
set_option linter.all false
set_option maxRecDepth 100000
set_option maxHeartbeats 1000000
/-! GG: for over an inner generator, within a generator. -/
namespace SC
open PySem PySem.Spec PyProof.Rows L2 GenW

theorem objok_there {P : Program} {w : World} {H : Hp} {h : Heap} {a : Addr} {o : HO} (x : ObjOk P w H h a o) : ∃ ob, h.get? a = some ob := by
  cases o with
  | lst xs => obtain ⟨_, _, _, _, e⟩ := x; exact ⟨_, e⟩
  | tup xs => obtain ⟨_, _, _, o, e, _⟩ := x; exact ⟨_, e⟩
  | dK kvs => obtain ⟨_, _, _, _, o, _, _, e, _⟩ := x; exact ⟨_, e⟩
  | dT kvs => obtain ⟨_, _, _, _, o, _, _, e, _⟩ := x; exact ⟨_, e⟩
  | set S n => obtain ⟨o, _, _, _, e, _⟩ := x; exact ⟨_, e⟩
  | ins C dx fs => obtain ⟨_, _, _, e, _⟩ := x; exact ⟨_, e⟩
  | own y => obtain ⟨_, e⟩ := x; exact ⟨_, e⟩
  | xd fs => obtain ⟨_, ⟨_, _, _, e, _⟩, _⟩ := x; exact ⟨_, e⟩
  | rng lo hi => obtain ⟨_, _, _, e⟩ := x; exact ⟨_, e⟩
  | frz ob u => obtain ⟨e, _⟩ := x; exact ⟨_, e⟩
  | tbl ps => exact ⟨_, (show h.get? a = some _ from x)⟩
  | met f y => exact ⟨_, (show h.get? a = some _ from x)⟩
  | ext φ => obtain ⟨_, ⟨_, e⟩, _⟩ := x; exact ⟨_, e⟩
section
variable {X : Cx} {XI : IFix}
/-- the consumer, at the inner generator's sleep -/
theorem outer_item {pins pv : List (Addr × Obj)} {σ : L2.St} {H : Hp} {s s1 sw : Shared} {v : Value} {m Nn : Nat} {want : Nat → List (Key × V)} {kap : Resume → Shared → Prop} (hP : XI.P = X.prog) (hw : XI.w = X.w) (hst : XI.stack = X.stack) (hos : XI.os0 = X.s_0.os) (ok : XI.Ok) (I : Inv X (pv ++ pins) σ H s) (esw : sw.heap = s.heap) (k : YI XI Nn want m sw v s1 kap)
    (hsub : ∀ b u, XI.HI b = some u → H b = some u) (hlt : X.s_0.heap.objs.size ≤ XI.L) (hloc : X.env.locals < XI.L) (hcl : ∀ x c, X.env.cells.lookup x = some c → c < XI.L) (hpl : ∀ p ∈ X.pn ++ pins, p.1 < XI.L ∨ (XI.L < p.1 ∧ KeepO p.2))
    (hplain : ∀ b u, XI.L ≤ b → H b = some u → PlainO u) (hfs : ∀ b ∈ X.fs, b < XI.L) (hHL : H XI.L = none) :
    ∃ d pv', v = .ref d ∧ H d = none ∧ Inv X (pv' ++ pins) σ (upd H d (.dK (want (Nn - 1 - m)))) s1 ∧ (∀ p ∈ pv', XI.L ≤ p.1) ∧ (∃ o, (XI.L, o) ∈ pv') ∧ ∀ s', IWake XI pv' s' → kap (.send .none) s' := by
  obtain ⟨ik, d, ev, dok, dHI, dL, dlow, dhigh, pv', hpv, hpd, hL, hk⟩ := k
  have ik' : IKeep XI s s1 := ⟨ik.os, ik.bare, fun b o h1 h2 h3 => ik.below b o h1 h2 (by rw [esw]; exact h3), fun b o h1 h2 h3 => ik.above b o h1 h2 (by rw [esw]; exact h3), ik.hid⟩
  rw [esw] at dlow dhigh
  have hd : H d = none := by
    cases q : H d with
    | none => rfl
    | some u =>
      exfalso
      obtain ⟨o, eo⟩ := objok_there (I.hok d u q)
      rcases Nat.lt_trichotomy d XI.L with z | z | z
      · exact dlow d o z eo rfl
      · exact dL z
      · obtain ⟨o', e', hko⟩ := plain_keep (hplain d u (Nat.le_of_lt z) q) (I.hok d u q)
        exact dhigh d o' z hko e' rfl
  refine ⟨d, pv', ev, hd, outer_after (H' := upd H d (.dK (want (Nn - 1 - m)))) hP hw hst hos ok I ik' hsub hlt hloc hcl hpl hplain hfs hHL (fun b u e => ?_) (fun b o e hb n => ?_) (fun b u e => ?_) hpv (fun p hp n => ?_), fun p hp => (hpv p hp).2.1, hL, hk⟩
  · rw [upd_ne (ne_of_none e hd)]; exact e
  · have hne : b ≠ d := by
      rcases hb with z | ⟨z, z2⟩
      · exact dlow b o z e
      · exact dhigh b o z z2 e
    rw [upd_ne hne]; exact n
  · by_cases z : b = d
    · subst z
      rw [upd_same] at e
      cases e
      exact .inr ⟨_, rfl, dok⟩
    · rw [upd_ne z] at e; exact .inl e
  · rw [upd_ne (hpd p hp)]; exact n
/-- the consumer, at the inner generator's end -/
theorem outer_end {pins pv : List (Addr × Obj)} {σ : L2.St} {H : Hp} {s s1 sw : Shared} (hP : XI.P = X.prog) (hw : XI.w = X.w) (hst : XI.stack = X.stack) (hos : XI.os0 = X.s_0.os) (ok : XI.Ok) (I : Inv X (pv ++ pins) σ H s) (esw : sw.heap = s.heap) (ik : IKeep XI sw s1)
    (hsub : ∀ b u, XI.HI b = some u → H b = some u) (hlt : X.s_0.heap.objs.size ≤ XI.L) (hloc : X.env.locals < XI.L) (hcl : ∀ x c, X.env.cells.lookup x = some c → c < XI.L) (hpl : ∀ p ∈ X.pn ++ pins, p.1 < XI.L ∨ (XI.L < p.1 ∧ KeepO p.2))
    (hplain : ∀ b u, XI.L ≤ b → H b = some u → PlainO u) (hfs : ∀ b ∈ X.fs, b < XI.L) (hHL : H XI.L = none) : Inv X pins σ H s1 := by
  have ik' : IKeep XI s s1 := ⟨ik.os, ik.bare, fun b o h1 h2 h3 => ik.below b o h1 h2 (by rw [esw]; exact h3), fun b o h1 h2 h3 => ik.above b o h1 h2 (by rw [esw]; exact h3), ik.hid⟩
  exact outer_after (pv' := []) (H' := H) hP hw hst hos ok I ik' hsub hlt hloc hcl hpl hplain hfs hHL (fun b u e => e) (fun b o e hb n => n) (fun b u e => .inl e) (fun p hp => by simp at hp) (fun p hp => by simp at hp)
theorem outer_wake {pins pv : List (Addr × Obj)} {σ : L2.St} {H : Hp} {s : Shared} {G : Array GenState} (hP : XI.P = X.prog) (hw : XI.w = X.w) (hst : XI.stack = X.stack) (hbs : XI.base = X.base) (hos : XI.os0 = X.s_0.os) (ok : XI.Ok) (I : Inv X (pv ++ pins) σ H s) (hsub : ∀ b u, XI.HI b = some u → H b = some u) (hG : AllBare G) :
    IWake XI pv { s with gens := G } :=
  ⟨by rw [hos]; exact I.os, hG, fun p hp => (I.pin p (List.mem_append_right _ (List.mem_append_left _ hp))).1, fun b o e => I.bk b o (by rw [← hbs]; exact e), by rw [hst, hbs]; exact I.stack, fun b u e => by
    rw [hP, hw]; exact simple_ok hsub (ok.hi b u e).2 (I.hok b u (hsub b u e))⟩
end

section
variable {X : Cx}
theorem hold_pa {es : List Expr} {t : TA} {z : List (Nat × GenState)} {g : Nat} {pins : List (Addr × Obj)} {σ : L2.St} {H : Hp} {s : Shared} {Q : List V → Hp → Prop} {E : Value → Shared → Prop} {pos : Pos} (he : PA X es t) (hx : NoExc X) (I : Inv X pins σ H s) (hz : Hold z g s.gens) (h : t σ H Q) :
    wpAny (model X.prog X.w) X.A (spliced (backTo pos (starEach es X.env))) (fun u s' => Hold z g s'.gens ∧ AP X pins σ Q u s') E s := by
  refine wpAny_mono (hold_run hx I hz (fun s' I' => he.run pos pins s' σ H Q I' h) fun a s' q => ?_) (fun u s' q => ?_) fun _ _ q => q
  · obtain ⟨_, _, I', _⟩ := q; exact I'.bare
  · obtain ⟨a1, a2, G', v, H', I', q⟩ := q
    exact ⟨a1, v, H', Inv_back I' a2, q⟩
/-- .. where none sleeps at the entry -/
structure GS0 (X : Cx) (st : Stmt) (t : TGn) : Prop where
  run : ∀ (A : Around) (S : Addr) (ip : List (Addr × Obj)) (g : Nat) (R : GenEnd) (n : Nat) (ys : List V) (s₀ : Shared) (c : Code) (fs : List Frame) (K : Flow → Sem PySem.Fin) (J : Value → Sem PySem.Fin) (gd : Bool → Bool) (lv : List Value → List Value) (s : Shared) (σ : L2.St) (H : Hp) (D : GEnds),
    GC X S ip A c fs gd → n + ys.length = sizeLine → GK2 X S ip [] g A R c fs K D → GI2 X S ip [] g ys σ H s → t D ys σ H →
    Seg (model X.prog X.w) A R (GY2 X S g) n s₀ c ((exec st X.env).wrap K J gd lv) fs s
structure GSs0 (X : Cx) (st : List Stmt) (t : TGn) : Prop where
  run : ∀ (A : Around) (S : Addr) (ip : List (Addr × Obj)) (g : Nat) (R : GenEnd) (n : Nat) (ys : List V) (s₀ : Shared) (c : Code) (fs : List Frame) (K : Flow → Sem PySem.Fin) (J : Value → Sem PySem.Fin) (gd : Bool → Bool) (lv : List Value → List Value) (s : Shared) (σ : L2.St) (H : Hp) (D : GEnds),
    GC X S ip A c fs gd → n + ys.length = sizeLine → GK2 X S ip [] g A R c fs K D → GI2 X S ip [] g ys σ H s → t D ys σ H →
    Seg (model X.prog X.w) A R (GY2 X S g) n s₀ c ((execs st X.env).wrap K J gd lv) fs s
theorem GS2.gs0 {st : Stmt} {t : TGn} (h : GS2 X st t) : GS0 X st t := ⟨fun A S ip g => h.run A S ip [] g⟩
theorem gss_nil0 : GSs0 X [] tG0 := ⟨fun A S ip g => gss_nil2.run A S ip [] g⟩
theorem gss_cons0 {st : Stmt} {rest : List Stmt} {t u : TGn} (a : GS0 X st t) (b : GSs0 X rest u) : GSs0 X (st :: rest) (tGThen t u) := by
  refine ⟨fun A S ip g R n ys s₀ c fs K J gd lv s σ H D gc hn k hI ht => ?_⟩
  refine seg_execs_cons ?_
  refine a.run A S ip g R n ys s₀ c fs _ J gd lv s σ H { D with nx := fun ys' σ' H' => u D ys' σ' H' } gc hn (fun n' ys' s₀' s' f hn' hs => ?_) hI ht
  cases f with
  | next =>
    obtain ⟨σ', H', I', q⟩ := hs
    exact b.run A S ip g R n' ys' s₀' c fs K J gd lv s' σ' H' D gc hn' k I' q
  | brk => exact k n' ys' s₀' s' .brk hn' hs
  | cont => exact k n' ys' s₀' s' .cont hn' hs
  | ret u => exact k n' ys' s₀' s' (.ret u) hn' hs
/-- for x in f(..): body, f a generator's def. L: a line above all that is there -/
def tGForG (sp : SpI) (ta : TA) (tgr : TG) (tb : TGn) : TGn := fun D ys σ H => ta σ H fun vs H1 => ∃ HI Nn want, sp vs HI Nn want ∧ (∀ b u, HI b = some u → H1 b = some u ∧ SimpleO HI u) ∧
  ∀ L, (∀ b, L ≤ b → H1 b = none) → ∃ W : Nat → List V → L2.St → Hp → Prop, W 0 ys σ H1 ∧ (∀ i ys σ H, W i ys σ H → (∀ b u, HI b = some u → H b = some u) ∧ ∀ b u, L ≤ b → H b = some u → PlainO u) ∧
  (∀ i ys σ H d, i < Nn → W i ys σ H → H d = none → tgr (.ref d) σ (upd H d (.dK (want i))) fun σ2 H2 => tb { D with nx := W (i + 1), ct := fun _ _ _ => False, bk := fun _ _ _ => False, rt := fun _ _ _ => False } ys σ2 H2) ∧ ∀ ys σ H, W Nn ys σ H → D.nx ys σ H
theorem gs_forG {k : Nat} {f : Addr} {fd : FuncData} {ps : List Str} {sp : SpI} {fn : Str} {e : Expr} {es : List Expr} {tg : Expr} {body : List Stmt} {p cp pos : Pos} {ta : TA} {tgr : TG} {tb : TGn} (hx : NoExc X) (hc : X.calm = true) (F : GInn X.prog X.w X.K X.mg X.base k f fd ps sp) (hr : Room (k + 1) X.A)
    (hg : Gl X fn) (hm : X.mg fn = some (.ref f)) (hk : PySem.W.keepIn X.K (.ref f) = true) (hb : Binds X.K fd ps []) (ha : PA X (e :: es) ta) (hgt : PG X tg tgr) (hbd : GSs2 X body tb)
    (hnt : ∀ (M : Model) (A : Around) (it v : Value) (Q : Unit → Shared → Prop) (E : Value → Shared → Prop) (s : Shared), (∃ ga o vs, it = .ref ga ∧ s.heap.get? ga = some o ∧ o.cls = .type "generator" ∧ o.data = .fields vs) → Q () s → wpAny M A (letOwnedTupleGo tg it v) Q E s)
    (hdb : (fn == ("__debug__" : Str)) = false := by decide) (he : starEach (e :: es) X.env = (false, eval e X.env) :: starEach es X.env := by rfl) (hpl : (backTo cp (starEach es X.env)).any (·.1) = false := by rfl)
    (hs : ∀ x, foldedSetIterable (.Call (.Name fn p) (e :: es) [] cp) X.env x = pure x := by intro _; rfl) :
    GS0 X (.For tg (.Call (.Name fn p) (e :: es) [] cp) body [] pos) (tGForG sp ta tgr tb) := by
  refine ⟨fun A S ip g R n ys s₀ c fs K J gd lv s σ H D gc hn kk hI ht => ?_⟩
  obtain ⟨⟨acc, cc, r, I⟩, hz⟩ := hI
  refine seg_For hs ?_
  rw [gc.over]
  refine wpAny_Call_Name_kw (ld_glob I hg hm ?_ hdb)
  refine PySem.W.callWith_K (h₀ := X.base) I.ok.mod.kin hk (thn (hold_pa (E := fun _ _ => False) ha hx I hz ht) fun us s1 h1 => ?_) he hpl
  obtain ⟨hz1, vs, H1, I1, ru, HI, Nn, want, hsp, hHI, hW⟩ := h1
  refine ⟨I1.kIn, ?_⟩
  have hl := F.len _ _ _ _ hsp
  have hb1 := hb s1 us I1.kIn (by rw [List.append_nil, ← ru.length]; exact hl)
  rw [List.append_nil] at hb1
  refine wpAny_call (codeAny_mono (F.run X.A X.stack s1 H1 HI ⟨us, []⟩ us vs Nn want (hr.mono (Nat.le_succ _)) I1.env0 hb1 ru hsp hHI) fun rr s2 hq => ?_)
  cases rr with
  | error e => exact False.elim hq
  | ok fl =>
    cases fl with
    | next => exact False.elim hq
    | brk => exact False.elim hq
    | cont => exact False.elim hq
    | ret u =>
      obtain ⟨ga, cd, oL, og, h', tk, eu, hga, es2, gog, kog, hgen, ⟨gvs, ogc, ogd⟩, keep, goL, oLc, wake⟩ := hq
      subst eu
      -- the fixed things
      have ok : IFix.Ok ⟨X.prog, X.w, X.K, X.mg, X.base, X.stack, s1.heap.objs.size, HI, s1.os⟩ := by
        refine ⟨I1.ok.mod, Nat.le_trans I1.ok.bsz I1.sz, fun b o e => ?_, fun b hb => ?_, fun b hb => ?_, fun b u e => ⟨I1.hok.lt (hHI b u e).1, (hHI b u e).2⟩⟩
        · cases q : HI b with
          | none => exact q
          | some u =>
            have := (hHI b u q).1
            rw [(I1.bs b o e).2] at this; cases this
        · obtain ⟨_, o, ho, _⟩ := I1.stack.mem hb
          exact Heap.lt_size ho
        · cases q : HI b with
          | none => exact q
          | some u =>
            have := (hHI b u q).1
            rw [I1.stkFree b hb] at this; cases this
      have bare2 : AllBare (s1.gens.push (.fresh cd)) := AllBare.push I1.bare rfl
      have I2 : Inv X ((S, lstObj acc cc) :: ip) σ H1 s2 := by
        rw [es2]
        exact Inv_gens (I1.kept (t' := tk) keep) bare2
      have g2 : s2.gens[s1.gens.size]? = some (.fresh cd) := by rw [es2]; exact Array.getElem?_push_size ..
      have h2 : s2.heap = h' := by rw [es2]
      obtain ⟨W, w0, wf, wstep, wend⟩ := hW s1.heap.objs.size fun b hb => I1.hok.fresh hb
      have gi_ne : s1.gens.size ≠ g := Nat.ne_of_gt hz1.1
      have iG : ∀ h : Heap, h.get? ga = some og → h.IsGen ga s1.gens.size := hgen
      refine wpAny_pyIter_gen (iG _ (by rw [h2]; exact gog)) fun pp => ?_
      have gl := fun (kk : Result → Sem PySem.Fin) => gc_loop (k := kk) (c' := .forLoop tg (.ref ga) body [] X.env) (l := lv []) (kp := []) (p := pp) gc rfl rfl
      have hloc : X.env.locals < s1.heap.objs.size := I1.lt
      have hcl : ∀ x c, X.env.cells.lookup x = some c → c < s1.heap.objs.size := fun x c e => let ⟨v, o, ho, _⟩ := I1.cell x c e; Heap.lt_size ho
      have hfs : ∀ b ∈ X.fs, b < s1.heap.objs.size := fun b hb => let ⟨_, o, ho, _⟩ := I1.funs.mem hb; Heap.lt_size ho
      have hSl : S < s1.heap.objs.size := Heap.lt_size (I1.pin (S, lstObj acc cc) (List.mem_append_right _ List.mem_cons_self)).1
      have hipl : ∀ p ∈ X.pn ++ ip, p.1 < s1.heap.objs.size := fun p hp => by
        rcases List.mem_append.mp hp with hp | hp
        · exact Heap.lt_size (I1.pin p (List.mem_append_left _ hp)).1
        · exact Heap.lt_size (I1.pin p (List.mem_append_right _ (List.mem_cons_of_mem _ hp))).1
      have hpl2 : ∀ (accx : Array Value) (ccx : Nat), ∀ p ∈ X.pn ++ ((S, lstObj accx ccx) :: (ga, og) :: ip), p.1 < s1.heap.objs.size ∨ (s1.heap.objs.size < p.1 ∧ KeepO p.2) := fun accx ccx p hp => by
        rcases List.mem_append.mp hp with hp | hp
        · exact .inl (hipl p (List.mem_append_left _ hp))
        · rcases List.mem_cons.mp hp with rfl | hp
          · exact .inl hSl
          · rcases List.mem_cons.mp hp with rfl | hp
            · exact .inr ⟨hga, kog⟩
            · exact .inl (hipl p (List.mem_append_right _ hp))
      have hos0 : s1.os = X.s_0.os := I1.os
      have hlt0 : X.s_0.heap.objs.size ≤ s1.heap.objs.size := I1.sz
      have ord : ∀ {pv : List (Addr × Obj)} {acc : Array Value} {cc : Nat} {σ : L2.St} {H : Hp} {s : Shared}, Inv X (pv ++ ((S, lstObj acc cc) :: (ga, og) :: ip)) σ H s → Inv X ((S, lstObj acc cc) :: (pv ++ (ga, og) :: ip)) σ H s := fun J => J.pins_of fun p hp => by
        refine J.pin p (List.mem_append_right _ ?_)
        rcases List.mem_cons.mp hp with hp | hp
        · rw [hp]; exact List.mem_append_right _ List.mem_cons_self
        · rcases List.mem_append.mp hp with hp | hp
          · exact List.mem_append_left _ hp
          · exact List.mem_append_right _ (List.mem_cons_of_mem _ hp)
      have ord' : ∀ {pv : List (Addr × Obj)} {acc : Array Value} {cc : Nat} {σ : L2.St} {H : Hp} {s : Shared}, Inv X ((S, lstObj acc cc) :: (pv ++ (ga, og) :: ip)) σ H s → Inv X (pv ++ ((S, lstObj acc cc) :: (ga, og) :: ip)) σ H s := fun J => J.pins_of fun p hp => by
        refine J.pin p (List.mem_append_right _ ?_)
        rcases List.mem_append.mp hp with hp | hp
        · exact List.mem_cons_of_mem _ (List.mem_append_left _ hp)
        · rcases List.mem_cons.mp hp with hp | hp
          · rw [hp]; exact List.mem_cons_self
          · exact List.mem_cons_of_mem _ (List.mem_append_right _ hp)
      -- the loop
      have loop : ∀ (m i n : Nat) (ys : List V) (s₀ s : Shared) (σ : L2.St) (H : Hp) (gs : GenState) (pv : List (Addr × Obj)) (acc : Array Value) (cc : Nat), Nn - i = m → i ≤ Nn → n + ys.length = sizeLine → W i ys σ H → Vals ys acc.toList →
          Inv X (pv ++ ((S, lstObj acc cc) :: (ga, og) :: ip)) σ H s → Hold [] g s.gens → s.gens[s1.gens.size]? = some gs → (∀ p ∈ pv, s1.heap.objs.size ≤ p.1) → (∃ o, (s1.heap.objs.size, o) ∈ pv) →
          (∀ s'', IWake ⟨X.prog, X.w, X.K, X.mg, X.base, X.stack, s1.heap.objs.size, HI, s1.os⟩ pv s'' → gs.Goes (model X.prog X.w) X.A.in1 (RI ⟨X.prog, X.w, X.K, X.mg, X.base, X.stack, s1.heap.objs.size, HI, s1.os⟩) (YI ⟨X.prog, X.w, X.K, X.mg, X.base, X.stack, s1.heap.objs.size, HI, s1.os⟩ Nn want) m (.send .none) s'') →
          Seg (model X.prog X.w) A R (GY2 X S g) n s₀ (.forLoop tg (.ref ga) body [] X.env) ((model X.prog X.w).den (.forLoop tg (.ref ga) body [] X.env))
            (.ret (fun r => ((match r with | .ok f => (.pure f : Sem Flow) | .error e => .raise e).onRaise (cameBack X.env)).wrap K J gd lv) none (gd false) (lv []) c pp [] :: fs) s := by
        intro m
        induction m with
        | zero =>
          intro i n ys s₀ s σ H gs pv acc cc hm' hi hn w rv I hzz hgs hpvL hpvE hgo
          have ei : i = Nn := by omega
          subst ei
          obtain ⟨wsub, wplain⟩ := wf _ _ _ _ w
          have hHL : H s1.heap.objs.size = none := by
            obtain ⟨o, ho⟩ := hpvE
            exact (I.pin _ (List.mem_append_right _ (List.mem_append_left _ ho))).2.1
          have hga2 : s.heap.get? ga = some og := (I.pin (ga, og) (List.mem_append_right _ (List.mem_append_right _ (List.mem_cons_of_mem _ List.mem_cons_self)))).1
          have W0 := outer_wake (XI := ⟨X.prog, X.w, X.K, X.mg, X.base, X.stack, s1.heap.objs.size, HI, s1.os⟩) rfl rfl rfl rfl hos0 ok I wsub (allBare_setGen (s := s) (g := s1.gens.size) (x := .running) I.bare rfl)
          refine seg_forLoop ?_
          rw [(gl _).over]
          refine wpAny_gsz (n := g + 1) hzz.1 (next_gen2 (XI := ⟨X.prog, X.w, X.K, X.mg, X.base, X.stack, s1.heap.objs.size, HI, s1.os⟩) (n := 0) hr.hd I.nolimit hr.depth (iG _ hga2) hgs (hgo _ W0) (fun v s₁ gs' m' e => by omega) (fun s₁ _ ik h' hkp => ?_) (fun v s₁ gs' _ hv => ?_))
          · intro hsz
            have J := outer_end (XI := ⟨X.prog, X.w, X.K, X.mg, X.base, X.stack, s1.heap.objs.size, HI, s1.os⟩) (sw := s.setGen s1.gens.size .running) rfl rfl rfl hos0 ok I rfl ik wsub hlt0 hloc hcl (hpl2 acc cc) wplain hfs hHL
            have J1 : Inv X ((S, lstObj acc cc) :: (ga, og) :: ip) σ H { s₁.setGen s1.gens.size .finished with heap := h' } := (Inv_gens J (allBare_setGen (s := s₁) J.bare rfl)).kept (t' := s₁.toks) hkp
            have J2 : Inv X ((S, lstObj acc cc) :: ip) σ H { s₁.setGen s1.gens.size .finished with heap := h' } := J1.pins_of fun p hp => J1.pin p (List.mem_append_right _ (by
              rcases List.mem_cons.mp hp with hp | hp
              · rw [hp]; exact List.mem_cons_self
              · exact List.mem_cons_of_mem _ (List.mem_cons_of_mem _ hp)))
            have hzend : Hold [] g (s₁.setGen s1.gens.size .finished).gens := ⟨hsz, fun p hp => by simp at hp⟩
            exact seg_leaf (.ok .next) (kk n ys s₀ _ .next hn ⟨σ, H, ⟨⟨acc, cc, rv, J2⟩, hzend⟩, wend _ _ _ w⟩)
          · exfalso
            obtain ⟨d, pv', _, hdn, J, _, _, hk⟩ := outer_item (XI := ⟨X.prog, X.w, X.K, X.mg, X.base, X.stack, s1.heap.objs.size, HI, s1.os⟩) (sw := s.setGen s1.gens.size .running) rfl rfl rfl hos0 ok I rfl hv wsub hlt0 hloc hcl (hpl2 acc cc) wplain hfs hHL
            refine hk s₁ (outer_wake (s := s₁) (G := s₁.gens) (H := upd H d _) rfl rfl rfl rfl hos0 ok J (fun b u e => ?_) J.bare)
            rw [upd_ne (ne_of_none (wsub b u e) hdn)]; exact wsub b u e
        | succ m ih =>
          intro i n ys s₀ s σ H gs pv acc cc hm' hi hn w rv I hzz hgs hpvL hpvE hgo
          have hlt : i < Nn := by omega
          have ei : Nn - 1 - m = i := by omega
          obtain ⟨wsub, wplain⟩ := wf _ _ _ _ w
          have hHL : H s1.heap.objs.size = none := by
            obtain ⟨o, ho⟩ := hpvE
            exact (I.pin _ (List.mem_append_right _ (List.mem_append_left _ ho))).2.1
          have hga2 : s.heap.get? ga = some og := (I.pin (ga, og) (List.mem_append_right _ (List.mem_append_right _ (List.mem_cons_of_mem _ List.mem_cons_self)))).1
          have W0 := outer_wake (XI := ⟨X.prog, X.w, X.K, X.mg, X.base, X.stack, s1.heap.objs.size, HI, s1.os⟩) rfl rfl rfl rfl hos0 ok I wsub (allBare_setGen (s := s) (g := s1.gens.size) (x := .running) I.bare rfl)
          have hgl : s1.gens.size < s.gens.size := (Array.getElem?_eq_some_iff.mp hgs).1
          refine seg_forLoop ?_
          rw [(gl _).over]
          refine wpAny_gsz (n := s1.gens.size + 1) hgl (next_gen2 (XI := ⟨X.prog, X.w, X.K, X.mg, X.base, X.stack, s1.heap.objs.size, HI, s1.os⟩) (n := m + 1) hr.hd I.nolimit hr.depth (iG _ hga2) hgs (hgo _ W0) (fun v s₁ gs' m' e hbr hsu hv => ?_) (fun s₁ e => by omega) (fun v s₁ gs' e => by omega))
          obtain rfl : m = m' := by omega
          intro hsz
          obtain ⟨d, pv', ev, hdn, JI, hpvL', hpvE', hk⟩ := outer_item (XI := ⟨X.prog, X.w, X.K, X.mg, X.base, X.stack, s1.heap.objs.size, HI, s1.os⟩) (sw := s.setGen s1.gens.size .running) rfl rfl rfl hos0 ok I rfl hv wsub hlt0 hloc hcl (hpl2 acc cc) wplain hfs hHL
          subst ev
          rw [ei] at JI
          have hsz1 : s1.gens.size < s₁.gens.size := by
            have q : (s₁.setGen s1.gens.size gs').gens.size = s₁.gens.size := setGen_size _ _ _
            omega
          have J1 : Inv X (pv' ++ ((S, lstObj acc cc) :: (ga, og) :: ip)) σ (upd H d (.dK (want i))) (s₁.setGen s1.gens.size gs') := Inv_gens JI (allBare_setGen (s := s₁) JI.bare hbr)
          have hz1' : Hold [(s1.gens.size, gs')] g (s₁.setGen s1.gens.size gs').gens := ⟨Nat.lt_trans hz1.1 (by rw [setGen_size]; exact hsz1), fun p hp => by
            rw [List.mem_singleton.mp hp]
            exact ⟨gi_ne, hsu, setGen_at hsz1⟩⟩
          have hga3 : (s₁.setGen s1.gens.size gs').heap.get? ga = some og := (J1.pin (ga, og) (List.mem_append_right _ (List.mem_append_right _ (List.mem_cons_of_mem _ List.mem_cons_self)))).1
          refine hnt _ _ _ _ _ _ _ ⟨ga, og, gvs, rfl, hga3, ogc, ogd⟩ ?_
          refine wpAny_mono (hold_pg (E := fun _ _ => False) hgt hx (ord J1) hz1' (show L2.RelV (.ref d) (.ref d) from rfl) (wstep i ys σ H d hlt w hdn)) (fun _ s3 h3 => ?_) fun _ _ z => z
          obtain ⟨hz3, σ3, H3, I3, q3⟩ := h3
          have gip : GC X S (pv' ++ (ga, og) :: ip) A (.forLoop tg (.ref ga) body [] X.env) (.ret (fun r => ((match r with | .ok f => (.pure f : Sem Flow) | .error e => .raise e).onRaise (cameBack X.env)).wrap K J gd lv) none (gd false) (lv []) c pp [] :: fs) id :=
            ⟨gc.pn, fun p hp => (List.mem_append.mp hp).elim (fun z => Nat.ne_of_gt (Nat.lt_of_lt_of_le hSl (hpvL' p z))) fun z => (List.mem_cons.mp z).elim (fun e => by rw [e]; exact Nat.ne_of_gt (Nat.lt_trans hSl hga)) (gc.ip p), gc.apart, (gl _).over, (gl _).split, (gl _).guard, rfl⟩
          refine hbd.run A S (pv' ++ (ga, og) :: ip) [(s1.gens.size, gs')] g R n ys s₀ _ _ _ _ id id s3 σ3 H3 { D with nx := W (i + 1), ct := fun _ _ _ => False, bk := fun _ _ _ => False, rt := fun _ _ _ => False } gip hn (fun n' ys' s₀' s4 f hn' hs => ?_) ⟨⟨acc, cc, rv, I3⟩, hz3⟩ q3
          cases f with
          | next =>
            obtain ⟨σ4, H4, ⟨⟨acc4, cc4, r4, I4⟩, hz4⟩, w4⟩ := hs
            refine seg_again rfl (ih (i + 1) n' ys' s₀' s4 σ4 H4 gs' pv' acc4 cc4 (by omega) hlt hn' w4 r4 (ord' I4) hz4.nil (hz4.2 _ List.mem_cons_self).2.2 hpvL' hpvE' hk)
          | cont => obtain ⟨_, _, _, q⟩ := hs; exact q.elim
          | brk => obtain ⟨_, _, _, q⟩ := hs; exact q.elim
          | ret v => obtain ⟨_, _, _, _, _, q⟩ := hs; exact q.elim
      have I3 : Inv X ([(s1.heap.objs.size, oL)] ++ ((S, lstObj acc cc) :: (ga, og) :: ip)) σ H1 s2 := I2.pins_of fun p hp => by
        rcases List.mem_cons.mp hp with hp | hp
        · rw [hp]
          exact ⟨by rw [h2]; exact goL, I1.hok.fresh (Nat.le_refl _), Nat.ne_of_gt hloc, fun z => absurd (hfs _ z) (Nat.lt_irrefl _), oLc⟩
        · rcases List.mem_cons.mp hp with hp | hp
          · exact I2.pin p (by rw [hp]; exact List.mem_append_right _ List.mem_cons_self)
          · rcases List.mem_cons.mp hp with hp | hp
            · rw [hp]
              exact ⟨by rw [h2]; exact gog, I1.hok.fresh (Nat.le_of_lt hga), Nat.ne_of_gt (Nat.lt_trans hloc hga), fun z => absurd (hfs _ z) (Nat.not_lt.mpr (Nat.le_of_lt hga)), kog.2.2⟩
            · exact I2.pin p (List.mem_append_right _ (List.mem_cons_of_mem _ hp))
      refine loop Nn 0 n ys s₀ s2 σ H1 (.fresh cd) [(s1.heap.objs.size, oL)] acc cc (Nat.sub_zero _) (Nat.zero_le _) hn w0 r I3 ⟨?_, fun p hp => by simp at hp⟩ g2 (fun p hp => by rw [List.mem_singleton.mp hp]; exact Nat.le_refl _) ⟨oL, by simp⟩ fun s'' W'' => ⟨rfl, wake X.A.in1 hr.in1 I1.ok.frames s'' W''⟩
      have e2 : s2.gens = s1.gens.push (.fresh cd) := by rw [es2]
      rw [e2, Array.size_push]
      exact Nat.lt_succ_of_lt hz1.1
end
end SC
set_option Elab.async false
set_option linter.all false
set_option maxRecDepth 100000
set_option maxHeartbeats 1000000
/-! GH: list(f(..)), f a generator's def that walks another generator. -/
namespace SC
open PySem PySem.Spec PyProof.Rows L2 GenW

/-- the end of the outer run -/
def REnd2 (P : Program) (w : World) (outer : List Env) (H : Hp) (s : Shared) (S : Addr) (Q : List V → Hp → Prop) : GenEnd := fun n s₀ r s1 =>
  ((r = .ok (.ret .none) ∨ r = .ok .next) ∧ ∃ H' ys acc c, s1.os = s.os ∧ AllBare s1.gens ∧ Un (frs outer) [] H H' s.heap s1.heap ∧ HOk P w H' s1.heap ∧ H' S = none ∧ s1.heap.get? S = some (lstObj acc c) ∧ Vals ys acc.toList ∧ ys.length ≤ sizeLine ∧ Q ys H') ∨
  ∃ e, r = .error e ∧ False
def YItem2 (s : Shared) (S a : Addr) (g : Nat) : Protocol := fun n s₀ v s1 kap =>
  s1.os = s.os ∧ AllBare s1.gens ∧ s1.heap.NoLimit ∧ s1.heap.IsGen a g ∧ g < s1.gens.size ∧ (∃ (acc : Array Value) (c : Nat), s1.heap.get? S = some (lstObj acc c) ∧ n + 1 + acc.size = sizeLine) ∧ ∀ s', Slp S g v s1 s' → kap (.send .none) s'
def GMade2 (P : Program) (w : World) (k : Nat) (outer : List Env) (H : Hp) (s : Shared) (Q : List V → Hp → Prop) (u : Value) (s' : Shared) : Prop :=
  ∃ (a : Addr) (g : Nat) (c : Code), u = .ref a ∧ s.heap.objs.size ≤ a ∧ a < s'.heap.objs.size ∧ s'.heap.IsGen a g ∧ s'.gens[g]? = some (.fresh c) ∧ s'.os = s.os ∧ AllBare s'.gens ∧ s'.heap.NoLimit ∧ (∀ b o, s.heap.get? b = some o → s'.heap.get? b = some o) ∧
    ∀ (A : Around) (S : Addr) (s2 : Shared), Room k A → A.frames = some outer → s'.heap.objs.size ≤ S → (∀ b o, s'.heap.get? b = some o → s2.heap.get? b = some o) → (∃ c, s2.heap.get? S = some (lstObj #[] c)) → s2.os = s.os → AllBare s2.gens → g < s2.gens.size →
      Seg (model P w) A (REnd2 P w outer H s S Q) (YItem2 s S a g) sizeLine s2 c ((model P w).den c) [] s2
/-- the promise of a generator's def, no exception -/
abbrev SpG2 := List V → Hp → (List V → Hp → Prop) → Prop
structure GFn2 (P : Program) (w : World) (K : PySem.W.Frag) (mg : Str → Option Value) (base : Heap) (k : Nat) (f : Addr) (fd : FuncData) (ps : List Str) (sp : SpG2) : Prop where
  len : ∀ vs H Q, sp vs H Q → vs.length = ps.length
  run : ∀ (A : Around) (outer : List Env) (s : Shared) (H : Hp) (args : Args) (us : List Value) (vs : List V) (Q : List V → Hp → Prop), Room k A → Env0 P w K mg base A outer s H → BindsTo s fd args (ps.zip us) → Vals vs us → sp vs H Q →
    codeAny (model P w) A (.call (.ref f) args) (fun r s' => match r with | .ok (.ret u) => GMade2 P w k outer H s Q u s' | _ => False) s
/-- its body's context -/
abbrev ocx (P : Program) (w : World) (K : PySem.W.Frag) (mg : Str → Option Value) (base : Heap) (N : List Str) (qual : Str) (scope : Scope) (f : Addr) (cd : Value) (A : Around) (outer : List Env) (s : Shared) (H : Hp) (pn : List (Addr × Obj)) : Cx :=
  (gcxOf P w K mg base N qual scope f cd A outer s H (fun _ _ _ => False) pn).nox
theorem gfn2_of {P : Program} {w : World} {K : PySem.W.Frag} {mg : Str → Option Value} {base : Heap} {k : Nat} {f : Addr} {name qual : Str} {params : Arguments} {body : List Stmt} {scope : Scope} {dV kV doc pm cdv ct oc : Value} {an od : Option Addr}
    {osl : Array (Option Value)} {N ps : List Str} {sp : SpG2} (lk : K.lookup f = some ⟨oc, od, .func (PySem.W.fnOf name qual params body scope dV kV doc pm an cdv ct), osl⟩) (hcd : PySem.W.codeIn K cdv qual = true) (S : GScope N ps scope)
    (len : ∀ vs H Q, sp vs H Q → vs.length = ps.length)
    (hbody : ∀ (A : Around) (outer : List Env) (s : Shared) (H : Hp) (vs : List V) (Q : List V → Hp → Prop) (pn : List (Addr × Obj)), Room k (A.deeper (envOfC qual scope s.heap.objs.size f cdv)) → sp vs H Q →
      ∃ t, GSs0 (ocx P w K mg base N qual scope f cdv A outer s H pn) body t ∧ t { nx := fun ys _ H' => Q ys H', rt := fun _ _ _ => False } [] (start N vs) H) :
    GFn2 P w K mg base (k + 1) f (PySem.W.fnOf name qual params body scope dV kV doc pm an cdv ct) ps sp := by
  refine ⟨len, fun A outer s H args us vs Q hr e0 hb r hsp => ?_⟩
  have hl := len _ _ _ hsp
  have KX : K.In s.heap := e0.mod.kin.keeps fun b o e => (e0.bs b o e).1
  have lim : s.heap.NoLimit := e0.mod.nolimit.keeps fun b o e => (e0.bs b o e).1
  have hkind : ∀ y ∈ ps.zip us, scope.names.lookup y.1 = some .local ∨ (scope.names.lookup y.1 = some .cell ∧ ((cellsFrom (s.heap.objs.size + 1) scope.names []).lookup y.1).isSome = true) := fun ⟨n, v⟩ hy => by
    rcases S.par n (List.of_mem_zip hy).1 with q | q
    · exact .inl q
    · exact .inr ⟨q, PySem.W.cellsFrom_some _ _ _ (.inl q)⟩
  refine codeAny_call_generator hr.depth (KX _ _ lk) rfl S.co S.gen rfl (PySem.W.codeRec_of KX hcd) (hb _ _ _ _ ?_)
  refine wpAny_newFunctionEnv_cells S.kind hkind fun env he s1 x => ?_
  subst he
  have lim1 : s1.heap.NoLimit := lim.keeps x.toInCall.keep
  refine ⟨lim1, ?_⟩
  obtain ⟨h1, tk, es1, hk1⟩ := x.done
  have os1 : s1.os = s.os := by rw [es1]
  have gen1 : s1.gens = s.gens := by rw [es1]
  have lt1 : s.heap.objs.size < s1.heap.objs.size := x.toInCall.ns.lt
  have sz1 : s.heap.objs.size ≤ s1.heap.objs.size := Nat.le_of_lt lt1
  have kp1 : ∀ b o, s.heap.get? b = some o → s1.heap.get? b = some o := x.toInCall.keep
  have main : ∀ (go : Obj) (nm qn : Value) (tk2 : Nat), go.cls = .type "generator" → go.data = .fields #[.int s1.gens.size 0, nm, qn] → go.slots = #[] → (∀ h : Heap, (h.push go).get? h.objs.size = some go) →
      GMade2 P w (k + 1) outer H s Q (.ref s1.heap.objs.size) { s1 with gens := s1.gens.push (.fresh (.func body (envOfC qual scope s.heap.objs.size f cdv))), toks := tk2, heap := s1.heap.push go } := by
    intro go nm qn tk2 hgc hgd0 hgs hgp
    have hgen : ∀ h : Heap, h.get? s1.heap.objs.size = some go → h.IsGen s1.heap.objs.size s1.gens.size := fun h e => ⟨go, nm, qn, e, hgc, hgd0, hgs⟩
    have hpushed : (s1.heap.push go).get? s1.heap.objs.size = some go := hgp _
    refine ⟨s1.heap.objs.size, s1.gens.size, _, rfl, sz1, ?_, hgen _ hpushed, Array.getElem?_push_size .., os1, ?_, lim1.keeps fun b o e => Heap.get?_push_of_some _ e, fun b o e => Heap.get?_push_of_some _ (kp1 b o e), ?_⟩
    · show _ < (s1.heap.push _).objs.size
      rw [Heap.size_push]; exact Nat.lt_succ_self _
    · exact AllBare.push (by rw [gen1]; exact e0.bare) rfl
    intro Aw Sx s2 hrw hfr hSx hk2 hSo hos hba hgsz
    have e0w : Env0 P w K mg base Aw outer s H := ⟨hfr, e0.mod, e0.bs, e0.bsz, e0.funs, e0.frf, e0.hok, e0.bare⟩
    obtain ⟨t, ht, hq⟩ := hbody Aw outer s H vs Q [(s1.heap.objs.size, go)] (hrw.deeper _) hsp
    have I1 : Inv (gcxOf P w K mg base N qual scope f cdv Aw outer s H (fun _ _ _ => False) []) [] (start N vs) H s1 := inv_startG S hrw.hd e0w hl r x
    have kp2 : ∀ b o, s1.heap.get? b = some o → s2.heap.get? b = some o := fun b o e => hk2 b o (Heap.get?_push_of_some _ e)
    have I2 : Inv (gcxOf P w K mg base N qual scope f cdv Aw outer s H (fun _ _ _ => False) []) [] (start N vs) H s2 :=
      I1.call' (ch := []) (hos.trans os1.symm) (Un.kept kp2) (I1.hok.kept kp2) hba fun b z => by simp at z
    have hSz : s1.heap.objs.size < Sx := by
      have hSx' : (s1.heap.push go).objs.size ≤ Sx := hSx
      rw [Heap.size_push] at hSx'
      exact hSx'
    obtain ⟨cS, heS⟩ := hSo
    have hea : s2.heap.get? s1.heap.objs.size = some go := hk2 s1.heap.objs.size go hpushed
    have hgd : ∀ v, go.data ≠ .cell v := fun v q => by rw [hgd0] at q; cases q
    have young : ∀ b, s1.heap.objs.size ≤ b → H b = none ∧ b ≠ s.heap.objs.size ∧ b ∉ frs outer ∧ s.heap.objs.size ≤ b ∧ ∀ y c, (cellsFrom (s.heap.objs.size + 1) scope.names []).lookup y = some c → c ≠ b := fun b hb => by
      refine ⟨I1.hok.fresh hb, Nat.ne_of_gt (Nat.lt_of_lt_of_le lt1 hb), I1.nofs hb, Nat.le_trans sz1 hb, fun y c e z => ?_⟩
      obtain ⟨v, ob, ho, _⟩ := I1.cell y c e
      have := Heap.lt_size ho
      rw [z] at this
      exact absurd (Nat.lt_of_lt_of_le this hb) (Nat.lt_irrefl _)
    have hSne : s1.heap.objs.size ≠ Sx := Nat.ne_of_lt hSz
    have hG0 : Inv (gcxOf P w K mg base N qual scope f cdv Aw outer s H (fun _ _ _ => False) [(s1.heap.objs.size, go)]) [(Sx, lstObj #[] cS)] (start N vs) H s2 := Inv.pinnedG I2 fun p hp => by
      rcases List.mem_append.mp hp with z | z
      · rw [List.mem_singleton.mp z]
        obtain ⟨y1, y2, y3, _, _⟩ := young s1.heap.objs.size (Nat.le_refl _)
        exact ⟨hea, y1, y2, y3, hgd⟩
      · rw [List.mem_singleton.mp z]
        obtain ⟨y1, y2, y3, _, _⟩ := young Sx (Nat.le_of_lt hSz)
        exact ⟨heS, y1, y2, y3, fun v q => by cases q⟩
    have hG : GI2 (ocx P w K mg base N qual scope f cdv Aw outer s H [(s1.heap.objs.size, go)]) Sx [] [] s1.gens.size [] (start N vs) H s2 :=
      ⟨⟨#[], cS, .nil, hG0.wish _⟩, ⟨hgsz, fun p hp => by simp at hp⟩⟩
    have hAp : Apart (ocx P w K mg base N qual scope f cdv Aw outer s H [(s1.heap.objs.size, go)]) Sx := by
      obtain ⟨_, y2, _, y4, y5⟩ := young Sx (Nat.le_of_lt hSz)
      exact ⟨y4, y2, y5⟩
    have hpn : ∀ p ∈ [(s1.heap.objs.size, go)], p.1 ≠ Sx := fun p hp => by
      rw [List.mem_singleton.mp hp]
      exact hSne
    have pinned : ∀ {ip : List (Addr × Obj)} {ys : List V} {s' : Shared} {σ' : L2.St} {H' : Hp}, GI (ocx P w K mg base N qual scope f cdv Aw outer s H [(s1.heap.objs.size, go)]) Sx ip ys σ' H' s' → s'.heap.IsGen s1.heap.objs.size s1.gens.size := fun {ip ys s' σ' H'} hI => by
      obtain ⟨acc, cc, _, J⟩ := hI
      exact hgen _ (J.pin (s1.heap.objs.size, go) (List.mem_append_left _ (List.mem_singleton.mpr rfl))).1
    refine seg_func ?_
    refine seg_imp (R := fun n s₀ r s1' => ∃ ys ip σ' H', r = .ok (.ret .none) ∧ n + ys.length = sizeLine ∧ GI (ocx P w K mg base N qual scope f cdv Aw outer s H [(s1.heap.objs.size, go)]) Sx ip ys σ' H' s1' ∧ Q ys H')
      (Y := GY2 (ocx P w K mg base N qual scope f cdv Aw outer s H [(s1.heap.objs.size, go)]) Sx s1.gens.size) (fun n s₀ r s1' hR => ?_) (fun n s₀ v s1' kap kap' hkk hY => ?_) sizeLine ?_
    · obtain ⟨ys, ip, σ', H', er, hn, hI, hQ⟩ := hR
      obtain ⟨a1, _, _, acc, cc, ra, ea⟩ := hI.at
      obtain ⟨_, _, _, J⟩ := hI
      exact .inl ⟨.inl er, H', ys, acc, cc, J.os, J.bare, J.base, J.hok, a1, ea, ra, by omega, hQ⟩
    · obtain ⟨ys, xx, ip, σ', H', hn, h2, hI, hgs2, h3⟩ := hY
      obtain ⟨_, _, _, acc, cc, ra, ea⟩ := hI.at
      have hg := pinned hI
      obtain ⟨_, _, _, J⟩ := hI
      have hsz : acc.size = ys.length := by
        have e1 := ra.length
        have e2 : acc.toList.length = acc.size := by simp
        omega
      exact ⟨J.os, J.bare, J.nolimit, hg, hgs2, ⟨acc, cc, ea, by rw [hsz]; exact hn⟩, fun s' z => hkk _ _ (h3 s' z)⟩
    · refine ht.run Aw Sx [] s1.gens.size _ sizeLine [] s2 _ [] _ _ id id s2 (start N vs) H _ ⟨hpn, fun p hp => (by simp at hp), hAp, over_func, rfl, rfl, rfl⟩ (Nat.add_zero _) (fun n ys s₀ s' fl hn hs => ?_) hG hq
      cases fl with
      | next =>
        obtain ⟨σ', H', hI, hQ⟩ := hs
        exact seg_end (.ok (.ret .none)) ⟨ys, [], σ', H', rfl, hn, hI.1, hQ⟩
      | brk => obtain ⟨_, _, _, q⟩ := hs; exact False.elim q
      | cont => obtain ⟨_, _, _, q⟩ := hs; exact False.elim q
      | ret u => obtain ⟨_, _, _, _, _, q⟩ := hs; exact False.elim q
  exact main _ _ _ _ rfl rfl rfl fun h => Heap.get?_push_size _ rfl

theorem slp_push {S : Addr} {g : Nat} {v : Value} {s : Shared} {acc : Array Value} {c : Nat} {gs : GenState} (hS : s.heap.get? S = some (lstObj acc c)) (hb : AllBare s.gens) (hbr : gs.bare = true) :
    Slp S g v s ({ s.setGen g gs with heap := s.heap.update S (Obj.mapSeq (·.push v)) } : Shared) :=
  ⟨Slept.push hS (allBare_setGen hb hbr), fun k x hk e => by
    show (s.gens.setIfInBounds g gs)[k]? = some x
    rw [Array.getElem?_setIfInBounds_ne (Ne.symm hk)]; exact e, (setGen_size s g gs).symm⟩
theorem drain2 {P : Program} {w : World} {outer : List Env} {H : Hp} {sc : Shared} {Q : List V → Hp → Prop} {A : Around} {R : Result → Shared → Prop} {S a : Addr} {g : Nat} {res : Value}
    (hh : A.handled = none) (hd : A.depth < recursionLimit) (hSa : S ≠ a) (hSc : S ≠ cStatics)
    (hend : ∀ s' acc c H' ys, s'.heap.get? S = some (lstObj acc c) → Vals ys acc.toList → ys.length ≤ sizeLine → s'.os = sc.os → AllBare s'.gens → Un (frs outer) [] H H' sc.heap s'.heap → HOk P w H' s'.heap → H' S = none → Q ys H' → R (.ok (.ret res)) s') :
    ∀ (m : Nat) (s : Shared), s.heap.IsGen a g → s.heap.NoLimit →
      (∃ gs, s.gens[g]? = some gs ∧ gs.Goes (model P w) A.in1.in1 (REnd2 P w outer H sc S Q) (YItem2 sc S a g) m (.send .none) (s.setGen g .running)) →
      codeAny (model P w) A (.builtin "list.extend.loop" ⟨[.ref S, .ref a, res], []⟩) R s := by
  intro m
  induction m with
  | zero =>
    intro s hg hl ⟨gs, hgs, hgo⟩
    refine codeAny_builtin F.entry_extend_loop ?_
    rw [Around.under_plainId F.plain_extend_loop _]
    show wpAny _ A.in1 (pyNext (.ref a) >>= _) _ _ s
    refine wpAny_bind (next_genG (A := A.in1) (Er := fun _ _ => False) hh hl hd hg hgs hgo (fun v s₁ gs' hbare hv => ?_) (fun s₁ hp h' hk => ?_) fun e s₁ he => he.elim)
    · obtain ⟨_, hb1, _, _, _, ⟨acc, c, hS1, _⟩, hk⟩ := hv
      exact False.elim (hk _ (slp_push (gs := .running) hS1 hb1 rfl))
    · obtain ⟨H', ys, acc, c, os1, hb1, un, hok, hSn, hS1, hv, hle, hQ⟩ := hp
      exact wpAny_pure (hend _ acc c H' ys (hk _ _ hS1) hv hle os1 (allBare_setGen hb1 rfl) (un.trans (Un.kept hk)) (hok.kept hk) hSn hQ)
  | succ m ih =>
    intro s hg hl ⟨gs, hgs, hgo⟩
    refine codeAny_builtin F.entry_extend_loop ?_
    rw [Around.under_plainId F.plain_extend_loop _]
    show wpAny _ A.in1 (pyNext (.ref a) >>= _) _ _ s
    refine wpAny_bind (next_genG (A := A.in1) (Er := fun _ _ => False) hh hl hd hg hgs hgo (fun v s₁ gs' hbare hv => ?_) (fun s₁ hp h' hk => ?_) fun e s₁ he => he.elim)
    · obtain ⟨os1, hb1, hl1, hg1, hsz1, ⟨acc, c, hS1, hasz⟩, hk⟩ := hv
      have hasz' : acc.size < sizeLine := by omega
      show wpAny _ A.in1 (updateSeq S (·.push v) >>= _) _ _ _
      refine wpAny_bind ?_
      refine wpAny_updateSeq hS1 rfl (wpAny_pure ⟨plainId_quiet F.plain_extend_loop _, ?_⟩) (Nat.le_of_lt hasz') (by show (acc.push v).size ≤ sizeLine + 1; rw [Array.size_push]; omega)
      have keep3 : ∀ b o, b ≠ S → s₁.heap.get? b = some o → (s₁.heap.update S (Obj.mapSeq (·.push v))).get? b = some o := fun b o hbS e => (Heap.get?_update_other _ _ (Ne.symm hbS)).trans e
      refine ih { s₁.setGen g gs' with heap := s₁.heap.update S (Obj.mapSeq (·.push v)) } ?_ ?_ ⟨gs', setGen_at hsz1, ?_⟩
      · obtain ⟨o, nm, qn, ho, r⟩ := hg1
        exact ⟨o, nm, qn, keep3 a o (Ne.symm hSa) ho, r⟩
      · obtain ⟨mc, hns, hnn⟩ := hl1
        exact ⟨mc, hns.at' fun o e => keep3 _ o (Ne.symm hSc) e, hnn⟩
      · refine hk _ ?_
        have q := slp_push (g := g) (v := v) (gs := .running) hS1 hb1 rfl
        have e : (({ s₁.setGen g gs' with heap := s₁.heap.update S (Obj.mapSeq (·.push v)) } : Shared).setGen g .running) = { s₁.setGen g .running with heap := s₁.heap.update S (Obj.mapSeq (·.push v)) } := by
          show ({ s₁ with heap := _, gens := (s₁.gens.setIfInBounds g gs').setIfInBounds g .running } : Shared) = { s₁ with heap := _, gens := s₁.gens.setIfInBounds g .running }
          rw [Array.setIfInBounds_setIfInBounds]
        rw [e]; exact q
    · obtain ⟨H', ys, acc, c, os1, hb1, un, hok, hSn, hS1, hv, hle, hQ⟩ := hp
      exact wpAny_pure (hend _ acc c H' ys (hk _ _ hS1) hv hle os1 (allBare_setGen hb1 rfl) (un.trans (Un.kept hk)) (hok.kept hk) hSn hQ)
/-- list(g) -/
theorem call_list2 {P : Program} {w : World} {outer : List Env} {H : Hp} {sc s : Shared} {Q : List V → Hp → Prop} {A : Around} {k : Nat} {u : Value} {Q' : Value → Shared → Prop} {E : Value → Shared → Prop}
    (hr : Room (k + 3) A) (hfr : A.frames = some outer) (h : GMade2 P w k outer H sc Q u s)
    (hQ : ∀ S s' acc c H' ys, s.heap.objs.size ≤ S → s'.heap.get? S = some (lstObj acc c) → Vals ys acc.toList → ys.length ≤ sizeLine → s'.os = sc.os → AllBare s'.gens → Un (frs outer) [] H H' sc.heap s'.heap → HOk P w H' s'.heap → H' S = none → Q ys H' → Q' (.ref S) s') :
    wpAny (model P w) A (call (.type "list") [u]) Q' E s := by
  obtain ⟨a, g, c, rfl, ha1, ha2, hg, hgs, hos, hb, hl, hkp, wake⟩ := h
  have hSa : s.heap.objs.size ≠ a := Nat.ne_of_gt ha2
  have hcl : cStatics < s.heap.objs.size := let ⟨_, hn, _⟩ := hl; hn.lt
  have hSc : s.heap.objs.size ≠ cStatics := Nat.ne_of_gt hcl
  refine callType_codes (Q₁ := fun obj s₁ => obj = .ref s.heap.objs.size ∧ s₁ = { s with heap := s.heap.push { cls := .type "list", data := .seq #[] } }) F.called_list (F.typeCall_list_1 _) F.entry_list_init
    (code_list_new _ ⟨rfl, rfl⟩) fun obj s₁ h₁ => ?_
  obtain ⟨rfl, rfl⟩ := h₁
  have hS : (s.heap.push { cls := .type "list", data := .seq #[] }).get? s.heap.objs.size = some { cls := .type "list", data := .seq #[] } := Heap.get?_push_size _ rfl
  refine ⟨⟨_, hS, rfl⟩, F.args_list_init_2 _ _, ?_⟩
  show wpAny _ A.in1.in1 (do let old ← Builtin.List.listItems (.ref s.heap.objs.size); Builtin.List.listUpdate (.ref s.heap.objs.size) (fun _ => #[]); letGo old.toList.reverse; Builtin.List.listExtendWith (.ref s.heap.objs.size) (.ref a) .none) _ _ _
  refine wpAny_bind ?_
  unfold Builtin.List.listItems
  refine wpAny_bind (wpAny_seqItems hS rfl (wpAny_pure ?_))
  show wpAny _ A.in1.in1 (updateSeq s.heap.objs.size (fun _ => #[]) >>= fun _ => letGo (#[] : Array Value).toList.reverse >>= fun _ => Builtin.List.listExtendWith (.ref s.heap.objs.size) (.ref a) .none) _ _ _
  refine wpAny_bind (wpAny_updateSeq hS rfl ?_)
  have hS2 := Heap.get?_update_self (Obj.mapSeq (fun _ => (#[] : Array Value))) hS rfl
  refine wpAny_bind (wpAny_letGo ?_)
  unfold Builtin.List.listExtendWith
  have up : ∀ (h : Heap) (f : Obj → Obj), (∀ b o, s.heap.get? b = some o → h.get? b = some o) → ∀ b o, s.heap.get? b = some o → (h.update s.heap.objs.size f).get? b = some o := fun h f q b o e =>
    (Heap.get?_update_other _ _ (Ne.symm (Nat.ne_of_lt (Heap.lt_size e)))).trans (q b o e)
  have k1 : ∀ b o, s.heap.get? b = some o → (s.heap.push { cls := .type "list", data := .seq #[] }).get? b = some o := fun b o e => Heap.get?_push_of_some _ e
  have k2 := up _ (Obj.mapSeq (fun _ => (#[] : Array Value))) k1
  have gty : ∀ {h : Heap}, (∀ b o, s.heap.get? b = some o → h.get? b = some o) → h.IsGen a g := fun {h} q => hg.keeps q
  refine wpAny_bind (wpAny_typeOf (Heap.IsGen.typeIs (s := { s with heap := _ }) (gty k2)) ?_)
  have h1 : Builtin.List.listSameRef (.ref s.heap.objs.size) (.ref a) = false := by simp [Builtin.List.listSameRef, hSa]
  have h2 : (Value.type "generator" == Value.type "list") = false := by decide
  have h3 : (Value.type "generator" == Value.type "tuple") = false := by decide
  simp only [h1, h2, h3, Bool.or_false, Bool.false_eq_true, if_false]
  refine wpAny_bind (wpAny_pyIter_gen (s := { s with heap := _ }) (gty k2) ?_)
  refine wpAny_bind (wpAny_holding ?_)
  unfold Builtin.List.listLengthHint
  refine wpAny_bind (wpAny_specialOf (Heap.IsGen.typeIs (s := { s with heap := _ }) (gty k2)) F.gen_no_len ?_)
  show wpAny _ A.in1.in1 (specialOf (Value.ref a) (Str.ofString "__length_hint__") >>= _) _ _ _
  refine wpAny_bind (wpAny_specialOf (Heap.IsGen.typeIs (s := { s with heap := _ }) (gty k2)) F.gen_no_hint ?_)
  refine wpAny_pure ?_
  show wpAny _ A.in1.in1 (rule "list.extend.makes-room" >>= fun _ => Builtin.List.listTouch (.ref s.heap.objs.size) >>= fun _ =>
    again (.builtin "list.extend.loop" ⟨[.ref s.heap.objs.size, .ref a, .none], []⟩)) _ _ _
  refine wpAny_bind (wpAny_rule ?_)
  refine wpAny_bind ?_
  show wpAny _ A.in1.in1 (updateSeq s.heap.objs.size (·.push .none) >>= fun _ => updateSeq s.heap.objs.size (·.pop)) _ _ _
  refine wpAny_bind (wpAny_updateSeq hS2 rfl ?_)
  have hS3 := Heap.get?_update_self (Obj.mapSeq (·.push Value.none)) hS2 rfl
  refine wpAny_updateSeq (hz := by seq_fits) hS3 rfl ?_
  have hS4 := Heap.get?_update_self (Obj.mapSeq (·.pop)) hS3 rfl
  have k4 := up _ (Obj.mapSeq (·.pop)) (up _ (Obj.mapSeq (·.push Value.none)) k2)
  refine wpAny_pure ⟨plainId_quiet F.plain_extend_loop _, ?_⟩
  refine drain2 (P := P) (w := w) (outer := outer) (H := H) (sc := sc) (Q := Q) (A := A.in1) (g := g) hr.hd (by have := hr.dp; show A.depth < _; omega) hSa hSc
    (fun s' acc c H' ys q1 q2 q3 q4 q5 q6 q7 q8 q9 => ⟨rfl, hQ _ s' acc c H' ys (Nat.le_refl _) q1 q2 q3 q4 q5 q6 q7 q8 q9⟩)
    sizeLine _ (gty k4) (hl.keeps k4) ⟨_, hgs, rfl, ?_⟩
  have hgl : g < s.gens.size := (Array.getElem?_eq_some_iff.mp hgs).1
  refine wake _ _ _ ⟨hr.hd, ?_, ?_⟩ hfr (Nat.le_refl _) k4 ⟨_, hS4⟩ hos (allBare_setGen (s := { s with heap := _ }) hb rfl) (by rw [setGen_size]; exact hgl)
  · have := hr.dp
    show A.depth + 3 * k + 5 < _
    omega
  · have := hr.un
    show A.units + 1 + 1 + 1 + 16 * k + 200 < _
    omega

section
variable {X : Cx} {k : Nat} {f : Addr} {fd : FuncData} {ps : List Str} {sp : SpG2} {x : Str} {p pos pos' p2 : Pos}
/-- list(f(e, ..)) -/
def tListG2 (sp : SpG2) (t : TA) : TE := fun σ H Q => t σ H fun vs H1 => sp vs H1 fun out H2 => ∀ p, H2 p = none → Q (.ref p) (upd H2 p (.lst out))
theorem pe_listG2 {e : Expr} {es : List Expr} {t : TA} {nm : Str} (F : GFn2 X.prog X.w X.K X.mg X.base k f fd ps sp) (hr : Room (k + 3) X.A) (hg : Gl X x) (hm : X.mg x = some (.ref f)) (hk : PySem.W.keepIn X.K (.ref f) = true) (hb : Binds X.K fd ps []) (ha : PA X (e :: es) t)
    (hgl : Gl X nm) (hmg : X.mg nm = none) (hv : bootBuiltins nm = some (.type "list")) (hnm : nm ≠ "__name__" := by decide) (hdb : (nm == ("__debug__" : Str)) = false := by decide) (hdb2 : (x == ("__debug__" : Str)) = false := by decide)
    (he : starEach [.Call (.Name x p) (e :: es) [] pos'] X.env = (false, eval (.Call (.Name x p) (e :: es) [] pos') X.env) :: starEach [] X.env := by rfl) (he2 : starEach (e :: es) X.env = (false, eval e X.env) :: starEach es X.env := by rfl) (hpl : (backTo pos' (starEach es X.env)).any (·.1) = false := by rfl) :
    PE X (.Call (.Name nm p2) [.Call (.Name x p) (e :: es) [] pos'] [] pos) (tListG2 sp t) := by
  refine ⟨fun pins s σ H Q I hq => ?_⟩
  refine wpAny_Call_Name_kw (ld_blt I hgl hmg hv ?_ hnm hdb)
  refine PyProof.Rows.callWith_type1 ?_ he rfl
  rw [he]
  show wpAny _ _ (spliced ((false, eval (.Call (.Name x p) (e :: es) [] pos') X.env) :: backTo pos (starEach [] X.env))) _ _ s
  refine Calls.spliced_cons (wpAny_mono (Q := fun u s' => ∃ H1 sc, Inv X pins σ H1 sc ∧ GMade2 X.prog X.w k X.stack H1 sc (fun out H2 => ∀ p, H2 p = none → Q (.ref p) (upd H2 p (.lst out))) u s') (E := X.xe) ?_ (fun u s1 ⟨H1, sc, I1, hG⟩ => ?_) fun _ _ z => z)
  · refine wpAny_Call_Name_kw (ld_glob I hg hm ?_ hdb2)
    refine PySem.W.callWith_K (h₀ := X.base) I.ok.mod.kin hk (thn (ha.run pos' pins s σ H _ I hq) fun us s1 ⟨vs, H1, I1, r, q⟩ => ⟨I1.kIn, ?_⟩) he2 hpl
    have hb1 := hb s1 us I1.kIn (by rw [List.append_nil, ← r.length]; exact F.len _ _ _ q)
    rw [List.append_nil] at hb1
    refine wpAny_call (codeAny_mono (F.run X.A X.stack s1 H1 ⟨us, []⟩ us vs _ (hr.mono (by omega)) I1.env0 hb1 r q) fun r s' hq => ?_)
    cases r with
    | error e => exact False.elim hq
    | ok fl =>
      cases fl with
      | ret u => exact ⟨H1, s1, I1, hq⟩
      | next => exact False.elim hq
      | brk => exact False.elim hq
      | cont => exact False.elim hq
  · refine Calls.spliced_nil ?_
    have hsz : sc.heap.objs.size ≤ s1.heap.objs.size := by
      obtain ⟨a, g, c, _, h1, h2, _⟩ := hG
      exact Nat.le_trans h1 (Nat.le_of_lt h2)
    refine call_list2 hr I1.ok.frames hG fun S s' acc c H' ys q0 q1 q2 hl q3 q4 q5 q6 q7 q8 => ?_
    exact ⟨.ref S, upd H' S (.lst ys), I1.drained (Nat.le_trans hsz q0) hl q1 q2 .nil q3 q4 q5 q6 q7, rfl, q8 S q7⟩
end
end SC
set_option Elab.async false
set_option linter.all false
set_option maxRecDepth 100000
/-! TT: what the top leaves, each fact under a name. -/
namespace SC
open PySem PySem.Spec PyProof.Rows L2 C8
structure Tx (K : PySem.W.Frag) (mg : Str → Option Value) : Prop where
  says : He.SaysD faD fnD K
  more : exD K = true
  gl : ∀ x : Str, (He.Fa.glo x).ok K = true → mg x = some (.ref (He.ga K x))
  fr : ∀ x : Str, (He.Fa.free x).ok K = true → mg x = none
  it : ∀ (x : Str) (i : Int), (He.Fa.int x i).ok K = true → ∃ t, mg x = some (.int i t)
  st : ∀ x z : Str, (He.Fa.str x z).ok K = true → ∃ t, mg x = some (.str z t)
section
variable {K : PySem.W.Frag} {mg : Str → Option Value} (T : Tx K mg)
include T
theorem Tx.f_isinstance : mg "isinstance" = none := T.fr _ (T.says.fact 0 (f := .free "isinstance") rfl)
theorem Tx.f_len : mg "len" = none := T.fr _ (T.says.fact 1 (f := .free "len") rfl)
theorem Tx.f_all : mg "all" = none := T.fr _ (T.says.fact 2 (f := .free "all") rfl)
theorem Tx.f_any : mg "any" = none := T.fr _ (T.says.fact 3 (f := .free "any") rfl)
theorem Tx.f_list : mg "list" = none := T.fr _ (T.says.fact 4 (f := .free "list") rfl)
theorem Tx.f_tuple : mg "tuple" = none := T.fr _ (T.says.fact 5 (f := .free "tuple") rfl)
theorem Tx.f_dict : mg "dict" = none := T.fr _ (T.says.fact 6 (f := .free "dict") rfl)
theorem Tx.f_range : mg "range" = none := T.fr _ (T.says.fact 7 (f := .free "range") rfl)
theorem Tx.f_sum : mg "sum" = none := T.fr _ (T.says.fact 8 (f := .free "sum") rfl)
theorem Tx.f_max : mg "max" = none := T.fr _ (T.says.fact 9 (f := .free "max") rfl)
theorem Tx.f_min : mg "min" = none := T.fr _ (T.says.fact 10 (f := .free "min") rfl)
theorem Tx.f_int : mg "int" = none := T.fr _ (T.says.fact 11 (f := .free "int") rfl)
theorem Tx.f_abs : mg "abs" = none := T.fr _ (T.says.fact 12 (f := .free "abs") rfl)
theorem Tx.f_sorted : mg "sorted" = none := T.fr _ (T.says.fact 13 (f := .free "sorted") rfl)
theorem Tx.f_str : mg "str" = none := T.fr _ (T.says.fact 14 (f := .free "str") rfl)
theorem Tx.f_enumerate : mg "enumerate" = none := T.fr _ (T.says.fact 15 (f := .free "enumerate") rfl)
theorem Tx.f_bool : mg "bool" = none := T.fr _ (T.says.fact 16 (f := .free "bool") rfl)
theorem Tx.g_is_integer : mg "is_integer" = some (.ref (He.ga K "is_integer")) := T.gl _ (T.says.fact 17 (f := .glo "is_integer") rfl)
theorem Tx.g_is_between : mg "is_between" = some (.ref (He.ga K "is_between")) := T.gl _ (T.says.fact 18 (f := .glo "is_between") rfl)
theorem Tx.g_is_value : mg "is_value" = some (.ref (He.ga K "is_value")) := T.gl _ (T.says.fact 19 (f := .glo "is_value") rfl)
theorem Tx.g_is_name : mg "is_name" = some (.ref (He.ga K "is_name")) := T.gl _ (T.says.fact 20 (f := .glo "is_name") rfl)
theorem Tx.g_has_kind : mg "has_kind" = some (.ref (He.ga K "has_kind")) := T.gl _ (T.says.fact 21 (f := .glo "has_kind") rfl)
theorem Tx.g_states_of : mg "states_of" = some (.ref (He.ga K "states_of")) := T.gl _ (T.says.fact 22 (f := .glo "states_of") rfl)
theorem Tx.g_check_state : mg "check_state" = some (.ref (He.ga K "check_state")) := T.gl _ (T.says.fact 23 (f := .glo "check_state") rfl)
theorem Tx.g_checked_arguments : mg "checked_arguments" = some (.ref (He.ga K "checked_arguments")) := T.gl _ (T.says.fact 24 (f := .glo "checked_arguments") rfl)
theorem Tx.g_run_alone : mg "run_alone" = some (.ref (He.ga K "run_alone")) := T.gl _ (T.says.fact 25 (f := .glo "run_alone") rfl)
theorem Tx.g_inner_terms : mg "inner_terms" = some (.ref (He.ga K "inner_terms")) := T.gl _ (T.says.fact 26 (f := .glo "inner_terms") rfl)
theorem Tx.g_has_form : mg "has_form" = some (.ref (He.ga K "has_form")) := T.gl _ (T.says.fact 27 (f := .glo "has_form") rfl)
theorem Tx.g_is_term : mg "is_term" = some (.ref (He.ga K "is_term")) := T.gl _ (T.says.fact 28 (f := .glo "is_term") rfl)
theorem Tx.g_leaves : mg "leaves" = some (.ref (He.ga K "leaves")) := T.gl _ (T.says.fact 29 (f := .glo "leaves") rfl)
theorem Tx.g_names_with : mg "names_with" = some (.ref (He.ga K "names_with")) := T.gl _ (T.says.fact 30 (f := .glo "names_with") rfl)
theorem Tx.g_cells_in : mg "cells_in" = some (.ref (He.ga K "cells_in")) := T.gl _ (T.says.fact 31 (f := .glo "cells_in") rfl)
theorem Tx.g_calls_in : mg "calls_in" = some (.ref (He.ga K "calls_in")) := T.gl _ (T.says.fact 32 (f := .glo "calls_in") rfl)
theorem Tx.g_has_tick : mg "has_tick" = some (.ref (He.ga K "has_tick")) := T.gl _ (T.says.fact 33 (f := .glo "has_tick") rfl)
theorem Tx.g_reads_tick : mg "reads_tick" = some (.ref (He.ga K "reads_tick")) := T.gl _ (T.says.fact 34 (f := .glo "reads_tick") rfl)
theorem Tx.g_cases : mg "cases" = some (.ref (He.ga K "cases")) := T.gl _ (T.says.fact 35 (f := .glo "cases") rfl)
theorem Tx.g_value_at : mg "value_at" = some (.ref (He.ga K "value_at")) := T.gl _ (T.says.fact 36 (f := .glo "value_at") rfl)
theorem Tx.g_writes_at : mg "writes_at" = some (.ref (He.ga K "writes_at")) := T.gl _ (T.says.fact 37 (f := .glo "writes_at") rfl)
theorem Tx.g_is_label_name : mg "is_label_name" = some (.ref (He.ga K "is_label_name")) := T.gl _ (T.says.fact 38 (f := .glo "is_label_name") rfl)
theorem Tx.g_made_label : mg "made_label" = some (.ref (He.ga K "made_label")) := T.gl _ (T.says.fact 39 (f := .glo "made_label") rfl)
theorem Tx.g_are_writes : mg "are_writes" = some (.ref (He.ga K "are_writes")) := T.gl _ (T.says.fact 40 (f := .glo "are_writes") rfl)
theorem Tx.g_checked_cells : mg "checked_cells" = some (.ref (He.ga K "checked_cells")) := T.gl _ (T.says.fact 41 (f := .glo "checked_cells") rfl)
theorem Tx.g_fits : mg "fits" = some (.ref (He.ga K "fits")) := T.gl _ (T.says.fact 42 (f := .glo "fits") rfl)
theorem Tx.g_checked_functions : mg "checked_functions" = some (.ref (He.ga K "checked_functions")) := T.gl _ (T.says.fact 43 (f := .glo "checked_functions") rfl)
theorem Tx.g_law_pool : mg "_law_pool" = some (.ref (He.ga K "_law_pool")) := T.gl _ (T.says.fact 44 (f := .glo "_law_pool") rfl)
theorem Tx.g_law_draw : mg "_law_draw" = some (.ref (He.ga K "_law_draw")) := T.gl _ (T.says.fact 45 (f := .glo "_law_draw") rfl)
theorem Tx.g_law_pick : mg "_law_pick" = some (.ref (He.ga K "_law_pick")) := T.gl _ (T.says.fact 46 (f := .glo "_law_pick") rfl)
theorem Tx.g_law_names : mg "_law_names" = some (.ref (He.ga K "_law_names")) := T.gl _ (T.says.fact 47 (f := .glo "_law_names") rfl)
theorem Tx.g_law_term : mg "_law_term" = some (.ref (He.ga K "_law_term")) := T.gl _ (T.says.fact 48 (f := .glo "_law_term") rfl)
theorem Tx.g_law_writes : mg "_law_writes" = some (.ref (He.ga K "_law_writes")) := T.gl _ (T.says.fact 49 (f := .glo "_law_writes") rfl)
theorem Tx.g_law_book : mg "_law_book" = some (.ref (He.ga K "_law_book")) := T.gl _ (T.says.fact 50 (f := .glo "_law_book") rfl)
theorem Tx.g_law_made_book : mg "_law_made_book" = some (.ref (He.ga K "_law_made_book")) := T.gl _ (T.says.fact 51 (f := .glo "_law_made_book") rfl)
theorem Tx.g_law_found : mg "_law_found" = some (.ref (He.ga K "_law_found")) := T.gl _ (T.says.fact 52 (f := .glo "_law_found") rfl)
theorem Tx.g_law_ran : mg "_law_ran" = some (.ref (He.ga K "_law_ran")) := T.gl _ (T.says.fact 53 (f := .glo "_law_ran") rfl)
theorem Tx.g_law_called : mg "_law_called" = some (.ref (He.ga K "_law_called")) := T.gl _ (T.says.fact 54 (f := .glo "_law_called") rfl)
theorem Tx.g_law_worked : mg "_law_worked" = some (.ref (He.ga K "_law_worked")) := T.gl _ (T.says.fact 55 (f := .glo "_law_worked") rfl)
theorem Tx.g_law_states : mg "_law_states" = some (.ref (He.ga K "_law_states")) := T.gl _ (T.says.fact 56 (f := .glo "_law_states") rfl)
theorem Tx.g_law_reached : mg "_law_reached" = some (.ref (He.ga K "_law_reached")) := T.gl _ (T.says.fact 57 (f := .glo "_law_reached") rfl)
theorem Tx.g_law_words_in : mg "_law_words_in" = some (.ref (He.ga K "_law_words_in")) := T.gl _ (T.says.fact 58 (f := .glo "_law_words_in") rfl)
theorem Tx.g_law_touched : mg "_law_touched" = some (.ref (He.ga K "_law_touched")) := T.gl _ (T.says.fact 59 (f := .glo "_law_touched") rfl)
theorem Tx.g_law_cases : mg "_law_cases" = some (.ref (He.ga K "_law_cases")) := T.gl _ (T.says.fact 60 (f := .glo "_law_cases") rfl)
theorem Tx.g_law_inputs : mg "_law_inputs" = some (.ref (He.ga K "_law_inputs")) := T.gl _ (T.says.fact 61 (f := .glo "_law_inputs") rfl)
theorem Tx.g_law_run_at : mg "_law_run_at" = some (.ref (He.ga K "_law_run_at")) := T.gl _ (T.says.fact 62 (f := .glo "_law_run_at") rfl)
theorem Tx.g_law : mg "law" = some (.ref (He.ga K "law")) := T.gl _ (T.says.fact 63 (f := .glo "law") rfl)
theorem Tx.g_Cell : mg "Cell" = some (.ref (He.ga K "Cell")) := T.gl _ (T.says.fact 64 (f := .glo "Cell") rfl)
theorem Tx.cl_Cell : Cls K (He.ga K "Cell") := He.cls_ok (T.says.fact 65 (f := .cls "Cell") rfl)
theorem Tx.mk_Cell : Mk K (He.ga K "Cell") (He.ma K (He.ga K "Cell") "__init__") := He.mkr_ok (T.says.fact 66 (f := .mkr "Cell") rfl)
theorem Tx.kp_Cell : PySem.W.keepIn K (.ref (He.ga K "Cell")) = true := He.keep_ok (T.says.fact 67 (f := .keep "Cell") rfl)
theorem Tx.g_Scene : mg "Scene" = some (.ref (He.ga K "Scene")) := T.gl _ (T.says.fact 68 (f := .glo "Scene") rfl)
theorem Tx.cl_Scene : Cls K (He.ga K "Scene") := He.cls_ok (T.says.fact 69 (f := .cls "Scene") rfl)
theorem Tx.mk_Scene : Mk K (He.ga K "Scene") (He.ma K (He.ga K "Scene") "__init__") := He.mkr_ok (T.says.fact 70 (f := .mkr "Scene") rfl)
theorem Tx.kp_Scene : PySem.W.keepIn K (.ref (He.ga K "Scene")) = true := He.keep_ok (T.says.fact 71 (f := .keep "Scene") rfl)
theorem Tx.g_Label : mg "Label" = some (.ref (He.ga K "Label")) := T.gl _ (T.says.fact 72 (f := .glo "Label") rfl)
theorem Tx.cl_Label : Cls K (He.ga K "Label") := He.cls_ok (T.says.fact 73 (f := .cls "Label") rfl)
theorem Tx.mk_Label : Mk K (He.ga K "Label") (He.ma K (He.ga K "Label") "__init__") := He.mkr_ok (T.says.fact 74 (f := .mkr "Label") rfl)
theorem Tx.kp_Label : PySem.W.keepIn K (.ref (He.ga K "Label")) = true := He.keep_ok (T.says.fact 75 (f := .keep "Label") rfl)
theorem Tx.g_Function : mg "Function" = some (.ref (He.ga K "Function")) := T.gl _ (T.says.fact 76 (f := .glo "Function") rfl)
theorem Tx.cl_Function : Cls K (He.ga K "Function") := He.cls_ok (T.says.fact 77 (f := .cls "Function") rfl)
theorem Tx.mk_Function : Mk K (He.ga K "Function") (He.ma K (He.ga K "Function") "__init__") := He.mkr_ok (T.says.fact 78 (f := .mkr "Function") rfl)
theorem Tx.kp_Function : PySem.W.keepIn K (.ref (He.ga K "Function")) = true := He.keep_ok (T.says.fact 79 (f := .keep "Function") rfl)
theorem Tx.g_Book : mg "Book" = some (.ref (He.ga K "Book")) := T.gl _ (T.says.fact 80 (f := .glo "Book") rfl)
theorem Tx.cl_Book : Cls K (He.ga K "Book") := He.cls_ok (T.says.fact 81 (f := .cls "Book") rfl)
theorem Tx.mk_Book : Mk K (He.ga K "Book") (He.ma K (He.ga K "Book") "__init__") := He.mkr_ok (T.says.fact 82 (f := .mkr "Book") rfl)
theorem Tx.kp_Book : PySem.W.keepIn K (.ref (He.ga K "Book")) = true := He.keep_ok (T.says.fact 83 (f := .keep "Book") rfl)
theorem Tx.n_Cell_name : NoAttr K (He.ga K "Cell") "name" := He.noat_ok (T.says.fact 84 (f := .noat "Cell" "name") rfl)
theorem Tx.n_Cell_kind : NoAttr K (He.ga K "Cell") "kind" := He.noat_ok (T.says.fact 85 (f := .noat "Cell" "kind") rfl)
theorem Tx.n_Scene_book : NoAttr K (He.ga K "Scene") "book" := He.noat_ok (T.says.fact 86 (f := .noat "Scene" "book") rfl)
theorem Tx.n_Scene_held : NoAttr K (He.ga K "Scene") "held" := He.noat_ok (T.says.fact 87 (f := .noat "Scene" "held") rfl)
theorem Tx.n_Scene_tick_now : NoAttr K (He.ga K "Scene") "tick_now" := He.noat_ok (T.says.fact 88 (f := .noat "Scene" "tick_now") rfl)
theorem Tx.n_Scene_view_held : NoAttr K (He.ga K "Scene") "view_held" := He.noat_ok (T.says.fact 89 (f := .noat "Scene" "view_held") rfl)
theorem Tx.n_Label_name : NoAttr K (He.ga K "Label") "name" := He.noat_ok (T.says.fact 90 (f := .noat "Label" "name") rfl)
theorem Tx.n_Label_height : NoAttr K (He.ga K "Label") "height" := He.noat_ok (T.says.fact 91 (f := .noat "Label" "height") rfl)
theorem Tx.n_Function_label : NoAttr K (He.ga K "Function") "label" := He.noat_ok (T.says.fact 92 (f := .noat "Function" "label") rfl)
theorem Tx.n_Function_name : NoAttr K (He.ga K "Function") "name" := He.noat_ok (T.says.fact 93 (f := .noat "Function" "name") rfl)
theorem Tx.n_Function_arguments : NoAttr K (He.ga K "Function") "arguments" := He.noat_ok (T.says.fact 94 (f := .noat "Function" "arguments") rfl)
theorem Tx.n_Function_result : NoAttr K (He.ga K "Function") "result" := He.noat_ok (T.says.fact 95 (f := .noat "Function" "result") rfl)
theorem Tx.n_Function_writes : NoAttr K (He.ga K "Function") "writes" := He.noat_ok (T.says.fact 96 (f := .noat "Function" "writes") rfl)
theorem Tx.n_Function_cost : NoAttr K (He.ga K "Function") "cost" := He.noat_ok (T.says.fact 97 (f := .noat "Function" "cost") rfl)
theorem Tx.n_Book_cell_row : NoAttr K (He.ga K "Book") "cell_row" := He.noat_ok (T.says.fact 98 (f := .noat "Book" "cell_row") rfl)
theorem Tx.n_Book_row : NoAttr K (He.ga K "Book") "row" := He.noat_ok (T.says.fact 99 (f := .noat "Book" "row") rfl)
theorem Tx.m_Cell_init__ : Meth K (He.ga K "Cell") "__init__" (He.ma K (He.ga K "Cell") "__init__") := He.meth_ok (T.says.fact 100 (f := .meth "Cell" "__init__") rfl)
theorem Tx.m_Scene_init__ : Meth K (He.ga K "Scene") "__init__" (He.ma K (He.ga K "Scene") "__init__") := He.meth_ok (T.says.fact 101 (f := .meth "Scene" "__init__") rfl)
theorem Tx.m_Scene_run_function : Meth K (He.ga K "Scene") "run_function" (He.ma K (He.ga K "Scene") "run_function") := He.meth_ok (T.says.fact 102 (f := .meth "Scene" "run_function") rfl)
theorem Tx.m_Scene_called : Meth K (He.ga K "Scene") "called" (He.ma K (He.ga K "Scene") "called") := He.meth_ok (T.says.fact 103 (f := .meth "Scene" "called") rfl)
theorem Tx.m_Scene_worked : Meth K (He.ga K "Scene") "worked" (He.ma K (He.ga K "Scene") "worked") := He.meth_ok (T.says.fact 104 (f := .meth "Scene" "worked") rfl)
theorem Tx.m_Label_init__ : Meth K (He.ga K "Label") "__init__" (He.ma K (He.ga K "Label") "__init__") := He.meth_ok (T.says.fact 105 (f := .meth "Label" "__init__") rfl)
theorem Tx.m_Function_init__ : Meth K (He.ga K "Function") "__init__" (He.ma K (He.ga K "Function") "__init__") := He.meth_ok (T.says.fact 106 (f := .meth "Function" "__init__") rfl)
theorem Tx.m_Function_parts : Meth K (He.ga K "Function") "parts" (He.ma K (He.ga K "Function") "parts") := He.meth_ok (T.says.fact 107 (f := .meth "Function" "parts") rfl)
theorem Tx.m_Book_init__ : Meth K (He.ga K "Book") "__init__" (He.ma K (He.ga K "Book") "__init__") := He.meth_ok (T.says.fact 108 (f := .meth "Book" "__init__") rfl)
theorem Tx.m_Book_getitem__ : Meth K (He.ga K "Book") "__getitem__" (He.ma K (He.ga K "Book") "__getitem__") := He.meth_ok (T.says.fact 109 (f := .meth "Book" "__getitem__") rfl)
theorem Tx.m_Book_all_cells : Meth K (He.ga K "Book") "all_cells" (He.ma K (He.ga K "Book") "all_cells") := He.meth_ok (T.says.fact 110 (f := .meth "Book" "all_cells") rfl)
theorem Tx.m_Book_names : Meth K (He.ga K "Book") "names" (He.ma K (He.ga K "Book") "names") := He.meth_ok (T.says.fact 111 (f := .meth "Book" "names") rfl)
theorem Tx.m_Book_cell : Meth K (He.ga K "Book") "cell" (He.ma K (He.ga K "Book") "cell") := He.meth_ok (T.says.fact 112 (f := .meth "Book" "cell") rfl)
theorem Tx.m_Book_reaches : Meth K (He.ga K "Book") "reaches" (He.ma K (He.ga K "Book") "reaches") := He.meth_ok (T.says.fact 113 (f := .meth "Book" "reaches") rfl)
theorem Tx.m_Book_touched : Meth K (He.ga K "Book") "touched" (He.ma K (He.ga K "Book") "touched") := He.meth_ok (T.says.fact 114 (f := .meth "Book" "touched") rfl)
theorem Tx.g_VALUES : mg "VALUES" = some (.ref (He.ga K "VALUES")) := T.gl _ (T.says.fact 115 (f := .glo "VALUES") rfl)
theorem Tx.g_KINDS : mg "KINDS" = some (.ref (He.ga K "KINDS")) := T.gl _ (T.says.fact 116 (f := .glo "KINDS") rfl)
theorem Tx.g_PAIRS : mg "PAIRS" = some (.ref (He.ga K "PAIRS")) := T.gl _ (T.says.fact 117 (f := .glo "PAIRS") rfl)
theorem Tx.g_LABELS : mg "LABELS" = some (.ref (He.ga K "LABELS")) := T.gl _ (T.says.fact 118 (f := .glo "LABELS") rfl)
theorem Tx.s_LETTERS : ∃ t, mg "LETTERS" = some (.str "abcdefghijklmnopqrstuvwxyz" t) := T.st _ _ (T.says.fact 119 (f := .str "LETTERS" "abcdefghijklmnopqrstuvwxyz") rfl)
theorem Tx.i_MOST_LETTERS : ∃ t, mg "MOST_LETTERS" = some (.int 8 t) := T.it _ _ (T.says.fact 120 (f := .int "MOST_LETTERS" 8) rfl)
theorem Tx.i_MOST_VALUE : ∃ t, mg "MOST_VALUE" = some (.int 2 t) := T.it _ _ (T.says.fact 121 (f := .int "MOST_VALUE" 2) rfl)
theorem Tx.i_MOST_PARTS : ∃ t, mg "MOST_PARTS" = some (.int 30 t) := T.it _ _ (T.says.fact 122 (f := .int "MOST_PARTS" 30) rfl)
theorem Tx.i_MOST_DEPTH : ∃ t, mg "MOST_DEPTH" = some (.int 8 t) := T.it _ _ (T.says.fact 123 (f := .int "MOST_DEPTH" 8) rfl)
theorem Tx.i_MOST_ARGUMENTS : ∃ t, mg "MOST_ARGUMENTS" = some (.int 2 t) := T.it _ _ (T.says.fact 124 (f := .int "MOST_ARGUMENTS" 2) rfl)
theorem Tx.i_MOST_WRITES : ∃ t, mg "MOST_WRITES" = some (.int 3 t) := T.it _ _ (T.says.fact 125 (f := .int "MOST_WRITES" 3) rfl)
theorem Tx.i_MOST_COST : ∃ t, mg "MOST_COST" = some (.int 99 t) := T.it _ _ (T.says.fact 126 (f := .int "MOST_COST" 99) rfl)
theorem Tx.i_MOST_CELLS : ∃ t, mg "MOST_CELLS" = some (.int 6 t) := T.it _ _ (T.says.fact 127 (f := .int "MOST_CELLS" 6) rfl)
theorem Tx.i_MOST_FUNCTIONS : ∃ t, mg "MOST_FUNCTIONS" = some (.int 8 t) := T.it _ _ (T.says.fact 128 (f := .int "MOST_FUNCTIONS" 8) rfl)
theorem Tx.DIsInteger : ∃ fd, FunD K "is_integer" "is_integer" (defArgs sIsInteger) (defBody sIsInteger) (defScope sIsInteger) [] [] (He.ga K "is_integer") fd := T.says.def_ 0 (d := dIsInteger) rfl
theorem Tx.DIsBetween : ∃ fd, FunD K "is_between" "is_between" (defArgs sIsBetween) (defBody sIsBetween) (defScope sIsBetween) [] [] (He.ga K "is_between") fd := T.says.def_ 1 (d := dIsBetween) rfl
theorem Tx.DIsValue : ∃ fd, FunD K "is_value" "is_value" (defArgs sIsValue) (defBody sIsValue) (defScope sIsValue) [] [] (He.ga K "is_value") fd := T.says.def_ 2 (d := dIsValue) rfl
theorem Tx.DIsName : ∃ fd, FunD K "is_name" "is_name" (defArgs sIsName) (defBody sIsName) (defScope sIsName) [] [] (He.ga K "is_name") fd := T.says.def_ 3 (d := dIsName) rfl
theorem Tx.DHasKind : ∃ fd, FunD K "has_kind" "has_kind" (defArgs sHasKind) (defBody sHasKind) (defScope sHasKind) [] [] (He.ga K "has_kind") fd := T.says.def_ 4 (d := dHasKind) rfl
theorem Tx.DStatesOf : ∃ fd, FunD K "states_of" "states_of" (defArgs sStatesOf) (defBody sStatesOf) (defScope sStatesOf) [] [] (He.ga K "states_of") fd := T.says.def_ 5 (d := dStatesOf) rfl
theorem Tx.DCheckState : ∃ fd, FunD K "check_state" "check_state" (defArgs sCheckState) (defBody sCheckState) (defScope sCheckState) [] [] (He.ga K "check_state") fd := T.says.def_ 6 (d := dCheckState) rfl
theorem Tx.DCheckedArguments : ∃ fd, FunD K "checked_arguments" "checked_arguments" (defArgs sCheckedArguments) (defBody sCheckedArguments) (defScope sCheckedArguments) [] [] (He.ga K "checked_arguments") fd := T.says.def_ 7 (d := dCheckedArguments) rfl
theorem Tx.DRunAlone : ∃ fd, FunD K "run_alone" "run_alone" (defArgs sRunAlone) (defBody sRunAlone) (defScope sRunAlone) [] [("tick", V.int 0)] (He.ga K "run_alone") fd := T.says.def_ 8 (d := dRunAlone) rfl
theorem Tx.DInnerTerms : ∃ fd, FunD K "inner_terms" "inner_terms" (defArgs sInnerTerms) (defBody sInnerTerms) (defScope sInnerTerms) [] [] (He.ga K "inner_terms") fd := T.says.def_ 9 (d := dInnerTerms) rfl
theorem Tx.DHasForm : ∃ fd, FunD K "has_form" "has_form" (defArgs sHasForm) (defBody sHasForm) (defScope sHasForm) [] [] (He.ga K "has_form") fd := T.says.def_ 10 (d := dHasForm) rfl
theorem Tx.DIsTerm : ∃ fd, FunD K "is_term" "is_term" (defArgs sIsTerm) (defBody sIsTerm) (defScope sIsTerm) [] [] (He.ga K "is_term") fd := T.says.def_ 11 (d := dIsTerm) rfl
theorem Tx.DLeaves : ∃ fd, FunD K "leaves" "leaves" (defArgs sLeaves) (defBody sLeaves) (defScope sLeaves) [] [] (He.ga K "leaves") fd := T.says.def_ 12 (d := dLeaves) rfl
theorem Tx.DNamesWith : ∃ fd, FunD K "names_with" "names_with" (defArgs sNamesWith) (defBody sNamesWith) (defScope sNamesWith) [] [] (He.ga K "names_with") fd := T.says.def_ 13 (d := dNamesWith) rfl
theorem Tx.DCellsIn : ∃ fd, FunD K "cells_in" "cells_in" (defArgs sCellsIn) (defBody sCellsIn) (defScope sCellsIn) [] [] (He.ga K "cells_in") fd := T.says.def_ 14 (d := dCellsIn) rfl
theorem Tx.DCallsIn : ∃ fd, FunD K "calls_in" "calls_in" (defArgs sCallsIn) (defBody sCallsIn) (defScope sCallsIn) [] [] (He.ga K "calls_in") fd := T.says.def_ 15 (d := dCallsIn) rfl
theorem Tx.DHasTick : ∃ fd, FunD K "has_tick" "has_tick" (defArgs sHasTick) (defBody sHasTick) (defScope sHasTick) [] [] (He.ga K "has_tick") fd := T.says.def_ 16 (d := dHasTick) rfl
theorem Tx.DReadsTick : ∃ fd, FunD K "reads_tick" "reads_tick" (defArgs sReadsTick) (defBody sReadsTick) (defScope sReadsTick) [] [] (He.ga K "reads_tick") fd := T.says.def_ 17 (d := dReadsTick) rfl
theorem Tx.DCases : ∃ fd, FunD K "cases" "cases" (defArgs sCases) (defBody sCases) (defScope sCases) [] [] (He.ga K "cases") fd := T.says.def_ 18 (d := dCases) rfl
theorem Tx.DValueAt : ∃ fd, FunD K "value_at" "value_at" (defArgs sValueAt) (defBody sValueAt) (defScope sValueAt) [] [] (He.ga K "value_at") fd := T.says.def_ 19 (d := dValueAt) rfl
theorem Tx.DWritesAt : ∃ fd, FunD K "writes_at" "writes_at" (defArgs sWritesAt) (defBody sWritesAt) (defScope sWritesAt) [] [] (He.ga K "writes_at") fd := T.says.def_ 20 (d := dWritesAt) rfl
theorem Tx.DIsLabelName : ∃ fd, FunD K "is_label_name" "is_label_name" (defArgs sIsLabelName) (defBody sIsLabelName) (defScope sIsLabelName) [] [] (He.ga K "is_label_name") fd := T.says.def_ 21 (d := dIsLabelName) rfl
theorem Tx.DMadeLabel : ∃ fd, FunD K "made_label" "made_label" (defArgs sMadeLabel) (defBody sMadeLabel) (defScope sMadeLabel) [] [] (He.ga K "made_label") fd := T.says.def_ 22 (d := dMadeLabel) rfl
theorem Tx.DAreWrites : ∃ fd, FunD K "are_writes" "are_writes" (defArgs sAreWrites) (defBody sAreWrites) (defScope sAreWrites) [] [] (He.ga K "are_writes") fd := T.says.def_ 23 (d := dAreWrites) rfl
theorem Tx.DCheckedCells : ∃ fd, FunD K "checked_cells" "checked_cells" (defArgs sCheckedCells) (defBody sCheckedCells) (defScope sCheckedCells) [] [] (He.ga K "checked_cells") fd := T.says.def_ 24 (d := dCheckedCells) rfl
theorem Tx.DFits : ∃ fd, FunD K "fits" "fits" (defArgs sFits) (defBody sFits) (defScope sFits) [] [] (He.ga K "fits") fd := T.says.def_ 25 (d := dFits) rfl
theorem Tx.DCheckedFunctions : ∃ fd, FunD K "checked_functions" "checked_functions" (defArgs sCheckedFunctions) (defBody sCheckedFunctions) (defScope sCheckedFunctions) [] [] (He.ga K "checked_functions") fd := T.says.def_ 26 (d := dCheckedFunctions) rfl
theorem Tx.DLPool : ∃ fd, FunD K "_law_pool" "_law_pool" (defArgs sLPool) (defBody sLPool) (defScope sLPool) [] [] (He.ga K "_law_pool") fd := T.says.def_ 27 (d := dLPool) rfl
theorem Tx.DLDraw : ∃ fd, FunD K "_law_draw" "_law_draw" (defArgs sLDraw) (defBody sLDraw) (defScope sLDraw) [] [] (He.ga K "_law_draw") fd := T.says.def_ 28 (d := dLDraw) rfl
theorem Tx.DLPick : ∃ fd, FunD K "_law_pick" "_law_pick" (defArgs sLPick) (defBody sLPick) (defScope sLPick) [] [] (He.ga K "_law_pick") fd := T.says.def_ 29 (d := dLPick) rfl
theorem Tx.DLNames : ∃ fd, FunD K "_law_names" "_law_names" (defArgs sLNames) (defBody sLNames) (defScope sLNames) [] [] (He.ga K "_law_names") fd := T.says.def_ 30 (d := dLNames) rfl
theorem Tx.DLTerm : ∃ fd, FunD K "_law_term" "_law_term" (defArgs sLTerm) (defBody sLTerm) (defScope sLTerm) [] [] (He.ga K "_law_term") fd := T.says.def_ 31 (d := dLTerm) rfl
theorem Tx.DLWrites : ∃ fd, FunD K "_law_writes" "_law_writes" (defArgs sLWrites) (defBody sLWrites) (defScope sLWrites) [] [] (He.ga K "_law_writes") fd := T.says.def_ 32 (d := dLWrites) rfl
theorem Tx.DLBook : ∃ fd, FunD K "_law_book" "_law_book" (defArgs sLBook) (defBody sLBook) (defScope sLBook) [] [] (He.ga K "_law_book") fd := T.says.def_ 33 (d := dLBook) rfl
theorem Tx.DLMadeBook : ∃ fd, FunD K "_law_made_book" "_law_made_book" (defArgs sLMadeBook) (defBody sLMadeBook) (defScope sLMadeBook) [] [] (He.ga K "_law_made_book") fd := T.says.def_ 34 (d := dLMadeBook) rfl
theorem Tx.DLFound : ∃ fd, FunD K "_law_found" "_law_found" (defArgs sLFound) (defBody sLFound) (defScope sLFound) [] [] (He.ga K "_law_found") fd := T.says.def_ 35 (d := dLFound) rfl
theorem Tx.DLRan : ∃ fd, FunD K "_law_ran" "_law_ran" (defArgs sLRan) (defBody sLRan) (defScope sLRan) [] [] (He.ga K "_law_ran") fd := T.says.def_ 36 (d := dLRan) rfl
theorem Tx.DLCalled : ∃ fd, FunD K "_law_called" "_law_called" (defArgs sLCalled) (defBody sLCalled) (defScope sLCalled) [] [] (He.ga K "_law_called") fd := T.says.def_ 37 (d := dLCalled) rfl
theorem Tx.DLWorked : ∃ fd, FunD K "_law_worked" "_law_worked" (defArgs sLWorked) (defBody sLWorked) (defScope sLWorked) [] [] (He.ga K "_law_worked") fd := T.says.def_ 38 (d := dLWorked) rfl
theorem Tx.DLStates : ∃ fd, FunD K "_law_states" "_law_states" (defArgs sLStates) (defBody sLStates) (defScope sLStates) [] [] (He.ga K "_law_states") fd := T.says.def_ 39 (d := dLStates) rfl
theorem Tx.DLReached : ∃ fd, FunD K "_law_reached" "_law_reached" (defArgs sLReached) (defBody sLReached) (defScope sLReached) [] [] (He.ga K "_law_reached") fd := T.says.def_ 40 (d := dLReached) rfl
theorem Tx.DLWordsIn : ∃ fd, FunD K "_law_words_in" "_law_words_in" (defArgs sLWordsIn) (defBody sLWordsIn) (defScope sLWordsIn) [] [] (He.ga K "_law_words_in") fd := T.says.def_ 41 (d := dLWordsIn) rfl
theorem Tx.DLTouched : ∃ fd, FunD K "_law_touched" "_law_touched" (defArgs sLTouched) (defBody sLTouched) (defScope sLTouched) [] [] (He.ga K "_law_touched") fd := T.says.def_ 42 (d := dLTouched) rfl
theorem Tx.DLCases : ∃ fd, FunD K "_law_cases" "_law_cases" (defArgs sLCases) (defBody sLCases) (defScope sLCases) [] [] (He.ga K "_law_cases") fd := T.says.def_ 43 (d := dLCases) rfl
theorem Tx.DLInputs : ∃ fd, FunD K "_law_inputs" "_law_inputs" (defArgs sLInputs) (defBody sLInputs) (defScope sLInputs) [] [] (He.ga K "_law_inputs") fd := T.says.def_ 44 (d := dLInputs) rfl
theorem Tx.DLRunAt : ∃ fd, FunD K "_law_run_at" "_law_run_at" (defArgs sLRunAt) (defBody sLRunAt) (defScope sLRunAt) [] [] (He.ga K "_law_run_at") fd := T.says.def_ 45 (d := dLRunAt) rfl
theorem Tx.DLaw : ∃ fd, FunD K "law" "law" (defArgs sLaw) (defBody sLaw) (defScope sLaw) [] [] (He.ga K "law") fd := T.says.def_ 46 (d := dLaw) rfl
theorem Tx.DCellInit : ∃ fd, FunD K "__init__" "Cell.__init__" (defArgs sCellInit) (defBody sCellInit) (defScope sCellInit) [] [] (He.ma K (He.ga K "Cell") "__init__") fd := T.says.def_ 47 (d := dCellInit) rfl
theorem Tx.DSceneInit : ∃ fd, FunD K "__init__" "Scene.__init__" (defArgs sSceneInit) (defBody sSceneInit) (defScope sSceneInit) [] [] (He.ma K (He.ga K "Scene") "__init__") fd := T.says.def_ 48 (d := dSceneInit) rfl
theorem Tx.DSceneRunFunction : ∃ fd, FunD K "run_function" "Scene.run_function" (defArgs sSceneRunFunction) (defBody sSceneRunFunction) (defScope sSceneRunFunction) [] [] (He.ma K (He.ga K "Scene") "run_function") fd := T.says.def_ 49 (d := dSceneRunFunction) rfl
theorem Tx.DSceneCalled : ∃ fd, FunD K "called" "Scene.called" (defArgs sSceneCalled) (defBody sSceneCalled) (defScope sSceneCalled) [] [] (He.ma K (He.ga K "Scene") "called") fd := T.says.def_ 50 (d := dSceneCalled) rfl
theorem Tx.DSceneWorked : ∃ fd, FunD K "worked" "Scene.worked" (defArgs sSceneWorked) (defBody sSceneWorked) (defScope sSceneWorked) [] [] (He.ma K (He.ga K "Scene") "worked") fd := T.says.def_ 51 (d := dSceneWorked) rfl
theorem Tx.DLabelInit : ∃ fd, FunD K "__init__" "Label.__init__" (defArgs sLabelInit) (defBody sLabelInit) (defScope sLabelInit) [] [] (He.ma K (He.ga K "Label") "__init__") fd := T.says.def_ 52 (d := dLabelInit) rfl
theorem Tx.DFunctionInit : ∃ fd, FunD K "__init__" "Function.__init__" (defArgs sFunctionInit) (defBody sFunctionInit) (defScope sFunctionInit) [] [("cost", V.int 1)] (He.ma K (He.ga K "Function") "__init__") fd := T.says.def_ 53 (d := dFunctionInit) rfl
theorem Tx.DFunctionParts : ∃ fd, FunD K "parts" "Function.parts" (defArgs sFunctionParts) (defBody sFunctionParts) (defScope sFunctionParts) [] [] (He.ma K (He.ga K "Function") "parts") fd := T.says.def_ 54 (d := dFunctionParts) rfl
theorem Tx.DBookInit : ∃ fd, FunD K "__init__" "Book.__init__" (defArgs sBookInit) (defBody sBookInit) (defScope sBookInit) [] [] (He.ma K (He.ga K "Book") "__init__") fd := T.says.def_ 55 (d := dBookInit) rfl
theorem Tx.DBookGetitem : ∃ fd, FunD K "__getitem__" "Book.__getitem__" (defArgs sBookGetitem) (defBody sBookGetitem) (defScope sBookGetitem) [] [] (He.ma K (He.ga K "Book") "__getitem__") fd := T.says.def_ 56 (d := dBookGetitem) rfl
theorem Tx.DBookAllCells : ∃ fd, FunD K "all_cells" "Book.all_cells" (defArgs sBookAllCells) (defBody sBookAllCells) (defScope sBookAllCells) [] [] (He.ma K (He.ga K "Book") "all_cells") fd := T.says.def_ 57 (d := dBookAllCells) rfl
theorem Tx.DBookNames : ∃ fd, FunD K "names" "Book.names" (defArgs sBookNames) (defBody sBookNames) (defScope sBookNames) [] [] (He.ma K (He.ga K "Book") "names") fd := T.says.def_ 58 (d := dBookNames) rfl
theorem Tx.DBookCell : ∃ fd, FunD K "cell" "Book.cell" (defArgs sBookCell) (defBody sBookCell) (defScope sBookCell) [] [] (He.ma K (He.ga K "Book") "cell") fd := T.says.def_ 59 (d := dBookCell) rfl
theorem Tx.DBookReaches : ∃ fd, FunD K "reaches" "Book.reaches" (defArgs sBookReaches) (defBody sBookReaches) (defScope sBookReaches) [] [] (He.ma K (He.ga K "Book") "reaches") fd := T.says.def_ 60 (d := dBookReaches) rfl
theorem Tx.DBookTouched : ∃ fd, FunD K "touched" "Book.touched" (defArgs sBookTouched) (defBody sBookTouched) (defScope sBookTouched) [] [] (He.ma K (He.ga K "Book") "touched") fd := T.says.def_ 61 (d := dBookTouched) rfl
theorem Tx.ex1 : He.tupB K "VALUES" [.int 0, .int 1, .int 2] = true ∧ He.tupB K "KINDS" [.str "frozen", .str "setting", .str "table"] = true ∧ He.tupB K "PAIRS" [.str "plus", .str "less", .str "same"] = true ∧ He.tupB K "LABELS" [.str "always", .str "session", .str "statement", .str "changing"] = true ∧
    PySem.W.subIn K (.ref (He.ga K "Cell")) (.ref (He.ga K "Cell")) = some true ∧ PySem.W.subIn K (.ref (He.ga K "Function")) (.ref (He.ga K "Function")) = some true ∧ PySem.W.subIn K (.ref (He.ga K "Label")) (.ref (He.ga K "Label")) = some true := by
  have h := T.more
  unfold exD exD0 at h
  simp only [Bool.and_eq_true, beq_iff_eq] at h
  exact h.2.2.2.2
omit T in
theorem ins_ok {x : Str} (c : Cls K (He.ga K x)) (h : insB K x = true) : InsC K (He.ga K x) := by
  unfold insB at h
  simp only [Bool.and_eq_true, decide_eq_true_eq] at h
  obtain ⟨h1, h2, h3, h4⟩ := h
  refine ⟨c, He.eqO_ok h1, He.eqO_ok h2, h3, h4, ?_⟩
  unfold PySem.W.kitOne
  rw [if_pos (by simp)]
theorem Tx.insCell : InsC K (He.ga K "Cell") := by
  have h := T.more
  unfold exD at h
  simp only [Bool.and_eq_true] at h
  exact ins_ok T.cl_Cell h.1
theorem Tx.insFunction : InsC K (He.ga K "Function") := by
  have h := T.more
  unfold exD at h
  simp only [Bool.and_eq_true] at h
  exact ins_ok T.cl_Function h.2.1
theorem Tx.noLabel : PySem.W.kitOne K (.type "str") (.ref (He.ga K "Label")) = some false := by
  have h := T.more
  unfold exD at h
  simp only [Bool.and_eq_true, decide_eq_true_eq] at h
  exact h.2.2.1
theorem Tx.nLABELS : ∃ o, K.lookup (He.ga K "LABELS") = some o ∧ o.cls = .type "tuple" ∧ o.dict = none := by
  have h := T.more
  unfold exD at h
  simp only [Bool.and_eq_true] at h
  have h := h.2.2.2.1
  unfold tupN at h
  split at h
  · rename_i c _ _ q
    rw [of_decide_eq_true h] at q
    exact ⟨_, q, rfl, rfl⟩
  · cases h
theorem Tx.tVALUES (H : Hp) : SqT K H (He.ga K "VALUES") [.int 0, .int 1, .int 2] := He.tupB_ok T.ex1.1 H
theorem Tx.tKINDS (H : Hp) : SqT K H (He.ga K "KINDS") [.str "frozen", .str "setting", .str "table"] := He.tupB_ok T.ex1.2.1 H
theorem Tx.tPAIRS (H : Hp) : SqT K H (He.ga K "PAIRS") [.str "plus", .str "less", .str "same"] := He.tupB_ok T.ex1.2.2.1 H
theorem Tx.tLABELS (H : Hp) : SqT K H (He.ga K "LABELS") [.str "always", .str "session", .str "statement", .str "changing"] := He.tupB_ok T.ex1.2.2.2.1 H
end
section
variable {P : Program} {w : World} {K : PySem.W.Frag} {mg : Str → Option Value} {base : Heap}
/-- a def of the module, by its body -/
theorem cal_of {x : Str} {params : Arguments} {body : List Stmt} {scope : Scope} {kws : List (Str × V)} {f : Addr} {fd : FuncData} {N ps : List Str} {k : Nat} {sp : Sp} (hm : mg x = some (.ref f)) (F : FunD K x x params body scope [] kws f fd) (b : Binds K fd ps []) (S : FnScope N ps scope)
    (len : ∀ vs H Q E, sp vs H Q E → vs.length = ps.length)
    (hbody : ∀ (cdv : Value) (A : Around) (outer : List Env) (s : Shared) (H : Hp) (vs : List V) (Q : VK) (E : XK), Room k (A.deeper (envOfC x scope s.heap.objs.size f cdv)) → sp vs H Q E →
      ∃ t, PSs (cxOf C8.CX0 P w K mg base N x scope f cdv A outer s H E).nox body t ∧ t { nx := fun _ H' => Q .non H', rt := Q } (start N vs) H) : Cal P w K mg base (k + 1) x sp [] := by
  refine ⟨f, fd, ps, [], F.ok S len fun cdv A outer s H vs Q E hr h => ?_, hm, F.kp, b, .nil⟩
  obtain ⟨t, p, q⟩ := hbody cdv A outer s H vs Q E hr h
  exact ⟨t, p.nox, q⟩
/-- a method -/
theorem met_of {m qual : Str} {C : Addr} {params : Arguments} {body : List Stmt} {scope : Scope} {kws : List (Str × V)} {f : Addr} {fd : FuncData} {N ps : List Str} {k : Nat} {sp : Sp} (c : Cls K C) (me : Meth K C m f) (F : FunD K m qual params body scope [] kws f fd) (b : Binds K fd ps []) (S : FnScope N ps scope)
    (len : ∀ vs H Q E, sp vs H Q E → vs.length = ps.length)
    (hbody : ∀ (cdv : Value) (A : Around) (outer : List Env) (s : Shared) (H : Hp) (vs : List V) (Q : VK) (E : XK), Room k (A.deeper (envOfC qual scope s.heap.objs.size f cdv)) → sp vs H Q E →
      ∃ t, PSs (cxOf C8.CX0 P w K mg base N qual scope f cdv A outer s H E).nox body t ∧ t { nx := fun _ H' => Q .non H', rt := Q } (start N vs) H) : Met P w K mg base (k + 1) C m sp [] := by
  refine ⟨f, fd, ps, [], c, me, F.ok S len fun cdv A outer s H vs Q E hr h => ?_, b, .nil⟩
  obtain ⟨t, p, q⟩ := hbody cdv A outer s H vs Q E hr h
  exact ⟨t, p.nox, q⟩
/-- a class, by its __init__ -/
theorem mak_of {x qual : Str} {C : Addr} {params : Arguments} {body : List Stmt} {scope : Scope} {kws : List (Str × V)} {f : Addr} {fd : FuncData} {N ps : List Str} {k : Nat} {sp : Sp} (M : Mk K C f) (hm : mg x = some (.ref C)) (F : FunD K "__init__" qual params body scope [] kws f fd) (b : Binds K fd ps []) (S : FnScope N ps scope)
    (len : ∀ vs H Q E, sp vs H Q E → vs.length = ps.length)
    (hbody : ∀ (cdv : Value) (A : Around) (outer : List Env) (s : Shared) (H : Hp) (vs : List V) (Q : VK) (E : XK), Room k (A.deeper (envOfC qual scope s.heap.objs.size f cdv)) → sp vs H Q E →
      ∃ t, PSs (cxOf C8.CX0 P w K mg base N qual scope f cdv A outer s H E).nox body t ∧ t { nx := fun _ H' => Q .non H', rt := Q } (start N vs) H) : Mak P w K mg base (k + 1) x C sp [] := by
  refine ⟨f, fd, ps, [], M, F.ok S len fun cdv A outer s H vs Q E hr h => ?_, hm, b, .nil⟩
  obtain ⟨t, p, q⟩ := hbody cdv A outer s H vs Q E hr h
  exact ⟨t, p.nox, q⟩
end
end SC
set_option Elab.async false
set_option linter.all false
set_option maxRecDepth 100000
/-! RP: how things lie in the heap; small words. -/
namespace SC
open PySem PySem.Spec PyProof.Rows L2 C8 Evl

/-- all but lists stand -/
def ExN (H H' : Hp) : Prop := ∀ a o, (∀ xs, o ≠ .lst xs) → H a = some o → H' a = some o
theorem exn {H H' : Hp} (e : Ex H H') : ExN H H' := fun a o _ h => e a o h
theorem ExN.trans {H H1 H2 : Hp} (a : ExN H H1) (b : ExN H1 H2) : ExN H H2 := fun x o n h => b x o n (a x o n h)
theorem ExN.refl (H : Hp) : ExN H H := fun _ _ _ h => h
theorem ExN.lst {H : Hp} {D : Addr} {xs ys : List V} (h : H D = some (.lst xs)) : ExN H (upd H D (.lst ys)) := fun a o n e => by
  rw [upd_ne (fun z => by rw [z, h] at e; cases e; exact n _ rfl)]; exact e
theorem ExN.at {H H' : Hp} (e : ExN H H') {a : Addr} {o : HO} (h : H a = some o) (n : ∀ xs, o ≠ .lst xs := by intro xs z; cases z) : H' a = some o := e a o n h

/-! ### terms -/
def opName : Op → Str
  | .plus => "plus"
  | .less => "less"
  | .same => "same"
def LfAt (H : Hp) : Lf → V → Prop
  | .val n, v => v = .int n
  | .arg i, v => ∃ p, v = .ref p ∧ H p = some (.tup [.str "arg", .int (i : Int)])
  | .cel c, v => ∃ p, v = .ref p ∧ H p = some (.tup [.str "cell", .str c])
  | .tick, v => ∃ p, v = .ref p ∧ H p = some (.tup [.str "tick"])
def TmAt (H : Hp) : Tm → V → Prop
  | .lf l, v => LfAt H l v
  | .call f as, v => ∃ p q us, v = .ref p ∧ H p = some (.tup [.str "call", .str f, .ref q]) ∧ H q = some (.tup us) ∧ Paired (LfAt H) as us
  | .op o a b, v => ∃ p x y, v = .ref p ∧ H p = some (.tup [.str (opName o), x, y]) ∧ TmAt H a x ∧ TmAt H b y
  | .ite c a b, v => ∃ p z x y, v = .ref p ∧ H p = some (.tup [.str "if", z, x, y]) ∧ TmAt H c z ∧ TmAt H a x ∧ TmAt H b y
theorem LfAt.monoN {H H' : Hp} (e : ExN H H') {l : Lf} {v : V} (h : LfAt H l v) : LfAt H' l v := by
  cases l with
  | val n => exact h
  | arg i => obtain ⟨p, h1, h2⟩ := h; exact ⟨p, h1, e.at h2⟩
  | cel c => obtain ⟨p, h1, h2⟩ := h; exact ⟨p, h1, e.at h2⟩
  | tick => obtain ⟨p, h1, h2⟩ := h; exact ⟨p, h1, e.at h2⟩
theorem TmAt.monoN {H H' : Hp} (e : ExN H H') : ∀ {t : Tm} {v : V}, TmAt H t v → TmAt H' t v
  | .lf l, v, h => LfAt.monoN e h
  | .call f as, v, ⟨p, q, us, h1, h2, h3, h4⟩ => ⟨p, q, us, h1, e.at h2, e.at h3, Paired.mapP h4 fun _ _ z => LfAt.monoN e z⟩
  | .op o a b, v, ⟨p, x, y, h1, h2, h3, h4⟩ => ⟨p, x, y, h1, e.at h2, TmAt.monoN e h3, TmAt.monoN e h4⟩
  | .ite c a b, v, ⟨p, z, x, y, h1, h2, h3, h4, h5⟩ => ⟨p, z, x, y, h1, e.at h2, TmAt.monoN e h3, TmAt.monoN e h4, TmAt.monoN e h5⟩
theorem LfAt.mono {H H' : Hp} (e : Ex H H') {l : Lf} {v : V} (h : LfAt H l v) : LfAt H' l v := h.monoN (exn e)
theorem TmAt.mono {H H' : Hp} (e : Ex H H') {t : Tm} {v : V} (h : TmAt H t v) : TmAt H' t v := h.monoN (exn e)
/-- a term's value: an int, or a tuple that begins with its kind -/
def kindT : Tm → Option Str
  | .lf (.val _) => none
  | .lf (.arg _) => some "arg"
  | .lf (.cel _) => some "cell"
  | .lf .tick => some "tick"
  | .call _ _ => some "call"
  | .op o _ _ => some (opName o)
  | .ite _ _ _ => some "if"
theorem tm_shape {H : Hp} {t : Tm} {v : V} (h : TmAt H t v) : (∃ n, t = .lf (.val n) ∧ v = .int n) ∨ ∃ p k r, v = .ref p ∧ kindT t = some k ∧ H p = some (.tup (.str k :: r)) := by
  cases t with
  | lf l =>
    cases l with
    | val n => exact .inl ⟨n, rfl, h⟩
    | arg i => obtain ⟨p, h1, h2⟩ := h; exact .inr ⟨p, _, _, h1, rfl, h2⟩
    | cel c => obtain ⟨p, h1, h2⟩ := h; exact .inr ⟨p, _, _, h1, rfl, h2⟩
    | tick => obtain ⟨p, h1, h2⟩ := h; exact .inr ⟨p, _, _, h1, rfl, h2⟩
  | call f as => obtain ⟨p, q, us, h1, h2, _⟩ := h; exact .inr ⟨p, _, _, h1, rfl, h2⟩
  | op o a b => obtain ⟨p, x, y, h1, h2, _⟩ := h; exact .inr ⟨p, _, _, h1, rfl, h2⟩
  | ite c a b => obtain ⟨p, z, x, y, h1, h2, _⟩ := h; exact .inr ⟨p, _, _, h1, rfl, h2⟩

/-! ### rows of things -/
theorem Paired.get {α β : Type} {F : α → β → Prop} : ∀ {l : List α} {m : List β}, Paired F l m → ∀ {i : Nat} {a : α}, l[i]? = some a → ∃ b, m[i]? = some b ∧ F a b
  | _, _, .nil, _, _, e => by simp at e
  | _, _, .cons r t, 0, a, e => by simp at e; subst e; exact ⟨_, rfl, r⟩
  | _, _, .cons r t, i + 1, a, e => by
    obtain ⟨b, h1, h2⟩ := Paired.get t (i := i) (a := a) (by simpa using e)
    exact ⟨b, by simpa using h1, h2⟩
theorem Paired.getR {α β : Type} {F : α → β → Prop} : ∀ {l : List α} {m : List β}, Paired F l m → ∀ {i : Nat} {b : β}, m[i]? = some b → ∃ a, l[i]? = some a ∧ F a b
  | _, _, .nil, _, _, e => by simp at e
  | _, _, .cons r t, 0, a, e => by simp at e; subst e; exact ⟨_, rfl, r⟩
  | _, _, .cons r t, i + 1, a, e => by
    obtain ⟨b, h1, h2⟩ := Paired.getR t (i := i) (b := a) (by simpa using e)
    exact ⟨b, by simpa using h1, h2⟩
theorem Paired.snoc {α β : Type} {F : α → β → Prop} : ∀ {l : List α} {m : List β} {a : α} {b : β}, Paired F l m → F a b → Paired F (l ++ [a]) (m ++ [b])
  | _, _, _, _, .nil, h => .cons h .nil
  | _, _, _, _, .cons r t, h => .cons r (Paired.snoc t h)
theorem Paired.app {α β : Type} {F : α → β → Prop} : ∀ {l l' : List α} {m m' : List β}, Paired F l m → Paired F l' m' → Paired F (l ++ l') (m ++ m')
  | _, _, _, _, .nil, h => h
  | _, _, _, _, .cons r t, h => .cons r (Paired.app t h)
theorem Paired.rev {α β : Type} {F : α → β → Prop} {l : List α} {m : List β} (h : Paired F l m) : Paired F l.reverse m.reverse := by
  induction h with
  | nil => exact .nil
  | cons r t ih => rw [List.reverse_cons, List.reverse_cons]; exact ih.snoc r

/-! ### cells, functions, books -/
abbrev KS (x : Str) (v : V) : Key × V := (Sum.inr x, v)
section
variable (K : PySem.W.Frag) (H : Hp)
/-- as the law has them -/
def CelL (c : Str × Str) (v : V) : Prop := ∃ p, v = .ref p ∧ H p = some (.tup [.str c.1, .str c.2])
def WrL (w : Str × Tm) (v : V) : Prop := ∃ p x, v = .ref p ∧ H p = some (.tup [.str w.1, x]) ∧ TmAt H w.2 x
def FunL (g : Fn) (v : V) : Prop := ∃ p x pw ws, v = .ref p ∧ H p = some (.dK [KS "name" (.str g.name), KS "many" (.int (g.many : Int)), KS "result" x, KS "writes" (.ref pw), KS "cost" (.int g.cost), KS "label" (.str g.label)]) ∧
  TmAt H g.res x ∧ H pw = some (.tup ws) ∧ Paired (WrL H) g.wr ws
def BookL (b : Bk) (v : V) : Prop := ∃ p pc pf cs fs, v = .ref p ∧ H p = some (.dK [KS "cells" (.ref pc), KS "functions" (.ref pf)]) ∧ H pc = some (.lst cs) ∧ Paired (CelL H) b.cells cs ∧ H pf = some (.lst fs) ∧ Paired (FunL H) b.fns fs
/-- as the program has them -/
def CelP (c : Str × Str) (v : V) : Prop := ∃ p dx, v = .ref p ∧ H p = some (.ins (He.ga K "Cell") dx [("name", .str c.1), ("kind", .str c.2)]) ∧ H dx = some (.own p)
def FunP (g : Fn) (v : V) : Prop := ∃ p dx pl dl hl x pw ws, v = .ref p ∧ H p = some (.ins (He.ga K "Function") dx [("label", .ref pl), ("name", .str g.name), ("arguments", .int (g.many : Int)), ("result", x), ("writes", .ref pw), ("cost", .int g.cost)]) ∧
  H pl = some (.ins (He.ga K "Label") dl [("name", .str g.label), ("height", .int hl)]) ∧ TmAt H g.res x ∧ H pw = some (.tup ws) ∧ Paired (WrL H) g.wr ws
def BookP (b : Bk) (v : V) : Prop := ∃ p dx pc pf cs fs, v = .ref p ∧ H p = some (.ins (He.ga K "Book") dx [("cell_row", .ref pc), ("row", .ref pf)]) ∧ H pc = some (.tup cs) ∧ Paired (CelP K H) b.cells cs ∧ H pf = some (.tup fs) ∧ Paired (FunP K H) b.fns fs
end
section
variable {K : PySem.W.Frag} {H H' : Hp} (e : ExN H H')
include e
theorem CelL.monoN {c : Str × Str} {v : V} (h : CelL H c v) : CelL H' c v := let ⟨p, h1, h2⟩ := h; ⟨p, h1, e.at h2⟩
theorem WrL.monoN {c : Str × Tm} {v : V} (h : WrL H c v) : WrL H' c v := let ⟨p, x, h1, h2, h3⟩ := h; ⟨p, x, h1, e.at h2, h3.monoN e⟩
theorem FunL.monoN {g : Fn} {v : V} (h : FunL H g v) : FunL H' g v :=
  let ⟨p, x, pw, ws, h1, h2, h3, h4, h5⟩ := h; ⟨p, x, pw, ws, h1, e.at h2, h3.monoN e, e.at h4, Paired.mapP h5 fun _ _ z => WrL.monoN e z⟩
theorem CelP.monoN {c : Str × Str} {v : V} (h : CelP K H c v) : CelP K H' c v := let ⟨p, dx, h1, h2, h3⟩ := h; ⟨p, dx, h1, e.at h2, e.at h3⟩
theorem FunP.monoN {g : Fn} {v : V} (h : FunP K H g v) : FunP K H' g v :=
  let ⟨p, dx, pl, dl, hl, x, pw, ws, h1, h2, h3, h4, h5, h6⟩ := h; ⟨p, dx, pl, dl, hl, x, pw, ws, h1, e.at h2, e.at h3, h4.monoN e, e.at h5, Paired.mapP h6 fun _ _ z => WrL.monoN e z⟩
theorem BookP.monoN {b : Bk} {v : V} (h : BookP K H b v) : BookP K H' b v :=
  let ⟨p, dx, pc, pf, cs, fs, h1, h2, h3, h4, h5, h6⟩ := h; ⟨p, dx, pc, pf, cs, fs, h1, e.at h2, e.at h3, Paired.mapP h4 fun _ _ z => CelP.monoN e z, e.at h5, Paired.mapP h6 fun _ _ z => FunP.monoN e z⟩
end
section
variable {K : PySem.W.Frag} {H H' : Hp} (e : Ex H H')
include e
theorem CelL.mono {c : Str × Str} {v : V} (h : CelL H c v) : CelL H' c v := h.monoN (exn e)
theorem WrL.mono {c : Str × Tm} {v : V} (h : WrL H c v) : WrL H' c v := h.monoN (exn e)
theorem FunL.mono {g : Fn} {v : V} (h : FunL H g v) : FunL H' g v := h.monoN (exn e)
theorem BookL.mono {b : Bk} {v : V} (h : BookL H b v) : BookL H' b v :=
  let ⟨p, pc, pf, cs, fs, h1, h2, h3, h4, h5, h6⟩ := h; ⟨p, pc, pf, cs, fs, h1, e _ _ h2, e _ _ h3, Paired.mapP h4 fun _ _ z => CelL.mono e z, e _ _ h5, Paired.mapP h6 fun _ _ z => FunL.mono e z⟩
theorem CelP.mono {c : Str × Str} {v : V} (h : CelP K H c v) : CelP K H' c v := h.monoN (exn e)
theorem FunP.mono {g : Fn} {v : V} (h : FunP K H g v) : FunP K H' g v := h.monoN (exn e)
theorem BookP.mono {b : Bk} {v : V} (h : BookP K H b v) : BookP K H' b v := h.monoN (exn e)
end

/-! ### words -/
section
variable {X : Cx} {pos : Pos}
theorem pe_gi {x : Str} {i : Int} (h : ∃ t, X.mg x = some (.int i t)) (hg : Gl X x := by rfl) (hd : (x == ("__debug__" : Str)) = false := by decide) : PE X (.Name x pos) (tC (.int i)) := by
  obtain ⟨t, h⟩ := h
  exact pe_glob hg h ⟨t, rfl⟩ hd
theorem pe_gs {x z : Str} (h : ∃ t, X.mg x = some (.str z t)) (hg : Gl X x := by rfl) (hd : (x == ("__debug__" : Str)) = false := by decide) : PE X (.Name x pos) (tC (.str z)) := by
  obtain ⟨t, h⟩ := h
  exact pe_glob hg h ⟨t, rfl⟩ hd
end
section
variable {K : PySem.W.Frag} {H : Hp}
/-- an int or a tuple -/
def NumV (H : Hp) (x : V) (b : Bool) : Prop := (∃ i, x = .int i ∧ b = true) ∨ ∃ p xs, x = .ref p ∧ H p = some (.tup xs) ∧ b = false
theorem NumV.mono {H' : Hp} (e : Ex H H') {x : V} {b : Bool} (h : NumV H x b) : NumV H' x b := by
  rcases h with h | ⟨p, xs, h1, h2, h3⟩
  · exact .inl h
  · exact .inr ⟨p, xs, h1, e _ _ h2, h3⟩
theorem rc_isi {x : V} {t : Value} {n : String} {b : Bool} (ty : ∀ H1, Ex H H1 → TyX K H1 x t) (e : PySem.W.kitOne K t (.type n) = some b) : RC (rIsi K) [x, .ty n] H (.bl b) := fun H1 e1 Q q =>
  ⟨x, .ty n, t, .type n, b, rfl, .ty n, ty H1 e1, e, q H1 (Ex.refl H1)⟩
theorem ty_int {i : Int} : ∀ H1, Ex H H1 → TyX K H1 (.int i) (.type "int") := fun _ _ => .base (.int i)
theorem ty_str {i : Str} : ∀ H1, Ex H H1 → TyX K H1 (.str i) (.type "str") := fun _ _ => .base (.str i)
theorem ty_tup {p : Addr} {xs : List V} (h : H p = some (.tup xs)) : ∀ H1, Ex H H1 → TyX K H1 (.ref p) (.type "tuple") := fun _ e => .base (.tup (e _ _ h))
theorem ty_lst {p : Addr} {xs : List V} (h : H p = some (.lst xs)) : ∀ H1, Ex H H1 → TyX K H1 (.ref p) (.type "list") := fun _ e => .base (.lst (e _ _ h))
theorem ty_dK {p : Addr} {xs : List (Key × V)} (h : H p = some (.dK xs)) : ∀ H1, Ex H H1 → TyX K H1 (.ref p) (.type "dict") := fun _ e => .base (.dK (e _ _ h))
theorem ev_isi {σ : L2.St} {te : TE} {x : V} {t : Value} {n : String} (b : Bool) (h : Ev te σ H x) (ty : ∀ H1, Ex H H1 → TyX K H1 x t) (e : PySem.W.kitOne K t (.type n) = some b) : Ev (tCB (rIsi K) (tCons te (tCons (tC (.ty n)) tNil))) σ H (.bl b) :=
  ev_cb (ea_cons h (ea_cons ev_c ea_nil)) (rc_isi ty e)
end
end SC
set_option Elab.async false
set_option linter.all false
set_option maxRecDepth 100000
set_option maxHeartbeats 1000000
/-! EV: what walked things give; comprehensions and loops by that. -/
namespace SC
open PySem PySem.Spec PyProof.Rows L2 C8 Evl

def EvI (wi : TI) (σ : L2.St) (H : Hp) (xs : List V) : Prop := ∀ H1, Ex H H1 → ∀ R : It → Hp → Prop, (∀ J H2 G, Ex H1 H2 → (∀ H', Ex H2 H' → G H') → Walk J xs.length G (YAt xs) → R J H2) → wi σ H1 R
section
variable {K : PySem.W.Frag} {σ : L2.St} {H : Hp} {te : TE} {ta : TA}
theorem evi_list {a : Addr} {xs : List V} (h : Ev te σ H (.ref a)) (hx : SqL K H a xs) : EvI (iList K te) σ H xs := fun H1 e R q =>
  h H1 e _ fun H2 e2 => ⟨a, rfl, ⟨xs, ex_l (e.trans e2) hx⟩, q _ _ _ e2 (fun H' e' => ex_l ((e.trans e2).trans e') hx) walk_list⟩
theorem evi_listN {xs : List V} (h : EvL te σ H xs) : EvI (iList K te) σ H xs := fun H1 e R q =>
  h H1 e _ fun p H2 _ e2 hp => ⟨p, rfl, ⟨xs, sq_of hp⟩, q _ _ _ e2 (fun H' e' => sq_of (e' _ _ hp)) walk_list⟩
theorem evi_tup {a : Addr} {xs : List V} (h : Ev te σ H (.ref a)) (hx : SqT K H a xs) : EvI (iTup K te) σ H xs := fun H1 e R q =>
  h H1 e _ fun H2 e2 => ⟨a, rfl, ⟨xs, ex_t (e.trans e2) hx⟩, q _ _ _ e2 (fun H' e' => ex_t ((e.trans e2).trans e') hx) walk_tup⟩
theorem evi_tupN {xs : List V} (h : EvU te σ H xs) : EvI (iTup K te) σ H xs := fun H1 e R q =>
  h H1 e _ fun p H2 _ e2 hp => ⟨p, rfl, ⟨xs, st_of hp⟩, q _ _ _ e2 (fun H' e' => st_of (e' _ _ hp)) walk_tup⟩
theorem evi_str {z : Str} (h : Ev te σ H (.str z)) : EvI (iStr te) σ H (z.cps.toList.map fun c => .str ⟨#[c]⟩) := fun H1 e R q =>
  h H1 e _ fun H2 e2 => ⟨z, rfl, by
    have hl : z.cps.size = (z.cps.toList.map fun c => V.str ⟨#[c]⟩).length := by simp
    refine q _ _ (fun _ => True) e2 (fun _ _ => True.intro) ?_
    rw [← hl]
    refine (walk_str (z := z)).mono (fun _ h => h) fun i H x H' _ _ y => ?_
    obtain ⟨h1, c, h2, h3⟩ := y
    exact ⟨h1, by rw [h3, List.getElem?_map, ← Array.getElem?_toList] at *; rw [h2]; rfl⟩⟩
theorem evi_rng {n : Nat} (h : EvA ta σ H [.int n]) (hn : n < 2 ^ 62) : EvI (iRng1 ta) σ H ((List.range n).map fun i : Nat => V.int (i : Int)) := fun H1 e R q =>
  h H1 e _ fun H2 e2 => ⟨n, rfl, by omega, by exact_mod_cast hn, by
    rw [Int.toNat_natCast]
    refine q _ _ (fun _ => True) e2 (fun _ _ => True.intro) ?_
    have hl : ((List.range n).map fun i : Nat => V.int (i : Int)).length = n := by simp
    rw [hl]
    refine (walk_range (lo := 0) (n := n)).mono (fun _ h => h) fun i H x H' hi _ y => ?_
    obtain ⟨h1, h2⟩ := y
    exact ⟨h1, by rw [h2, List.getElem?_map, List.getElem?_range hi]; simp⟩⟩
end
theorem yat_mem {xs : List V} {i : Nat} {H H' : Hp} {x : V} (y : YAt xs i H x H') : H' = H ∧ xs[i]? = some x := y

/-! ### comprehensions -/
/-- a new list of which Φ holds -/
def EvLP (te : TE) (σ : L2.St) (H : Hp) (Φ : List V → Hp → Prop) : Prop := ∀ H1, Ex H H1 → ∀ Q : VK, (∀ p ys H2, H1 p = none → Ex H1 H2 → H2 p = some (.lst ys) → Φ ys H2 → Q (.ref p) H2) → te σ H1 Q
theorem EvLP.l {te : TE} {σ : L2.St} {H : Hp} {zs : List V} (h : EvLP te σ H fun ys _ => ys = zs) : EvL te σ H zs := fun H1 e Q q => h H1 e Q fun p ys H2 a b c d => q p H2 a b (by rw [c, d])
theorem EvLP.imp {te : TE} {σ : L2.St} {H : Hp} {Φ Ψ : List V → Hp → Prop} (h : EvLP te σ H Φ) (k : ∀ ys H2, Ex H H2 → Φ ys H2 → Ψ ys H2) : EvLP te σ H Ψ := fun H1 e Q q => h H1 e Q fun p ys H2 a b c d => q p ys H2 a b c (k ys H2 (e.trans b) d)
theorem EvL.lp {te : TE} {σ : L2.St} {H : Hp} {zs : List V} (h : EvL te σ H zs) : EvLP te σ H fun ys _ => ys = zs := fun H1 e Q q => h H1 e Q fun p H2 a b c => q p zs H2 a b c rfl
section
variable {wi : TI} {g : TG} {tt : TT} {te tk tv : TE} {vs : List Nat} {σ : L2.St} {H : Hp} {xs : List V}
/-- a comprehension: Iv by the turn, what is made so far and the heap (its own list aside) -/
theorem lc_gen {j : Nat} (hi : EvI wi σ H xs) (Iv : Nat → List V → Hp → Prop) (hm : ∀ i acc H1 H2, ExN H1 H2 → Iv i acc H1 → Iv i acc H2) (h0 : ∀ H1, Ex H H1 → Iv 0 [] H1) (hz : xs.length ≤ 50000) (hw : ∀ x, wipe ((wipe σ vs).set j (some x)) vs = wipe σ vs)
    (hs : ∀ i x acc H1, xs[i]? = some x → Ex H H1 → acc.length ≤ i → Iv i acc H1 → ∃ b, EvT tt ((wipe σ vs).set j (some x)) H1 b ∧ (b = true → ∀ H2, Ex H1 H2 → ∀ Q : VK, (∀ y H3, Ex H2 H3 → Iv (i + 1) (acc ++ [y]) H3 → Q y H3) → te ((wipe σ vs).set j (some x)) H2 Q) ∧ (b = false → Iv (i + 1) acc H1)) :
    EvLP (tLc wi (gName j) tt te vs) σ H (Iv xs.length) := fun H0 e0 Q q => hi H0 e0 _ fun J H1 G e1 hG w D hD => by
  refine lc_it w (fun i H' => ∃ acc, H' D = some (.lst acc) ∧ acc.length ≤ i ∧ Ex H1 H' ∧ Iv i acc H') ⟨[], upd_same, Nat.le_refl _, Ex.new hD, hm _ _ H1 _ (exn (Ex.new hD)) (h0 H1 (e0.trans e1))⟩ (fun i H' _ ⟨acc, _, _, e, _⟩ => hG H' e) ?_ ?_
  · rintro i x H' H'' hlt ⟨acc, hd, hl, e, iv⟩ y
    obtain ⟨rfl, hx⟩ := yat_mem y
    obtain ⟨b, hb, h1, h2⟩ := hs i x acc H'' hx ((e0.trans e1).trans e) hl iv
    refine ⟨hw x, hb H'' (Ex.refl _) _ fun H3 e3 => ?_⟩
    cases b with
    | true =>
      refine h1 rfl H3 e3 _ fun y H4 e4 i4 => ?_
      have hd4 := e4 _ _ (e3 _ _ hd)
      exact ⟨acc, hd4, sz_lt (by omega), acc ++ [y], upd_same, by rw [List.length_append, List.length_singleton]; omega, Ex.mut ((e.trans e3).trans e4) hD, hm _ _ _ _ (ExN.lst hd4) i4⟩
    | false =>
      show ∃ acc, _
      exact ⟨acc, e3 _ _ hd, by omega, e.trans e3, hm _ _ _ _ (exn e3) (h2 rfl)⟩
  · rintro H' ⟨acc, hd, hl, e, iv⟩
    exact q D acc H' (fresh_back e1 hD) (e1.trans e) hd iv
/-- values only -/
theorem el_fm {j : Nat} (hi : EvI wi σ H xs) (f : V → Bool) (φ : V → V) (hz : xs.length ≤ 40000) (hw : ∀ x, wipe ((wipe σ vs).set j (some x)) vs = wipe σ vs)
    (ht : ∀ x ∈ xs, EvT tt ((wipe σ vs).set j (some x)) H (f x)) (he : ∀ x ∈ xs, f x = true → Ev te ((wipe σ vs).set j (some x)) H (φ x)) : EvL (tLc wi (gName j) tt te vs) σ H ((xs.filter f).map φ) := fun H0 e0 Q q => hi H0 e0 _ fun J H1 G e1 hG w D hD => by
  refine lc_it w (fun i H' => H' D = some (.lst (((xs.take i).filter f).map φ)) ∧ Ex H1 H') ⟨upd_same, Ex.new hD⟩ (fun i H' _ ⟨_, e⟩ => hG H' e) ?_ ?_
  · rintro i x H' H'' hlt ⟨hd, e⟩ y
    obtain ⟨rfl, hx⟩ := yat_mem y
    have hmem : x ∈ xs := List.mem_of_getElem? hx
    have tk1 : xs.take (i + 1) = xs.take i ++ [x] := by rw [List.take_add_one, hx]; rfl
    have hlen : (((xs.take i).filter f).map φ).length ≤ i := by
      rw [List.length_map]
      exact Nat.le_trans (List.length_filter_le _ _) (by rw [List.length_take]; omega)
    refine ⟨hw x, ht x hmem H'' ((e0.trans e1).trans e) _ fun H3 e3 => ?_⟩
    cases hf : f x with
    | true =>
      refine he x hmem hf H3 (((e0.trans e1).trans e).trans e3) _ fun H4 e4 => ⟨_, e4 _ _ (e3 _ _ hd), sz_lt (by omega), ?_, Ex.mut ((e.trans e3).trans e4) hD⟩
      rw [upd_same, tk1, List.filter_append, List.map_append, List.filter_cons_of_pos hf]
      rfl
    | false =>
      refine ⟨?_, e.trans e3⟩
      rw [e3 _ _ hd, tk1, List.filter_append, List.map_append, List.filter_cons_of_neg (by rw [hf]; exact Bool.false_ne_true)]
      simp
  · rintro H' ⟨hd, e⟩
    rw [List.take_length] at hd
    exact q D H' (fresh_back e1 hD) (e1.trans e) hd
theorem et_yes {σ' : L2.St} {H' : Hp} : EvT tYes σ' H' true := fun H1 _ Q q => q H1 (Ex.refl H1)
theorem el_map {j : Nat} (hi : EvI wi σ H xs) (φ : V → V) (hz : xs.length ≤ 40000) (hw : ∀ x, wipe ((wipe σ vs).set j (some x)) vs = wipe σ vs)
    (he : ∀ x ∈ xs, Ev te ((wipe σ vs).set j (some x)) H (φ x)) : EvL (tLc wi (gName j) tYes te vs) σ H (xs.map φ) := by
  have := el_fm (tt := tYes) hi (fun _ => true) φ hz hw (fun _ _ => et_yes) fun x hx _ => he x hx
  rwa [List.filter_eq_self.mpr (fun _ _ => rfl)] at this

/-! ### dict comprehensions -/
def EvD (te : TE) (σ : L2.St) (H : Hp) (kvs : List (Key × V)) : Prop := ∀ H1, Ex H H1 → ∀ Q : VK, (∀ p H2, H1 p = none → Ex H1 H2 → H2 p = some (.dK kvs) → Q (.ref p) H2) → te σ H1 Q
theorem putK_len (kvs : List (Key × V)) (k : Key) (v : V) : (putK kvs k v).length ≤ kvs.length + 1 := by
  unfold putK
  split
  · simp
  · simp
/-- {key x: val x for x in xs if f x}, the keys texts -/
theorem ed_fm {j : Nat} (hi : EvI wi σ H xs) (f : V → Bool) (κ : V → Str) (φ : V → V) (hz : xs.length ≤ 40000) (hw : ∀ x, wipe ((wipe σ vs).set j (some x)) vs = wipe σ vs)
    (ht : ∀ x ∈ xs, EvT tt ((wipe σ vs).set j (some x)) H (f x)) (hk : ∀ x ∈ xs, f x = true → Ev tk ((wipe σ vs).set j (some x)) H (.str (κ x))) (he : ∀ x ∈ xs, f x = true → Ev tv ((wipe σ vs).set j (some x)) H (φ x)) :
    EvD (tDc wi (gName j) tt tk tv vs) σ H ((xs.filter f).foldl (fun acc x => putK acc (Sum.inr (κ x)) (φ x)) []) := fun H0 e0 Q q => hi H0 e0 _ fun J H1 G e1 hG w D hD => by
  have lenf : ∀ (l : List V) (acc : List (Key × V)), (l.foldl (fun acc x => putK acc (Sum.inr (κ x)) (φ x)) acc).length ≤ acc.length + l.length := by
    intro l
    induction l with
    | nil => intro acc; exact Nat.le_refl _
    | cons x r ih =>
      intro acc
      have := putK_len acc (Sum.inr (κ x)) (φ x)
      refine Nat.le_trans (ih _) ?_
      rw [List.length_cons]
      show (putK acc (Sum.inr (κ x)) (φ x)).length + r.length ≤ _
      omega
  refine ⟨fun i m H' => m = xs.length - i ∧ i ≤ xs.length ∧ H' D = some (.dK (((xs.take i).filter f).foldl (fun acc x => putK acc (Sum.inr (κ x)) (φ x)) [])) ∧ Ex H1 H', ⟨xs.length, rfl, Nat.zero_le _, upd_same, Ex.new hD⟩, ?_⟩
  rintro i m H' ⟨rfl, hi', hd, e⟩
  by_cases hlt : i < xs.length
  · refine .inr ⟨w.goes i H' hlt (hG H' e), fun H2 => H2 D = some (.dK (((xs.take (i + 1)).filter f).foldl (fun acc x => putK acc (Sum.inr (κ x)) (φ x)) [])) ∧ Ex H1 H2, fun H2 h2 => ⟨_, (by omega : xs.length - (i + 1) < xs.length - i), rfl, hlt, h2.1, h2.2⟩, fun x H'' y => ?_⟩
    obtain ⟨rfl, hx⟩ := yat_mem (w.yields i H' x H'' hlt (hG H' e) y)
    have hmem : x ∈ xs := List.mem_of_getElem? hx
    have tk1 : xs.take (i + 1) = xs.take i ++ [x] := by rw [List.take_add_one, hx]; rfl
    refine ⟨hw x, ht x hmem H'' ((e0.trans e1).trans e) _ fun H3 e3 => ?_⟩
    cases hf : f x with
    | true =>
      refine hk x hmem hf H3 (((e0.trans e1).trans e).trans e3) _ fun H4 e4 => he x hmem hf H4 ((((e0.trans e1).trans e).trans e3).trans e4) _ fun H5 e5 =>
        ⟨_, Sum.inr (κ x), rfl, e5 _ _ (e4 _ _ (e3 _ _ hd)), sz_lt ?_, ?_, Ex.mut (((e.trans e3).trans e4).trans e5) hD⟩
      · have h1 := lenf ((xs.take i).filter f) []
        have h2 := List.length_filter_le f (xs.take i)
        have h3 : (xs.take i).length ≤ i := by rw [List.length_take]; omega
        refine Nat.lt_of_le_of_lt h1 ?_
        rw [List.length_nil]
        omega
      · rw [upd_same, tk1, List.filter_append, List.filter_cons_of_pos hf, List.foldl_append]
        rfl
    | false =>
      refine ⟨?_, e.trans e3⟩
      rw [e3 _ _ hd, tk1, List.filter_append, List.filter_cons_of_neg (by rw [hf]; exact Bool.false_ne_true)]
      simp
  · have ei : i = xs.length := by omega
    subst ei
    rw [List.take_length] at hd
    exact .inl ⟨w.stops H' (hG H' e), q D H' (fresh_back e1 hD) (e1.trans e) hd⟩
end

/-! ### loops that change no tracked thing -/
section
variable {wi : TI} {g : TG} {tu tz : TS} {σ : L2.St} {H : Hp} {xs : List V} {D : Ends}
theorem s_forI (hi : EvI wi σ H xs) (Pv : Nat → L2.St → Hp → Prop) (h0 : ∀ H1, Ex H H1 → Pv 0 σ H1) 
    (hs : ∀ i x σ' H', xs[i]? = some x → Ex H H' → Pv i σ' H' → g x σ' H' fun σ2 H2 => tu { D with nx := fun σ3 H3 => Ex H' H3 ∧ Pv (i + 1) σ3 H3, ct := fun σ3 H3 => Ex H' H3 ∧ Pv (i + 1) σ3 H3, bk := D.nx } σ2 H2) (hd : ∀ σ' H', Ex H H' → Pv xs.length σ' H' → D.nx σ' H') : tFor wi g tu D σ H :=
  hi H (Ex.refl H) _ fun J H1 G e1 hG w => by
    refine ⟨fun i m σ' H' => m = xs.length - i ∧ i ≤ xs.length ∧ Ex H1 H' ∧ Pv i σ' H', ⟨xs.length, rfl, Nat.zero_le _, Ex.refl _, h0 H1 e1⟩, ?_⟩
    rintro i m σ' H' ⟨rfl, hi', e, p⟩
    by_cases hlt : i < xs.length
    · refine .inr ⟨w.goes i H' hlt (hG H' e), fun σ3 H3 => Ex H' H3 ∧ Pv (i + 1) σ3 H3, fun σ3 H3 h3 => ⟨_, (by omega : xs.length - (i + 1) < xs.length - i), rfl, hlt, e.trans h3.1, h3.2⟩, fun x H'' y => ?_⟩
      obtain ⟨rfl, hx'⟩ := yat_mem (w.yields i H' x H'' hlt (hG H' e) y)
      exact hs i x σ' H'' hx' (e1.trans e) p
    · have ei : i = xs.length := by omega
      subst ei
      exact .inl ⟨w.stops H' (hG H' e), hd σ' H' (e1.trans e) p⟩
theorem q_forI (hi : EvI wi σ H xs) (Pv : Nat → L2.St → Hp → Prop) (h0 : ∀ H1, Ex H H1 → Pv 0 σ H1) 
    (hs : ∀ i x σ' H', xs[i]? = some x → Ex H H' → Pv i σ' H' → g x σ' H' fun σ2 H2 => tu { D with nx := fun σ3 H3 => Ex H' H3 ∧ Pv (i + 1) σ3 H3, ct := fun σ3 H3 => Ex H' H3 ∧ Pv (i + 1) σ3 H3, bk := tz D } σ2 H2) (hd : ∀ σ' H', Ex H H' → Pv xs.length σ' H' → tz D σ' H') : tSeq (tFor wi g tu) tz D σ H :=
  s_forI (D := { D with nx := tz D }) hi Pv h0 hs hd
end
theorem q_asgLP {te : TE} {σ : L2.St} {H : Hp} {Φ : List V → Hp → Prop} {tz : TS} {D : Ends} {i : Nat} (h : EvLP te σ H Φ) (k : ∀ p ys H1, H p = none → Ex H H1 → H1 p = some (.lst ys) → Φ ys H1 → tz D (σ.set i (some (.ref p))) H1) : tSeq (tAsg te (gName i)) tz D σ H := h H (Ex.refl H) _ k
theorem s_retLP {te : TE} {σ : L2.St} {H : Hp} {Φ : List V → Hp → Prop} {D : Ends} (h : EvLP te σ H Φ) (k : ∀ p ys H1, H p = none → Ex H H1 → H1 p = some (.lst ys) → Φ ys H1 → D.rt (.ref p) H1) : tRet te D σ H := h H (Ex.refl H) _ k
theorem q_asgD {te : TE} {σ : L2.St} {H : Hp} {kvs : List (Key × V)} {tz : TS} {D : Ends} {i : Nat} (h : EvD te σ H kvs) (k : ∀ p H1, H p = none → Ex H H1 → H1 p = some (.dK kvs) → tz D (σ.set i (some (.ref p))) H1) : tSeq (tAsg te (gName i)) tz D σ H := h H (Ex.refl H) _ k
/-! ### more values -/
theorem at0 {x : V} {r : List V} : atI (x :: r) 0 = some x := atI_nat (j := 0) rfl
theorem at1 {x y : V} {r : List V} : atI (x :: y :: r) 1 = some y := atI_nat (j := 1) rfl
theorem at2 {x y z : V} {r : List V} : atI (x :: y :: z :: r) 2 = some z := atI_nat (j := 2) rfl
theorem at3 {x y z u : V} {r : List V} : atI (x :: y :: z :: u :: r) 3 = some u := atI_nat (j := 3) rfl

section
variable {K : PySem.W.Frag} {σ : L2.St} {H : Hp} {te ta tb : TE}
theorem ev_fld {f : Str} {a C dx : Addr} {fs : List (Str × V)} {v : V} (h : Ev te σ H (.ref a)) (ha : H a = some (.ins C dx fs)) (c : Cls K C) (n : NoAttr K C f) (l : fs.lookup f = some v) : Ev (tFld K te f) σ H v := fun H1 e Q q =>
  h H1 e _ fun H2 e2 => ⟨a, C, dx, fs, v, rfl, (e.trans e2) _ _ ha, c, n, l, q H2 e2⟩
theorem ev_dget {a : Addr} {kvs : List (Key × V)} {k : Str} {v : V} (h : Ev ta σ H (.ref a)) (hk : Ev tb σ H (.str k)) (ha : H a = some (.dK kvs)) (hv : valV kvs (Sum.inr k : Key) = some v) : Ev (tDGet ta tb) σ H v := fun H1 e Q q =>
  h H1 e _ fun H2 e2 => hk H2 (e.trans e2) _ fun H3 e3 => ⟨a, v, rfl, by rw [← hv]; exact DGet.k (k := Sum.inr k) (((e.trans e2).trans e3) _ _ ha), q H3 (e2.trans e3)⟩
theorem ev_din {a : Addr} {kvs : List (Key × V)} {k : Str} (hk : Ev tb σ H (.str k)) (h : Ev ta σ H (.ref a)) (ha : H a = some (.dK kvs)) : Ev (tDIn tb ta) σ H (.bl (valV kvs (Sum.inr k : Key)).isSome) := fun H1 e Q q =>
  hk H1 e _ fun H2 e2 => h H2 (e.trans e2) _ fun H3 e3 => ⟨a, _, rfl, DGet.k (k := Sum.inr k) (((e.trans e2).trans e3) _ _ ha), q H3 (e2.trans e3)⟩
theorem ev_dnotin {a : Addr} {kvs : List (Key × V)} {k : Str} (hk : Ev tb σ H (.str k)) (h : Ev ta σ H (.ref a)) (ha : H a = some (.dK kvs)) : Ev (tDNotIn tb ta) σ H (.bl (!(valV kvs (Sum.inr k : Key)).isSome)) := fun H1 e Q q =>
  hk H1 e _ fun H2 e2 => h H2 (e.trans e2) _ fun H3 e3 => ⟨a, _, rfl, DGet.k (k := Sum.inr k) (((e.trans e2).trans e3) _ _ ha), q H3 (e2.trans e3)⟩
theorem ev_all {bs : List Bool} (h : EvL te σ H (bs.map V.bl)) : Ev (tCB (rAll K) (tCons te tNil)) σ H (.bl (bs.all id)) := fun H1 e Q q =>
  h H1 e _ fun p H2 _ e2 hp => ⟨p, bs, rfl, sq_of hp, q H2 e2⟩
theorem ev_any {bs : List Bool} (h : EvL te σ H (bs.map V.bl)) : Ev (tCB (rAny K) (tCons te tNil)) σ H (.bl (bs.any id)) := fun H1 e Q q =>
  h H1 e _ fun p H2 _ e2 hp => ⟨p, bs, rfl, sq_of hp, q H2 e2⟩
end
end SC
set_option Elab.async false
set_option linter.all false
set_option maxRecDepth 100000
set_option maxHeartbeats 1000000
/-! EV2: [e for x in xs for y in ys(x)]. -/
namespace SC
open PySem PySem.Spec PyProof.Rows L2 C8 Evl
/-- all but D stand -/
def ExX (D : Addr) (H H' : Hp) : Prop := ∀ a o, a ≠ D → H a = some o → H' a = some o
section
variable {wi wi1 : TI} {te : TE} {vs vs1 : List Nat} {σ : L2.St} {H : Hp} {xs : List V} {j j1 : Nat}
theorem lc2_gen (hi : EvI wi σ H xs) (Iv : Nat → List V → Hp → Prop) (hm : ∀ i acc H1 H2, ExN H1 H2 → Iv i acc H1 → Iv i acc H2) (h0 : ∀ H1, Ex H H1 → Iv 0 [] H1)
    (hw : ∀ x, wipe ((wipe σ vs).set j (some x)) vs = wipe σ vs) (hw1 : ∀ x y, wipe ((wipe ((wipe σ vs).set j (some x)) vs1).set j1 (some y)) vs1 = wipe ((wipe σ vs).set j (some x)) vs1)
    (hs : ∀ i x acc D H1, xs[i]? = some x → Ex H H1 → H1 D = some (.lst acc) → Iv i acc H1 → ∀ R : It → Hp → Prop, (∀ J1 H2, Ex H1 H2 → (∃ (ys : List V) (G1 : Hp → Prop) (Jv : Nat → List V → Hp → Prop), Walk J1 ys.length G1 (YAt ys) ∧ (∀ H', ExX D H2 H' → G1 H') ∧
      (∀ k acc' H1 H2, ExN H1 H2 → Jv k acc' H1 → Jv k acc' H2) ∧ (∀ k acc' H3, Jv k acc' H3 → acc'.length ≤ 1000) ∧ Jv 0 acc H2 ∧
      (∀ k y acc' H3, ys[k]? = some y → ExX D H2 H3 → Jv k acc' H3 → ∀ Q : VK, (∀ z H4, Ex H3 H4 → Jv (k + 1) (acc' ++ [z]) H4 → Q z H4) → te ((wipe ((wipe σ vs).set j (some x)) vs1).set j1 (some y)) H3 Q) ∧ ∀ acc' H3, Jv ys.length acc' H3 → Iv (i + 1) acc' H3) → R J1 H2) → wi1 ((wipe σ vs).set j (some x)) H1 R) :
    EvLP (tLc2 wi (gName j) tYes wi1 (gName j1) tYes te vs vs1) σ H (Iv xs.length) := fun H0 e0 Q q => hi H0 e0 _ fun J H1 G e1 hG w D hD => by
  refine ⟨fun i m H' => m = xs.length - i ∧ i ≤ xs.length ∧ ∃ acc, H' D = some (.lst acc) ∧ Ex H1 H' ∧ Iv i acc H', ⟨xs.length, rfl, Nat.zero_le _, [], upd_same, Ex.new hD, hm _ _ H1 _ (exn (Ex.new hD)) (h0 H1 (e0.trans e1))⟩, ?_⟩
  rintro i m H' ⟨rfl, hi', acc, hd, e, iv⟩
  by_cases hlt : i < xs.length
  · refine .inr ⟨w.goes i H' hlt (hG H' e), fun H2 => ∃ acc, H2 D = some (.lst acc) ∧ Ex H1 H2 ∧ Iv (i + 1) acc H2, fun H2 ⟨acc, a1, a2, a3⟩ => ⟨_, (by omega : xs.length - (i + 1) < xs.length - i), rfl, hlt, acc, a1, a2, a3⟩, fun x H'' y => ?_⟩
    obtain ⟨rfl, hx⟩ := yat_mem (w.yields i H' x H'' hlt (hG H' e) y)
    refine ⟨hw x, ?_⟩
    show wi1 ((wipe σ vs).set j (some x)) H'' _
    refine hs i x acc D H'' hx ((e0.trans e1).trans e) hd iv _ fun J1 H2 e2 h2 => ?_
    obtain ⟨ys, G1, Jv, w1, hG1, jm, jl, j0, jstep, jend⟩ := h2
    have hD1 : H1 D = none := hD
    refine ⟨fun k m1 H' => m1 = ys.length - k ∧ k ≤ ys.length ∧ ∃ acc, H' D = some (.lst acc) ∧ ExX D H2 H' ∧ Jv k acc H', ⟨ys.length, rfl, Nat.zero_le _, acc, e2 _ _ hd, fun _ _ _ z => z, j0⟩, ?_⟩
    rintro k m1 H3 ⟨rfl, hk, acc3, hd3, x3, jv⟩
    have e13 : Ex H1 H3 := fun a o ha => x3 a o (ne_of_none ha hD) (e2 _ _ (e a o ha))
    by_cases hkl : k < ys.length
    · refine .inr ⟨w1.goes k H3 hkl (hG1 H3 x3), fun H4 => ∃ acc, H4 D = some (.lst acc) ∧ ExX D H2 H4 ∧ Jv (k + 1) acc H4, fun H4 ⟨acc, a1, a2, a3⟩ => ⟨_, (by omega : ys.length - (k + 1) < ys.length - k), rfl, hkl, acc, a1, a2, a3⟩, fun y H4 yy => ?_⟩
      obtain ⟨rfl, hy⟩ := yat_mem (w1.yields k H3 y H4 hkl (hG1 H3 x3) yy)
      refine ⟨hw1 x y, ?_⟩
      show te ((wipe ((wipe σ vs).set j (some x)) vs1).set j1 (some y)) H4 _
      refine jstep k y acc3 H4 hy x3 jv _ fun z H5 e5 j5 => ?_
      refine ⟨acc3, e5 _ _ hd3, sz_lt (by have := jl _ _ _ jv; omega), acc3 ++ [z], upd_same, fun a o ha hh => ?_, jm _ _ _ _ (ExN.lst (e5 _ _ hd3)) j5⟩
      rw [upd_ne ha]
      exact e5 _ _ (x3 a o ha hh)
    · have ek : k = ys.length := by omega
      subst ek
      exact .inl ⟨w1.stops H3 (hG1 H3 x3), acc3, hd3, e13, jend acc3 H3 jv⟩
  · have ei : i = xs.length := by omega
    subst ei
    exact .inl ⟨w.stops H' (hG H' e), q D acc H' (fresh_back e1 hD) (e1.trans e) hd iv⟩
end
end SC
set_option Elab.async false
set_option linter.all false
set_option maxRecDepth 100000
set_option maxHeartbeats 1000000
/-! W1: the words. -/
namespace SC
open PySem PySem.Spec PyProof.Rows L2 C8 Evl

/-- 0 .. 2, lo .. hi, of an int or a tuple -/
def btw (x : V) (lo hi : Int) : Bool := match x with
  | .int i => decide (lo ≤ i) && decide (i ≤ hi)
  | _ => false
def spIsInteger (K : PySem.W.Frag) : Sp := fun vs H Q _ => ∃ x b, vs = [x] ∧ NumV H x b ∧ RetV (.bl b) H Q
def spIsBetween (K : PySem.W.Frag) : Sp := fun vs H Q _ => ∃ x b lo hi, vs = [x, .int lo, .int hi] ∧ NumV H x b ∧ RetV (.bl (btw x lo hi)) H Q
def spIsValue (K : PySem.W.Frag) : Sp := fun vs H Q _ => ∃ x b, vs = [x] ∧ NumV H x b ∧ RetV (.bl (btw x 0 2)) H Q
def spIsName (K : PySem.W.Frag) : Sp := fun vs H Q _ => ∃ x, vs = [.str x] ∧ IsNm x ∧ RetV (.bl true) H Q
/-- a tuple that begins with a kind -/
def hk (H : Hp) (x : V) (kind : Str) (many : Int) (b : Bool) : Prop := (∃ i, x = .int i ∧ b = false) ∨ ∃ p k r, x = .ref p ∧ H p = some (.tup (.str k :: r)) ∧ b = (decide (((r.length + 1 : Nat) : Int) = many) && decide (k = kind))
theorem hk.mono {H H' : Hp} (e : Ex H H') {x : V} {k : Str} {m : Int} {b : Bool} (h : hk H x k m b) : hk H' x k m b := by
  rcases h with h | ⟨p, k, r, h1, h2, h3⟩
  · exact .inl h
  · exact .inr ⟨p, k, r, h1, e _ _ h2, h3⟩
def spHasKind (K : PySem.W.Frag) : Sp := fun vs H Q _ => ∃ x kind many b, vs = [x, .str kind, .int many] ∧ hk H x kind many b ∧ RetV (.bl b) H Q
theorem spv_isInteger {K : PySem.W.Frag} {H : Hp} {x : V} {b : Bool} (h : NumV H x b) : SpV (spIsInteger K) [x] H (.bl b) := fun H1 e Q q E => ⟨x, b, rfl, h.mono e, q⟩
theorem spv_isBetween {K : PySem.W.Frag} {H : Hp} {x : V} {b : Bool} {lo hi : Int} (h : NumV H x b) : SpV (spIsBetween K) [x, .int lo, .int hi] H (.bl (btw x lo hi)) := fun H1 e Q q E => ⟨x, b, lo, hi, rfl, h.mono e, q⟩
theorem spv_isValue {K : PySem.W.Frag} {H : Hp} {x : V} {b : Bool} (h : NumV H x b) : SpV (spIsValue K) [x] H (.bl (btw x 0 2)) := fun H1 e Q q E => ⟨x, b, rfl, h.mono e, q⟩
theorem spv_isName {K : PySem.W.Frag} {H : Hp} {x : Str} (h : IsNm x) : SpV (spIsName K) [.str x] H (.bl true) := fun H1 e Q q E => ⟨x, rfl, h, q⟩
theorem spv_hasKind {K : PySem.W.Frag} {H : Hp} {x : V} {b : Bool} {k : Str} {m : Int} (h : hk H x k m b) : SpV (spHasKind K) [x, .str k, .int m] H (.bl b) := fun H1 e Q q E => ⟨x, k, m, b, rfl, h.mono e, q⟩
theorem rc_len {K : PySem.W.Frag} {H : Hp} {x : V} {n : Nat} (h : ∀ H1, Ex H H1 → LenV K x H1 n) : RC (fun xs H Q => ∃ x n, xs = [x] ∧ LenV K x H n ∧ Q (.int n) H) [x] H (.int n) := fun H1 e Q q => ⟨x, n, rfl, h H1 e, q H1 (Ex.refl H1)⟩
theorem ev_chain {σ : L2.St} {H : Hp} {ta tb tc : TE} {x y z : V} {r r' : R2} {a b : Bool} (ha : Ev ta σ H x) (hb : Ev tb σ H y) (h1 : RV r x y H (.bl a)) (hc : Ev tc σ H z) (h2 : a = true → RV r' y z H (.bl b)) : Ev (tChain r r' ta tb tc) σ H (.bl (a && b)) := fun H1 e Q q =>
  ha H1 e _ fun H2 e2 => hb H2 (e.trans e2) _ fun H3 e3 => h1 H3 ((e.trans e2).trans e3) _ fun H4 e4 => ⟨a, rfl, by
    cases a with
    | true =>
      show tc σ H4 _
      exact hc H4 (((e.trans e2).trans e3).trans e4) _ fun H5 e5 => h2 rfl H5 ((((e.trans e2).trans e3).trans e4).trans e5) Q fun H6 e6 => q H6 ((((e2.trans e3).trans e4).trans e5).trans e6)
    | false =>
      show Q (.bl false) H4
      exact q H4 ((e2.trans e3).trans e4)⟩

section
variable {P : Program} {w : World} {K : PySem.W.Frag} {mg : Str → Option Value} {base : Heap} (T : Tx K mg)
include T

omit T in
theorem scIsInteger : FnScope ["value"] ["value"] (defScope sIsInteger) := ⟨rfl, rfl, rfl, by decide +kernel, rfl, by decide +kernel, by decide +kernel⟩
theorem okIsInteger : Cal P w K mg base 1 "is_integer" (spIsInteger K) [] := by
  obtain ⟨fd, F⟩ := T.DIsInteger
  refine cal_of T.g_is_integer F (F.bindsN fun _ _ _ _ _ _ us hl => match us, hl with | [_], _ => rfl) scIsInteger (fun vs H Q E h => ?_) (fun cdv A outer s H vs Q E hr h => ?_)
  · obtain ⟨x, b, rfl, _⟩ := h; rfl
  · refine ⟨_, (pss_one (ps_ret (pe_and (pe_callB call_isi rfl T.f_isinstance (by decide +kernel) (pa_cons (pv 0) (pa_cons (pe_bltn (v := .ty "int") (u := .type "int") rfl T.f_int (by decide +kernel) rfl) pa_nil))) (pe_one (pe_not (pe_callB call_isi rfl T.f_isinstance (by decide +kernel) (pa_cons (pv 0) (pa_cons (pe_bltn (v := .ty "bool") (u := .type "bool") rfl T.f_bool (by decide +kernel) rfl) pa_nil)))))))), ?_⟩
    obtain ⟨x, b, rfl, hn, hq⟩ := h
    refine s_ret (v := .bl b) ?_ hq
    rcases hn with ⟨i, rfl, rfl⟩ | ⟨p, xs, rfl, hp, rfl⟩
    · exact ev_is (ev_andV (ev_isi true (ev_var rfl) ty_int (kit_ty (by decide +kernel))) fun _ => ev_notV (ev_isi false (ev_var rfl) ty_int (kit_ty (by decide +kernel)))) rfl
    · exact ev_is (ev_andV (b := false) (ev_isi false (ev_var rfl) (ty_tup hp) (kit_ty (by decide +kernel))) fun z => by cases z) rfl

omit T in
theorem scIsBetween : FnScope ["value", "least", "most"] ["value", "least", "most"] (defScope sIsBetween) := ⟨rfl, rfl, rfl, by decide +kernel, rfl, by decide +kernel, by decide +kernel⟩
theorem okIsBetween : Cal P w K mg base 2 "is_between" (spIsBetween K) [] := by
  obtain ⟨fd, F⟩ := T.DIsBetween
  refine cal_of T.g_is_between F (F.bindsN fun _ _ _ _ _ _ us hl => match us, hl with | [_, _, _], _ => rfl) scIsBetween (fun vs H Q E h => ?_) (fun cdv A outer s H vs Q E hr h => ?_)
  · obtain ⟨x, b, lo, hi, rfl, _⟩ := h; rfl
  · refine ⟨_, (pss_one (ps_ret (pe_and (pe_c (okIsInteger T) hr (by decide) rfl (pa_cons (pv 0) pa_nil)) (pe_one (pe_chain op_le op_le (pv 1) (pv 0) (pv 2)))))), ?_⟩
    obtain ⟨x, b, lo, hi, rfl, hn, hq⟩ := h
    refine s_ret (v := .bl (btw x lo hi)) ?_ hq
    have hc : Ev (tCall (spIsInteger K) [] C8.E0 (tCons (tVar 0) tNil)) (start ["value", "least", "most"] [x, .int lo, .int hi]) H (.bl b) := ev_call (ea_cons (ev_var rfl) ea_nil) (spv_isInteger hn)
    rcases hn with ⟨i, rfl, rfl⟩ | ⟨p, xs, rfl, hp, rfl⟩
    · exact ev_is (ev_andV hc fun _ => ev_chain (ev_var rfl) (ev_var rfl) rv_I0 (ev_var rfl) fun _ => rv_I0) rfl
    · exact ev_is (ev_andV (b := false) hc fun z => by cases z) rfl

omit T in
theorem scIsValue : FnScope ["value"] ["value"] (defScope sIsValue) := ⟨rfl, rfl, rfl, by decide +kernel, rfl, by decide +kernel, by decide +kernel⟩
theorem okIsValue : Cal P w K mg base 3 "is_value" (spIsValue K) [] := by
  obtain ⟨fd, F⟩ := T.DIsValue
  refine cal_of T.g_is_value F (F.bindsN fun _ _ _ _ _ _ us hl => match us, hl with | [_], _ => rfl) scIsValue (fun vs H Q E h => ?_) (fun cdv A outer s H vs Q E hr h => ?_)
  · obtain ⟨x, b, rfl, _⟩ := h; rfl
  · refine ⟨_, (pss_one (ps_ret (pe_c (okIsBetween T) hr (by decide) rfl (pa_cons (pv 0) (pa_cons pe_int (pa_cons (pe_gi T.i_MOST_VALUE) pa_nil)))))), ?_⟩
    obtain ⟨x, b, rfl, hn, hq⟩ := h
    exact s_ret (ev_call (ea_cons (ev_var rfl) (ea_cons ev_c (ea_cons ev_c ea_nil))) (spv_isBetween hn)) hq

omit T in
theorem scHasKind : FnScope ["value", "kind", "many"] ["value", "kind", "many"] (defScope sHasKind) := ⟨rfl, rfl, rfl, by decide +kernel, rfl, by decide +kernel, by decide +kernel⟩
theorem okHasKind : Cal P w K mg base 1 "has_kind" (spHasKind K) [] := by
  obtain ⟨fd, F⟩ := T.DHasKind
  refine cal_of T.g_has_kind F (F.bindsN fun _ _ _ _ _ _ us hl => match us, hl with | [_, _, _], _ => rfl) scHasKind (fun vs H Q E h => ?_) (fun cdv A outer s H vs Q E hr h => ?_)
  · obtain ⟨x, k, m, b, rfl, _⟩ := h; rfl
  · refine ⟨_, (pss_one (ps_ret (pe_and (pe_callB call_isi rfl T.f_isinstance (by decide +kernel) (pa_cons (pv 0) (pa_cons (pe_bltn (v := .ty "tuple") (u := .type "tuple") rfl T.f_tuple (by decide +kernel) rfl) pa_nil))) (pe_and (pe_cmpR op_eq (pe_callB call_len rfl T.f_len (by decide +kernel) (pa_cons (pv 0) pa_nil)) (pv 2) (nomark _)) (pe_and (pe_callB call_isi rfl T.f_isinstance (by decide +kernel) (pa_cons (pe_ix ix_tup (pv 0) pe_int (fun _ _ => rfl)) (pa_cons (pe_bltn (v := .ty "str") (u := .type "str") rfl T.f_str (by decide +kernel) rfl) pa_nil))) (pe_one (pe_cmpR op_eq (pe_ix ix_tup (pv 0) pe_int (fun _ _ => rfl)) (pv 1) (nomark _)))))))), ?_⟩
    obtain ⟨x, kind, m, b, rfl, hn, hq⟩ := h
    refine s_ret (v := .bl b) ?_ hq
    rcases hn with ⟨i, rfl, rfl⟩ | ⟨p, k, r, rfl, hp, rfl⟩
    · exact ev_is (ev_andV (b := false) (ev_isi false (ev_var rfl) ty_int (kit_ty (by decide +kernel))) fun z => by cases z) rfl
    · refine ev_is (ev_andV (ev_isi true (ev_var rfl) (ty_tup hp) (kit_ty (by decide +kernel))) fun _ => ev_andV (ev_op (ev_cb (ea_cons (ev_var rfl) ea_nil) (rc_len (n := r.length + 1) fun H1 e => .inr ⟨_, ex_t e (st_of hp), rfl⟩)) (ev_var rfl) (rv_eq rfl)) fun _ => ev_andV (ev_isi true (ev_op (ev_var rfl) ev_c (rv_ixT (st_of hp) at0)) ty_str (kit_ty (by decide +kernel))) fun _ => ev_op (ev_op (ev_var rfl) ev_c (rv_ixT (st_of hp) at0)) (ev_var rfl) (rv_eq rfl)) ?_
      simp

omit T in
theorem scIsName : FnScope ["value", "sign"] ["value"] (defScope sIsName) := ⟨rfl, rfl, rfl, by decide +kernel, rfl, by decide +kernel, by decide +kernel⟩
theorem okIsName : Cal P w K mg base 1 "is_name" (spIsName K) [] := by
  obtain ⟨fd, F⟩ := T.DIsName
  refine cal_of T.g_is_name F (F.bindsN fun _ _ _ _ _ _ us hl => match us, hl with | [_], _ => rfl) scIsName (fun vs H Q E h => ?_) (fun cdv A outer s H vs Q E hr h => ?_)
  · obtain ⟨x, rfl, _⟩ := h; rfl
  · refine ⟨_, (pss_one (ps_ret (pe_and (pe_callB call_isi rfl T.f_isinstance (by decide +kernel) (pa_cons (pv 0) (pa_cons (pe_bltn (v := .ty "str") (u := .type "str") rfl T.f_str (by decide +kernel) rfl) pa_nil))) (pe_and (pe_chain op_le op_le pe_int (pe_callB call_len rfl T.f_len (by decide +kernel) (pa_cons (pv 0) pa_nil)) (pe_gi T.i_MOST_LETTERS)) (pe_one (pe_callB (cr_all rfl) rfl T.f_all (by decide +kernel) (pa_cons (pe_lc  (own := [("sign", 1)]) (by rfl) scIsName.nd (pi_str (pv 0)) (blkOk_by (own := [("sign", 1)]) (N := ["value", "sign"]) (sc := defScope sIsName) (by decide +kernel)) (fun _ _ _ _ _ => (pg_name (i := 1) scIsName.nd rfl (by first | exact Or.inl rfl | exact Or.inr rfl))) (fun _ _ _ _ _ => pts_nil) (fun _ _ _ _ _ => (pe_cmpR op_in_sign (pv 1) (pe_gs T.s_LETTERS) (by rfl)))) pa_nil))))))), ?_⟩
    obtain ⟨x, rfl, hn, hq⟩ := h
    obtain ⟨n1, n2, n3⟩ := hn
    refine s_ret (v := .bl true) ?_ hq
    have h8 : x.length ≤ 100000 := by omega
    have hl : ((x.cps.toList.map fun c => V.str ⟨#[c]⟩).map fun _ => V.bl true) = (x.cps.toList.map fun _ => true).map V.bl := by simp [List.map_map]
    have hc := el_map (σ := start ["value", "sign"] [.str x]) (H := H) (te := tOp (fun x y H Q => ∃ (c : Nat) (z : Str), x = .str ⟨#[c]⟩ ∧ y = .str z ∧ Q (.bl (decide (c ∈ z.cps.toList))) H) (tVar 1) (tC (.str "abcdefghijklmnopqrstuvwxyz"))) (vs := [1]) (j := 1) (evi_str (te := tVar 0) (z := x) (ev_var rfl)) (fun _ => .bl true)
      (by rw [List.length_map, ← Array.size_eq_length_toList]; have : x.cps.size = x.length := rfl; omega) (fun _ => rfl) (fun v hv => by
        obtain ⟨c, hc, rfl⟩ := List.mem_map.mp hv
        refine ev_op (ev_var rfl) ev_c (rv_val fun H1 _ Q q => ⟨c, _, rfl, rfl, ?_⟩)
        have hm : c ∈ ("abcdefghijklmnopqrstuvwxyz" : Str).cps.toList := by
          have := n3 c hc
          have e : ("abcdefghijklmnopqrstuvwxyz" : Str).cps.toList = (List.range 26).map (· + 97) := by decide +kernel
          rw [e]
          exact List.mem_map.mpr ⟨c - 97, List.mem_range.mpr (by omega), by omega⟩
        rw [decide_eq_true hm]; exact q)
    rw [hl] at hc
    refine ev_is (ev_andV (ev_isi true (ev_var rfl) ty_str (kit_ty (by decide +kernel))) fun _ => ev_andV (ev_chain ev_c (ev_cb (ea_cons (ev_var rfl) ea_nil) (rc_len (n := x.length) fun H1 e => ⟨sz_of h8, rfl⟩)) rv_I0 ev_c fun _ => rv_I0) fun _ => ev_all hc) ?_
    have e1 : decide ((1 : Int) ≤ (x.length : Int)) = true := decide_eq_true (by omega)
    have e2 : decide ((x.length : Int) ≤ 8) = true := decide_eq_true (by omega)
    rw [e1, e2]
    simp

end
end SC
set_option Elab.async false
set_option linter.all false
set_option maxRecDepth 100000
set_option maxHeartbeats 1000000
/-! W2: the terms. -/
namespace SC
open PySem PySem.Spec PyProof.Rows L2 C8 Evl

theorem hu65 {A : Around} {k : Nat} (hr : Room k A) : A.units + 65 < cLine := by have := hr.un; omega
def LfF (many : Nat) : Lf → Prop
  | .val n => 0 ≤ n ∧ n ≤ 2
  | .arg i => i < many
  | .cel c => IsNm c
  | .tick => True
def FmOk (many : Nat) : Tm → Prop
  | .lf l => LfF many l
  | .call f as => IsNm f ∧ as.length ≤ 2 ∧ ∀ l ∈ as, LfF many l
  | .op _ a b => FmOk many a ∧ FmOk many b
  | .ite c a b => FmOk many c ∧ FmOk many a ∧ FmOk many b
theorem fm_of {cs : List Str} {ahead : List Fn} {many : Nat} (hc : ∀ c ∈ cs, IsNm c) (hf : ∀ g ∈ ahead, IsNm g.name ∧ g.many ≤ 2) : ∀ {t : Tm}, TmOk cs ahead many t → FmOk many t := by
  have lf : ∀ {l : Lf}, LfOk cs many l → LfF many l := fun {l} h => by
    cases l with
    | val n => exact h
    | arg i => exact h
    | cel c => exact hc c h
    | tick => trivial
  intro t
  induction t with
  | lf l => exact lf
  | call f as =>
    rintro ⟨⟨g, hg, e1, e2⟩, h2⟩
    exact ⟨by rw [← e1]; exact (hf g hg).1, by rw [e2]; exact (hf g hg).2, fun l hl => lf (h2 l hl)⟩
  | op o a b iha ihb => exact fun h => ⟨iha h.1, ihb h.2⟩
  | ite c a b ihc iha ihb => exact fun h => ⟨ihc h.1, iha h.2.1, ihb h.2.2⟩
theorem fm_kids {many : Nat} {t : Tm} (h : FmOk many t) : ∀ u ∈ kids t, FmOk many u := by
  intro u hu
  cases t with
  | lf l => cases hu
  | call f as =>
    obtain ⟨l, hl, e⟩ := List.mem_map.mp hu
    subst e
    exact h.2.2 l hl
  | op o a b =>
    simp only [kids, List.mem_cons, List.mem_nil_iff, or_false] at hu
    rcases hu with e | e <;> subst e
    · exact h.1
    · exact h.2
  | ite c a b =>
    simp only [kids, List.mem_cons, List.mem_nil_iff, or_false] at hu
    rcases hu with e | e | e <;> subst e
    · exact h.1
    · exact h.2.1
    · exact h.2.2
/-- a tuple of which Φ holds -/
def EvUP (te : TE) (σ : L2.St) (H : Hp) (Φ : List V → Hp → Prop) : Prop := ∀ H1, Ex H H1 → ∀ Q : VK, (∀ p xs H2, Ex H1 H2 → H2 p = some (.tup xs) → Φ xs H2 → Q (.ref p) H2) → te σ H1 Q
def spInnerTerms (K : PySem.W.Frag) : Sp := fun vs H Q _ => ∃ t v, vs = [v] ∧ TmAt H t v ∧ ∀ p xs H2, Ex H H2 → H2 p = some (.tup xs) → Paired (TmAt H2) (kids t) xs → Q (.ref p) H2
theorem evu_inner {K : PySem.W.Frag} {σ : L2.St} {H : Hp} {te : TE} {t : Tm} {v : V} (h : Ev te σ H v) (ht : TmAt H t v) : EvUP (tCall (spInnerTerms K) [] C8.E0 (tCons te tNil)) σ H (fun xs H2 => Paired (TmAt H2) (kids t) xs) := fun H1 e Q q =>
  h H1 e _ fun H2 e2 => ⟨t, v, rfl, ht.mono (e.trans e2), fun p xs H3 e3 hp hx => q p xs H3 (e2.trans e3) hp hx⟩
theorem lf_tm {H : Hp} : ∀ {as : List Lf} {us : List V}, Paired (LfAt H) as us → Paired (TmAt H) (as.map .lf) us
  | _, _, .nil => .nil
  | _, _, .cons r t => .cons r (lf_tm t)

section
variable {P : Program} {w : World} {K : PySem.W.Frag} {mg : Str → Option Value} {base : Heap} (T : Tx K mg)
include T

omit T in
theorem scInnerTerms : FnScope ["term"] ["term"] (defScope sInnerTerms) := ⟨rfl, rfl, rfl, by decide +kernel, rfl, by decide +kernel, by decide +kernel⟩
theorem okInnerTerms : Cal P w K mg base 1 "inner_terms" (spInnerTerms K) [] := by
  obtain ⟨fd, F⟩ := T.DInnerTerms
  refine cal_of T.g_inner_terms F (F.bindsN fun _ _ _ _ _ _ us hl => match us, hl with | [_], _ => rfl) scInnerTerms (fun vs H Q E h => ?_) (fun cdv A outer s H vs Q E hr h => ?_)
  · obtain ⟨t, v, rfl, _⟩ := h; rfl
  · refine ⟨_, (pss_cons (ps_if (pt_not (pt_val (pe_callB call_isi rfl T.f_isinstance (by decide +kernel) (pa_cons (pv 0) (pa_cons (pe_bltn (v := .ty "tuple") (u := .type "tuple") rfl T.f_tuple (by decide +kernel) rfl) pa_nil))))) (pss_one (ps_ret (pe_tup pa_nil))) pss_nil) (pss_cons (ps_if (pt_cmpR op_eq (pe_ix ix_tup (pv 0) pe_int (fun _ _ => rfl)) pe_str (nomark _)) (pss_one (ps_ret (pe_ix ix_tup (pv 0) pe_int (fun _ _ => rfl)))) pss_nil) (pss_one (ps_ret (pe_ifExp (PW.pt (pw_or (pt_cmpR op_in_seq (pe_ix ix_tup (pv 0) pe_int (fun _ _ => rfl)) (pe_glob (v := .ref (He.ga K "PAIRS")) rfl T.g_PAIRS rfl) (by rfl)) (pw_or1 (pt_cmpR op_eq (pe_ix ix_tup (pv 0) pe_int (fun _ _ => rfl)) pe_str (nomark _))))) (pe_slice sl_tup (pv 0) (po_some pe_int) po_none) (pe_tup pa_nil)))))), ?_⟩
    obtain ⟨t, v, rfl, ht, hq⟩ := h
    have hv : Ev (tVar 0) (start ["term"] [v]) H v := ev_var rfl
    rcases tm_shape ht with ⟨n, rfl, rfl⟩ | ⟨p, k, r, rfl, hk, hp⟩
    · refine s_if (b := true) (et_not (a := false) (et_B (ev_isi false hv ty_int (kit_ty (by decide +kernel))))) (fun _ H1 e1 => ?_) (fun z => by cases z)
      exact s_retU (eu_tup ea_nil (by decide)) fun p H2 _ e2 hp => hq p [] H2 (e1.trans e2) hp .nil
    · refine s_if (b := false) (et_not (a := true) (et_B (ev_isi true hv (ty_tup hp) (kit_ty (by decide +kernel))))) (fun z => by cases z) (fun _ H1 e1 => ?_)
      have hp1 := e1 _ _ hp
      have h0 : ∀ {H2}, Ex H1 H2 → Ev (tOp (rIxT K) (tVar 0) (tC (.int 0))) (start ["term"] [.ref p]) H2 (.str k) := fun e => ev_op (ev_var rfl) ev_c (rv_ixT (st_of (e _ _ hp1)) at0)
      refine s_if (b := decide (V.str k = .str "call")) (et_test (ev_op (h0 (Ex.refl _)) ev_c (rv_eq rfl))) (fun hb H2 e2 => ?_) (fun hb H2 e2 => ?_)
      · have ek : k = "call" := by have := of_decide_eq_true hb; injection this
        subst ek
        cases t with
        | call f as =>
          obtain ⟨p', q, us, e', h2, h3, h4⟩ := ht
          cases e'
          refine s_ret (v := .ref q) (ev_op (ev_var rfl) ev_c (rv_ixT (st_of ((e1.trans e2) _ _ h2)) at2)) fun H3 e3 => ?_
          have e' := (e1.trans e2).trans e3
          exact hq q us H3 e' (e' _ _ h3) (lf_tm (Paired.mapP h4 fun _ _ z => LfAt.mono e' z))
        | lf l => cases l <;> cases hk
        | op o a b => cases o <;> cases hk
        | ite c a b => cases hk
      · have ek : k ≠ "call" := fun z => by rw [z] at hb; simp at hb
        have e12 := e1.trans e2
        have hin : Ev (tOp (rIn K false) (tOp (rIxT K) (tVar 0) (tC (.int 0))) (tC (.ref (He.ga K "PAIRS")))) (start ["term"] [.ref p]) H2 (.bl (inV (.str k) [.str "plus", .str "less", .str "same"])) :=
          ev_op (h0 e2) ev_c (rv_isT (T.tPAIRS H2) rfl rfl)
        have hif : Ev (tOp rEq (tOp (rIxT K) (tVar 0) (tC (.int 0))) (tC (.str "if"))) (start ["term"] [.ref p]) H2 (.bl (decide (V.str k = .str "if"))) := ev_op (h0 e2) ev_c (rv_eq rfl)
        have hor := et_or (et_test hin) fun _ => et_test hif
        dsimp only [tNext, tRet, tIf]
        refine hor H2 (Ex.refl _) _ fun H3 e3 => ?_
        have e123 := e12.trans e3
        cases t with
        | call f as => exact absurd (Option.some.inj hk).symm ek
        | lf l =>
          have hb0 : (inV (.str k) [.str "plus", .str "less", .str "same"] || decide (V.str k = .str "if")) = false := by
            cases l <;> cases hk <;> decide +kernel
          rw [hb0]
          refine eu_tup ea_nil (by decide) H3 (Ex.refl _) _ fun p H4 _ e4 hp => hq p [] H4 (e123.trans e4) hp .nil
        | op o a b =>
          obtain ⟨p', x, y, e', h2, h3, h4⟩ := ht
          cases e'
          have hb0 : (inV (.str k) [.str "plus", .str "less", .str "same"] || decide (V.str k = .str "if")) = true := by
            cases o <;> cases hk <;> decide +kernel
          rw [hb0]
          refine ⟨_, rfl, 1, rfl, p, _, rfl, st_of (e123 _ _ h2), fun z => absurd (show (1 : Nat) = 0 from z.1) (by decide), fun q hq' => ?_⟩
          exact hq q [x, y] _ (e123.trans (Ex.new hq')) upd_same (.cons (h3.mono (e123.trans (Ex.new hq'))) (.cons (h4.mono (e123.trans (Ex.new hq'))) .nil))
        | ite c a b =>
          obtain ⟨p', z, x, y, e', h2, h3, h4, h5⟩ := ht
          cases e'
          have hb0 : (inV (.str k) [.str "plus", .str "less", .str "same"] || decide (V.str k = .str "if")) = true := by
            cases hk; decide +kernel
          rw [hb0]
          refine ⟨_, rfl, 1, rfl, p, _, rfl, st_of (e123 _ _ h2), fun z => absurd (show (1 : Nat) = 0 from z.1) (by decide), fun q hq' => ?_⟩
          exact hq q [z, x, y] _ (e123.trans (Ex.new hq')) upd_same (.cons (h3.mono (e123.trans (Ex.new hq'))) (.cons (h4.mono (e123.trans (Ex.new hq'))) (.cons (h5.mono (e123.trans (Ex.new hq'))) .nil)))

end
end SC
set_option Elab.async false
set_option linter.all false
set_option maxRecDepth 100000
set_option maxHeartbeats 1000000
/-! W2b: has_form. -/
namespace SC
open PySem PySem.Spec PyProof.Rows L2 C8 Evl

/-- how many items, at a kind -/
def arT : Tm → Nat
  | .lf (.val _) => 0
  | .lf (.arg _) => 2
  | .lf (.cel _) => 2
  | .lf .tick => 1
  | .call _ _ => 3
  | .op _ _ _ => 3
  | .ite _ _ _ => 4
def hkB (t : Tm) (kind : Str) (many : Int) : Bool := match kindT t with
  | none => false
  | some k => decide ((arT t : Int) = many) && decide (k = kind)
theorem hk_tm {H : Hp} {t : Tm} {v : V} (h : TmAt H t v) (kind : Str) (many : Int) : hk H v kind many (hkB t kind many) := by
  cases t with
  | lf l =>
    cases l with
    | val n => exact .inl ⟨n, h, rfl⟩
    | arg i => obtain ⟨p, h1, h2⟩ := h; exact .inr ⟨p, _, _, h1, h2, rfl⟩
    | cel c => obtain ⟨p, h1, h2⟩ := h; exact .inr ⟨p, _, _, h1, h2, rfl⟩
    | tick => obtain ⟨p, h1, h2⟩ := h; exact .inr ⟨p, _, _, h1, h2, rfl⟩
  | call f as => obtain ⟨p, q, us, h1, h2, _⟩ := h; exact .inr ⟨p, _, _, h1, h2, rfl⟩
  | op o a b => obtain ⟨p, x, y, h1, h2, _⟩ := h; exact .inr ⟨p, _, _, h1, h2, rfl⟩
  | ite c a b => obtain ⟨p, z, x, y, h1, h2, _⟩ := h; exact .inr ⟨p, _, _, h1, h2, rfl⟩
def isVal : Tm → Bool
  | .lf (.val _) => true
  | _ => false
theorem num_tm {H : Hp} {t : Tm} {v : V} (h : TmAt H t v) : NumV H v (isVal t) := by
  cases t with
  | lf l =>
    cases l with
    | val n => exact .inl ⟨n, h, rfl⟩
    | arg i => obtain ⟨p, h1, h2⟩ := h; exact .inr ⟨p, _, h1, h2, rfl⟩
    | cel c => obtain ⟨p, h1, h2⟩ := h; exact .inr ⟨p, _, h1, h2, rfl⟩
    | tick => obtain ⟨p, h1, h2⟩ := h; exact .inr ⟨p, _, h1, h2, rfl⟩
  | call f as => obtain ⟨p, q, us, h1, h2, _⟩ := h; exact .inr ⟨p, _, h1, h2, rfl⟩
  | op o a b => obtain ⟨p, x, y, h1, h2, _⟩ := h; exact .inr ⟨p, _, h1, h2, rfl⟩
  | ite c a b => obtain ⟨p, z, x, y, h1, h2, _⟩ := h; exact .inr ⟨p, _, h1, h2, rfl⟩
theorem btw_ref {p : Addr} {lo hi : Int} : btw (.ref p) lo hi = false := rfl

section
variable {P : Program} {w : World} {K : PySem.W.Frag} {mg : Str → Option Value} {base : Heap} (T : Tx K mg)
include T

omit T in
def spHasForm (K : PySem.W.Frag) : Sp := fun vs H Q _ => ∃ t v many, vs = [v, .int (many : Nat)] ∧ TmAt H t v ∧ FmOk many t ∧ many ≤ 2 ∧ RetV (.bl true) H Q
omit T in
theorem spv_hasForm {t : Tm} {v : V} {many : Nat} {H : Hp} (h : TmAt H t v) (hf : FmOk many t) (hm : many ≤ 2) : SpV (spHasForm K) [v, .int (many : Nat)] H (.bl true) := fun H1 e Q q E => ⟨t, v, many, rfl, h.mono e, hf, hm, q⟩
omit T in
def spIsTerm (K : PySem.W.Frag) : Sp := fun vs H Q _ => ∃ t v many, vs = [v, .int (many : Nat)] ∧ TmAt H t v ∧ FmOk many t ∧ many ≤ 2 ∧ t.depth ≤ 3 ∧ t.size ≤ 13 ∧ RetV (.bl true) H Q
omit T in
theorem spv_isTerm {t : Tm} {v : V} {many : Nat} {H : Hp} (h : TmAt H t v) (hf : FmOk many t) (hm : many ≤ 2) (hd : t.depth ≤ 3) (hs : t.size ≤ 13) : SpV (spIsTerm K) [v, .int (many : Nat)] H (.bl true) := fun H1 e Q q E => ⟨t, v, many, rfl, h.mono e, hf, hm, hd, hs, q⟩

omit T in
theorem scHasForm : FnScope ["value", "arguments", "kind"] ["value", "arguments"] (defScope sHasForm) := ⟨rfl, rfl, rfl, by decide +kernel, rfl, by decide +kernel, by decide +kernel⟩
theorem okHasForm : Cal P w K mg base 4 "has_form" (spHasForm K) [] := by
  obtain ⟨fd, F⟩ := T.DHasForm
  refine cal_of T.g_has_form F (F.bindsN fun _ _ _ _ _ _ us hl => match us, hl with | [_, _], _ => rfl) scHasForm (fun vs H Q E h => ?_) (fun cdv A outer s H vs Q E hr h => ?_)
  · obtain ⟨t, v, m, rfl, _⟩ := h; rfl
  · refine ⟨_, (pss_cons (ps_if (PW.pt (pw_or (pt_val (pe_c (okIsValue T) hr (by decide) rfl (pa_cons (pv 0) pa_nil))) (pw_or1 (pt_val (pe_c (okHasKind T) hr (by decide) rfl (pa_cons (pv 0) (pa_cons pe_str (pa_cons pe_int pa_nil)))))))) (pss_one (ps_ret pe_bl)) pss_nil) (pss_cons (ps_if (pt_val (pe_c (okHasKind T) hr (by decide) rfl (pa_cons (pv 0) (pa_cons pe_str (pa_cons pe_int pa_nil))))) (pss_one (ps_ret (pe_c (okIsBetween T) hr (by decide) rfl (pa_cons (pe_ix ix_tup (pv 0) pe_int (fun _ _ => rfl)) (pa_cons pe_int (pa_cons (pe_op op_sub (pv 1) pe_int) pa_nil)))))) pss_nil) (pss_cons (ps_if (pt_val (pe_c (okHasKind T) hr (by decide) rfl (pa_cons (pv 0) (pa_cons pe_str (pa_cons pe_int pa_nil))))) (pss_one (ps_ret (pe_c (okIsName T) hr (by decide) rfl (pa_cons (pe_ix ix_tup (pv 0) pe_int (fun _ _ => rfl)) pa_nil)))) pss_nil) (pss_cons (ps_if (pt_val (pe_c (okHasKind T) hr (by decide) rfl (pa_cons (pv 0) (pa_cons pe_str (pa_cons pe_int pa_nil))))) (pss_one (ps_ret (pe_and (pe_c (okIsName T) hr (by decide) rfl (pa_cons (pe_ix ix_tup (pv 0) pe_int (fun _ _ => rfl)) pa_nil)) (pe_and (pe_callB call_isi rfl T.f_isinstance (by decide +kernel) (pa_cons (pe_ix ix_tup (pv 0) pe_int (fun _ _ => rfl)) (pa_cons (pe_bltn (v := .ty "tuple") (u := .type "tuple") rfl T.f_tuple (by decide +kernel) rfl) pa_nil))) (pe_one (pe_cmpR op_le (pe_callB call_len rfl T.f_len (by decide +kernel) (pa_cons (pe_ix ix_tup (pv 0) pe_int (fun _ _ => rfl)) pa_nil)) (pe_gi T.i_MOST_ARGUMENTS) (nomark _))))))) pss_nil) (pss_one (ps_ret (pe_or (pe_callB (cr_any rfl) rfl T.f_any (by decide +kernel) (pa_cons (pe_lc  (own := [("kind", 2)]) (by rfl) scHasForm.nd (pi_tup (pe_glob (v := .ref (He.ga K "PAIRS")) rfl T.g_PAIRS rfl)) (blkOk_by (own := [("kind", 2)]) (N := ["value", "arguments", "kind"]) (sc := defScope sHasForm) (by decide +kernel)) (fun _ _ _ _ _ => (pg_name (i := 2) scHasForm.nd rfl (by first | exact Or.inl rfl | exact Or.inr rfl))) (fun _ _ _ _ _ => pts_nil) (fun _ _ _ _ _ => (pe_c (okHasKind T) hr (by decide) rfl (pa_cons (pv 0) (pa_cons (pv 2) (pa_cons pe_int pa_nil)))))) pa_nil)) (pe_one (pe_c (okHasKind T) hr (by decide) rfl (pa_cons (pv 0) (pa_cons pe_str (pa_cons pe_int pa_nil)))))))))))), ?_⟩
    obtain ⟨t, v, m, rfl, ht, hf, hm, hq⟩ := h
    have K1 : ∀ {H1 : Hp} (k : Str) (i : Int), Ex H H1 → Ev (tCall (spHasKind K) [] C8.E0 (tCons (tVar 0) (tCons (tC (.str k)) (tCons (tC (.int i)) tNil)))) (start ["value", "arguments", "kind"] [v, .int (m : Nat)]) H1 (.bl (hkB t k i)) :=
      fun k i e => ev_call (ea_cons (ev_var rfl) (ea_cons ev_c (ea_cons ev_c ea_nil))) (spv_hasKind (hk_tm (ht.mono e) k i))
    refine q_when (b := btw v 0 2 || hkB t "tick" 1) (et_or (et_B (ev_call (ea_cons (ev_var rfl) ea_nil) (spv_isValue (num_tm ht)))) fun _ => et_B (K1 _ _ (Ex.refl _))) (fun _ H1 e1 => s_ret ev_c fun H2 e2 => hq H2 (e1.trans e2)) (fun hb H1 e1 => ?_)
    refine q_when (b := hkB t "arg" 2) (et_B (K1 _ _ e1)) (fun hk H2 e2 => ?_) (fun hk1 H2 e2 => ?_)
    · cases t with
      | lf l =>
        cases l with
        | arg i =>
          obtain ⟨p, rfl, hp⟩ := ht
          have hp2 := (e1.trans e2) _ _ hp
          refine s_ret (v := .bl true) (ev_is (ev_call (ea_cons (ev_op (ev_var rfl) ev_c (rv_ixT (st_of hp2) at1)) (ea_cons ev_c (ea_cons (ev_op (ev_var rfl) ev_c rv_I0) ea_nil))) (spv_isBetween (.inl ⟨_, rfl, rfl⟩))) ?_) fun H3 e3 => hq H3 ((e1.trans e2).trans e3)
          have hi : i < m := hf
          show V.bl (decide ((0 : Int) ≤ (i : Int)) && decide ((i : Int) ≤ (m : Int) - 1)) = V.bl true
          rw [decide_eq_true (by omega), decide_eq_true (by omega)]; rfl
        | val n => cases hk
        | cel c => exact absurd hk (by simp [hkB, kindT, arT] <;> decide +kernel)
        | tick => exact absurd hk (by simp [hkB, kindT, arT] <;> decide +kernel)
      | call f as => exact absurd hk (by simp [hkB, kindT, arT] <;> decide +kernel)
      | op o a b => exact absurd hk (by simp [hkB, kindT, arT] <;> decide +kernel)
      | ite c a b => exact absurd hk (by simp [hkB, kindT, arT] <;> decide +kernel)
    refine q_when (b := hkB t "cell" 2) (et_B (K1 _ _ (e1.trans e2))) (fun hk H3 e3 => ?_) (fun hk2 H3 e3 => ?_)
    · cases t with
      | lf l =>
        cases l with
        | cel c =>
          obtain ⟨p, rfl, hp⟩ := ht
          have hp2 := ((e1.trans e2).trans e3) _ _ hp
          exact s_ret (ev_call (ea_cons (ev_op (ev_var rfl) ev_c (rv_ixT (st_of hp2) at1)) ea_nil) (spv_isName hf)) fun H4 e4 => hq H4 (((e1.trans e2).trans e3).trans e4)
        | val n => cases hk
        | arg c => exact absurd hk (by simp [hkB, kindT, arT] <;> decide +kernel)
        | tick => exact absurd hk (by simp [hkB, kindT, arT] <;> decide +kernel)
      | call f as => exact absurd hk (by simp [hkB, kindT, arT] <;> decide +kernel)
      | op o a b => exact absurd hk (by simp [hkB, kindT, arT] <;> decide +kernel)
      | ite c a b => exact absurd hk (by simp [hkB, kindT, arT] <;> decide +kernel)
    have e13 := (e1.trans e2).trans e3
    refine q_when (b := hkB t "call" 3) (et_B (K1 _ _ e13)) (fun hk H4 e4 => ?_) (fun hk3 H4 e4 => ?_)
    · cases t with
      | call f as =>
        obtain ⟨p, q, us, rfl, hp, hq', hu⟩ := ht
        have hp2 := (e13.trans e4) _ _ hp
        have hq2 := (e13.trans e4) _ _ hq'
        have hl : us.length ≤ 2 := by rw [← Paired.length hu]; exact hf.2.1
        refine s_ret (v := .bl true) (ev_is (ev_andV (ev_call (ea_cons (ev_op (ev_var rfl) ev_c (rv_ixT (st_of hp2) at1)) ea_nil) (spv_isName hf.1)) fun _ => ev_andV (ev_isi true (ev_op (ev_var rfl) ev_c (rv_ixT (st_of hp2) at2)) (ty_tup hq2) (kit_ty (by decide +kernel))) fun _ =>
          ev_op (ev_cb (ea_cons (ev_op (ev_var rfl) ev_c (rv_ixT (st_of hp2) at2)) ea_nil) (rc_len (n := us.length) fun H1 e => .inr ⟨_, ex_t e (st_of hq2), rfl⟩)) ev_c rv_I0) ?_) fun H5 e5 => hq H5 ((e13.trans e4).trans e5)
        rw [decide_eq_true (show (us.length : Int) ≤ 2 by omega)]; rfl
      | lf l => exact absurd hk (by cases l <;> simp [hkB, kindT, arT])
      | op o a b => exact absurd hk (by cases o <;> simp [hkB, kindT, arT, opName] <;> decide +kernel)
      | ite c a b => exact absurd hk (by simp [hkB, kindT, arT] <;> decide +kernel)
    have e14 := e13.trans e4
    have hl := el_map (σ := start ["value", "arguments", "kind"] [v, .int (m : Nat)]) (H := H4) (te := tCall (spHasKind K) [] C8.E0 (tCons (tVar 0) (tCons (tVar 2) (tCons (tC (.int 3)) tNil)))) (vs := [2]) (j := 2) (evi_tup (K := K) (te := tC (.ref (He.ga K "PAIRS"))) ev_c (T.tPAIRS H4))
      (fun x => .bl (match x with | .str k => hkB t k 3 | _ => false)) (by decide) (fun _ => rfl) (fun x hx => by
        simp only [List.mem_cons, List.mem_nil_iff, or_false] at hx
        rcases hx with rfl | rfl | rfl <;> exact ev_call (ea_cons (ev_var rfl) (ea_cons (ev_var rfl) (ea_cons ev_c ea_nil))) (spv_hasKind (hk_tm (ht.mono e14) _ _)))
    have hl2 : EvL _ _ H4 ([hkB t "plus" 3, hkB t "less" 3, hkB t "same" 3].map V.bl) := hl
    refine s_ret (v := .bl true) (ev_is (ev_orV (ev_any hl2) fun _ => K1 _ _ e14) ?_) fun H5 e5 => hq H5 (e14.trans e5)
    cases t with
    | lf l =>
      exfalso
      cases l with
      | val n =>
        have hv : v = .int n := ht
        subst hv
        have : btw (.int n) 0 2 = true := by
          show (decide ((0 : Int) ≤ n) && decide (n ≤ 2)) = true
          rw [decide_eq_true hf.1, decide_eq_true hf.2]; rfl
        rw [this] at hb; cases hb
      | arg i => exact absurd hk1 (by simp [hkB, kindT, arT])
      | cel c => exact absurd hk2 (by simp [hkB, kindT, arT])
      | tick => have : hkB (.lf .tick) "tick" 1 = true := by simp [hkB, kindT, arT]
                rw [this, Bool.or_true] at hb; cases hb
    | call f as => exact absurd hk3 (by simp [hkB, kindT, arT])
    | op o a b => cases o <;> (simp [hkB, kindT, arT, opName])
    | ite c a b => simp [hkB, kindT, arT]

end
end SC
set_option Elab.async false
set_option linter.all false
set_option maxRecDepth 100000
set_option maxHeartbeats 1000000
/-! W2c: is_term. -/
namespace SC
open PySem PySem.Spec PyProof.Rows L2 C8 Evl

theorem fl_len {l : List Tm} (h : ∀ t ∈ l, (kids t).length ≤ 3) : (l.flatMap kids).length ≤ 3 * l.length := by
  induction l with
  | nil => exact Nat.le_refl _
  | cons t r ih =>
    have h1 := h t List.mem_cons_self
    have h2 := ih fun u hu => h u (List.mem_cons_of_mem _ hu)
    rw [List.flatMap_cons, List.length_append, List.length_cons]
    omega
theorem kids_len {many : Nat} {t : Tm} (h : FmOk many t) : (kids t).length ≤ 3 := by
  cases t with
  | lf l => exact Nat.zero_le _
  | call f as =>
    show (as.map Tm.lf).length ≤ 3
    rw [List.length_map]
    have := h.2.1
    omega
  | op o a b => exact Nat.le_succ _
  | ite c a b => exact Nat.le_refl _
theorem len_sz (l : List Tm) : l.length ≤ szL l := by
  induction l with
  | nil => exact Nat.le_refl _
  | cons t r ih =>
    have := size_pos t
    show r.length + 1 ≤ t.size + szL r
    omega
theorem ev_len2 {K : PySem.W.Frag} {σ : L2.St} {H : Hp} {te : TE} {p : Addr} {xs : List V} (h : Ev te σ H (.ref p)) (hp : SqL K H p xs) : Ev (tCB (fun xs H Q => ∃ x n, xs = [x] ∧ LenV K x H n ∧ Q (.int n) H) (tCons te tNil)) σ H (.int (xs.length : Nat)) :=
  ev_cb (ea_cons h ea_nil) (rc_len fun H1 e => .inl ⟨xs, ex_l e hp, rfl⟩)
theorem ev_lenT {K : PySem.W.Frag} {σ : L2.St} {H : Hp} {te : TE} {p : Addr} {xs : List V} (h : Ev te σ H (.ref p)) (hp : SqT K H p xs) : Ev (tCB (fun xs H Q => ∃ x n, xs = [x] ∧ LenV K x H n ∧ Q (.int n) H) (tCons te tNil)) σ H (.int (xs.length : Nat)) :=
  ev_cb (ea_cons h ea_nil) (rc_len fun H1 e => .inr ⟨xs, ex_t e hp, rfl⟩)
theorem et_eqNil {K : PySem.W.Frag} {σ : L2.St} {H : Hp} {te : TE} {p : Addr} {xs : List V} (h : Ev te σ H (.ref p)) (hp : SqL K H p xs) : EvT (tTest (tOp (rEqNil K) te (tLst tNil))) σ H xs.isEmpty :=
  et_test (ev_opL h (el_lst ea_nil (by decide)) fun q H1 hq e => rv_val fun H2 e2 Q k => ⟨p, q, xs, rfl, rfl, ex_l (e.trans e2) hp, sq_of (e2 _ _ hq), k⟩)
theorem et_neNil {K : PySem.W.Frag} {σ : L2.St} {H : Hp} {te : TE} {p : Addr} {xs : List V} (h : Ev te σ H (.ref p)) (hp : SqL K H p xs) : EvT (tTest (tOp (rNeNil K) te (tLst tNil))) σ H (!xs.isEmpty) :=
  et_test (ev_opL h (el_lst ea_nil (by decide)) fun q H1 hq e => rv_val fun H2 e2 Q k => ⟨p, q, xs, rfl, rfl, ex_l (e.trans e2) hp, sq_of (e2 _ _ hq), k⟩)
/-- the next layer -/
theorem next_layer {K : PySem.W.Frag} {σ : L2.St} {H : Hp} {la : Addr} {ys : List V} {l : List Tm} {many : Nat} (hv : ∀ x : V, (σ.set 5 none).set 6 none = σ) (h2 : σ[2]? = some (some (.ref la))) (hl : 7 ≤ σ.length) (hla : H la = some (.lst ys)) (hp : Paired (TmAt H) l ys) (hf : ∀ t ∈ l, FmOk many t) (hs : szL l ≤ 13) :
    EvLP (tLc2 (iList K (tVar 2)) (gName 6) tYes (iTup K (tCall (spInnerTerms K) [] C8.E0 (tCons (tVar 6) tNil))) (gName 5) tYes (tVar 5) [6, 5] [5]) σ H (fun zs H2 => Paired (TmAt H2) (l.flatMap kids) zs) := by
  have hw0 : wipe σ [6, 5] = σ := by
    have := hv .non
    show (σ.set 5 none).set 6 none = σ
    exact this
  have g5 : σ.set 5 none = σ := by
    refine List.ext_getElem? fun i => ?_
    by_cases h : 5 = i
    · subst h
      rw [List.getElem?_set_self (by omega)]
      have e := congrArg (fun z : L2.St => z[5]?) (hv .non)
      simp only [List.getElem?_set_ne (show (6 : Nat) ≠ 5 by decide)] at e
      rw [List.getElem?_set_self (by omega)] at e
      exact e
    · rw [List.getElem?_set_ne h]
  have g6 : σ.set 6 none = σ := by have := hv .non; rw [g5] at this; exact this
  have hlen : ys.length = l.length := (Paired.length hp).symm
  have hl13 : l.length ≤ 13 := Nat.le_trans (len_sz l) hs
  have := lc2_gen (wi := iList K (tVar 2)) (wi1 := iTup K (tCall (spInnerTerms K) [] C8.E0 (tCons (tVar 6) tNil))) (te := tVar 5) (vs := [6, 5]) (vs1 := [5]) (σ := σ) (H := H) (xs := ys) (j := 6) (j1 := 5) (evi_list (ev_var h2) (sq_of hla))
    (fun i acc H1 => Paired (TmAt H1) ((l.take i).flatMap kids) acc) (fun i acc H1 H2 e h => Paired.mapP h fun _ _ z => z.monoN e) (fun _ _ => .nil)
    (fun x => by rw [hw0]; show ((σ.set 6 (some x)).set 5 none).set 6 none = σ; rw [List.set_comm _ _ (show (6 : Nat) ≠ 5 by decide), g5, List.set_set]; exact g6)
    (fun x y => by
      rw [hw0]
      show (((σ.set 6 (some x)).set 5 none).set 5 (some y)).set 5 none = (σ.set 6 (some x)).set 5 none
      rw [List.set_set, List.set_set])
    (fun i x acc D H1 hx e hD hi R hR => ?_)
  · rw [hlen, List.take_length] at this
    exact this
  · obtain ⟨t, ht, hxt⟩ := Paired.getR hp hx
    rw [hw0]
    refine evu_inner (ev_var (by rw [List.getElem?_set_self (by omega)])) (hxt.mono e) H1 (Ex.refl _) _ fun q zs H2 e2 hq hz => ⟨q, rfl, ⟨zs, st_of hq⟩, hR _ _ e2 ⟨zs, fun H' => SqT K H' q zs, fun k acc' H3 => Paired (TmAt H3) ((l.take i).flatMap kids ++ (kids t).take k) acc', walk_tup, fun H' x' => ?_, fun k acc' H3 H4 e3 h => Paired.mapP h fun _ _ z => z.monoN e3, fun k acc' H3 h => ?_, ?_, fun k y acc' H3 hy x3 h Q hQ => ?_, fun acc' H3 h => ?_⟩⟩
    · refine st_of (x' q _ (fun z => ?_) hq)
      rw [z, e2 _ _ hD] at hq; cases hq
    · rw [← Paired.length h, List.length_append]
      have a1 := fl_len (l := l.take i) fun u hu => kids_len (hf u (List.mem_of_mem_take hu))
      have a2 : (l.take i).length ≤ l.length := by rw [List.length_take]; omega
      have a3 := kids_len (hf t (List.mem_of_getElem? ht))
      have a4 : ((kids t).take k).length ≤ (kids t).length := by rw [List.length_take]; omega
      omega
    · show Paired (TmAt H2) ((l.take i).flatMap kids ++ (kids t).take 0) acc
      rw [List.take_zero, List.append_nil]
      exact Paired.mapP hi fun _ _ z => z.mono e2
    · obtain ⟨u, hu, hyu⟩ := Paired.getR hz hy
      refine ⟨y, by rw [hw0]; show (((σ.set 6 (some x)).set 5 none).set 5 (some y))[5]? = _; rw [List.set_set, List.getElem?_set_self (by rw [List.length_set]; omega)], hQ y H3 (Ex.refl _) ?_⟩
      have e23 : ExN H2 H3 := fun a o n ho => x3 a o (fun z => by rw [z, e2 _ _ hD] at ho; cases ho; exact n _ rfl) ho
      show Paired (TmAt H3) ((l.take i).flatMap kids ++ (kids t).take (k + 1)) (acc' ++ [y])
      rw [List.take_add_one, hu, ← List.append_assoc]
      exact Paired.snoc h (hyu.monoN e23)
    · have h : Paired (TmAt H3) ((l.take i).flatMap kids ++ (kids t).take zs.length) acc' := h
      have hz : Paired (TmAt H2) (kids t) zs := hz
      show Paired (TmAt H3) ((l.take (i + 1)).flatMap kids) acc'
      have : l.take (i + 1) = l.take i ++ [t] := by rw [List.take_add_one, ht]; rfl
      rw [this, List.flatMap_append, List.flatMap_singleton]
      rw [← Paired.length hz, List.take_length] at h
      exact h

section
variable {P : Program} {w : World} {K : PySem.W.Frag} {mg : Str → Option Value} {base : Heap} (T : Tx K mg)
include T

omit T in
theorem scIsTerm : FnScope ["value", "arguments", "layer", "parts", "turn", "part", "term"] ["value", "arguments"] (defScope sIsTerm) := ⟨rfl, rfl, rfl, by decide +kernel, rfl, by decide +kernel, by decide +kernel⟩
theorem okIsTerm : Cal P w K mg base 5 "is_term" (spIsTerm K) [] := by
  obtain ⟨fd, F⟩ := T.DIsTerm
  refine cal_of T.g_is_term F (F.bindsN fun _ _ _ _ _ _ us hl => match us, hl with | [_, _], _ => rfl) scIsTerm (fun vs H Q E h => ?_) (fun cdv A outer s H vs Q E hr h => ?_)
  · obtain ⟨t, v, m, rfl, _⟩ := h; rfl
  · refine ⟨_, (pss_cons (ps_par (i := 2) (j := 3) (by rfl) scIsTerm.nd rfl rfl (by decide) rfl rfl (pa_cons (pe_lst (pa_cons (pv 0) pa_nil)) (pa_cons pe_int pa_nil)) (by rfl)) (pss_cons (ps_for PassesOwn.never rfl (pi_range1 (by rfl) T.f_range (pa_cons (pe_gi T.i_MOST_DEPTH) pa_nil)) (pg_name (i := 4) scIsTerm.nd rfl (by first | exact Or.inl rfl | exact Or.inr rfl)) (pss_cons (ps_aug (i := 3) scIsTerm.nd rfl (Or.inl rfl) (pe_callB call_len rfl T.f_len (by decide +kernel) (pa_cons (pv 2) pa_nil)) ip_add) (pss_cons (ps_if (PW.pt (pw_or (pt_cmpR op_gt (pv 3) (pe_gi T.i_MOST_PARTS) (nomark _)) (pw_or1 (pt_not (pt_val (pe_callB (cr_all rfl) rfl T.f_all (by decide +kernel) (pa_cons (pe_lc  (own := [("part", 5)]) (by rfl) scIsTerm.nd (pi_list (pv 2)) (blkOk_by (own := [("part", 5)]) (N := ["value", "arguments", "layer", "parts", "turn", "part", "term"]) (sc := defScope sIsTerm) (by decide +kernel)) (fun _ _ _ _ _ => (pg_name (i := 5) scIsTerm.nd rfl (by first | exact Or.inl rfl | exact Or.inr rfl))) (fun _ _ _ _ _ => pts_nil) (fun _ _ _ _ _ => (pe_c (okHasForm T) hr (by decide) rfl (pa_cons (pv 5) (pa_cons (pv 1) pa_nil))))) pa_nil))))))) (pss_one (ps_ret pe_bl)) pss_nil) (pss_cons (ps_setLc2 (i := 2) (own := [("term", 6), ("part", 5)]) (vs1 := [5]) (by rfl) scIsTerm.nd rfl rfl (sw_true rfl rfl rfl (by decide +kernel)) (pi_list (pv 2)) (blkOk_by (own := [("term", 6), ("part", 5)]) (N := ["value", "arguments", "layer", "parts", "turn", "part", "term"]) (sc := defScope sIsTerm) (by decide +kernel)) (by decide) (fun _ _ _ _ _ => (pg_name (i := 6) scIsTerm.nd rfl (by first | exact Or.inl rfl | exact Or.inr rfl))) (fun _ _ _ _ _ => pts_nil) (fun _ _ _ _ _ => (pi_tupK (K := K) rfl (pe_c (okInnerTerms T) hr (by decide) rfl (pa_cons (pv 6) pa_nil)))) (fun _ _ _ _ _ => (pg_name (i := 5) scIsTerm.nd rfl (by first | exact Or.inl rfl | exact Or.inr rfl))) (fun _ _ _ _ _ => pts_nil) (fun _ _ _ _ _ => (pv 5))) (pss_one (ps_if (pt_cmpR (op_eqNil hr.units0) (pv 2) (pe_lst pa_nil) (nomark _)) (pss_one (ps_ret pe_bl)) pss_nil)))))) (pss_one (ps_ret pe_bl)))), ?_⟩
    obtain ⟨t, v, m, rfl, ht, hf, hm, hd, hs, hq⟩ := h
    refine ⟨v, rfl, (show 1 ≤ sizeLine by decide), fun p hp => ⟨_, _, rfl, ?_⟩⟩
    have e0 : Ex H (upd H p (.lst [v])) := Ex.new hp
    refine q_forI (evi_rng (n := 8) (ea_cons ev_c ea_nil) (by decide)) (fun i σ' H' => Ex H H' ∧ ∃ la ys l parts x4, σ' = [some v, some (.int (m : Nat)), some (.ref la), some (.int (parts : Nat)), x4, none, none] ∧ H' la = some (.lst ys) ∧ Paired (TmAt H') l ys ∧ (∀ t ∈ l, FmOk m t) ∧ l ≠ [] ∧ (∃ d, i + d = 3 ∧ DeepL d l) ∧ parts + szL l ≤ 13)
      (fun H1 e1 => ⟨e0.trans e1, p, [v], [t], 0, none, rfl, e1 _ _ upd_same, .cons (ht.mono (e0.trans e1)) .nil, fun u hu => by rw [List.mem_singleton.mp hu]; exact hf, by simp, ⟨3, rfl, fun u hu => by rw [List.mem_singleton.mp hu]; exact hd⟩, by simp [szL]; exact hs⟩) (fun i x σ' H' hx eH hP => ?_) (fun σ' H' eH hP => ?_)
    · obtain ⟨e1, la, ys, l, parts, x4, rfl, hla, hpr, hfm, hne, ⟨d, hid, hdp⟩, hsz⟩ := hP
      have hlen : ys.length = l.length := (Paired.length hpr).symm
      have hl13 : l.length ≤ 13 := Nat.le_trans (len_sz l) (by omega)
      refine q_aug rfl (ev_len2 (ev_var rfl) (sq_of hla)) fun H2 e2 => ?_
      have hall := el_map (σ := [some v, some (.int (m : Nat)), some (.ref la), some (.int ((parts : Nat) + (ys.length : Nat))), some x, none, none]) (H := H2) (te := tCall (spHasForm K) [] C8.E0 (tCons (tVar 5) (tCons (tVar 1) tNil))) (vs := [5]) (j := 5) (evi_list (K := K) (te := tVar 2) (ev_var rfl) (sq_of (e2 _ _ hla))) (fun _ => .bl true) (by omega) (fun _ => rfl) (fun y hy => by
        obtain ⟨k, hk, ek⟩ := List.mem_iff_getElem.mp hy
        obtain ⟨u, hu, hyu⟩ := Paired.getR hpr (List.getElem?_eq_some_iff.mpr ⟨hk, ek⟩)
        exact ev_call (ea_cons (ev_var rfl) (ea_cons (ev_var rfl) ea_nil)) (spv_hasForm (hyu.mono e2) (hfm u (List.mem_of_getElem? hu)) hm))
      have hall2 := hall
      rw [show (ys.map fun _ => V.bl true) = (ys.map fun _ => true).map V.bl by rw [List.map_map]; rfl] at hall2
      have ha : ((ys.map fun _ => true).all id) = true := by simp
      refine q_when (b := false) (et_is (et_or (et_test (ev_op (ev_var rfl) ev_c rv_I0)) fun _ => et_not (et_B (ev_all hall2))) ?_) (fun z => by cases z) (fun _ H3 e3 => ?_)
      · rw [ha, decide_eq_false (by omega)]; rfl
      have e13 := e2.trans e3
      refine q_asgLP (next_layer (l := l) (many := m) (fun _ => rfl) rfl (by simp) (e13 _ _ hla) (Paired.mapP hpr fun _ _ z => z.mono e13) hfm (by omega)) fun q zs H4 hfr e4 hq4 hz => ?_
      refine s_when (et_eqNil (ev_var rfl) (sq_of hq4)) (fun hb H5 e5 => ?_) (fun hb H5 e5 => ?_)
      · exact s_ret ev_c fun H6 e6 => hq H6 ((((e1.trans e13).trans e4).trans e5).trans e6)
      · have hlay := szL_layer l
        have hzl : (l.flatMap kids) ≠ [] := fun z => by
          rw [z] at hz
          cases hz
          cases hb
        refine ⟨(e13.trans e4).trans e5, ((e1.trans e13).trans e4).trans e5, q, zs, l.flatMap kids, parts + ys.length, some x, rfl, e5 _ _ hq4, Paired.mapP hz fun _ _ z => z.mono e5, fun u hu => ?_, hzl, ?_, by omega⟩
        · obtain ⟨t', ht', hu'⟩ := List.mem_flatMap.mp hu
          exact fm_kids (hfm t' ht') u hu'
        · cases d with
          | zero => exact absurd (deep_zero hdp) hne
          | succ d => exact ⟨d, by omega, deep_layer hdp⟩
    · obtain ⟨_, _, _, _, _, _, _, _, _, _, _, ⟨d, hid, _⟩, _⟩ := hP
      simp at hid
      omega

end
end SC
set_option Elab.async false
set_option linter.all false
set_option maxRecDepth 100000
set_option maxHeartbeats 1000000
/-! W2d: leaves. -/
namespace SC
open PySem PySem.Spec PyProof.Rows L2 C8 Evl

theorem leaves_kids (t : Tm) : leavesT t = t :: (kids t).flatMap leavesT := by
  cases t with
  | lf l => rfl
  | call f as =>
    show Tm.call f as :: as.map Tm.lf = Tm.call f as :: (as.map Tm.lf).flatMap leavesT
    congr 1
    induction as with
    | nil => rfl
    | cons a r ih => simp only [List.map_cons, List.flatMap_cons, leavesT, List.singleton_append]; rw [← ih]
  | op o a b => simp [leavesT, kids]
  | ite c a b => simp [leavesT, kids]
theorem depth_kids {t u : Tm} {n : Nat} (h : t.depth ≤ n + 1) (hu : u ∈ kids t) : u.depth ≤ n := deep_kids h u hu
theorem size_kid {t u : Tm} (hu : u ∈ kids t) : u.size ≤ t.size := by
  have h := size_kids t
  have : u.size ≤ szL (kids t) := by
    unfold szL
    generalize kids t = l at hu
    induction l with
    | nil => cases hu
    | cons a r ih =>
      rw [List.map_cons, List.sum_cons]
      rcases List.mem_cons.mp hu with e | e
      · subst e; omega
      · have := ih e; omega
  omega
theorem flat_sz : ∀ l : List Tm, (l.flatMap leavesT).length = szL l
  | [] => rfl
  | t :: r => by
    rw [List.flatMap_cons, List.length_append, leaves_len, flat_sz r]
    rfl
theorem sz_take (l : List Tm) (i : Nat) : szL (l.take i) ≤ szL l := by
  induction l generalizing i with
  | nil => simp [szL]
  | cons a r ih =>
    cases i with
    | zero => simp [szL]
    | succ i =>
      have := ih i
      show a.size + szL (r.take i) ≤ a.size + szL r
      omega
def spLeaves (K : PySem.W.Frag) (n : Nat) : Sp := fun vs H Q _ => ∃ t v, vs = [v] ∧ TmAt H t v ∧ t.depth ≤ n ∧ t.size ≤ 100 ∧ ∀ p xs H2, H p = none → Ex H H2 → H2 p = some (.lst xs) → Paired (TmAt H2) (leavesT t) xs → Q (.ref p) H2
theorem lp_leaves {K : PySem.W.Frag} {σ : L2.St} {H : Hp} {te : TE} {t : Tm} {v : V} {n : Nat} (h : Ev te σ H v) (ht : TmAt H t v) (hd : t.depth ≤ n) (hs : t.size ≤ 100) : EvLP (tCall (spLeaves K n) [] C8.E0 (tCons te tNil)) σ H (fun xs H2 => Paired (TmAt H2) (leavesT t) xs) := fun H1 e Q q =>
  h H1 e _ fun H2 e2 => ⟨t, v, rfl, ht.mono (e.trans e2), hd, hs, fun p xs H3 hp e3 hx hl => q p xs H3 (fresh_back e2 hp) (e2.trans e3) hx hl⟩

section
variable {P : Program} {w : World} {K : PySem.W.Frag} {mg : Str → Option Value} {base : Heap} (T : Tx K mg)
include T

omit T in
theorem scLeaves : FnScope ["term", "found", "part"] ["term"] (defScope sLeaves) := ⟨rfl, rfl, rfl, by decide +kernel, rfl, by decide +kernel, by decide +kernel⟩
theorem okLeaves : ∀ n, Cal P w K mg base (n + 2) "leaves" (spLeaves K n) [] := by
  obtain ⟨fd, F⟩ := T.DLeaves
  intro n
  induction n with
  | zero =>
    refine cal_of T.g_leaves F (F.bindsN fun _ _ _ _ _ _ us hl => match us, hl with | [_], _ => rfl) scLeaves (fun vs H Q E h => ?_) (fun cdv A outer s H vs Q E hr h => ?_)
    · obtain ⟨t, v, rfl, _⟩ := h; rfl
    · obtain ⟨t, v, rfl, ht, hd, _⟩ := h
      have := depth_pos t
      omega
  | succ n ih =>
    refine cal_of T.g_leaves F (F.bindsN fun _ _ _ _ _ _ us hl => match us, hl with | [_], _ => rfl) scLeaves (fun vs H Q E h => ?_) (fun cdv A outer s H vs Q E hr h => ?_)
    · obtain ⟨t, v, rfl, _⟩ := h; rfl
    · refine ⟨_, (pss_cons (ps_set (i := 1) scLeaves.nd rfl (by first | exact Or.inl rfl | exact Or.inr rfl) (pe_lst (pa_cons (pv 0) pa_nil))) (pss_cons (ps_for PassesOwn.never rfl (pi_tup (pe_c (okInnerTerms T) hr (by omega) rfl (pa_cons (pv 0) pa_nil))) (pg_name (i := 2) scLeaves.nd rfl (by first | exact Or.inl rfl | exact Or.inr rfl)) (pss_one (ps_expr (pe_bm PySem.F.plainAttrs_list PySem.F.slot_list_extend PySem.F.type_list_extend mt_extend (pv 1) (pa_cons (pe_c ih hr (Nat.le_refl _) rfl (pa_cons (pv 2) pa_nil)) pa_nil))))) (pss_one (ps_ret (pv 1))))), ?_⟩
      obtain ⟨t, v, rfl, ht, hd, hs, hq⟩ := h
      refine q_asgL (el_lst (ea_cons (ev_var rfl) ea_nil) (show 1 ≤ 100000 by decide)) fun f H1 hf e1 hf1 => ?_
      refine evu_inner (ev_var rfl) (ht.mono e1) H1 (Ex.refl _) _ fun q zs H2 e2 hq2 hz => ?_
      have hz : Paired (TmAt H2) (kids t) zs := hz
      have nqf : ∀ {H3 : Hp} {acc : List V}, ExX f H2 H3 → H3 q = some (.tup zs) := fun x => x q _ (fun z => by rw [z, e2 _ _ hf1] at hq2; cases hq2) hq2
      refine ⟨q, rfl, ⟨zs, st_of hq2⟩, for_tup (K := K) (a := q) (xs := zs) (fun i σ' H' => ExX f H2 H' ∧ (∃ x2, σ' = [some v, some (.ref f), x2]) ∧ ∃ acc, H' f = some (.lst acc) ∧ Paired (TmAt H') (t :: ((kids t).take i).flatMap leavesT) acc)
        ⟨fun _ _ _ z => z, ⟨none, rfl⟩, [v], e2 _ _ hf1, .cons (ht.mono (e1.trans e2)) .nil⟩ (fun i σ' H' _ h => st_of (nqf (acc := []) h.1)) (fun i x σ' H' hx h => ?_) (fun σ' H' h => ?_)⟩
      · obtain ⟨x1, ⟨x2, rfl⟩, acc, hacc, hpr⟩ := h
        obtain ⟨u, hu, hxu⟩ := Paired.getR hz hx
        have hmem : u ∈ kids t := List.mem_of_getElem? hu
        have eN : ExN H2 H' := fun a o n ho => x1 a o (fun z => by rw [z, e2 _ _ hf1] at ho; cases ho; exact n _ rfl) ho
        have hsz : acc.length ≤ 100 := by
          rw [← Paired.length hpr, List.length_cons, flat_sz]
          have a1 := sz_take (kids t) i
          have a2 := size_kids t
          omega
        refine ⟨.ref f, rfl, .inl ⟨rfl, _, sq_of hacc⟩, ?_⟩
        refine lp_leaves (σ := [some v, some (.ref f), some x]) (te := tVar 2) (ev_var rfl) (hxu.monoN eN) (depth_kids hd hmem) (Nat.le_trans (size_kid hmem) hs) H' (Ex.refl _) _ fun b ys H3 hb e3 hb3 hy => ?_
        have hy : Paired (TmAt H3) (leavesT u) ys := hy
        have hyl : ys.length ≤ 100 := by
          rw [← Paired.length hy, leaves_len]
          exact Nat.le_trans (size_kid hmem) hs
        have hacc3 := e3 _ _ hacc
        refine ⟨f, b, acc, ys, rfl, rfl, hacc3, hb3, sz_of (by omega), ?_⟩
        have eN3 : ExN H3 (upd H3 f (.lst (acc ++ ys))) := ExN.lst hacc3
        refine ⟨fun a o ha ho => by rw [upd_ne ha]; exact e3 _ _ (x1 a o ha ho), ⟨_, rfl⟩, acc ++ ys, upd_same, ?_⟩
        have tk : (kids t).take (i + 1) = (kids t).take i ++ [u] := by rw [List.take_add_one, hu]; rfl
        rw [tk, List.flatMap_append, List.flatMap_singleton, ← List.cons_append]
        exact Paired.app (Paired.mapP hpr fun _ _ z => (z.mono e3).monoN eN3) (Paired.mapP hy fun _ _ z => z.monoN eN3)
      · obtain ⟨x1, ⟨x2, rfl⟩, acc, hacc, hpr⟩ := h
        rw [← Paired.length hz, List.take_length, ← leaves_kids] at hpr
        refine ⟨.ref f, rfl, hq f acc H' hf (fun a o ho => x1 a o (ne_of_none ho hf) ((e1.trans e2) a o ho)) hacc hpr⟩

end
end SC
set_option Elab.async false
set_option linter.all false
set_option maxRecDepth 100000
/-! TRD: dicts of names, each True. -/
namespace SC
open PySem PySem.Spec PyProof.Rows L2 C8 Evl
def trK (ns : List Str) : List (Key × V) := ns.map fun n => (Sum.inr n, V.bl true)
def addU (acc : List Str) (n : Str) : List Str := if n ∈ acc then acc else acc ++ [n]
theorem tr_put (ns : List Str) (n : Str) : putK (trK ns) (Sum.inr n : Key) (.bl true) = trK (addU ns n) := by
  have ha : ((trK ns).any fun kv => decide (kv.1 = (Sum.inr n : Key))) = decide (n ∈ ns) := by
    rw [Bool.eq_iff_iff, List.any_eq_true, decide_eq_true_eq]
    unfold trK
    constructor
    · rintro ⟨kv, hk, e⟩
      obtain ⟨m, hm, rfl⟩ := List.mem_map.mp hk
      have : m = n := Sum.inr.inj (of_decide_eq_true e)
      rw [← this]; exact hm
    · intro h
      exact ⟨_, List.mem_map.mpr ⟨n, h, rfl⟩, by simp⟩
  unfold putK addU
  rw [ha]
  by_cases h : n ∈ ns
  · rw [if_pos (by simpa using h), if_pos h]
    unfold trK
    rw [List.map_map]
    apply List.map_congr_left
    intro m _
    show (if (Sum.inr m : Key) = Sum.inr n then ((Sum.inr m : Key), V.bl true) else ((Sum.inr m : Key), V.bl true)) = _
    split <;> rfl
  · rw [if_neg (by simpa using h), if_neg h]
    simp [trK]
theorem tr_fold {α : Type} (κ : α → Str) : ∀ (l : List α) (ns : List Str), l.foldl (fun acc x => putK acc (Sum.inr (κ x) : Key) (.bl true)) (trK ns) = trK ((l.map κ).foldl addU ns)
  | [], _ => rfl
  | x :: r, ns => by
    rw [List.foldl_cons, tr_put, tr_fold κ r]
    rfl
theorem tr_merge (ns ms : List Str) : mergeK (trK ns) (trK ms) = trK (ms.foldl addU ns) := by
  induction ms generalizing ns with
  | nil => rfl
  | cons m r ih =>
    show mergeK (putK (trK ns) (Sum.inr m : Key) (.bl true)) (trK r) = _
    rw [tr_put, ih]
    rfl
theorem mem_addU {acc : List Str} {n m : Str} : m ∈ addU acc n ↔ m ∈ acc ∨ m = n := by
  unfold addU
  split
  · rename_i h
    constructor
    · exact .inl
    · rintro (h1 | h1)
      · exact h1
      · rw [h1]; exact h
  · simp
theorem mem_foldU {l : List Str} : ∀ {acc : List Str} {m : Str}, m ∈ l.foldl addU acc ↔ m ∈ acc ∨ m ∈ l := by
  induction l with
  | nil => intro acc m; simp
  | cons n r ih =>
    intro acc m
    rw [List.foldl_cons, ih, mem_addU, List.mem_cons, or_assoc]
theorem len_foldU : ∀ (l acc : List Str), (l.foldl addU acc).length ≤ acc.length + l.length
  | [], acc => Nat.le_refl _
  | n :: r, acc => by
    rw [List.foldl_cons]
    refine Nat.le_trans (len_foldU r _) ?_
    have : (addU acc n).length ≤ acc.length + 1 := by
      unfold addU
      split
      · omega
      · simp
    rw [List.length_cons]
    omega
theorem tr_val {ns : List Str} {n : Str} : (valV (trK ns) (Sum.inr n : Key)).isSome = decide (n ∈ ns) := by
  induction ns with
  | nil => rfl
  | cons m r ih =>
    show (valV ((Sum.inr m, V.bl true) :: trK r) (Sum.inr n : Key)).isSome = _
    by_cases h : m = n
    · subst h
      rw [valV_pos (by rfl)]
      simp
    · rw [valV_neg (fun z => h (Sum.inr.inj z)), ih]
      have : n ≠ m := fun z => h z.symm
      by_cases h2 : n ∈ r
      · rw [decide_eq_true h2, decide_eq_true (List.mem_cons_of_mem _ h2)]
      · rw [decide_eq_false h2, decide_eq_false (fun z => by
          rcases List.mem_cons.mp z with z | z
          · exact this z
          · exact h2 z)]
theorem tr_len (ns : List Str) : (trK ns).length = ns.length := by simp [trK]
/-- [e for n in found], found a dict of names -/
theorem el_keys {σ : L2.St} {H : Hp} {d : Addr} {ns : List Str} {te td : TE} {j : Nat} {vs : List Nat} (hd : H d = some (.dK (trK ns))) (hvar : ∀ H', td σ H' = fun Q => Q (.ref d) H') (hz : ns.length ≤ 40000) (hw : ∀ x, wipe ((wipe σ vs).set j (some x)) vs = wipe σ vs)
    (he : ∀ n ∈ ns, ∀ H1 (Q : VK), Q (.str n) H1 → te ((wipe σ vs).set j (some (.str n))) H1 Q) (Q : VK) (q : ∀ p H2, H p = none → Ex H H2 → H2 p = some (.lst (ns.map V.str)) → Q (.ref p) H2) :
    tLockE (tLc (iKeys td) (gName j) tYes te vs) σ H Q := by
  refine ⟨d, _, hd, True.intro, fun od => ?_⟩
  show td σ _ _
  rw [hvar]
  refine ⟨d, od, rfl, .inl ⟨_, upd_same, fun D hD => ?_⟩⟩
  have ndD : d ≠ D := fun z => by rw [← z, upd_same] at hD; cases hD
  have hD0 : H D = none := by rw [upd_ne (Ne.symm ndD)] at hD; exact hD
  refine lc_it (walk_keys (kvs := trK ns)) (fun i H' => H' D = some (.lst ((ns.take i).map V.str)) ∧ H' d = some (.frz od (.dK (trK ns))) ∧ ∀ a o, a ≠ d → a ≠ D → H a = some o → H' a = some o) ⟨upd_same, by rw [upd_ne ndD, upd_same], fun a o h1 h2 ho => by rw [upd_ne h2, upd_ne h1]; exact ho⟩
    (fun i H' _ h => h.2.1) ?_ ?_
  · rintro i x H' H'' hlt ⟨h1, h2, h3⟩ ⟨rfl, k, v, hk, rfl⟩
    rw [tr_len] at hlt
    have hk' : (trK ns)[i]? = some (Sum.inr ns[i], V.bl true) := by unfold trK; rw [List.getElem?_map, List.getElem?_eq_getElem hlt]; rfl
    rw [hk'] at hk
    cases hk
    refine ⟨hw _, ?_⟩
    show te ((wipe σ vs).set j (some (.str ns[i]))) H'' _
    refine he _ (List.getElem_mem hlt) H'' _ ⟨_, h1, sz_lt (by rw [List.length_map, List.length_take]; omega), ?_, ?_, fun a o a1 a2 ho => ?_⟩
    · rw [upd_same, List.take_add_one, List.getElem?_eq_getElem hlt, List.map_append]
      rfl
    · rw [upd_ne ndD]; exact h2
    · rw [upd_ne a2]; exact h3 a o a1 a2 ho
  · rintro H' ⟨h1, h2, h3⟩
    rw [tr_len, List.take_length] at h1
    refine ⟨h2, q D _ hD0 (fun a o ho => ?_) ?_⟩
    · by_cases ha : a = d
      · subst ha
        rw [hd] at ho
        cases ho
        exact upd_same
      · rw [upd_ne ha]
        exact h3 a o ha (ne_of_none ho hD0) ho
    · rw [upd_ne (Ne.symm ndD)]; exact h1
end SC
set_option Elab.async false
set_option linter.all false
set_option maxRecDepth 100000
set_option maxHeartbeats 1000000
/-! W2e: names_with, cells_in, calls_in, has_tick. -/
namespace SC
open PySem PySem.Spec PyProof.Rows L2 C8 Evl

/-! ### by way of a new list -/
section
variable {K : PySem.W.Frag} {σ : L2.St} {H : Hp} {te : TE} {Φ : List V → Hp → Prop} {g : TG} {tt : TT} {ts tk tv : TE} {tu : TS} {vs : List Nat} {Q : VK} {D : Ends}
theorem tDc_lp (h : EvLP te σ H Φ) (k : ∀ p xs H1, H p = none → Ex H H1 → H1 p = some (.lst xs) → Φ xs H1 → tDc (iList K (tC (.ref p))) g tt tk tv vs σ H1 Q) : tDc (iList K te) g tt tk tv vs σ H Q := h H (Ex.refl H) _ k
theorem tLc_lp (h : EvLP te σ H Φ) (k : ∀ p xs H1, H p = none → Ex H H1 → H1 p = some (.lst xs) → Φ xs H1 → tLc (iList K (tC (.ref p))) g tt ts vs σ H1 Q) : tLc (iList K te) g tt ts vs σ H Q := h H (Ex.refl H) _ k
theorem q_asgDc {i : Nat} {tz : TS} (h : EvLP te σ H Φ) (k : ∀ p xs H1, H p = none → Ex H H1 → H1 p = some (.lst xs) → Φ xs H1 → tSeq (tAsg (tDc (iList K (tC (.ref p))) g tt tk tv vs) (gName i)) tz D σ H1) : tSeq (tAsg (tDc (iList K te) g tt tk tv vs) (gName i)) tz D σ H := h H (Ex.refl H) _ k
theorem q_asgLc {i : Nat} {tz : TS} (h : EvLP te σ H Φ) (k : ∀ p xs H1, H p = none → Ex H H1 → H1 p = some (.lst xs) → Φ xs H1 → tSeq (tAsg (tLc (iList K (tC (.ref p))) g tt ts vs) (gName i)) tz D σ H1) : tSeq (tAsg (tLc (iList K te) g tt ts vs) (gName i)) tz D σ H := h H (Ex.refl H) _ k
theorem s_retE (h : te σ H D.rt) : tRet te D σ H := h
theorem e_op {r : R2} {ta tb : TE} (h : ta σ H fun x H1 => tb σ H1 fun y H2 => r x y H2 Q) : tOp r ta tb σ H Q := h
theorem e_cb {r : List V → Hp → VK → Prop} {ta : TA} (h : ta σ H fun xs H1 => r xs H1 Q) : tCB r ta σ H Q := h
theorem q_dropE {tz : TS} (h : te σ H fun _ H1 => tz D σ H1) : tSeq (tDrop te) tz D σ H := h
theorem s_dropE (h : te σ H fun _ H1 => D.nx σ H1) : tDrop te D σ H := h
theorem q_asgE {i : Nat} {tz : TS} (h : te σ H fun v H1 => tz D (σ.set i (some v)) H1) : tSeq (tAsg te (gName i)) tz D σ H := h
theorem tFor_lp (h : EvLP te σ H Φ) (k : ∀ p xs H1, H p = none → Ex H H1 → H1 p = some (.lst xs) → Φ xs H1 → tFor (iList K (tC (.ref p))) g tu D σ H1) : tFor (iList K te) g tu D σ H := h H (Ex.refl H) _ k
end
theorem el_keysV {σ : L2.St} {H : Hp} {d : Addr} {ns : List Str} {te td : TE} {j : Nat} {vs : List Nat} (hd : H d = some (.dK (trK ns))) (hvar : ∀ H', td σ H' = fun Q => Q (.ref d) H') (hz : ns.length ≤ 40000) (hw : ∀ x, wipe ((wipe σ vs).set j (some x)) vs = wipe σ vs)
    (he : ∀ n ∈ ns, ∀ H1 (Q : VK), Q (.str n) H1 → te ((wipe σ vs).set j (some (.str n))) H1 Q) : EvL (tLockE (tLc (iKeys td) (gName j) tYes te vs)) σ H (ns.map V.str) := fun H1 e Q q => el_keys (e _ _ hd) hvar hz hw he Q fun p H2 a b c => q p H2 a b c
/-- a new list of texts -/
theorem lp_sortedS {K : PySem.W.Frag} {σ : L2.St} {H : Hp} {te : TE} {xs : List Str} (h : EvL te σ H (xs.map V.str)) (hz : xs.length < 64) : EvLP (tCB (rSortedS K) (tCons te tNil)) σ H (fun zs _ => ∃ ys : List Str, zs = ys.map V.str ∧ ys.Perm xs) := fun H1 e Q q =>
  h H1 e _ fun p H2 hp e2 hl => ⟨p, xs, rfl, sq_of hl, hz, fun ys p2 hperm _ hp2 => q p2 _ _ (fresh_back e2 hp2) (e2.trans (Ex.new hp2)) upd_same ⟨ys, rfl, hperm⟩⟩

/-! ### the names that a term names -/
def fK (H : Hp) (kind : Str) (x : V) : Bool := match x with
  | .ref p => (match H p with
    | some (.tup (.str k :: _)) => decide (k = kind)
    | _ => false)
  | _ => false
def kK (H : Hp) (x : V) : Str := match x with
  | .ref p => (match H p with
    | some (.tup (_ :: .str c :: _)) => c
    | _ => ⟨#[]⟩)
  | _ => ⟨#[]⟩
theorem fK_ref {H : Hp} {p : Addr} {k kind : Str} {r : List V} (h : H p = some (.tup (.str k :: r))) : fK H kind (.ref p) = decide (k = kind) := by
  simp only [fK, h]
theorem kK_ref {H : Hp} {p : Addr} {x : V} {c : Str} {r : List V} (h : H p = some (.tup (x :: .str c :: r))) : kK H (.ref p) = c := by
  simp only [kK, h]
def OfK (kind : Str) (of : Tm → List Str) : Prop := (kind = "cell" ∧ of = celOf) ∨ (kind = "call" ∧ of = calOf)
/-- a leaf is of the kind, and its item 1 its name; or it is not -/
theorem of_tm {H : Hp} {t : Tm} {v : V} {kind : Str} {of : Tm → List Str} (h : TmAt H t v) (ho : OfK kind of) :
    (fK H kind v = true ∧ of t = [kK H v] ∧ ∃ p r x, v = .ref p ∧ H p = some (.tup (x :: .str (kK H v) :: r))) ∨ (fK H kind v = false ∧ of t = []) := by
  rcases ho with ⟨rfl, rfl⟩ | ⟨rfl, rfl⟩
  · cases t with
    | lf l =>
      cases l with
      | val n => obtain rfl : v = .int n := h; exact .inr ⟨rfl, rfl⟩
      | arg i => obtain ⟨p, rfl, h2⟩ := h; exact .inr ⟨by rw [fK_ref h2]; decide +kernel, rfl⟩
      | cel c => obtain ⟨p, rfl, h2⟩ := h; exact .inl ⟨by rw [fK_ref h2]; decide +kernel, by rw [kK_ref h2]; rfl, p, _, _, rfl, by rw [kK_ref h2]; exact h2⟩
      | tick => obtain ⟨p, rfl, h2⟩ := h; exact .inr ⟨by rw [fK_ref h2]; decide +kernel, rfl⟩
    | call f as => obtain ⟨p, q, us, rfl, h2, _⟩ := h; exact .inr ⟨by rw [fK_ref h2]; decide +kernel, rfl⟩
    | op o a b => obtain ⟨p, x, y, rfl, h2, _⟩ := h; exact .inr ⟨by rw [fK_ref h2]; cases o <;> decide +kernel, rfl⟩
    | ite c a b => obtain ⟨p, z, x, y, rfl, h2, _⟩ := h; exact .inr ⟨by rw [fK_ref h2]; decide +kernel, rfl⟩
  · cases t with
    | lf l =>
      cases l with
      | val n => obtain rfl : v = .int n := h; exact .inr ⟨rfl, rfl⟩
      | arg i => obtain ⟨p, rfl, h2⟩ := h; exact .inr ⟨by rw [fK_ref h2]; decide +kernel, rfl⟩
      | cel c => obtain ⟨p, rfl, h2⟩ := h; exact .inr ⟨by rw [fK_ref h2]; decide +kernel, rfl⟩
      | tick => obtain ⟨p, rfl, h2⟩ := h; exact .inr ⟨by rw [fK_ref h2]; decide +kernel, rfl⟩
    | call f as => obtain ⟨p, q, us, rfl, h2, _⟩ := h; exact .inl ⟨by rw [fK_ref h2]; decide +kernel, by rw [kK_ref h2]; rfl, p, _, _, rfl, by rw [kK_ref h2]; exact h2⟩
    | op o a b => obtain ⟨p, x, y, rfl, h2, _⟩ := h; exact .inr ⟨by rw [fK_ref h2]; cases o <;> decide +kernel, rfl⟩
    | ite c a b => obtain ⟨p, z, x, y, rfl, h2, _⟩ := h; exact .inr ⟨by rw [fK_ref h2]; decide +kernel, rfl⟩
theorem of_row {H : Hp} {l : List Tm} {xs : List V} {kind : Str} {of : Tm → List Str} (h : Paired (TmAt H) l xs) (ho : OfK kind of) : (xs.filter (fK H kind)).map (kK H) = l.flatMap of := by
  induction h with
  | nil => rfl
  | cons r t ih =>
    rcases of_tm r ho with ⟨h1, h2, _⟩ | ⟨h1, h2⟩
    · rw [List.filter_cons_of_pos h1, List.map_cons, ih, List.flatMap_cons, h2]; rfl
    · rw [List.filter_cons_of_neg (by rw [h1]; exact Bool.false_ne_true), ih, List.flatMap_cons, h2]; rfl
def spNamesWith (K : PySem.W.Frag) : Sp := fun vs H Q _ => ∃ t v kind of, vs = [v, .str kind] ∧ TmAt H t v ∧ t.depth ≤ 3 ∧ t.size ≤ 13 ∧ OfK kind of ∧
  ∀ p (ys : List Str) H2, H p = none → Ex H H2 → H2 p = some (.lst (ys.map V.str)) → (∀ m, m ∈ ys ↔ m ∈ (leavesT t).flatMap of) → ys.length ≤ 13 → Q (.ref p) H2
def NamesP (ns : List Str) (zs : List V) : Prop := ∃ ys : List Str, zs = ys.map V.str ∧ (∀ m, m ∈ ys ↔ m ∈ ns) ∧ ys.length ≤ 13
theorem lp_namesWith {K : PySem.W.Frag} {σ : L2.St} {H : Hp} {te tk : TE} {t : Tm} {v : V} {kind : Str} {of : Tm → List Str} (h : Ev te σ H v) (hk : Ev tk σ H (.str kind)) (ht : TmAt H t v) (hd : t.depth ≤ 3) (hs : t.size ≤ 13) (ho : OfK kind of) : EvLP (tCall (spNamesWith K) [] C8.E0 (tCons te (tCons tk tNil))) σ H (fun xs _ => NamesP ((leavesT t).flatMap of) xs) := fun H1 e Q q =>
  h H1 e _ fun H2 e2 => hk H2 (e.trans e2) _ fun H3 e3 => ⟨t, v, kind, of, rfl, ht.mono ((e.trans e2).trans e3), hd, hs, ho, fun p ys H4 hp e4 hx h1 h2 => q p _ H4 (fresh_back (e2.trans e3) hp) ((e2.trans e3).trans e4) hx ⟨ys, rfl, h1, h2⟩⟩
def spCellsIn (K : PySem.W.Frag) : Sp := fun vs H Q _ => ∃ t v, vs = [v] ∧ TmAt H t v ∧ t.depth ≤ 3 ∧ t.size ≤ 13 ∧ ∀ p xs H2, H p = none → Ex H H2 → H2 p = some (.lst xs) → NamesP (cellsT t) xs → Q (.ref p) H2
def spCallsIn (K : PySem.W.Frag) : Sp := fun vs H Q _ => ∃ t v, vs = [v] ∧ TmAt H t v ∧ t.depth ≤ 3 ∧ t.size ≤ 13 ∧ ∀ p xs H2, H p = none → Ex H H2 → H2 p = some (.lst xs) → NamesP (callsT t) xs → Q (.ref p) H2
theorem lp_cellsIn {K : PySem.W.Frag} {σ : L2.St} {H : Hp} {te : TE} {t : Tm} {v : V} (h : Ev te σ H v) (ht : TmAt H t v) (hd : t.depth ≤ 3) (hs : t.size ≤ 13) : EvLP (tCall (spCellsIn K) [] C8.E0 (tCons te tNil)) σ H (fun xs _ => NamesP (cellsT t) xs) := fun H1 e Q q =>
  h H1 e _ fun H2 e2 => ⟨t, v, rfl, ht.mono (e.trans e2), hd, hs, fun p ys H4 hp e4 hx h1 => q p _ H4 (fresh_back e2 hp) (e2.trans e4) hx h1⟩
theorem lp_callsIn {K : PySem.W.Frag} {σ : L2.St} {H : Hp} {te : TE} {t : Tm} {v : V} (h : Ev te σ H v) (ht : TmAt H t v) (hd : t.depth ≤ 3) (hs : t.size ≤ 13) : EvLP (tCall (spCallsIn K) [] C8.E0 (tCons te tNil)) σ H (fun xs _ => NamesP (callsT t) xs) := fun H1 e Q q =>
  h H1 e _ fun H2 e2 => ⟨t, v, rfl, ht.mono (e.trans e2), hd, hs, fun p ys H4 hp e4 hx h1 => q p _ H4 (fresh_back e2 hp) (e2.trans e4) hx h1⟩

/-! ### terms as data -/
def dL : Lf → PyData
  | .val n => .int n
  | .arg i => .tuple [.str "arg", .int (i : Int)]
  | .cel c => .tuple [.str "cell", .str c]
  | .tick => .tuple [.str "tick"]
def dT : Tm → PyData
  | .lf l => dL l
  | .call f as => .tuple [.str "call", .str f, .tuple (as.map dL)]
  | .op o a b => .tuple [.str (opName o), dT a, dT b]
  | .ite c a b => .tuple [.str "if", dT c, dT a, dT b]
theorem dp_lf {K : PySem.W.Frag} {H : Hp} {l : Lf} {v : V} (h : LfAt H l v) : Dp K H v (dL l) := by
  cases l with
  | val n => obtain rfl : v = .int n := h; exact .int n
  | arg i => obtain ⟨p, rfl, h2⟩ := h; exact .tup (st_of h2) (.cons (.str _) (.cons (.int _) .nil))
  | cel c => obtain ⟨p, rfl, h2⟩ := h; exact .tup (st_of h2) (.cons (.str _) (.cons (.str _) .nil))
  | tick => obtain ⟨p, rfl, h2⟩ := h; exact .tup (st_of h2) (.cons (.str _) .nil)
theorem dp_row {K : PySem.W.Frag} {H : Hp} : ∀ {as : List Lf} {us : List V}, Paired (LfAt H) as us → DpAll K H us (as.map dL)
  | _, _, .nil => .nil
  | _, _, .cons r t => .cons (dp_lf r) (dp_row t)
theorem dp_tm {K : PySem.W.Frag} {H : Hp} : ∀ {t : Tm} {v : V}, TmAt H t v → Dp K H v (dT t)
  | .lf l, v, h => dp_lf h
  | .call f as, v, ⟨p, q, us, h1, h2, h3, h4⟩ => by subst h1; exact .tup (st_of h2) (.cons (.str _) (.cons (.str _) (.cons (.tup (st_of h3) (dp_row h4)) .nil)))
  | .op o a b, v, ⟨p, x, y, h1, h2, h3, h4⟩ => by subst h1; exact .tup (st_of h2) (.cons (.str _) (.cons (dp_tm h3) (.cons (dp_tm h4) .nil)))
  | .ite c a b, v, ⟨p, z, x, y, h1, h2, h3, h4, h5⟩ => by subst h1; exact .tup (st_of h2) (.cons (.str _) (.cons (dp_tm h3) (.cons (dp_tm h4) (.cons (dp_tm h5) .nil))))
theorem dp_rowT {K : PySem.W.Frag} {H : Hp} : ∀ {as : List Tm} {us : List V}, Paired (TmAt H) as us → DpAll K H us (as.map dT)
  | _, _, .nil => .nil
  | _, _, .cons r t => .cons (dp_tm r) (dp_rowT t)
theorem strOk_nm {s : Str} (h : IsNm s) : PyData.strOk s = true := by
  show s.cps.all (fun x => decide (x < 1114112)) = true
  rw [Array.all_eq_true']
  intro x hx
  have := h.2.2 x (by simpa using hx)
  exact decide_eq_true (by omega)
theorem lay_lf {many : Nat} {l : Lf} (h : LfF many l) : (dL l).canLay0 = true := by
  cases l with
  | val n => rfl
  | arg i => show (PyData.strOk "arg" && (true && true)) = true; decide +kernel
  | cel c =>
    have : PyData.strOk c = true := strOk_nm h
    show (PyData.strOk "cell" && (PyData.strOk c && true)) = true
    rw [this]; decide +kernel
  | tick => decide +kernel
theorem lay_row {many : Nat} : ∀ {as : List Lf}, (∀ l ∈ as, LfF many l) → PyData.canLayAll0 (as.map dL) = true
  | [], _ => rfl
  | l :: r, h => by
    show ((dL l).canLay0 && PyData.canLayAll0 (r.map dL)) = true
    rw [lay_lf (h l List.mem_cons_self), lay_row fun a ha => h a (List.mem_cons_of_mem _ ha)]; rfl
theorem lay_tm {many : Nat} : ∀ {t : Tm}, FmOk many t → (dT t).canLay0 = true
  | .lf l, h => lay_lf h
  | .call f as, h => by
    show (PyData.strOk "call" && (PyData.strOk f && (PyData.canLayAll0 (as.map dL) && true))) = true
    rw [strOk_nm h.1, lay_row h.2.2]; decide +kernel
  | .op o a b, h => by
    show (PyData.strOk (opName o) && ((dT a).canLay0 && ((dT b).canLay0 && true))) = true
    rw [lay_tm h.1, lay_tm h.2]; cases o <;> decide +kernel
  | .ite c a b, h => by
    show (PyData.strOk "if" && ((dT c).canLay0 && ((dT a).canLay0 && ((dT b).canLay0 && true)))) = true
    rw [lay_tm h.1, lay_tm h.2.1, lay_tm h.2.2]; decide +kernel
theorem deep_lf (l : Lf) : (dL l).depth ≤ 3 := by cases l <;> simp [dL, PyData.depth, PyData.depthAll]
theorem deep_row : ∀ as : List Lf, PyData.depthAll (as.map dL) ≤ 3
  | [] => Nat.zero_le _
  | l :: r => by
    have := deep_lf l
    have := deep_row r
    simp only [List.map_cons, PyData.depthAll]
    omega
theorem deep_tm : ∀ t : Tm, (dT t).depth ≤ t.depth + 5
  | .lf l => by have := deep_lf l; show (dL l).depth ≤ _; omega
  | .call f as => by
    have := deep_row as
    simp only [dT, PyData.depth, PyData.depthAll]
    omega
  | .op o a b => by
    have := deep_tm a
    have := deep_tm b
    simp only [dT, PyData.depth, PyData.depthAll, Tm.depth]
    omega
  | .ite c a b => by
    have := deep_tm a
    have := deep_tm b
    have := deep_tm c
    simp only [dT, PyData.depth, PyData.depthAll, Tm.depth]
    omega
theorem fm_leaves {many : Nat} : ∀ {t : Tm}, FmOk many t → ∀ u ∈ leavesT t, FmOk many u ∧ u.depth ≤ t.depth
  | .lf l, h => by
    intro u hu
    rw [leavesT, List.mem_singleton] at hu
    subst hu
    exact ⟨h, Nat.le_refl _⟩
  | .call f as, h => by
    intro u hu
    rcases List.mem_cons.mp hu with e | hu
    · subst e; exact ⟨h, Nat.le_refl _⟩
    · obtain ⟨l, hl, e⟩ := List.mem_map.mp hu
      subst e
      refine ⟨h.2.2 l hl, ?_⟩
      have := depth_pos (.call f as)
      exact this
  | .op o a b, h => by
    intro u hu
    rcases List.mem_cons.mp hu with e | hu
    · subst e; exact ⟨h, Nat.le_refl _⟩
    · rcases List.mem_append.mp hu with hu | hu
      · have := fm_leaves h.1 u hu
        refine ⟨this.1, ?_⟩
        simp only [Tm.depth]
        omega
      · have := fm_leaves h.2 u hu
        refine ⟨this.1, ?_⟩
        simp only [Tm.depth]
        omega
  | .ite c a b, h => by
    intro u hu
    rcases List.mem_cons.mp hu with e | hu
    · subst e; exact ⟨h, Nat.le_refl _⟩
    · rcases List.mem_append.mp hu with hu | hu
      · have := fm_leaves h.1 u hu
        refine ⟨this.1, ?_⟩
        simp only [Tm.depth]
        omega
      · rcases List.mem_append.mp hu with hu | hu
        · have := fm_leaves h.2.1 u hu
          refine ⟨this.1, ?_⟩
          simp only [Tm.depth]
          omega
        · have := fm_leaves h.2.2 u hu
          refine ⟨this.1, ?_⟩
          simp only [Tm.depth]
          omega
theorem lay_all : ∀ {l : List Tm} {many : Nat}, (∀ t ∈ l, FmOk many t) → PyData.canLayAll0 (l.map dT) = true
  | [], _, _ => rfl
  | t :: r, m, h => by
    show ((dT t).canLay0 && PyData.canLayAll0 (r.map dT)) = true
    rw [lay_tm (h t List.mem_cons_self), lay_all fun a ha => h a (List.mem_cons_of_mem _ ha)]; rfl
theorem deep_all : ∀ {l : List Tm} {n : Nat}, (∀ t ∈ l, t.depth ≤ n) → PyData.depthAll (l.map dT) ≤ n + 5
  | [], _, _ => Nat.zero_le _
  | t :: r, n, h => by
    have a1 := deep_tm t
    have a2 := h t List.mem_cons_self
    have a3 := deep_all (l := r) fun a ha => h a (List.mem_cons_of_mem _ ha)
    simp only [List.map_cons, PyData.depthAll]
    omega
theorem tick_eqv (u : Tm) : PyData.eqv (dT u) (.tuple [.str "tick"]) = tickOf u := by
  cases u with
  | lf l =>
    cases l with
    | val n => rfl
    | arg i => simp [dT, dL, PyData.eqv, PyData.eqvAll, tickOf, Lf.isTick]
    | cel c => simp [dT, dL, PyData.eqv, PyData.eqvAll, tickOf, Lf.isTick]
    | tick => simp [dT, dL, PyData.eqv, PyData.eqvAll, tickOf, Lf.isTick]
  | call f as => simp [dT, PyData.eqv, PyData.eqvAll, tickOf]
  | op o a b => simp [dT, PyData.eqv, PyData.eqvAll, tickOf]
  | ite c a b => simp [dT, PyData.eqv, PyData.eqvAll, tickOf]
def spHasTick (K : PySem.W.Frag) : Sp := fun vs H Q _ => ∃ t v many, vs = [v] ∧ TmAt H t v ∧ FmOk many t ∧ t.depth ≤ 3 ∧ t.size ≤ 13 ∧ RetV (.bl (tickT t)) H Q
theorem spv_hasTick {K : PySem.W.Frag} {H : Hp} {t : Tm} {v : V} {many : Nat} (h : TmAt H t v) (hf : FmOk many t) (hd : t.depth ≤ 3) (hs : t.size ≤ 13) : SpV (spHasTick K) [v] H (.bl (tickT t)) := fun H1 e Q q E => ⟨t, v, many, rfl, h.mono e, hf, hd, hs, q⟩

section
variable {P : Program} {w : World} {K : PySem.W.Frag} {mg : Str → Option Value} {base : Heap} (T : Tx K mg)
include T

omit T in
theorem scNamesWith : FnScope ["term", "kind", "found", "part", "name"] ["term", "kind"] (defScope sNamesWith) := ⟨rfl, rfl, rfl, by decide +kernel, rfl, by decide +kernel, by decide +kernel⟩
theorem okNamesWith : Cal P w K mg base 6 "names_with" (spNamesWith K) [] := by
  obtain ⟨fd, F⟩ := T.DNamesWith
  refine cal_of T.g_names_with F (F.bindsN fun _ _ _ _ _ _ us hl => match us, hl with | [_, _], _ => rfl) scNamesWith (fun vs H Q E h => ?_) (fun cdv A outer s H vs Q E hr h => ?_)
  · obtain ⟨t, v, k, of, rfl, _⟩ := h; rfl
  · refine ⟨_, (pss_cons (ps_setDc (i := 2) (own := [("part", 3)]) (by rfl) scNamesWith.nd rfl rfl (swD_true rfl rfl rfl (by decide +kernel)) (pi_list (pe_c (okLeaves T 3) hr (by decide) rfl (pa_cons (pv 0) pa_nil))) (blkOk_by (own := [("part", 3)]) (N := ["term", "kind", "found", "part", "name"]) (sc := defScope sNamesWith) (by decide +kernel)) (fun _ _ _ _ _ => (pg_name (i := 3) scNamesWith.nd rfl (by first | exact Or.inl rfl | exact Or.inr rfl))) (fun _ _ _ _ _ => (pts_one (PW.pt (pw_and (pt_val (pe_callB (call_isiK (K := K) rfl) rfl T.f_isinstance (by decide +kernel) (pa_cons (pv 3) (pa_cons (pe_bltn (v := .ty "tuple") (u := .type "tuple") rfl T.f_tuple (by decide +kernel) rfl) pa_nil)))) (pw_and1 (pt_cmpR op_eq (pe_ix (ix_tupK (K := K) rfl) (pv 3) pe_int (fun _ _ => rfl)) (pv 1) (nomark _))))))) (fun _ _ _ _ _ => (pe_ix (ix_tupK (K := K) rfl) (pv 3) pe_int (fun _ _ => rfl))) (fun _ _ _ _ _ => pe_bl)) (pss_one (ps_ret (pe_callB cr_sortedS rfl T.f_sorted (by decide +kernel) (pa_cons (pe_lock (pe_lc  (own := [("name", 4)]) (by rfl) scNamesWith.nd (pi_keys (pv 2)) (blkOk_by (own := [("name", 4)]) (N := ["term", "kind", "found", "part", "name"]) (sc := defScope sNamesWith) (by decide +kernel)) (fun _ _ _ _ _ => (pg_name (i := 4) scNamesWith.nd rfl (by first | exact Or.inl rfl | exact Or.inr rfl))) (fun _ _ _ _ _ => pts_nil) (fun _ _ _ _ _ => (pe_callTy SkE.call_str_str rfl T.f_str (by decide +kernel) (pa_cons (pv 4) pa_nil))))) pa_nil))))), ?_⟩
    obtain ⟨t, v, kind, of, rfl, ht, hd, hs, ho, hq⟩ := h
    refine q_asgDc (lp_leaves (ev_var rfl) ht hd (by omega)) fun p xs H1 hp e1 hx hpr => ?_
    have hpr : Paired (TmAt H1) (leavesT t) xs := hpr
    have hlen : xs.length ≤ 13 := by rw [← Paired.length hpr, leaves_len]; exact hs
    refine q_asgD (ed_fm (wi := iList K (tC (.ref p))) (j := 3) (vs := [3]) (evi_list ev_c (sq_of hx)) (fK H1 kind) (kK H1) (fun _ => .bl true) (by omega) (fun _ => rfl) (fun x hx' => ?_) (fun x hx' hf => ?_) (fun x hx' hf => ev_c)) fun d H2 hd2 e2 hdd => ?_
    · obtain ⟨i, hi⟩ := List.getElem?_of_mem hx'
      obtain ⟨u, _, hu⟩ := Paired.getR hpr hi
      rcases tm_shape hu with ⟨n, rfl, rfl⟩ | ⟨p, k, r, rfl, hk, hp'⟩
      · exact et_is (et_and (a := false) (b := false) (et_B (ev_isi false (ev_var rfl) ty_int (kit_ty (by decide +kernel)))) fun z => by cases z) rfl
      · refine et_is (et_and (et_B (ev_isi true (ev_var rfl) (ty_tup hp') (kit_ty (by decide +kernel)))) fun _ => et_test (ev_op (ev_op (ev_var rfl) ev_c (rv_ixT (st_of hp') at0)) (ev_var rfl) (rv_eq rfl))) ?_
        rw [fK_ref hp']
        simp
    · obtain ⟨i, hi⟩ := List.getElem?_of_mem hx'
      obtain ⟨u, _, hu⟩ := Paired.getR hpr hi
      rcases of_tm hu ho with ⟨_, _, p, r, y, rfl, hp'⟩ | ⟨h1, _⟩
      · exact ev_op (ev_var rfl) ev_c (rv_ixT (st_of hp') at1)
      · rw [h1] at hf; cases hf
    have hT : (xs.filter (fK H1 kind)).foldl (fun acc x => putK acc (Sum.inr (kK H1 x)) (V.bl true)) [] = trK (((xs.filter (fK H1 kind)).map (kK H1)).foldl addU []) := tr_fold (kK H1) _ []
    rw [hT, of_row hpr ho] at hdd
    have hn : (((leavesT t).flatMap of).foldl addU []).length ≤ 13 := by
      refine Nat.le_trans (len_foldU _ _) ?_
      rw [List.length_nil, Nat.zero_add, ← of_row hpr ho, List.length_map]
      exact Nat.le_trans (List.length_filter_le _ _) hlen
    refine lp_sortedS (el_keysV hdd (fun _ => by funext Q; exact propext ⟨fun ⟨x, h1, h2⟩ => by cases h1; exact h2, fun h => ⟨_, rfl, h⟩⟩) (by omega) (fun _ => rfl) fun n _ H1 Q q => ⟨.str n, rfl, ⟨n, rfl, q⟩⟩) (by omega) H2 (Ex.refl _) _ fun q zs H3 hq3 e3 hz h3 => ?_
    obtain ⟨ys, rfl, hperm⟩ := h3
    exact hq q ys H3 (fresh_back (e1.trans e2) hq3) ((e1.trans e2).trans e3) hz (fun m => by rw [hperm.mem_iff, mem_foldU]; simp) (by rw [hperm.length_eq]; exact hn)

omit T in
theorem scCellsIn : FnScope ["term"] ["term"] (defScope sCellsIn) := ⟨rfl, rfl, rfl, by decide +kernel, rfl, by decide +kernel, by decide +kernel⟩
theorem okCellsIn : Cal P w K mg base 7 "cells_in" (spCellsIn K) [] := by
  obtain ⟨fd, F⟩ := T.DCellsIn
  refine cal_of T.g_cells_in F (F.bindsN fun _ _ _ _ _ _ us hl => match us, hl with | [_], _ => rfl) scCellsIn (fun vs H Q E h => ?_) (fun cdv A outer s H vs Q E hr h => ?_)
  · obtain ⟨t, v, rfl, _⟩ := h; rfl
  · refine ⟨_, (pss_one (ps_ret (pe_c (okNamesWith T) hr (by decide) rfl (pa_cons (pv 0) (pa_cons pe_str pa_nil))))), ?_⟩
    obtain ⟨t, v, rfl, ht, hd, hs, hq⟩ := h
    refine s_retLP (lp_namesWith (of := celOf) (ev_var rfl) ev_c ht hd hs (by first | exact .inl ⟨rfl, rfl⟩ | exact .inr ⟨rfl, rfl⟩)) fun p ys H1 hp e1 hx h1 => hq p ys H1 hp e1 hx ?_
    rw [← cells_leaves]; exact h1

omit T in
theorem scCallsIn : FnScope ["term"] ["term"] (defScope sCallsIn) := ⟨rfl, rfl, rfl, by decide +kernel, rfl, by decide +kernel, by decide +kernel⟩
theorem okCallsIn : Cal P w K mg base 7 "calls_in" (spCallsIn K) [] := by
  obtain ⟨fd, F⟩ := T.DCallsIn
  refine cal_of T.g_calls_in F (F.bindsN fun _ _ _ _ _ _ us hl => match us, hl with | [_], _ => rfl) scCallsIn (fun vs H Q E h => ?_) (fun cdv A outer s H vs Q E hr h => ?_)
  · obtain ⟨t, v, rfl, _⟩ := h; rfl
  · refine ⟨_, (pss_one (ps_ret (pe_c (okNamesWith T) hr (by decide) rfl (pa_cons (pv 0) (pa_cons pe_str pa_nil))))), ?_⟩
    obtain ⟨t, v, rfl, ht, hd, hs, hq⟩ := h
    refine s_retLP (lp_namesWith (of := calOf) (ev_var rfl) ev_c ht hd hs (by first | exact .inl ⟨rfl, rfl⟩ | exact .inr ⟨rfl, rfl⟩)) fun p ys H1 hp e1 hx h1 => hq p ys H1 hp e1 hx ?_
    rw [← calls_leaves]; exact h1

omit T in
theorem scHasTick : FnScope ["term"] ["term"] (defScope sHasTick) := ⟨rfl, rfl, rfl, by decide +kernel, rfl, by decide +kernel, by decide +kernel⟩
theorem okHasTick : Cal P w K mg base 6 "has_tick" (spHasTick K) [] := by
  obtain ⟨fd, F⟩ := T.DHasTick
  refine cal_of T.g_has_tick F (F.bindsN fun _ _ _ _ _ _ us hl => match us, hl with | [_], _ => rfl) scHasTick (fun vs H Q E h => ?_) (fun cdv A outer s H vs Q E hr h => ?_)
  · obtain ⟨t, v, m, rfl, _⟩ := h; rfl
  · refine ⟨_, (pss_one (ps_ret (pe_cmpR (op_inD (hu65 hr)) (pe_tup (pa_cons pe_str pa_nil)) (pe_c (okLeaves T 3) hr (by decide) rfl (pa_cons (pv 0) pa_nil)) (by rfl)))), ?_⟩
    obtain ⟨t, v, many, rfl, ht, hf, hd, hs, hq⟩ := h
    refine s_retE (e_op ?_)
    refine eu_tup (ea_cons ev_c ea_nil) (show 1 ≤ 100000 by decide) H (Ex.refl _) _ fun c H1 hc e1 hc1 => ?_
    refine lp_leaves (ev_var rfl) (ht.mono e1) hd (by omega) H1 (Ex.refl _) _ fun p xs H2 hp e2 hx hpr => ?_
    refine ⟨.tuple [.str "tick"], (leavesT t).map dT, .tup (st_of (e2 _ _ hc1)) (.cons (.str _) .nil), .lst (sq_of hx) (dp_rowT hpr), by decide +kernel, ?_, ?_⟩
    · have h1 := lay_all fun u hu => (fm_leaves hf u hu).1
      have h2 := deep_all (n := 3) fun u hu => Nat.le_trans (fm_leaves hf u hu).2 hd
      show (PyData.canLayAll0 _ && decide (PyData.depth (.list ((leavesT t).map dT)) ≤ 64)) = true
      rw [h1, decide_eq_true (by simp only [PyData.depth]; omega)]; rfl
    · rw [List.any_map]
      have : ((fun z => PyData.eqv z (.tuple [.str "tick"])) ∘ dT) = tickOf := by funext u; exact tick_eqv u
      rw [this, tick_leaves]
      exact hq _ (e1.trans e2)

end
end SC
set_option Elab.async false
set_option linter.all false
set_option maxRecDepth 100000
set_option maxHeartbeats 1000000
/-! OV: readings for objects. -/
namespace SC
open PySem PySem.Spec PyProof.Rows L2 C8 Evl
theorem pg_tupK {X : Cx} {K : PySem.W.Frag} {es : List Expr} {k : Nat} {t : TGs} {n : Nat} {pos : Pos} (hK : X.K = K) (hc : X.calm = true) (h : PGs X es t)
    (hn : (assignEach es X.env).length = n := by rfl) (hst : (assignEach es X.env).findIdx? (·.1) = none := by rfl) : PG X (.Tuple es k pos) (gTup K n t) := by
  subst hK
  exact pg_tup hc h hn hst

/-- some value, of which Φ holds -/
def EvP (te : TE) (σ : L2.St) (H : Hp) (Φ : V → Hp → Prop) : Prop := ∀ H1, Ex H H1 → ∀ Q : VK, (∀ v H2, Ex H1 H2 → Φ v H2 → Q v H2) → te σ H1 Q
theorem EvP.mono {te : TE} {σ : L2.St} {H H' : Hp} {Φ : V → Hp → Prop} (e : Ex H H') (h : EvP te σ H Φ) : EvP te σ H' Φ := fun H1 e1 Q q => h H1 (e.trans e1) Q q
theorem EvP.imp {te : TE} {σ : L2.St} {H : Hp} {Φ Ψ : V → Hp → Prop} (h : EvP te σ H Φ) (k : ∀ v H2, Ex H H2 → Φ v H2 → Ψ v H2) : EvP te σ H Ψ := fun H1 e Q q => h H1 e Q fun v H2 a b => q v H2 a (k v H2 (e.trans a) b)
theorem Ev.p {te : TE} {σ : L2.St} {H : Hp} {v : V} (h : Ev te σ H v) : EvP te σ H fun x _ => x = v := fun H1 e Q q => h H1 e Q fun H2 a => q v H2 a rfl
theorem EvLP.mono {te : TE} {σ : L2.St} {H H' : Hp} {Φ : List V → Hp → Prop} (e : Ex H H') (h : EvLP te σ H Φ) : EvLP te σ H' Φ := fun H1 e1 Q q => h H1 (e.trans e1) Q q
theorem EvU.mono {te : TE} {σ : L2.St} {H H' : Hp} {xs : List V} (e : Ex H H') (h : EvU te σ H xs) : EvU te σ H' xs := fun H1 e1 Q q => h H1 (e.trans e1) Q q

theorem ExX.trans {D : Addr} {H H1 H2 : Hp} (a : ExX D H H1) (b : ExX D H1 H2) : ExX D H H2 := fun x o n h => b x o n (a x o n h)
theorem ExX.of {D : Addr} {H H1 : Hp} (e : Ex H H1) : ExX D H H1 := fun x o _ h => e x o h
theorem ExX.put {D : Addr} {H H1 : Hp} {o : HO} (e : ExX D H H1) : ExX D H (upd H1 D o) := fun a u n h => by rw [upd_ne n]; exact e a u n h
/-- what was not there is no loss -/
theorem ExX.ex {D : Addr} {H H0 H1 : Hp} (e : ExX D H0 H1) (e0 : Ex H H0) (h : H D = none) : Ex H H1 := fun a o ha => e a o (ne_of_none ha h) (e0 a o ha)
section
variable {K : PySem.W.Frag} {σ : L2.St} {H : Hp} {te ta tv : TE} {tar : TA} {D : Ends} {tz : TS}
theorem s_fld {f : Str} {a C dx : Addr} {fs : List (Str × V)} {y : V} (hv : Ev tv σ H y) (ha : Ev ta σ H (.ref a)) (hx : H a = some (.ins C dx fs)) (c : Cls K C) (n : NoAttr K C f) (hl : fs.length < 1000) (k : ∀ H1, ExX a H H1 → H1 a = some (.ins C dx (putF f y fs)) → D.nx σ H1) : sFld K ta tv f D σ H :=
  hv H (Ex.refl H) _ fun H1 e1 => ha H1 e1 _ fun H2 e2 => ⟨a, C, dx, fs, rfl, e2 _ _ (e1 _ _ hx), c, n, hl, k _ (ExX.put (ExX.of (e1.trans e2))) upd_same⟩
theorem q_fld {f : Str} {a C dx : Addr} {fs : List (Str × V)} {y : V} (hv : Ev tv σ H y) (ha : Ev ta σ H (.ref a)) (hx : H a = some (.ins C dx fs)) (c : Cls K C) (n : NoAttr K C f) (hl : fs.length < 1000) (k : ∀ H1, ExX a H H1 → H1 a = some (.ins C dx (putF f y fs)) → tz D σ H1) : tSeq (sFld K ta tv f) tz D σ H :=
  s_fld (D := { D with nx := tz D }) hv ha hx c n hl k
/-- the value new or told by Φ -/
theorem s_fldP {f : Str} {a C dx : Addr} {fs : List (Str × V)} {Φ : V → Hp → Prop} (hv : EvP tv σ H Φ) (ha : Ev ta σ H (.ref a)) (hx : H a = some (.ins C dx fs)) (c : Cls K C) (n : NoAttr K C f) (hl : fs.length < 1000) (k : ∀ y H0 H1, Ex H H0 → Φ y H0 → ExX a H0 H1 → H1 a = some (.ins C dx (putF f y fs)) → D.nx σ H1) : sFld K ta tv f D σ H :=
  hv H (Ex.refl H) _ fun y H1 e1 h1 => ha H1 e1 _ fun H2 e2 => ⟨a, C, dx, fs, rfl, e2 _ _ (e1 _ _ hx), c, n, hl, k y H1 _ e1 h1 (ExX.put (ExX.of e2)) upd_same⟩
theorem q_fldP {f : Str} {a C dx : Addr} {fs : List (Str × V)} {Φ : V → Hp → Prop} (hv : EvP tv σ H Φ) (ha : Ev ta σ H (.ref a)) (hx : H a = some (.ins C dx fs)) (c : Cls K C) (n : NoAttr K C f) (hl : fs.length < 1000) (k : ∀ y H0 H1, Ex H H0 → Φ y H0 → ExX a H0 H1 → H1 a = some (.ins C dx (putF f y fs)) → tz D σ H1) : tSeq (sFld K ta tv f) tz D σ H :=
  s_fldP (D := { D with nx := tz D }) hv ha hx c n hl k
/-- C(..) -/
theorem ep_make {C : Addr} {sp : Sp} {dvs vs : List V} {E : XK} {Ψ : Addr → Addr → Hp → Prop} (h : EvA tar σ H vs)
    (k : ∀ x dx H1, ExX x H H1 → H1 x = some (.ins C dx []) → H1 dx = some (.own x) → H x = none → ∀ Q : VK, (∀ H3, ExX x H1 H3 → Ψ x dx H3 → Q .non H3) → sp (.ref x :: (vs ++ dvs)) H1 Q E) :
    EvP (tMake C sp dvs E tar) σ H (fun v H3 => ∃ x dx, v = .ref x ∧ H3 dx = some (.own x) ∧ Ψ x dx H3) := fun H1 e Q q => h H1 e _ fun H2 e2 x dx hx hdx ne => by
  have e0 : Ex H2 (upd (upd H2 dx (.own x)) x (.ins C dx [])) := Ex.mut (Ex.new hdx) hx
  have hd : upd (upd H2 dx (.own x)) x (.ins C dx []) dx = some (.own x) := by rw [upd_ne ne, upd_same]
  refine k x dx _ (ExX.of ((e.trans e2).trans e0)) upd_same hd (fresh_back (e.trans e2) hx) _ fun H3 x3 h3 => ⟨rfl, q _ H3 (fun a o ha => ?_) ⟨x, dx, rfl, x3 _ _ ne hd, h3⟩⟩
  have ha2 := e2 a o ha
  exact x3 a o (ne_of_none ha2 hx) (e0 a o ha2)
theorem ev_isiC {C a dx : Addr} {fs : List (Str × V)} (c : InsC K C) (h : Ev te σ H (.ref a)) (ha : H a = some (.ins C dx fs)) : Ev (tCB (rIsi K) (tCons te (tCons (tC (.ref C)) tNil))) σ H (.bl true) := fun H1 e Q q =>
  h H1 e _ fun H2 e2 => ⟨.ref a, .ref C, .ref C, .ref C, true, rfl, .own C, .base (.ins ((e.trans e2) _ _ ha) c.cl c.ha c.hn c.htk c.hm), c.me, q H2 e2⟩
theorem e_cons {tr : TA} {Q : List V → Hp → Prop} (h : te σ H fun v H1 => tr σ H1 fun vs H2 => Q (v :: vs) H2) : tCons te tr σ H Q := h
theorem e_lst {Q : VK} (h : tar σ H fun vs H1 => vs.length ≤ sizeLine ∧ ∀ d, H1 d = none → Q (.ref d) (upd H1 d (.lst vs))) : tLst tar σ H Q := h
theorem cutV_0 (xs : List V) : cutV xs none (some 0) = [] := by
  unfold cutV
  have : HT.sIx xs.length xs.length (some 0) = 0 := by simp [HT.sIx]
  rw [this, Nat.zero_sub, List.take_zero]
theorem ev_isiR {C : Addr} {x : V} {t : Value} {b : Bool} (h : Ev te σ H x) (ty : ∀ H1, Ex H H1 → TyX K H1 x t) (hk : PySem.W.kitOne K t (.ref C) = some b) : Ev (tCB (rIsi K) (tCons te (tCons (tC (.ref C)) tNil))) σ H (.bl b) := fun H1 e Q q =>
  h H1 e _ fun H2 e2 => ⟨x, .ref C, t, .ref C, b, rfl, .own C, ty H2 (e.trans e2), hk, q H2 e2⟩
theorem e_ifN {t : TT} {tb : TE} {Q : VK} (h : EvT t σ H false) (k : ∀ H1, Ex H H1 → tb σ H1 Q) : tIf t ta tb σ H Q := h H (Ex.refl H) _ fun H1 e => by
  show if false = true then ta σ H1 Q else tb σ H1 Q
  rw [if_neg Bool.false_ne_true]
  exact k H1 e
theorem e_ifY {t : TT} {tb : TE} {Q : VK} (h : EvT t σ H true) (k : ∀ H1, Ex H H1 → ta σ H1 Q) : tIf t ta tb σ H Q := h H (Ex.refl H) _ fun H1 e => by
  show if true = true then ta σ H1 Q else tb σ H1 Q
  rw [if_pos rfl]
  exact k H1 e
theorem ev_isiLT {x : V} {t : Value} (h : Ev te σ H x) (ty : ∀ H1, Ex H H1 → TyX K H1 x t) (hk : PySem.W.kitAny K t [.type "list", .type "tuple"] = some true) : Ev (tCB (rIsiT K) (tCons te (tCons (tTup (tCons (tC (.ty "list")) (tCons (tC (.ty "tuple")) tNil))) tNil))) σ H (.bl true) := fun H1 e Q q =>
  h H1 e _ fun H2 e2 => eu_tup (ea_cons ev_c (ea_cons ev_c ea_nil)) (show 2 ≤ 100000 by decide) H2 (Ex.refl H2) _ fun p H3 hp e3 h3 => ⟨x, p, _, t, _, true, rfl, h3, .cons (.ty "list") (.cons (.ty "tuple") .nil), ty H3 ((e.trans e2).trans e3), hk, q H3 (e2.trans e3)⟩
theorem kit_lt_tup : PySem.W.kitAny K (.type "tuple") [.type "list", .type "tuple"] = some true := kitAny_cons (kit_ty (b := "list") (r := false) (by decide +kernel)) (fun _ => kitAny_cons (kit_ty (b := "tuple") (r := true) (by decide +kernel)) (fun z => by cases z) fun _ => rfl) fun z => by cases z
theorem kit_lt_lst : PySem.W.kitAny K (.type "list") [.type "list", .type "tuple"] = some true := kitAny_cons (kit_ty (b := "list") (r := true) (by decide +kernel)) (fun z => by cases z) fun _ => rfl
/-- [e for i, x in enumerate(xs)] -/
theorem el_enum {a : Addr} {xs : List V} {i0 j0 : Nat} {vs : List Nat} (h : EvA tar σ H [.ref a]) (hx : SqL K H a xs) (φ : Nat → V → V) (hz : xs.length ≤ 40000) (hw : ∀ x y, wipe (((wipe σ vs).set i0 (some x)).set j0 (some y)) vs = wipe σ vs)
    (he : ∀ i x, xs[i]? = some x → Ev te (((wipe σ vs).set i0 (some (.int (i : Nat)))).set j0 (some x)) H (φ i x)) :
    EvL (tLc (iEnum K tar) (gTup K 2 (gCons (gName i0) (gCons (gName j0) gNil))) tYes te vs) σ H (xs.mapIdx φ) := fun H0 e0 Q q => h H0 e0 _ fun H1 e1 => ⟨a, xs, rfl, ex_l (e0.trans e1) hx, fun D hD => by
  have hx1 := ex_l (e0.trans e1) hx
  refine lc_it (walk_enum (K := K) (a := a) (xs := xs)) (fun i H' => H' D = some (.lst ((xs.take i).mapIdx φ)) ∧ Ex H1 H') ⟨upd_same, Ex.new hD⟩ (fun i H' _ ⟨_, e⟩ => ex_l e hx1) ?_ ?_
  · rintro i x H' H'' hlt ⟨hd, e⟩ ⟨T, x1, y1, rfl, hT, rfl, h1, h2⟩
    cases h1
    have h2 : xs[i]? = some y1 := h2
    have e2 : Ex H' (upd H' T (.tup [.int (i : Nat), y1])) := Ex.new hT
    refine ⟨T, _, rfl, st_of upd_same, rfl, _, _, rfl, ?_⟩
    refine ⟨_, _, rfl, ?_⟩
    refine ⟨rfl, hw _ _, ?_⟩
    show te (((wipe σ vs).set i0 (some (.int (i : Nat)))).set j0 (some y1)) _ _
    refine he i y1 h2 _ (((e0.trans e1).trans e).trans e2) _ fun H4 e4 => ⟨_, e4 _ _ (e2 _ _ hd), sz_lt (by rw [List.length_mapIdx, List.length_take]; omega), ?_, Ex.mut ((e.trans e2).trans e4) hD⟩
    rw [upd_same, List.take_add_one, h2]
    have hlen : (xs.take i).length = i := by rw [List.length_take]; omega
    rw [List.mapIdx_append, hlen]
    simp
  · rintro H' ⟨hd, e⟩
    rw [List.take_length] at hd
    exact q D H' (fresh_back e1 hD) (e1.trans e) hd⟩
end
end SC
set_option Elab.async false
set_option linter.all false
set_option maxRecDepth 100000
set_option maxHeartbeats 1000000
/-! W3a: cells, labels. -/
namespace SC
open PySem PySem.Spec PyProof.Rows L2 C8 Evl


def spCellInit (K : PySem.W.Frag) : Sp := fun vs H Q _ => ∃ x dx n k, vs = [.ref x, .str n, .str k] ∧ H x = some (.ins (He.ga K "Cell") dx []) ∧ IsNm n ∧ k ∈ kindsL ∧ ∀ H2, ExX x H H2 → H2 x = some (.ins (He.ga K "Cell") dx [("name", .str n), ("kind", .str k)]) → Q .non H2
def spIsLabelName (K : PySem.W.Frag) : Sp := fun vs H Q _ => ∃ l, vs = [.str l] ∧ l ∈ labelsL ∧ RetV (.bl true) H Q
theorem spv_isLabelName {K : PySem.W.Frag} {H : Hp} {l : Str} (h : l ∈ labelsL) : SpV (spIsLabelName K) [.str l] H (.bl true) := fun H1 e Q q E => ⟨l, rfl, h, q⟩
def LabO (K : PySem.W.Frag) (l : Str) (x : Addr) (H : Hp) : Prop := ∃ dx hl, H x = some (.ins (He.ga K "Label") dx [("name", .str l), ("height", .int hl)])
def spLabelInit (K : PySem.W.Frag) : Sp := fun vs H Q _ => ∃ x dx l, vs = [.ref x, .str l] ∧ H x = some (.ins (He.ga K "Label") dx []) ∧ l ∈ labelsL ∧ ∀ H2, ExX x H H2 → LabO K l x H2 → Q .non H2
def spMadeLabel (K : PySem.W.Frag) : Sp := fun vs H Q _ => ∃ l, vs = [.str l] ∧ l ∈ labelsL ∧ ∀ x H2, Ex H H2 → LabO K l x H2 → Q (.ref x) H2
theorem ep_madeLabel {K : PySem.W.Frag} {σ : L2.St} {H : Hp} {te : TE} {l : Str} (h : Ev te σ H (.str l)) (hl : l ∈ labelsL) : EvP (tCall (spMadeLabel K) [] C8.E0 (tCons te tNil)) σ H (fun v H2 => ∃ x, v = .ref x ∧ LabO K l x H2) := fun H1 e Q q =>
  h H1 e _ fun H2 e2 => ⟨l, rfl, hl, fun x H3 e3 h3 => q _ H3 (e2.trans e3) ⟨x, rfl, h3⟩⟩
def idxL : List Str → Str → Nat
  | [], _ => 0
  | a :: r, l => if a = l then 0 else idxL r l + 1
theorem idxL_ok : ∀ {L : List Str} {l : Str}, l ∈ L → L[idxL L l]? = some l ∧ ∀ m, m < idxL L l → L[m]? ≠ some l
  | a :: r, l, h => by
    unfold idxL
    by_cases e : a = l
    · rw [if_pos e]
      exact ⟨by rw [e]; rfl, fun m hm => absurd hm (Nat.not_lt_zero m)⟩
    · rw [if_neg e]
      have hr : l ∈ r := by
        rcases List.mem_cons.mp h with z | z
        · exact absurd z.symm e
        · exact z
      have ih := idxL_ok hr
      refine ⟨by simpa using ih.1, fun m hm => ?_⟩
      cases m with
      | zero => simpa using e
      | succ m => simpa using ih.2 m (by omega)

section
variable {P : Program} {w : World} {K : PySem.W.Frag} {mg : Str → Option Value} {base : Heap} (T : Tx K mg)
include T

omit T in
theorem scCellInit : FnScope ["self", "name", "kind"] ["self", "name", "kind"] (defScope sCellInit) := ⟨rfl, rfl, rfl, by decide +kernel, rfl, by decide +kernel, by decide +kernel⟩
theorem okCellInit : Mak P w K mg base 2 "Cell" (He.ga K "Cell") (spCellInit K) [] := by
  obtain ⟨fd, F⟩ := T.DCellInit
  refine mak_of T.mk_Cell T.g_Cell F (F.bindsN fun _ _ _ _ _ _ us hl => match us, hl with | [_, _, _], _ => rfl) scCellInit (fun vs H Q E h => ?_) (fun cdv A outer s H vs Q E hr h => ?_)
  · obtain ⟨x, dx, n, k, rfl, _⟩ := h; rfl
  · refine ⟨_, (pss_cons (ps_if (pt_not (pt_val (pe_c (okIsName T) hr (by decide) rfl (pa_cons (pv 1) pa_nil)))) (pss_one ps_never) pss_nil) (pss_cons (ps_if (PW.pt (pw_or (pt_not (pt_val (pe_callB call_isi rfl T.f_isinstance (by decide +kernel) (pa_cons (pv 2) (pa_cons (pe_bltn (v := .ty "str") (u := .type "str") rfl T.f_str (by decide +kernel) rfl) pa_nil))))) (pw_or1 (pt_cmpR op_notIn_seq (pv 2) (pe_glob (v := .ref (He.ga K "KINDS")) rfl T.g_KINDS rfl) (by rfl))))) (pss_one ps_never) pss_nil) (pss_cons (ps_fld (pv 0) (pv 1) rfl) (pss_one (ps_fld (pv 0) (pv 2) rfl))))), ?_⟩
    obtain ⟨x, dx, n, k, rfl, hx, hn, hk, hq⟩ := h
    refine q_when (b := false) (et_not (a := true) (et_test (ev_call (ea_cons (ev_var rfl) ea_nil) (spv_isName hn)))) (fun z => by cases z) fun _ H1 e1 => ?_
    refine q_when (b := false) (et_is (et_or (et_not (a := true) (et_B (ev_isi true (ev_var rfl) ty_str (kit_ty (by decide +kernel))))) fun _ => et_test (ev_op (ev_var rfl) ev_c (rv_niT (T.tKINDS H1) rfl rfl))) ?_) (fun z => by cases z) fun _ H2 e2 => ?_
    · simp only [kindsL, List.mem_cons, List.mem_nil_iff, or_false] at hk
      rcases hk with rfl | rfl | rfl <;> decide +kernel
    refine q_fld (ev_var rfl) (ev_var rfl) (e2 _ _ (e1 _ _ hx)) T.cl_Cell T.n_Cell_name (by decide) fun H3 x3 h3 => ?_
    have h3 : H3 x = some (.ins (He.ga K "Cell") dx [("name", .str n)]) := h3
    refine s_fld (ev_var rfl) (ev_var rfl) h3 T.cl_Cell T.n_Cell_kind (show 1 < 1000 by decide) fun H4 x4 h4 => ?_
    exact hq H4 ((ExX.of (e1.trans e2)).trans (x3.trans x4)) h4

omit T in
theorem scIsLabelName : FnScope ["value"] ["value"] (defScope sIsLabelName) := ⟨rfl, rfl, rfl, by decide +kernel, rfl, by decide +kernel, by decide +kernel⟩
theorem okIsLabelName : Cal P w K mg base 1 "is_label_name" (spIsLabelName K) [] := by
  obtain ⟨fd, F⟩ := T.DIsLabelName
  refine cal_of T.g_is_label_name F (F.bindsN fun _ _ _ _ _ _ us hl => match us, hl with | [_], _ => rfl) scIsLabelName (fun vs H Q E h => ?_) (fun cdv A outer s H vs Q E hr h => ?_)
  · obtain ⟨l, rfl, _⟩ := h; rfl
  · refine ⟨_, (pss_one (ps_ret (pe_and (pe_callB call_isi rfl T.f_isinstance (by decide +kernel) (pa_cons (pv 0) (pa_cons (pe_bltn (v := .ty "str") (u := .type "str") rfl T.f_str (by decide +kernel) rfl) pa_nil))) (pe_one (pe_cmpR op_in_seq (pv 0) (pe_glob (v := .ref (He.ga K "LABELS")) rfl T.g_LABELS rfl) (by rfl)))))), ?_⟩
    obtain ⟨l, rfl, hl, hq⟩ := h
    refine s_ret (v := .bl true) (ev_is (ev_andV (ev_isi true (ev_var rfl) ty_str (kit_ty (by decide +kernel))) fun _ => ev_op (ev_var rfl) ev_c (rv_isT (T.tLABELS H) rfl rfl)) ?_) hq
    simp only [labelsL, List.mem_cons, List.mem_nil_iff, or_false] at hl
    rcases hl with rfl | rfl | rfl | rfl <;> decide +kernel

omit T in
theorem scLabelInit : FnScope ["self", "name"] ["self", "name"] (defScope sLabelInit) := ⟨rfl, rfl, rfl, by decide +kernel, rfl, by decide +kernel, by decide +kernel⟩
theorem okLabelInit : Mak P w K mg base 2 "Label" (He.ga K "Label") (spLabelInit K) [] := by
  obtain ⟨fd, F⟩ := T.DLabelInit
  refine mak_of T.mk_Label T.g_Label F (F.bindsN fun _ _ _ _ _ _ us hl => match us, hl with | [_, _], _ => rfl) scLabelInit (fun vs H Q E h => ?_) (fun cdv A outer s H vs Q E hr h => ?_)
  · obtain ⟨x, dx, l, rfl, _⟩ := h; rfl
  · refine ⟨_, (pss_cons (ps_if (pt_not (pt_val (pe_c (okIsLabelName T) hr (by decide) rfl (pa_cons (pv 1) pa_nil)))) (pss_one ps_never) pss_nil) (pss_cons (ps_fld (pv 0) (pv 1) rfl) (pss_one (ps_fld (pv 0) (pe_op op_sub (pe_op op_sub (pe_callB call_len rfl T.f_len (by decide +kernel) (pa_cons (pe_glob (v := .ref (He.ga K "LABELS")) rfl T.g_LABELS rfl) pa_nil)) pe_int) (pe_bm PySem.F.plainAttrs_tuple PySem.F.slot_tuple_index PySem.F.type_tuple_index mt_tup_index (pe_glob (v := .ref (He.ga K "LABELS")) rfl T.g_LABELS rfl) (pa_cons (pv 1) pa_nil))) rfl)))), ?_⟩
    obtain ⟨x, dx, l, rfl, hx, hl, hq⟩ := h
    refine q_when (b := false) (et_not (a := true) (et_test (ev_call (ea_cons (ev_var rfl) ea_nil) (spv_isLabelName hl)))) (fun z => by cases z) fun _ H1 e1 => ?_
    refine q_fld (ev_var rfl) (ev_var rfl) (e1 _ _ hx) T.cl_Label T.n_Label_name (by decide) fun H2 x2 h2 => ?_
    have h2 : H2 x = some (.ins (He.ga K "Label") dx [("name", .str l)]) := h2
    refine s_fld (y := .int ((4 : Nat) - 1 - ((idxL labelsL l : Nat) : Int))) (ev_op (ev_op (ev_lenT ev_c (T.tLABELS H2)) ev_c rv_I0) (fun H3 e3 Q q => ?_) rv_I0) (ev_var rfl) h2 T.cl_Label T.n_Label_height (show 1 < 1000 by decide) fun H4 x4 h4 => ?_
    · have ho := idxL_ok hl
      exact ⟨.inr (.inl ⟨rfl, T.nLABELS⟩), .str l, rfl, _, labelsL, l, _, rfl, rfl, T.tLABELS H3, ho.1, ho.2, q H3 (Ex.refl _)⟩
    · exact hq H4 ((ExX.of e1).trans (x2.trans x4)) ⟨dx, _, h4⟩

omit T in
theorem scMadeLabel : FnScope ["value"] ["value"] (defScope sMadeLabel) := ⟨rfl, rfl, rfl, by decide +kernel, rfl, by decide +kernel, by decide +kernel⟩
theorem okMadeLabel : Cal P w K mg base 4 "made_label" (spMadeLabel K) [] := by
  obtain ⟨fd, F⟩ := T.DMadeLabel
  refine cal_of T.g_made_label F (F.bindsN fun _ _ _ _ _ _ us hl => match us, hl with | [_], _ => rfl) scMadeLabel (fun vs H Q E h => ?_) (fun cdv A outer s H vs Q E hr h => ?_)
  · obtain ⟨l, rfl, _⟩ := h; rfl
  · refine ⟨_, (pss_one (ps_ret (pe_ifExp (pt_val (pe_callB call_isi rfl T.f_isinstance (by decide +kernel) (pa_cons (pv 0) (pa_cons (pe_glob (v := .ref (He.ga K "Label")) rfl T.g_Label rfl) pa_nil)))) (pv 0) (pe_mk (okLabelInit T) hr (by decide) rfl (pa_cons (pv 0) pa_nil))))), ?_⟩
    obtain ⟨l, rfl, hl, hq⟩ := h
    refine s_retE (e_ifN (et_B (ev_isiR (ev_var rfl) ty_str T.noLabel)) fun H1 e1 => ?_)
    refine ep_make (Ψ := fun x _ H3 => LabO K l x H3) (ea_cons (ev_var rfl) ea_nil) (fun x dx H1 x1 h1 hd hx Q hQ => ⟨x, dx, l, rfl, h1, hl, fun H2 x2 h2 => hQ H2 x2 h2⟩) H1 (Ex.refl H1) Q fun v H2 e2 hv => ?_
    obtain ⟨x, dx, rfl, _, h⟩ := hv
    exact hq x H2 (e1.trans e2) h

end
end SC
set_option Elab.async false
set_option linter.all false
set_option maxRecDepth 100000
set_option maxHeartbeats 1000000
/-! W3b: functions. -/
namespace SC
open PySem PySem.Spec PyProof.Rows L2 C8 Evl


/-- item 0, a text; item 1 -/
def h0 (H : Hp) (x : V) : Str := match x with
  | .ref p => (match H p with
    | some (.tup (.str c :: _)) => c
    | _ => ⟨#[]⟩)
  | _ => ⟨#[]⟩
def i1 (H : Hp) (x : V) : V := match x with
  | .ref p => (match H p with
    | some (.tup (_ :: y :: _)) => y
    | _ => .non)
  | _ => .non
theorem h0_ref {H : Hp} {p : Addr} {c : Str} {r : List V} (h : H p = some (.tup (.str c :: r))) : h0 H (.ref p) = c := by simp only [h0, h]
theorem i1_ref {H : Hp} {p : Addr} {x y : V} {r : List V} (h : H p = some (.tup (x :: y :: r))) : i1 H (.ref p) = y := by simp only [i1, h]
theorem h0_wr {H : Hp} {wr : List (Str × Tm)} {ws : List V} (h : Paired (WrL H) wr ws) : ws.map (h0 H) = wr.map (·.1) := by
  induction h with
  | nil => rfl
  | cons r t ih => obtain ⟨p, x, rfl, h1, _⟩ := r; rw [List.map_cons, List.map_cons, ih, h0_ref h1]
theorem i1_wr {H : Hp} {wr : List (Str × Tm)} {ws : List V} (h : Paired (WrL H) wr ws) : Paired (TmAt H) (wr.map (·.2)) (ws.map (i1 H)) := by
  induction h with
  | nil => exact .nil
  | cons r t ih => obtain ⟨p, x, rfl, h1, h2⟩ := r; rw [List.map_cons, List.map_cons, i1_ref h1]; exact .cons h2 ih
theorem map_const {α β : Type} {xs : List α} {c : β} {f : α → β} (h : ∀ x ∈ xs, f x = c) : xs.map f = xs.map fun _ => c := List.map_congr_left h
theorem all_true {α : Type} (xs : List α) : ((xs.map fun _ => true).all id) = true := by
  rw [List.all_eq_true]
  intro b hb
  obtain ⟨_, _, rfl⟩ := List.mem_map.mp hb
  rfl
/-- all of a list of true -/
theorem ev_allT {K : PySem.W.Frag} {σ : L2.St} {H : Hp} {te : TE} {xs : List V} (h : EvL te σ H (xs.map fun _ => V.bl true)) : Ev (tCB (rAll K) (tCons te tNil)) σ H (.bl true) := by
  have e : (xs.map fun _ => V.bl true) = (xs.map fun _ => true).map V.bl := by rw [List.map_map]; rfl
  rw [e] at h
  exact ev_is (ev_all h) (by rw [all_true])
structure WOk (many : Nat) (w : Str × Tm) : Prop where
  nm : IsNm w.1
  fm : FmOk many w.2
  dp : w.2.depth ≤ 3
  sz : w.2.size ≤ 13
def spAreWrites (K : PySem.W.Frag) : Sp := fun vs H Q _ => ∃ pw wr ws, vs = [.ref pw] ∧ H pw = some (.tup ws) ∧ Paired (WrL H) wr ws ∧ wr.length ≤ 1 ∧ (∀ w ∈ wr, IsNm w.1) ∧ RetV (.bl true) H Q
theorem spv_areWrites {K : PySem.W.Frag} {H : Hp} {pw : Addr} {wr : List (Str × Tm)} {ws : List V} (h : H pw = some (.tup ws)) (hp : Paired (WrL H) wr ws) (hl : wr.length ≤ 1) (hn : ∀ w ∈ wr, IsNm w.1) : SpV (spAreWrites K) [.ref pw] H (.bl true) := fun H1 e Q q E => ⟨pw, wr, ws, rfl, e _ _ h, Paired.mapP hp fun _ _ z => WrL.mono e z, hl, hn, q⟩
def FunO (K : PySem.W.Frag) (n l : Str) (many : Nat) (r : V) (pw : Addr) (c : Int) (x dx : Addr) (H : Hp) : Prop := ∃ pl dl hl, H x = some (.ins (He.ga K "Function") dx [("label", .ref pl), ("name", .str n), ("arguments", .int (many : Int)), ("result", r), ("writes", .ref pw), ("cost", .int c)]) ∧
  H pl = some (.ins (He.ga K "Label") dl [("name", .str l), ("height", .int hl)])
def spFunctionInit (K : PySem.W.Frag) : Sp := fun vs H Q _ => ∃ x dx n many r l pw c t wr ws, vs = [.ref x, .str n, .int ((many : Nat) : Int), r, .str l, .ref pw, .int c] ∧ H x = some (.ins (He.ga K "Function") dx []) ∧ IsNm n ∧ many ≤ 2 ∧ TmAt H t r ∧ FmOk many t ∧ t.depth ≤ 3 ∧ t.size ≤ 13 ∧ l ∈ labelsL ∧
  H pw = some (.tup ws) ∧ Paired (WrL H) wr ws ∧ wr.length ≤ 1 ∧ (∀ w ∈ wr, WOk many w) ∧ (0 ≤ c ∧ c ≤ 9) ∧ ∀ H2, ExX x H H2 → FunO K n l many r pw c x dx H2 → Q .non H2
theorem exxN {x : Addr} {H H' : Hp} {C dx : Addr} {fs : List (Str × V)} (h : H x = some (.ins C dx fs)) (e : ExX x H H') : ∀ {t : Tm} {v : V}, TmAt H t v → TmAt H' t v := by
  have key : ∀ {p : Addr} {xs : List V}, H p = some (.tup xs) → H' p = some (.tup xs) := fun {p xs} hp => e p _ (fun z => by rw [z, h] at hp; cases hp) hp
  have lf : ∀ {l : Lf} {v : V}, LfAt H l v → LfAt H' l v := fun {l v} h => by
    cases l with
    | val n => exact h
    | arg i => obtain ⟨p, h1, h2⟩ := h; exact ⟨p, h1, key h2⟩
    | cel c => obtain ⟨p, h1, h2⟩ := h; exact ⟨p, h1, key h2⟩
    | tick => obtain ⟨p, h1, h2⟩ := h; exact ⟨p, h1, key h2⟩
  intro t
  induction t with
  | lf l => intro v h; exact lf h
  | call f as => rintro v ⟨p, q, us, h1, h2, h3, h4⟩; exact ⟨p, q, us, h1, key h2, key h3, Paired.mapP h4 fun _ _ z => lf z⟩
  | op o a b iha ihb => rintro v ⟨p, x, y, h1, h2, h3, h4⟩; exact ⟨p, x, y, h1, key h2, iha h3, ihb h4⟩
  | ite c a b ihc iha ihb => rintro v ⟨p, z, x, y, h1, h2, h3, h4, h5⟩; exact ⟨p, z, x, y, h1, key h2, ihc h3, iha h4, ihb h5⟩
theorem exxW {x : Addr} {H H' : Hp} {C dx : Addr} {fs : List (Str × V)} (h : H x = some (.ins C dx fs)) (e : ExX x H H') {w : Str × Tm} {v : V} (hw : WrL H w v) : WrL H' w v := by
  obtain ⟨p, y, h1, h2, h3⟩ := hw
  exact ⟨p, y, h1, e p _ (fun z => by rw [z, h] at h2; cases h2) h2, exxN h e h3⟩
theorem rc_tupleT {K : PySem.W.Frag} {H : Hp} {p : Addr} {ys : List V} (h : SqT K H p ys) : RC (fun xs H Q => ∃ p ys, xs = [V.ref p] ∧ ((SqL K H p ys ∧ ∀ l, H l = none → Q (.ref l) (upd H l (.tup ys))) ∨ (SqT K H p ys ∧ Q (.ref p) H))) [.ref p] H (.ref p) := fun H1 e Q q => ⟨p, ys, rfl, .inr ⟨ex_t e h, q H1 (Ex.refl _)⟩⟩
def spFunctionParts (K : PySem.W.Frag) : Sp := fun vs H Q _ => ∃ g v, vs = [v] ∧ FunP K H g v ∧ g.wr.length ≤ 1 ∧ ∀ p xs H2, H p = none → Ex H H2 → H2 p = some (.lst xs) → Paired (TmAt H2) g.parts xs → Q (.ref p) H2
theorem lp_parts {K : PySem.W.Frag} {σ : L2.St} {H : Hp} {te : TE} {g : Fn} {v : V} (h : Ev te σ H v) (hg : FunP K H g v) (hl : g.wr.length ≤ 1) : EvLP (tMeth (He.ga K "Function") "parts" (spFunctionParts K) [] C8.E0 te tNil) σ H (fun xs H2 => Paired (TmAt H2) g.parts xs) := fun H1 e Q q =>
  h H1 e _ fun H2 e2 => by
    have hg2 := hg.mono (e.trans e2)
    obtain ⟨p, dx, pl, dl, hl', x, pw, ws, rfl, hp, _⟩ := id hg2
    exact ⟨p, dx, _, rfl, hp, rfl, g, _, rfl, hg2, hl, fun p xs H3 a1 a2 a3 a4 => q p xs H3 (fresh_back e2 a1) (e2.trans a2) a3 a4⟩

section
variable {P : Program} {w : World} {K : PySem.W.Frag} {mg : Str → Option Value} {base : Heap} (T : Tx K mg)
include T

omit T in
theorem scAreWrites : FnScope ["value", "row", "names", "at", "name"] ["value"] (defScope sAreWrites) := ⟨rfl, rfl, rfl, by decide +kernel, rfl, by decide +kernel, by decide +kernel⟩
theorem okAreWrites : Cal P w K mg base 2 "are_writes" (spAreWrites K) [] := by
  obtain ⟨fd, F⟩ := T.DAreWrites
  refine cal_of T.g_are_writes F (F.bindsN fun _ _ _ _ _ _ us hl => match us, hl with | [_], _ => rfl) scAreWrites (fun vs H Q E h => ?_) (fun cdv A outer s H vs Q E hr h => ?_)
  · obtain ⟨pw, wr, ws, rfl, _⟩ := h; rfl
  · refine ⟨_, (pss_cons (ps_if (PW.pt (pw_or (pt_not (pt_val (pe_callB call_isiT rfl T.f_isinstance (by decide +kernel) (pa_cons (pv 0) (pa_cons (pe_tup (pa_cons (pe_bltn (v := .ty "list") (u := .type "list") rfl T.f_list (by decide +kernel) rfl) (pa_cons (pe_bltn (v := .ty "tuple") (u := .type "tuple") rfl T.f_tuple (by decide +kernel) rfl) pa_nil))) pa_nil))))) (pw_or1 (pt_cmpR op_gt (pe_callB call_len rfl T.f_len (by decide +kernel) (pa_cons (pv 0) pa_nil)) (pe_gi T.i_MOST_WRITES) (nomark _))))) (pss_one (ps_ret pe_bl)) pss_nil) (pss_cons (ps_if (pt_not (pt_val (pe_callB (cr_all rfl) rfl T.f_all (by decide +kernel) (pa_cons (pe_lc  (own := [("row", 1)]) (by rfl) scAreWrites.nd (pi_tup (pv 0)) (blkOk_by (own := [("row", 1)]) (N := ["value", "row", "names", "at", "name"]) (sc := defScope sAreWrites) (by decide +kernel)) (fun _ _ _ _ _ => (pg_name (i := 1) scAreWrites.nd rfl (by first | exact Or.inl rfl | exact Or.inr rfl))) (fun _ _ _ _ _ => pts_nil) (fun _ _ _ _ _ => (pe_and (pe_callB (call_isiK (K := K) rfl) rfl T.f_isinstance (by decide +kernel) (pa_cons (pv 1) (pa_cons (pe_bltn (v := .ty "tuple") (u := .type "tuple") rfl T.f_tuple (by decide +kernel) rfl) pa_nil))) (pe_and (pe_cmpR op_eq (pe_callB (call_lenK (K := K) rfl) rfl T.f_len (by decide +kernel) (pa_cons (pv 1) pa_nil)) pe_int (nomark _)) (pe_one (pe_c (okIsName T) hr (by decide) rfl (pa_cons (pe_ix (ix_tupK (K := K) rfl) (pv 1) pe_int (fun _ _ => rfl)) pa_nil))))))) pa_nil)))) (pss_one (ps_ret pe_bl)) pss_nil) (pss_cons (ps_set (i := 2) scAreWrites.nd rfl (by first | exact Or.inl rfl | exact Or.inr rfl) (pe_lc  (own := [("row", 1)]) (by rfl) scAreWrites.nd (pi_tup (pv 0)) (blkOk_by (own := [("row", 1)]) (N := ["value", "row", "names", "at", "name"]) (sc := defScope sAreWrites) (by decide +kernel)) (fun _ _ _ _ _ => (pg_name (i := 1) scAreWrites.nd rfl (by first | exact Or.inl rfl | exact Or.inr rfl))) (fun _ _ _ _ _ => pts_nil) (fun _ _ _ _ _ => (pe_ix (ix_tupK (K := K) rfl) (pv 1) pe_int (fun _ _ => rfl))))) (pss_one (ps_ret (pe_callB (cr_all rfl) rfl T.f_all (by decide +kernel) (pa_cons (pe_lc  (own := [("at", 3), ("name", 4)]) (by rfl) scAreWrites.nd (pi_enum (by rfl) T.f_enumerate (pa_cons (pv 2) pa_nil)) (blkOk_by (own := [("at", 3), ("name", 4)]) (N := ["value", "row", "names", "at", "name"]) (sc := defScope sAreWrites) (by decide +kernel)) (fun _ _ _ _ _ => (pg_tupK (K := K) (n := 2) rfl (by rfl) (pgs_cons (pg_name (i := 3) scAreWrites.nd rfl (by first | exact Or.inl rfl | exact Or.inr rfl)) (pgs_cons (pg_name (i := 4) scAreWrites.nd rfl (by first | exact Or.inl rfl | exact Or.inr rfl)) pgs_nil)))) (fun _ _ _ _ _ => pts_nil) (fun _ _ _ _ _ => (pe_cmpR (op_notIn_seqK (K := K) rfl) (pv 4) (pe_slice (sl_listK (K := K) rfl) (pv 2) po_none (po_some (pv 3))) (by rfl)))) pa_nil))))))), ?_⟩
    obtain ⟨pw, wr, ws, rfl, hpw, hw, hl, hn, hq⟩ := h
    have hlen : ws.length ≤ 1 := by rw [← Paired.length hw]; exact hl
    refine q_when (b := false) (et_is (et_or (et_not (a := true) (et_B (ev_isiLT (ev_var rfl) (ty_tup hpw) kit_lt_tup))) fun _ => et_test (ev_op (ev_lenT (ev_var rfl) (st_of hpw)) ev_c rv_I0)) ?_) (fun z => by cases z) fun _ H1 e1 => ?_
    · show (false || decide ((ws.length : Int) > 3)) = false
      rw [decide_eq_false (by omega)]; rfl
    have hw1 : Paired (WrL H1) wr ws := Paired.mapP hw fun _ _ z => WrL.mono e1 z
    have hpw1 := e1 _ _ hpw
    refine q_when (b := false) (et_not (a := true) (et_B (ev_allT (el_map (vs := [1]) (j := 1) (evi_tup (ev_var rfl) (st_of hpw1)) (fun _ => .bl true) (by omega) (fun _ => rfl) fun x hx => ?_)))) (fun z => by cases z) fun _ H2 e2 => ?_
    · obtain ⟨i, hi⟩ := List.getElem?_of_mem hx
      obtain ⟨w, hwi, p, y, rfl, hp, _⟩ := Paired.getR hw1 hi
      refine ev_is (ev_andV (ev_isi true (ev_var rfl) (ty_tup hp) (kit_ty (by decide +kernel))) fun _ => ev_andV (ev_op (ev_lenT (ev_var rfl) (st_of hp)) ev_c (rv_eq rfl)) fun _ => ev_call (ea_cons (ev_op (ev_var rfl) ev_c (rv_ixT (st_of hp) at0)) ea_nil) (spv_isName (K := K) (hn w (List.mem_of_getElem? hwi)))) ?_
      rw [show ((([V.str w.1, y].length : Nat) : Int)) = 2 from rfl, decide_eq_true (rfl : V.int 2 = V.int 2)]; rfl
    have hw2 : Paired (WrL H2) wr ws := Paired.mapP hw1 fun _ _ z => WrL.mono e2 z
    have hpw2 := e2 _ _ hpw1
    refine q_asgL (el_map (vs := [1]) (j := 1) (evi_tup (ev_var rfl) (st_of hpw2)) (fun x => .str (h0 H2 x)) (by omega) (fun _ => rfl) fun x hx => ?_) fun q H3 hq3 e3 h3 => ?_
    · obtain ⟨i, hi⟩ := List.getElem?_of_mem hx
      obtain ⟨w, hwi, p, y, rfl, hp, _⟩ := Paired.getR hw2 hi
      exact ev_is (ev_op (ev_var rfl) ev_c (rv_ixT (st_of hp) at0)) (by rw [h0_ref hp])
    refine s_ret (v := .bl true) (ev_is (ev_all (bs := ((ws.map fun x => V.str (h0 H2 x)).mapIdx fun _ _ => true)) ?_) ?_) fun H4 e4 => hq H4 (((e1.trans e2).trans e3).trans e4)
    · have := el_enum (K := K) (σ := start ["value", "row", "names", "at", "name"] [.ref pw] |>.set 2 (some (.ref q))) (H := H3) (te := tOp (rIn K true) (tVar 4) (tSl (rSlL K) (tVar 2) tNoPart (tPart (tVar 3)))) (tar := tCons (tVar 2) tNil) (vs := [3, 4]) (i0 := 3) (j0 := 4) (ea_cons (ev_var rfl) ea_nil) (sq_of h3) (fun _ _ => .bl true) (by rw [List.length_map]; omega) (fun _ _ => rfl) fun i x hi => ?_
      · have e : ((ws.map fun x => V.str (h0 H2 x)).mapIdx fun _ _ => true).map V.bl = (ws.map fun x => V.str (h0 H2 x)).mapIdx fun _ _ => V.bl true := by
          apply List.ext_getElem?
          intro i
          simp only [List.getElem?_map, List.getElem?_mapIdx, Option.map_map]
          rfl
        rw [e]; exact this
      · have hi0 : i = 0 := by
          obtain ⟨h, _⟩ := List.getElem?_eq_some_iff.mp hi
          rw [List.length_map] at h
          omega
        subst hi0
        rw [List.getElem?_map] at hi
        obtain ⟨y, _, rfl⟩ := Option.map_eq_some_iff.mp hi
        refine ev_is (ev_opL (ev_var rfl) (el_sl (ev_var rfl) eo_none (eo_some (ev_var rfl)) (sq_of h3)) fun _ _ h _ => rv_niL (sq_of h) rfl ?_) ?_
        · show (cutV _ none (some 0)).all flatV = true
          rw [cutV_0]; rfl
        · show V.bl (!inV _ (cutV _ none (some 0))) = V.bl true
          rw [cutV_0]; rfl
    · simp

omit T in
theorem scFunctionInit : FnScope ["self", "name", "arguments", "result", "label", "writes", "cost", "row"] ["self", "name", "arguments", "result", "label", "writes", "cost"] (defScope sFunctionInit) := ⟨rfl, rfl, rfl, by decide +kernel, rfl, by decide +kernel, by decide +kernel⟩
theorem okFunctionInit : ∃ (f : Addr) (fd : FuncData) (ps : List Str) (g : List Value → List Value → List Value) (gV : List V → List V → List V), Mk K (He.ga K "Function") f ∧ FnOk P w K mg base C8.CX0 6 f fd ps (spFunctionInit K) ∧ KBn K fd ps (3 + 1) ["label", "writes", "cost"] g gV ∧ ∀ vs zs, gV vs zs = vs ++ zs := by
  obtain ⟨fd, F⟩ := T.DFunctionInit
  obtain ⟨mv, kb⟩ := F.kbinds0 4 ["label", "writes", "cost"] [] (ps := ["self", "name", "arguments", "result", "label", "writes", "cost"]) (fun us _ ws => us ++ ws) (by simp) (by simp) (fun r1 _ r3 => r1.append r3) (fun D doc pm an cdv ct us mv ws h1 h2 h3 => match us, ws, mv, h1, h3, h2 with | [_, _, _, _], [_, _, _], [], _, _, _ => rfl)
  refine ⟨_, fd, _, _, _, T.mk_Function, F.ok scFunctionInit (fun vs H Q E h => ?_) fun cdv A outer s H vs Q E hr h => ?_, kb, fun _ _ => rfl⟩
  · obtain ⟨x, dx, n, m, r, l, pw, c, t, wr, ws, rfl, _⟩ := h; rfl
  · suffices hh : ∃ t, PSs (cxOf C8.CX0 P w K mg base _ "Function.__init__" (defScope sFunctionInit) _ cdv A outer s H E).nox (defBody sFunctionInit) t ∧ t { nx := fun _ H' => Q .non H', rt := Q } (start _ vs) H by
      obtain ⟨t, p, q⟩ := hh
      exact ⟨t, p.nox, q⟩
    refine ⟨_, (pss_cons (ps_if (pt_not (pt_val (pe_c (okIsName T) hr (by decide) rfl (pa_cons (pv 1) pa_nil)))) (pss_one ps_never) pss_nil) (pss_cons (ps_if (pt_not (pt_val (pe_c (okIsBetween T) hr (by decide) rfl (pa_cons (pv 2) (pa_cons pe_int (pa_cons (pe_gi T.i_MOST_ARGUMENTS) pa_nil)))))) (pss_one ps_never) pss_nil) (pss_cons (ps_fld (pv 0) (pe_c (okMadeLabel T) hr (by decide) rfl (pa_cons (pv 4) pa_nil)) rfl) (pss_cons (ps_if (pt_not (pt_val (pe_c (okIsTerm T) hr (by decide) rfl (pa_cons (pv 3) (pa_cons (pv 2) pa_nil))))) (pss_one ps_never) pss_nil) (pss_cons (ps_if (pt_not (pt_val (pe_c (okAreWrites T) hr (by decide) rfl (pa_cons (pv 5) pa_nil)))) (pss_one ps_never) pss_nil) (pss_cons (ps_for PassesOwn.never rfl (pi_tup (pv 5)) (pg_name (i := 7) scFunctionInit.nd rfl (by first | exact Or.inl rfl | exact Or.inr rfl)) (pss_one (ps_if (pt_not (pt_val (pe_c (okIsTerm T) hr (by decide) rfl (pa_cons (pe_ix ix_tup (pv 7) pe_int (fun _ _ => rfl)) (pa_cons (pv 2) pa_nil))))) (pss_one ps_never) pss_nil))) (pss_cons (ps_if (pt_not (pt_val (pe_c (okIsBetween T) hr (by decide) rfl (pa_cons (pv 6) (pa_cons pe_int (pa_cons (pe_gi T.i_MOST_COST) pa_nil)))))) (pss_one ps_never) pss_nil) (pss_cons (ps_fld (pv 0) (pv 1) rfl) (pss_cons (ps_fld (pv 0) (pv 2) rfl) (pss_cons (ps_fld (pv 0) (pv 3) rfl) (pss_cons (ps_fld (pv 0) (pe_callTy call_tuple_of rfl T.f_tuple (by decide +kernel) (pa_cons (pv 5) pa_nil)) rfl) (pss_one (ps_fld (pv 0) (pv 6) rfl))))))))))))), ?_⟩
    obtain ⟨x, dx, n, m, r, l, pw, c, t, wr, ws, rfl, hx, hn, hm, ht, hf, hd, hs, hl, hpw, hwr, hwl, hwo, hc, hq⟩ := h
    refine q_when (b := false) (et_not (a := true) (et_B (ev_call (ea_cons (ev_var rfl) ea_nil) (spv_isName hn)))) (fun z => by cases z) fun _ H1 e1 => ?_
    refine q_when (b := false) (et_is (et_not (et_B (ev_call (ea_cons (ev_var rfl) (ea_cons ev_c (ea_cons ev_c ea_nil))) (spv_isBetween (.inl ⟨_, rfl, rfl⟩))))) ?_) (fun z => by cases z) fun _ H2 e2 => ?_
    · show (!(decide ((0 : Int) ≤ (m : Int)) && decide ((m : Int) ≤ 2))) = false
      rw [decide_eq_true (by omega), decide_eq_true (by omega)]; rfl
    have e12 := e1.trans e2
    refine q_fldP (ep_madeLabel (ev_var rfl) hl) (ev_var rfl) (e12 _ _ hx) T.cl_Function T.n_Function_label (show 0 < 1000 by decide) fun y H3 H4 e3 hy x4 h4 => ?_
    obtain ⟨pl, rfl, dl, hl', hpl⟩ := hy
    have hx3 := (e12.trans e3) _ _ hx
    have ne : pl ≠ x := fun z => by rw [z, hx3] at hpl; exact absurd (congrArg (fun o : Option HO => match o with | some (.ins _ _ fs) => fs.length | _ => 0) hpl) (by simp)
    have hpl4 := x4 _ _ ne hpl
    have X4 : ExX x H H4 := (ExX.of (e12.trans e3)).trans x4
    have ht4 : TmAt H4 t r := exxN hx X4 ht
    have hpw4 : H4 pw = some (.tup ws) := X4 _ _ (fun z => by rw [z, hx] at hpw; cases hpw) hpw
    have hwr4 : Paired (WrL H4) wr ws := Paired.mapP hwr fun _ _ z => exxW hx X4 z
    have h4 : H4 x = some (.ins (He.ga K "Function") dx [("label", .ref pl)]) := h4
    refine q_when (b := false) (et_not (a := true) (et_B (ev_call (ea_cons (ev_var rfl) (ea_cons (ev_var rfl) ea_nil)) (spv_isTerm ht4 hf hm hd hs)))) (fun z => by cases z) fun _ H5 e5 => ?_
    have hwr5 : Paired (WrL H5) wr ws := Paired.mapP hwr4 fun _ _ z => WrL.mono e5 z
    refine q_when (b := false) (et_not (a := true) (et_B (ev_call (ea_cons (ev_var rfl) ea_nil) (spv_areWrites (e5 _ _ hpw4) hwr5 hwl fun w hw => (hwo w hw).nm)))) (fun z => by cases z) fun _ H6 e6 => ?_
    have e46 := e5.trans e6
    refine q_forI (evi_tup (ev_var rfl) (st_of (e46 _ _ hpw4))) (fun i σ' H' => Ex H4 H' ∧ ∃ z, σ' = [some (.ref x), some (.str n), some (.int (m : Int)), some r, some (.str l), some (.ref pw), some (.int c), z]) (fun H7 e7 => ⟨e46.trans e7, none, rfl⟩) (fun i v σ' H' hv eH hP => ?_) (fun σ' H' eH hP => ?_)
    · obtain ⟨e4, z, rfl⟩ := hP
      obtain ⟨w, hwi, p, y, rfl, hp, hy⟩ := Paired.getR hwr4 hv
      have hwm := hwo w (List.mem_of_getElem? hwi)
      refine s_when (b := false) (et_not (a := true) (et_B (ev_call (ea_cons (ev_op (ev_var rfl) ev_c (rv_ixT (st_of (e4 _ _ hp)) at1)) (ea_cons (ev_var rfl) ea_nil)) (spv_isTerm (hy.mono e4) hwm.fm hm hwm.dp hwm.sz)))) (fun z => by cases z) fun _ H8 e8 => ⟨e8, e4.trans e8, _, rfl⟩
    · obtain ⟨e7, z, rfl⟩ := hP
      refine q_when (b := false) (et_is (et_not (et_B (ev_call (ea_cons (ev_var rfl) (ea_cons ev_c (ea_cons ev_c ea_nil))) (spv_isBetween (.inl ⟨_, rfl, rfl⟩))))) ?_) (fun z => by cases z) fun _ H8 e8 => ?_
      · show (!(decide ((0 : Int) ≤ c) && decide (c ≤ 99))) = false
        rw [decide_eq_true (by omega), decide_eq_true (by omega)]; rfl
      have e48 := e7.trans e8
      refine q_fld (ev_var rfl) (ev_var rfl) (e48 _ _ h4) T.cl_Function T.n_Function_name (show 1 < 1000 by decide) fun H9 x9 h9 => ?_
      have h9 : H9 x = some (.ins (He.ga K "Function") dx [("label", .ref pl), ("name", .str n)]) := h9
      refine q_fld (ev_var rfl) (ev_var rfl) h9 T.cl_Function T.n_Function_arguments (show 2 < 1000 by decide) fun H10 x10 h10 => ?_
      have h10 : H10 x = some (.ins (He.ga K "Function") dx [("label", .ref pl), ("name", .str n), ("arguments", .int (m : Int))]) := h10
      refine q_fld (ev_var rfl) (ev_var rfl) h10 T.cl_Function T.n_Function_result (show 3 < 1000 by decide) fun H11 x11 h11 => ?_
      have h11 : H11 x = some (.ins (He.ga K "Function") dx [("label", .ref pl), ("name", .str n), ("arguments", .int (m : Int)), ("result", r)]) := h11
      have X11 : ExX x H4 H11 := (ExX.of e48).trans ((x9.trans x10).trans x11)
      have hpw11 : H11 pw = some (.tup ws) := X11 _ _ (fun z => by rw [z, h4] at hpw4; cases hpw4) hpw4
      refine q_fld (ev_cb (ea_cons (ev_var rfl) ea_nil) (rc_tupleT (st_of hpw11))) (ev_var rfl) h11 T.cl_Function T.n_Function_writes (show 4 < 1000 by decide) fun H12 x12 h12 => ?_
      have h12 : H12 x = some (.ins (He.ga K "Function") dx [("label", .ref pl), ("name", .str n), ("arguments", .int (m : Int)), ("result", r), ("writes", .ref pw)]) := h12
      refine s_fld (ev_var rfl) (ev_var rfl) h12 T.cl_Function T.n_Function_cost (show 5 < 1000 by decide) fun H13 x13 h13 => ?_
      have h13 : H13 x = some (.ins (He.ga K "Function") dx [("label", .ref pl), ("name", .str n), ("arguments", .int (m : Int)), ("result", r), ("writes", .ref pw), ("cost", .int c)]) := h13
      have X13 : ExX x H4 H13 := X11.trans (x12.trans x13)
      exact hq H13 (X4.trans X13) ⟨pl, dl, hl', h13, X13 _ _ ne hpl4⟩

omit T in
theorem scFunctionParts : FnScope ["self", "row"] ["self"] (defScope sFunctionParts) := ⟨rfl, rfl, rfl, by decide +kernel, rfl, by decide +kernel, by decide +kernel⟩
theorem okFunctionParts : Met P w K mg base 1 (He.ga K "Function") "parts" (spFunctionParts K) [] := by
  obtain ⟨fd, F⟩ := T.DFunctionParts
  refine met_of T.cl_Function T.m_Function_parts F (F.bindsN fun _ _ _ _ _ _ us hl => match us, hl with | [_], _ => rfl) scFunctionParts (fun vs H Q E h => ?_) (fun cdv A outer s H vs Q E hr h => ?_)
  · obtain ⟨g, v, rfl, _⟩ := h; rfl
  · refine ⟨_, (pss_one (ps_ret (pe_lst (pa_cons (pe_fld (pv 0) rfl) (StX.pa_star (pe_lc  (own := [("row", 1)]) (by rfl) scFunctionParts.nd (pi_tup (pe_fld (pv 0) rfl)) (blkOk_by (own := [("row", 1)]) (N := ["self", "row"]) (sc := defScope sFunctionParts) (by decide +kernel)) (fun _ _ _ _ _ => (pg_name (i := 1) scFunctionParts.nd rfl (by first | exact Or.inl rfl | exact Or.inr rfl))) (fun _ _ _ _ _ => pts_nil) (fun _ _ _ _ _ => (pe_ix (ix_tupK (K := K) rfl) (pv 1) pe_int (fun _ _ => rfl)))) pa_nil))))), ?_⟩
    obtain ⟨g, v, rfl, hg, hl, hq⟩ := h
    obtain ⟨p, dx, pl, dl, hl', x, pw, ws, rfl, hp, _, hx, hpw, hw⟩ := hg
    have hlen : ws.length ≤ 1 := by rw [← Paired.length hw]; exact hl
    refine s_retE (e_lst (e_cons ?_))
    refine ev_fld (ev_var rfl) hp T.cl_Function T.n_Function_result rfl H (Ex.refl _) _ fun H1 e1 => ?_
    have hw1 : Paired (WrL H1) g.wr ws := Paired.mapP hw fun _ _ z => WrL.mono e1 z
    refine el_map (σ := start ["self", "row"] [.ref p]) (vs := [1]) (j := 1) (evi_tup (ev_fld (ev_var rfl) (e1 _ _ hp) T.cl_Function T.n_Function_writes rfl) (st_of (e1 _ _ hpw))) (i1 H1) (by omega) (fun _ => rfl) (fun x hx => ?_) H1 (Ex.refl _) _ fun q H2 hq2 e2 h2 => ?_
    · obtain ⟨i, hi⟩ := List.getElem?_of_mem hx
      obtain ⟨w, hwi, p, y, rfl, hp, _⟩ := Paired.getR hw1 hi
      exact ev_is (ev_op (ev_var rfl) ev_c (rv_ixT (st_of hp) at1)) (by rw [i1_ref hp])
    refine ⟨q, _, rfl, .inr (sq_of h2), ?_⟩
    refine ⟨?_, fun d hd => ?_⟩
    · rw [List.append_nil, List.length_cons, List.length_map]; exact sz_of (by omega)
    rw [List.append_nil]
    refine hq d _ _ (fresh_back (e1.trans e2) hd) ((e1.trans e2).trans (Ex.new hd)) upd_same (.cons (hx.mono ((e1.trans e2).trans (Ex.new hd))) (Paired.mapP (i1_wr hw1) fun _ _ z => z.mono (e2.trans (Ex.new hd))))

end
end SC
set_option Elab.async false
set_option linter.all false
set_option maxRecDepth 100000
set_option maxHeartbeats 1000000
/-! OV2: loops that change one thing; dicts. -/
namespace SC
open PySem PySem.Spec PyProof.Rows L2 C8 Evl

def EvIX (D : Addr) (wi : TI) (σ : L2.St) (H : Hp) (xs : List V) : Prop := ∀ H1, Ex H H1 → ∀ R : It → Hp → Prop, (∀ J H2 G, Ex H1 H2 → (∀ H', ExX D H2 H' → G H') → Walk J xs.length G (YAt xs) → R J H2) → wi σ H1 R
section
variable {K : PySem.W.Frag} {σ : L2.St} {H : Hp} {te : TE} {d : Addr}
theorem evix_list {a : Addr} {xs : List V} (h : Ev te σ H (.ref a)) (hx : H a = some (.lst xs)) (ne : a ≠ d) : EvIX d (iList K te) σ H xs := fun H1 e R q =>
  h H1 e _ fun H2 e2 => ⟨a, rfl, ⟨xs, sq_of ((e.trans e2) _ _ hx)⟩, q _ _ _ e2 (fun H' e' => sq_of (e' _ _ ne ((e.trans e2) _ _ hx))) walk_list⟩
theorem evix_tup {a : Addr} {xs : List V} (h : Ev te σ H (.ref a)) (hx : H a = some (.tup xs)) (ne : a ≠ d) : EvIX d (iTup K te) σ H xs := fun H1 e R q =>
  h H1 e _ fun H2 e2 => ⟨a, rfl, ⟨xs, st_of ((e.trans e2) _ _ hx)⟩, q _ _ _ e2 (fun H' e' => st_of (e' _ _ ne ((e.trans e2) _ _ hx))) walk_tup⟩
theorem evix_tupN {xs : List V} {o : HO} (h : EvU te σ H xs) (hd : H d = some o) : EvIX d (iTup K te) σ H xs := fun H1 e R q =>
  h H1 e _ fun p H2 hp e2 h2 => ⟨p, rfl, ⟨xs, st_of h2⟩, q _ _ _ e2 (fun H' e' => st_of (e' _ _ (fun z => by rw [z, e _ _ hd] at hp; cases hp) h2)) walk_tup⟩
theorem evix_rng {ta : TA} {n : Nat} (h : EvA ta σ H [.int n]) (hn : n < 2 ^ 62) : EvIX d (iRng1 ta) σ H ((List.range n).map fun i : Nat => V.int (i : Int)) := fun H1 e R q =>
  h H1 e _ fun H2 e2 => ⟨n, rfl, by omega, by exact_mod_cast hn, by
    rw [Int.toNat_natCast]
    refine q _ _ (fun _ => True) e2 (fun _ _ => True.intro) ?_
    have hl : ((List.range n).map fun i : Nat => V.int (i : Int)).length = n := by simp
    rw [hl]
    refine (walk_range (lo := 0) (n := n)).mono (fun _ h => h) fun i H x H' hi _ y => ?_
    obtain ⟨h1, h2⟩ := y
    exact ⟨h1, by rw [h2, List.getElem?_map, List.getElem?_range hi]; simp⟩⟩
end
section
variable {K : PySem.W.Frag} {wi : TI} {g : TG} {tu tz : TS} {σ : L2.St} {H : Hp} {xs : List V} {D : Ends} {d : Addr}
/-- a loop that changes d alone -/
theorem s_forX (hi : EvIX d wi σ H xs) (Pv : Nat → L2.St → Hp → Prop) (h0 : ∀ H1, Ex H H1 → Pv 0 σ H1)
    (hs : ∀ i x σ' H', xs[i]? = some x → ExX d H H' → Pv i σ' H' → g x σ' H' fun σ2 H2 => tu { D with nx := fun σ3 H3 => ExX d H' H3 ∧ Pv (i + 1) σ3 H3, ct := fun σ3 H3 => ExX d H' H3 ∧ Pv (i + 1) σ3 H3, bk := D.nx } σ2 H2) (hd : ∀ σ' H', ExX d H H' → Pv xs.length σ' H' → D.nx σ' H') : tFor wi g tu D σ H :=
  hi H (Ex.refl H) _ fun J H1 G e1 hG w => by
    refine ⟨fun i m σ' H' => m = xs.length - i ∧ i ≤ xs.length ∧ ExX d H1 H' ∧ Pv i σ' H', ⟨xs.length, rfl, Nat.zero_le _, fun _ _ _ z => z, h0 H1 e1⟩, ?_⟩
    rintro i m σ' H' ⟨rfl, hi', e, p⟩
    by_cases hlt : i < xs.length
    · refine .inr ⟨w.goes i H' hlt (hG H' e), fun σ3 H3 => ExX d H' H3 ∧ Pv (i + 1) σ3 H3, fun σ3 H3 h3 => ⟨_, (by omega : xs.length - (i + 1) < xs.length - i), rfl, hlt, e.trans h3.1, h3.2⟩, fun x H'' y => ?_⟩
      obtain ⟨rfl, hx'⟩ := yat_mem (w.yields i H' x H'' hlt (hG H' e) y)
      exact hs i x σ' H'' hx' ((ExX.of e1).trans e) p
    · have ei : i = xs.length := by omega
      subst ei
      exact .inl ⟨w.stops H' (hG H' e), hd σ' H' ((ExX.of e1).trans e) p⟩
theorem q_forX (hi : EvIX d wi σ H xs) (Pv : Nat → L2.St → Hp → Prop) (h0 : ∀ H1, Ex H H1 → Pv 0 σ H1)
    (hs : ∀ i x σ' H', xs[i]? = some x → ExX d H H' → Pv i σ' H' → g x σ' H' fun σ2 H2 => tu { D with nx := fun σ3 H3 => ExX d H' H3 ∧ Pv (i + 1) σ3 H3, ct := fun σ3 H3 => ExX d H' H3 ∧ Pv (i + 1) σ3 H3, bk := tz D } σ2 H2) (hd : ∀ σ' H', ExX d H H' → Pv xs.length σ' H' → tz D σ' H') : tSeq (tFor wi g tu) tz D σ H :=
  s_forX (D := { D with nx := tz D }) hi Pv h0 hs hd
/-- for i, x in enumerate(xs), d alone changed -/
theorem q_forEnumX {tar : TA} {a : Addr} {i0 j0 : Nat} (h : EvA tar σ H [.ref a]) (hx : H a = some (.lst xs)) (ne : a ≠ d) (Pv : Nat → L2.St → Hp → Prop) (h0 : ∀ H1, Ex H H1 → Pv 0 σ H1)
    (hs : ∀ i x σ' H' H'', xs[i]? = some x → ExX d H H' → Pv i σ' H' → Ex H' H'' → tu { D with nx := fun σ3 H3 => ExX d H' H3 ∧ Pv (i + 1) σ3 H3, ct := fun σ3 H3 => ExX d H' H3 ∧ Pv (i + 1) σ3 H3, bk := tz D } ((σ'.set i0 (some (.int (i : Nat)))).set j0 (some x)) H'') (hd : ∀ σ' H', ExX d H H' → Pv xs.length σ' H' → tz D σ' H') :
    tSeq (tFor (iEnum K tar) (gTup K 2 (gCons (gName i0) (gCons (gName j0) gNil))) tu) tz D σ H := h H (Ex.refl H) _ fun H1 e1 => ⟨a, xs, rfl, sq_of (e1 _ _ hx), by
  have w := walk_enum (K := K) (a := a) (xs := xs)
  refine ⟨fun i m σ' H' => m = xs.length - i ∧ i ≤ xs.length ∧ ExX d H1 H' ∧ Pv i σ' H', ⟨xs.length, rfl, Nat.zero_le _, fun _ _ _ z => z, h0 H1 e1⟩, ?_⟩
  rintro i m σ' H' ⟨rfl, hi', e, p⟩
  have hG : SqL K H' a xs := sq_of (e _ _ ne (e1 _ _ hx))
  by_cases hlt : i < xs.length
  · refine .inr ⟨w.goes i H' hlt hG, fun σ3 H3 => ExX d H' H3 ∧ Pv (i + 1) σ3 H3, fun σ3 H3 h3 => ⟨_, (by omega : xs.length - (i + 1) < xs.length - i), rfl, hlt, e.trans h3.1, h3.2⟩, fun x H'' y => ?_⟩
    obtain ⟨T, x1, y1, rfl, hT, rfl, h1, h2⟩ := w.yields i H' x H'' hlt hG y
    cases h1
    have h2 : xs[i]? = some y1 := h2
    have e2 : Ex H' (upd H' T (.tup [.int (i : Nat), y1])) := Ex.new hT
    refine ⟨T, _, rfl, st_of upd_same, rfl, _, _, rfl, ?_⟩
    refine ⟨_, _, rfl, ?_⟩
    refine ⟨rfl, ?_⟩
    exact hs i y1 σ' H' _ h2 ((ExX.of e1).trans e) p e2
  · have ei : i = xs.length := by omega
    subst ei
    exact .inl ⟨w.stops H' hG, hd σ' H' ((ExX.of e1).trans e) p⟩⟩
end
/-! ### dicts -/
section
variable {K : PySem.W.Frag} {σ : L2.St} {H : Hp} {ta tb tv td : TE} {tz : TS} {D : Ends}
theorem q_asgDN {i : Nat} (k : ∀ p H1, H p = none → Ex H H1 → H1 p = some (.dK []) → tz D (σ.set i (some (.ref p))) H1) : tSeq (tAsg tDNewK (gName i)) tz D σ H := fun p hp => k p _ hp (Ex.new hp) upd_same
theorem s_dput {d : Addr} {kvs : List (Key × V)} {k : Str} {v : V} (hv : Ev tv σ H v) (ha : Ev ta σ H (.ref d)) (hb : Ev tb σ H (.str k)) (hd : H d = some (.dK kvs)) (hz : kvs.length < 100000) (kk : ∀ H1, ExX d H H1 → H1 d = some (.dK (putK kvs (Sum.inr k : Key) v)) → D.nx σ H1) : sDPut ta tb tv D σ H :=
  hv H (Ex.refl H) _ fun H1 e1 => ha H1 e1 _ fun H2 e2 => hb H2 (e1.trans e2) _ fun H3 e3 => ⟨d, _, rfl, DPut.k (k := Sum.inr k) (((e1.trans e2).trans e3) _ _ hd) (sz_lt hz), kk _ (ExX.put (ExX.of ((e1.trans e2).trans e3))) upd_same⟩
theorem q_dput {d : Addr} {kvs : List (Key × V)} {k : Str} {v : V} (hv : Ev tv σ H v) (ha : Ev ta σ H (.ref d)) (hb : Ev tb σ H (.str k)) (hd : H d = some (.dK kvs)) (hz : kvs.length < 100000) (kk : ∀ H1, ExX d H H1 → H1 d = some (.dK (putK kvs (Sum.inr k : Key) v)) → tz D σ H1) : tSeq (sDPut ta tb tv) tz D σ H :=
  s_dput (D := { D with nx := tz D }) hv ha hb hd hz kk
theorem ev_get1 {a : Addr} {kvs : List (Key × V)} {k : Str} (h : Ev ta σ H (.ref a)) (hk : Ev tb σ H (.str k)) (ha : H a = some (.dK kvs)) : Ev (tDGet1 ta tb) σ H ((valV kvs (Sum.inr k : Key)).getD .non) := fun H1 e Q q =>
  h H1 e _ fun H2 e2 => ⟨a, rfl, .inl ⟨kvs, .inl ((e.trans e2) _ _ ha)⟩, hk H2 (e.trans e2) _ fun H3 e3 => ⟨_, DGet.k (k := Sum.inr k) (((e.trans e2).trans e3) _ _ ha), q H3 (e2.trans e3)⟩⟩
/-- a new dict of names, of which Φ holds -/
def EvDP (te : TE) (σ : L2.St) (H : Hp) (Φ : List Str → Prop) : Prop := ∀ H1, Ex H H1 → ∀ Q : VK, (∀ p ms H2, H1 p = none → Ex H1 H2 → H2 p = some (.dK (trK ms)) → Φ ms → Q (.ref p) H2) → te σ H1 Q
/-- {x: True for x in names} -/
theorem ed_names {j : Nat} {vs : List Nat} {wi : TI} {tk : TE} {xs : List V} {ns : List Str} (hi : EvI wi σ H xs) (κ : V → Str) (hκ : xs.map κ = ns) (hz : xs.length ≤ 40000) (hw : ∀ x, wipe ((wipe σ vs).set j (some x)) vs = wipe σ vs) (hk : ∀ x ∈ xs, Ev tk ((wipe σ vs).set j (some x)) H (.str (κ x))) :
    EvDP (tDc wi (gName j) tYes tk (tC (.bl true)) vs) σ H (fun ms => ms = ns.foldl addU []) := fun H1 e Q q => by
  refine ed_fm hi (fun _ => true) κ (fun _ => .bl true) hz hw (fun _ _ => et_yes) (fun x hx _ => hk x hx) (fun _ _ _ => ev_c) H1 e Q fun p H2 hp e2 h2 => ?_
  rw [List.filter_eq_self.mpr (fun _ _ => rfl)] at h2
  have hT : xs.foldl (fun acc x => putK acc (Sum.inr (κ x)) (V.bl true)) [] = trK ((xs.map κ).foldl addU []) := tr_fold κ xs []
  rw [hT, hκ] at h2
  exact q p _ H2 hp e2 h2 rfl
/-- found.update(names) -/
theorem s_upd {i : Nat} {d : Addr} {ns : List Str} {Φ : List Str → Prop} (hv : σ[i]? = some (some (.ref d))) (hd : H d = some (.dK (trK ns))) (h : EvDP td σ H Φ) (hz : ∀ ms, Φ ms → ns.length + ms.length ≤ 1000) (k : ∀ ms H1, Φ ms → ExX d H H1 → H1 d = some (.dK (trK (ms.foldl addU ns))) → D.nx σ H1) : tDrop (tBM K "dict" rUpd (tVar i) (tCons td tNil)) D σ H :=
  ⟨_, hv, .inr (.inr (.inl ⟨rfl, .inl ⟨_, hd⟩⟩)), h H (Ex.refl H) _ fun p ms H1 hp e1 h1 hm => ⟨d, p, _, _, rfl, rfl, e1 _ _ hd, .inl h1, (fun z => by rw [z, hp] at hd; cases hd), by
    have := hz ms hm
    simp only [trK, List.length_map]
    exact this, by
    refine k ms _ hm (ExX.put (ExX.of e1)) ?_
    rw [upd_same, tr_merge]⟩⟩
theorem q_upd {i : Nat} {d : Addr} {ns : List Str} {Φ : List Str → Prop} (hv : σ[i]? = some (some (.ref d))) (hd : H d = some (.dK (trK ns))) (h : EvDP td σ H Φ) (hz : ∀ ms, Φ ms → ns.length + ms.length ≤ 1000) (k : ∀ ms H1, Φ ms → ExX d H H1 → H1 d = some (.dK (trK (ms.foldl addU ns))) → tz D σ H1) : tSeq (tDrop (tBM K "dict" rUpd (tVar i) (tCons td tNil))) tz D σ H :=
  s_upd (D := { D with nx := tz D }) hv hd h hz k
end
end SC
set_option Elab.async false
set_option linter.all false
set_option maxRecDepth 100000
set_option maxHeartbeats 1000000
/-! OV3: tuples and objects stand. -/
namespace SC
open PySem PySem.Spec PyProof.Rows L2 C8 Evl

def isFix : HO → Bool
  | .tup _ => true
  | .ins _ _ _ => true
  | .own _ => true
  | _ => false
/-- tuples and objects stand -/
def ExT (H H' : Hp) : Prop := ∀ a o, isFix o = true → H a = some o → H' a = some o
theorem ext {H H' : Hp} (e : Ex H H') : ExT H H' := fun a o _ h => e a o h
theorem ExT.trans {H H1 H2 : Hp} (a : ExT H H1) (b : ExT H1 H2) : ExT H H2 := fun x o n h => b x o n (a x o n h)
theorem ExT.refl (H : Hp) : ExT H H := fun _ _ _ h => h
theorem ExT.at {H H' : Hp} (e : ExT H H') {a : Addr} {o : HO} (h : H a = some o) (n : isFix o = true := by rfl) : H' a = some o := e a o n h
theorem ExX.t {d : Addr} {H H' : Hp} {u : HO} (e : ExX d H H') (hd : H d = some u) (n : isFix u = false := by rfl) : ExT H H' := fun a o no h => e a o (fun z => by rw [z, hd] at h; cases h; rw [n] at no; cases no) h
theorem LfAt.monoT {H H' : Hp} (e : ExT H H') {l : Lf} {v : V} (h : LfAt H l v) : LfAt H' l v := by
  cases l with
  | val n => exact h
  | arg i => obtain ⟨p, h1, h2⟩ := h; exact ⟨p, h1, e.at h2⟩
  | cel c => obtain ⟨p, h1, h2⟩ := h; exact ⟨p, h1, e.at h2⟩
  | tick => obtain ⟨p, h1, h2⟩ := h; exact ⟨p, h1, e.at h2⟩
theorem TmAt.monoT {H H' : Hp} (e : ExT H H') : ∀ {t : Tm} {v : V}, TmAt H t v → TmAt H' t v
  | .lf l, v, h => LfAt.monoT e h
  | .call f as, v, ⟨p, q, us, h1, h2, h3, h4⟩ => ⟨p, q, us, h1, e.at h2, e.at h3, Paired.mapP h4 fun _ _ z => LfAt.monoT e z⟩
  | .op o a b, v, ⟨p, x, y, h1, h2, h3, h4⟩ => ⟨p, x, y, h1, e.at h2, TmAt.monoT e h3, TmAt.monoT e h4⟩
  | .ite c a b, v, ⟨p, z, x, y, h1, h2, h3, h4, h5⟩ => ⟨p, z, x, y, h1, e.at h2, TmAt.monoT e h3, TmAt.monoT e h4, TmAt.monoT e h5⟩
section
variable {K : PySem.W.Frag} {H H' : Hp} (e : ExT H H')
include e
theorem CelL.monoT {c : Str × Str} {v : V} (h : CelL H c v) : CelL H' c v := let ⟨p, h1, h2⟩ := h; ⟨p, h1, e.at h2⟩
theorem WrL.monoT {c : Str × Tm} {v : V} (h : WrL H c v) : WrL H' c v := let ⟨p, x, h1, h2, h3⟩ := h; ⟨p, x, h1, e.at h2, h3.monoT e⟩
theorem CelP.monoT {c : Str × Str} {v : V} (h : CelP K H c v) : CelP K H' c v := let ⟨p, dx, h1, h2, h3⟩ := h; ⟨p, dx, h1, e.at h2, e.at h3⟩
theorem FunP.monoT {g : Fn} {v : V} (h : FunP K H g v) : FunP K H' g v :=
  let ⟨p, dx, pl, dl, hl, x, pw, ws, h1, h2, h3, h4, h5, h6⟩ := h; ⟨p, dx, pl, dl, hl, x, pw, ws, h1, e.at h2, e.at h3, h4.monoT e, e.at h5, Paired.mapP h6 fun _ _ z => WrL.monoT e z⟩
theorem BookP.monoT {b : Bk} {v : V} (h : BookP K H b v) : BookP K H' b v :=
  let ⟨p, dx, pc, pf, cs, fs, h1, h2, h3, h4, h5, h6⟩ := h; ⟨p, dx, pc, pf, cs, fs, h1, e.at h2, e.at h3, Paired.mapP h4 fun _ _ z => CelP.monoT e z, e.at h5, Paired.mapP h6 fun _ _ z => FunP.monoT e z⟩
end
/-! ### the book's tables, by name -/
def cKV (cells : List (Str × Str)) : List (Key × V) := cells.map fun c => KS c.1 (.str c.2)
theorem cKV_snoc {cells : List (Str × Str)} {c : Str × Str} (h : c.1 ∉ cells.map (·.1)) : putK (cKV cells) (Sum.inr c.1 : Key) (.str c.2) = cKV (cells ++ [c]) := by
  unfold putK
  have ha : ((cKV cells).any fun kv => decide (kv.1 = (Sum.inr c.1 : Key))) = false := by
    rw [List.any_eq_false]
    intro kv hk
    obtain ⟨m, hm, rfl⟩ := List.mem_map.mp hk
    intro z
    exact h (by rw [← Sum.inr.inj (of_decide_eq_true z)]; exact List.mem_map.mpr ⟨m, hm, rfl⟩)
  rw [if_neg (by rw [ha]; exact Bool.false_ne_true)]
  simp [cKV]
theorem cKV_val {cells : List (Str × Str)} {c : Str × Str} (hn : (cells.map (·.1)).Nodup) (h : c ∈ cells) : valV (cKV cells) (Sum.inr c.1 : Key) = some (.str c.2) := by
  induction cells with
  | nil => cases h
  | cons a r ih =>
    rw [List.map_cons, List.nodup_cons] at hn
    show valV (KS a.1 (.str a.2) :: cKV r) _ = _
    rcases List.mem_cons.mp h with e | h
    · subst e; rw [valV_pos rfl]
    · have ne : ¬ (KS a.1 (.str a.2)).1 = (Sum.inr c.1 : Key) := fun z => hn.1 (by rw [show a.1 = c.1 from Sum.inr.inj z]; exact List.mem_map.mpr ⟨c, h, rfl⟩)
      rw [valV_neg ne]
      exact ih hn.2 h
theorem cKV_in {cells : List (Str × Str)} {n : Str} : (valV (cKV cells) (Sum.inr n : Key)).isSome = decide (n ∈ cells.map (·.1)) := by
  induction cells with
  | nil => rfl
  | cons a r ih =>
    show (valV (KS a.1 (.str a.2) :: cKV r) _).isSome = _
    by_cases h : a.1 = n
    · rw [valV_pos (show (KS a.1 (.str a.2)).1 = (Sum.inr n : Key) by rw [h])]
      simp [h]
    · rw [valV_neg (fun z => h (Sum.inr.inj z)), ih]
      have : ¬ n = a.1 := fun z => h z.symm
      simp [this]
def fKV : List Fn → List V → List (Key × V)
  | g :: gs, v :: vs => KS g.name v :: fKV gs vs
  | _, _ => []
theorem fKV_len : ∀ (gs : List Fn) (vs : List V), (fKV gs vs).length ≤ gs.length
  | g :: gs, v :: vs => Nat.succ_le_succ (fKV_len gs vs)
  | [], _ => Nat.zero_le _
  | _ :: _, [] => Nat.zero_le _
theorem fKV_in {F : Fn → V → Prop} {gs : List Fn} {vs : List V} (h : Paired F gs vs) {n : Str} : (valV (fKV gs vs) (Sum.inr n : Key)).isSome = decide (n ∈ gs.map (·.name)) := by
  induction h with
  | nil => rfl
  | @cons g v gs vs r t ih =>
    show (valV (KS g.name v :: fKV gs vs) _).isSome = _
    by_cases h : g.name = n
    · rw [valV_pos (show (KS g.name v).1 = (Sum.inr n : Key) by rw [h])]
      simp [h]
    · rw [valV_neg (fun z => h (Sum.inr.inj z)), ih]
      have : ¬ n = g.name := fun z => h z.symm
      simp [this]
theorem fKV_val {F : Fn → V → Prop} {gs : List Fn} {vs : List V} (h : Paired F gs vs) (hn : (gs.map (·.name)).Nodup) {g : Fn} (hg : g ∈ gs) : ∃ v, valV (fKV gs vs) (Sum.inr g.name : Key) = some v ∧ F g v := by
  induction h with
  | nil => cases hg
  | @cons a v gs vs r t ih =>
    rw [List.map_cons, List.nodup_cons] at hn
    show ∃ u, valV (KS a.name v :: fKV gs vs) _ = some u ∧ _
    rcases List.mem_cons.mp hg with e | hg
    · subst e; exact ⟨v, valV_pos rfl, r⟩
    · have ne : ¬ (KS a.name v).1 = (Sum.inr g.name : Key) := fun z => hn.1 (by rw [show a.name = g.name from Sum.inr.inj z]; exact List.mem_map.mpr ⟨g, hg, rfl⟩)
      rw [valV_neg ne]
      exact ih hn.2 hg
theorem fKV_snoc {F : Fn → V → Prop} {gs : List Fn} {vs : List V} (h : Paired F gs vs) {g : Fn} {v : V} (hn : g.name ∉ gs.map (·.name)) : putK (fKV gs vs) (Sum.inr g.name : Key) v = fKV (gs ++ [g]) (vs ++ [v]) := by
  have ha : ((fKV gs vs).any fun kv => decide (kv.1 = (Sum.inr g.name : Key))) = false := by
    rw [valV_any, fKV_in h]
    exact decide_eq_false hn
  unfold putK
  rw [if_neg (by rw [ha]; exact Bool.false_ne_true)]
  clear ha hn
  induction h with
  | nil => rfl
  | cons r t ih => exact congrArg _ ih
/-! ### places -/
theorem GOk.fm {cells : List (Str × Str)} {ahead : List Fn} {g : Fn} (h : GOk cells ahead g) (hc : ∀ c ∈ cells, IsNm c.1) (hf : ∀ g ∈ ahead, IsNm g.name ∧ g.many ≤ 2) : FmOk g.many g.res ∧ ∀ w ∈ g.wr, WOk g.many w := by
  have hc' : ∀ c ∈ cells.map (·.1), IsNm c := fun c hm => by obtain ⟨d, hd, rfl⟩ := List.mem_map.mp hm; exact hc d hd
  refine ⟨fm_of hc' hf h.res, fun w hw => ?_⟩
  obtain ⟨h1, h2, h3, h4⟩ := h.wr w hw
  exact ⟨hc _ h1, fm_of hc' hf h2, by omega, by omega⟩
theorem parts_ok {cells : List (Str × Str)} {ahead : List Fn} {g : Fn} (h : GOk cells ahead g) : ∀ t ∈ g.parts, TmOk (cells.map (·.1)) ahead g.many t ∧ t.depth ≤ 3 ∧ t.size ≤ 13 := by
  intro t ht
  rcases List.mem_cons.mp ht with e | ht
  · subst e; exact ⟨h.res, h.rd, h.rs⟩
  · obtain ⟨w, hw, rfl⟩ := List.mem_map.mp ht
    obtain ⟨h1, h2, h3, h4⟩ := h.wr w hw
    exact ⟨h2, by omega, by omega⟩
theorem tm_leaves {cs : List Str} {ahead : List Fn} {many : Nat} : ∀ {t : Tm}, TmOk cs ahead many t → ∀ u ∈ leavesT t, TmOk cs ahead many u
  | .lf l, h, u, hu => by
    rw [leavesT, List.mem_singleton] at hu
    subst hu; exact h
  | .call f as, h, u, hu => by
    rcases List.mem_cons.mp hu with e | hu
    · subst e; exact h
    · obtain ⟨l, hl, e⟩ := List.mem_map.mp hu
      subst e; exact h.2 l hl
  | .op o a b, h, u, hu => by
    rcases List.mem_cons.mp hu with e | hu
    · subst e; exact h
    · rcases List.mem_append.mp hu with hu | hu
      · exact tm_leaves h.1 u hu
      · exact tm_leaves h.2 u hu
  | .ite c a b, h, u, hu => by
    rcases List.mem_cons.mp hu with e | hu
    · subst e; exact h
    · rcases List.mem_append.mp hu with hu | hu
      · exact tm_leaves h.1 u hu
      · rcases List.mem_append.mp hu with hu | hu
        · exact tm_leaves h.2.1 u hu
        · exact tm_leaves h.2.2 u hu
theorem cells_ok {cs : List Str} {ahead : List Fn} {many : Nat} {t : Tm} (h : TmOk cs ahead many t) : ∀ m ∈ cellsT t, m ∈ cs := by
  intro m hm
  rw [← cells_leaves] at hm
  obtain ⟨u, hu, hmu⟩ := List.mem_flatMap.mp hm
  have := tm_leaves h u hu
  cases u with
  | lf l =>
    cases l with
    | cel c =>
      have e : m = c := List.mem_singleton.mp hmu
      subst e; exact this
    | val n => cases hmu
    | arg n => cases hmu
    | tick => cases hmu
  | call f as => cases hmu
  | op o a b => cases hmu
  | ite c a b => cases hmu
end SC
namespace SC
open PySem PySem.Spec PyProof.Rows L2 C8 Evl
section
variable {K : PySem.W.Frag} {σ : L2.St} {H : Hp} {te ts : TE} {Φ : List V → Hp → Prop} {g : TG} {tt : TT} {tu tz : TS} {vs : List Nat} {D : Ends}
theorem tFor_lpq (h : EvLP te σ H Φ) (k : ∀ p xs H1, H p = none → Ex H H1 → H1 p = some (.lst xs) → Φ xs H1 → tSeq (tFor (iList K (tC (.ref p))) g tu) tz D σ H1) : tSeq (tFor (iList K te) g tu) tz D σ H := h H (Ex.refl H) _ k
theorem tLc_lpa {Q : VK} (h : EvLP te σ H Φ) (k : ∀ p xs H1, H p = none → Ex H H1 → H1 p = some (.lst xs) → Φ xs H1 → tLc (iList K (tC (.ref p))) g tt ts vs σ H1 Q) : tLc (iList K te) g tt ts vs σ H Q := h H (Ex.refl H) _ k
end
end SC
namespace SC
open PySem PySem.Spec PyProof.Rows L2 C8 Evl
/-- a cell's name and kind, off the heap -/
def cN (H : Hp) (x : V) : Str := match x with
  | .ref p => (match H p with
    | some (.ins _ _ ((_, .str c) :: _)) => c
    | _ => ⟨#[]⟩)
  | _ => ⟨#[]⟩
def cK (H : Hp) (x : V) : Str := match x with
  | .ref p => (match H p with
    | some (.ins _ _ (_ :: (_, .str c) :: _)) => c
    | _ => ⟨#[]⟩)
  | _ => ⟨#[]⟩
section
variable {K : PySem.W.Frag} {H H' : Hp}
theorem cN_is {c : Str × Str} {v : V} (h : CelP K H c v) : cN H v = c.1 := by obtain ⟨p, dx, rfl, h1, _⟩ := h; simp only [cN, h1]
theorem cK_is {c : Str × Str} {v : V} (h : CelP K H c v) : cK H v = c.2 := by obtain ⟨p, dx, rfl, h1, _⟩ := h; simp only [cK, h1]
theorem cN_row {cl : List (Str × Str)} {cs : List V} (h : Paired (CelP K H) cl cs) : cs.map (cN H) = cl.map (·.1) := by
  induction h with
  | nil => rfl
  | cons r t ih => rw [List.map_cons, List.map_cons, ih, cN_is r]
theorem cKV_foldl {cl : List (Str × Str)} {cs : List V} (h : Paired (CelP K H) cl cs) : ∀ done : List (Str × Str), ((done ++ cl).map (·.1)).Nodup → cs.foldl (fun acc x => putK acc (Sum.inr (cN H x) : Key) (.str (cK H x))) (cKV done) = cKV (done ++ cl) := by
  induction h with
  | nil => intro done _; simp
  | @cons c v cl cs r t ih =>
    intro done hn
    rw [List.foldl_cons, cN_is r, cK_is r, cKV_snoc, ih (done ++ [c]) (by simpa using hn)]
    · simp
    · intro hm
      rw [List.map_append, List.nodup_append] at hn
      exact hn.2.2 c.1 hm c.1 (by simp) rfl
theorem cKV_fold {cl : List (Str × Str)} {cs : List V} (h : Paired (CelP K H) cl cs) (hn : (cl.map (·.1)).Nodup) : cs.foldl (fun acc x => putK acc (Sum.inr (cN H x) : Key) (.str (cK H x))) [] = cKV cl := cKV_foldl h [] hn
/-- an object of another class, being made -/
theorem exxF {x C dx : Addr} (h : H x = some (.ins C dx [])) (e : ExX x H H') {g : Fn} {v : V} (hg : FunP K H g v) : FunP K H' g v := by
  obtain ⟨p, dx', pl, dl, hl, z, pw, ws, h1, h2, h3, h4, h5, h6⟩ := hg
  exact ⟨p, dx', pl, dl, hl, z, pw, ws, h1, e _ _ (fun z => by rw [z, h] at h2; cases h2) h2, e _ _ (fun z => by rw [z, h] at h3; cases h3) h3, exxN h e h4, e _ _ (fun z => by rw [z, h] at h5; cases h5) h5, Paired.mapP h6 fun _ _ z => exxW h e z⟩
theorem exxC {x C dx : Addr} (h : H x = some (.ins C dx [])) (e : ExX x H H') {c : Str × Str} {v : V} (hg : CelP K H c v) : CelP K H' c v := by
  obtain ⟨p, dx', h1, h2, h3⟩ := hg
  exact ⟨p, dx', h1, e _ _ (fun z => by rw [z, h] at h2; cases h2) h2, e _ _ (fun z => by rw [z, h] at h3; cases h3) h3⟩
end
end SC
namespace SC
open PySem PySem.Spec PyProof.Rows L2 C8 Evl
theorem fnIn_of {K : PySem.W.Frag} {x qual : Str} {params : Arguments} {body : List Stmt} {scope : Scope} {dvs : List V} {kws : List (Str × V)} {f : Addr} {fd : FuncData} (F : FunD K x qual params body scope dvs kws f fd) : PySem.W.fnIn K f = true := by
  obtain ⟨oc, od, dV, kV, doc, pm, an, cdv, ct, osl, _, lk, _⟩ := F.ex
  unfold PySem.W.fnIn
  rw [lk]
section
variable {K : PySem.W.Frag} {σ : L2.St} {H : Hp} {te td : TE}
theorem eu_revT {a : Addr} {xs : List V} (h : Ev te σ H (.ref a)) (hx : SqT K H a xs) : EvU (tRevT K te) σ H xs.reverse := fun H1 e Q q =>
  h H1 e _ fun H2 e2 => ⟨a, xs, rfl, ex_t (e.trans e2) hx, fun p hp => q p _ (fresh_back e2 hp) (e2.trans (Ex.new hp)) upd_same⟩
theorem el_listT {a : Addr} {xs : List V} (h : Ev te σ H (.ref a)) (hx : SqT K H a xs) : EvL (tCB (fun xs H Q => ∃ p ys, xs = [V.ref p] ∧ (SqL K H p ys ∨ SqT K H p ys) ∧ ∀ l, H l = none → Q (.ref l) (upd H l (.lst ys))) (tCons te tNil)) σ H xs := fun H1 e Q q =>
  h H1 e _ fun H2 e2 => ⟨a, xs, rfl, .inr (ex_t (e.trans e2) hx), fun p hp => q p _ (fresh_back e2 hp) (e2.trans (Ex.new hp)) upd_same⟩
theorem el_listL {a : Addr} {xs : List V} (h : Ev te σ H (.ref a)) (hx : SqL K H a xs) : EvL (tCB (fun xs H Q => ∃ p ys, xs = [V.ref p] ∧ (SqL K H p ys ∨ SqT K H p ys) ∧ ∀ l, H l = none → Q (.ref l) (upd H l (.lst ys))) (tCons te tNil)) σ H xs := fun H1 e Q q =>
  h H1 e _ fun H2 e2 => ⟨a, xs, rfl, .inl (ex_l (e.trans e2) hx), fun p hp => q p _ (fresh_back e2 hp) (e2.trans (Ex.new hp)) upd_same⟩
def strOf (x : V) : Str := match x with
  | .str s => s
  | _ => ⟨#[]⟩
/-- {k: v} -/
theorem ed_disp1 {tk tv : TE} {k : Str} {v : V} (hk : Ev tk σ H (.str k)) (hv : Ev tv σ H v) : EvD (tDisp [(tk, tv)]) σ H [(Sum.inr k, v)] := fun H1 e Q q p hp =>
  hk _ (e.trans (Ex.new hp)) _ fun H2 e2 => hv H2 ((e.trans (Ex.new hp)).trans e2) _ fun H3 e3 =>
    ⟨(e2.trans e3) _ _ upd_same, [(Sum.inr k, v)], rfl, (show 1 ≤ 15 by decide), q p _ hp (Ex.mut (((Ex.new hp).trans e2).trans e3) hp) upd_same⟩
/-- {x: True for x in names} -/
theorem ed_lpNames {ns : List Str} {j : Nat} {vs : List Nat} (h : EvLP te σ H (fun xs _ => NamesP ns xs)) (hw : ∀ x, wipe ((wipe σ vs).set j (some x)) vs = wipe σ vs) (hj : ∀ x : V, ((wipe σ vs).set j (some x))[j]? = some (some x)) :
    EvDP (tDc (iList K te) (gName j) tYes (tVar j) (tC (.bl true)) vs) σ H (fun ms => (∀ m, m ∈ ms ↔ m ∈ ns) ∧ ms.length ≤ 13) := fun H1 e Q q => tDc_lp (h.mono e) fun p xs H2 hp e2 hx hn => by
  obtain ⟨ys, rfl, h1, h2⟩ := hn
  refine ed_names (ns := ys) (evi_list (K := K) ev_c (sq_of hx)) strOf (by rw [List.map_map]; exact List.map_id _) (by rw [List.length_map]; omega) hw (fun x hx => ?_) H2 (Ex.refl _) Q fun q2 ms H3 hq2 e3 h3 hm => q q2 ms H3 (fresh_back e2 hq2) (e2.trans e3) h3 ?_
  · obtain ⟨s, _, rfl⟩ := List.mem_map.mp hx
    exact ev_var (hj _)
  · subst hm
    refine ⟨fun m => by rw [mem_foldU]; simp [h1], Nat.le_trans (len_foldU _ _) ?_⟩
    simpa using h2
end
end SC
namespace SC
open PySem PySem.Spec PyProof.Rows L2 C8 Evl
theorem q_asgP {te : TE} {σ : L2.St} {H : Hp} {Φ : V → Hp → Prop} {tz : TS} {D : Ends} {i : Nat} (h : EvP te σ H Φ) (k : ∀ v H1, Ex H H1 → Φ v H1 → tz D (σ.set i (some v)) H1) : tSeq (tAsg te (gName i)) tz D σ H := h H (Ex.refl H) _ k
end SC
set_option Elab.async false
set_option linter.all false
set_option maxRecDepth 100000
set_option maxHeartbeats 1000000
/-! W3c: books made. -/
namespace SC
open PySem PySem.Spec PyProof.Rows L2 C8 Evl


def CelV (K : PySem.W.Frag) (H : Hp) (c : Str × Str) (v : V) : Prop := CelP K H c v
/-- a new tuple of these, or these themselves -/
def spCheckedCells (K : PySem.W.Frag) : Sp := fun vs H Q _ => ∃ pl cl cs, vs = [.ref pl] ∧ H pl = some (.lst cs) ∧ Paired (CelP K H) cl cs ∧ (cl.map (·.1)).Nodup ∧ cl.length ≤ 3 ∧ ∀ p H2, Ex H H2 → H2 p = some (.tup cs) → Q (.ref p) H2
/-- isinstance and the name of a cell -/
theorem ev_cname {K : PySem.W.Frag} {mg : Str → Option Value} (T : Tx K mg) {σ : L2.St} {H : Hp} {te : TE} {c : Str × Str} {v : V} (h : Ev te σ H v) (hc : CelP K H c v) : Ev (tFld K te "name") σ H (.str c.1) := by
  obtain ⟨p, dx, rfl, h1, _⟩ := hc
  exact ev_fld h h1 T.cl_Cell T.n_Cell_name rfl
theorem ev_ckind {K : PySem.W.Frag} {mg : Str → Option Value} (T : Tx K mg) {σ : L2.St} {H : Hp} {te : TE} {c : Str × Str} {v : V} (h : Ev te σ H v) (hc : CelP K H c v) : Ev (tFld K te "kind") σ H (.str c.2) := by
  obtain ⟨p, dx, rfl, h1, _⟩ := hc
  exact ev_fld h h1 T.cl_Cell T.n_Cell_kind rfl
theorem ev_cisi {K : PySem.W.Frag} {mg : Str → Option Value} (T : Tx K mg) {σ : L2.St} {H : Hp} {te : TE} {c : Str × Str} {v : V} (h : Ev te σ H v) (hc : CelP K H c v) : Ev (tCB (rIsi K) (tCons te (tCons (tC (.ref (He.ga K "Cell"))) tNil))) σ H (.bl true) := by
  obtain ⟨p, dx, rfl, h1, _⟩ := hc
  exact ev_isiC T.insCell h h1
theorem ev_fname {K : PySem.W.Frag} {mg : Str → Option Value} (T : Tx K mg) {σ : L2.St} {H : Hp} {te : TE} {g : Fn} {v : V} (h : Ev te σ H v) (hg : FunP K H g v) : Ev (tFld K te "name") σ H (.str g.name) := by
  obtain ⟨p, dx, pl, dl, hl', x, pw, ws, rfl, hp, _⟩ := hg
  exact ev_fld h hp T.cl_Function T.n_Function_name rfl
theorem ev_fmany {K : PySem.W.Frag} {mg : Str → Option Value} (T : Tx K mg) {σ : L2.St} {H : Hp} {te : TE} {g : Fn} {v : V} (h : Ev te σ H v) (hg : FunP K H g v) : Ev (tFld K te "arguments") σ H (.int (g.many : Int)) := by
  obtain ⟨p, dx, pl, dl, hl', x, pw, ws, rfl, hp, _⟩ := hg
  exact ev_fld h hp T.cl_Function T.n_Function_arguments rfl
theorem ev_fisi {K : PySem.W.Frag} {mg : Str → Option Value} (T : Tx K mg) {σ : L2.St} {H : Hp} {te : TE} {g : Fn} {v : V} (h : Ev te σ H v) (hg : FunP K H g v) : Ev (tCB (rIsi K) (tCons te (tCons (tC (.ref (He.ga K "Function"))) tNil))) σ H (.bl true) := by
  obtain ⟨p, dx, pl, dl, hl', x, pw, ws, rfl, hp, _⟩ := hg
  exact ev_isiC T.insFunction h hp
def spFits (K : PySem.W.Frag) : Sp := fun vs H Q _ => ∃ g v pc pk cells ahead us, vs = [v, .ref pc, .ref pk] ∧ FunP K H g v ∧ H pc = some (.dK (cKV cells)) ∧ H pk = some (.dK (fKV ahead us)) ∧ Paired (FunP K H) ahead us ∧ GOk cells ahead g ∧ (cells.map (·.1)).Nodup ∧ (ahead.map (·.name)).Nodup ∧
  g.name ∉ cells.map (·.1) ∧ g.name ∉ ahead.map (·.name) ∧ RetV (.bl true) H Q
def spCheckedFunctions (K : PySem.W.Frag) : Sp := fun vs H Q _ => ∃ b pl fs pc cs, vs = [.ref pl, .ref pc] ∧ BOk b ∧ H pl = some (.lst fs) ∧ Paired (FunP K H) b.fns fs ∧ H pc = some (.tup cs) ∧ Paired (CelP K H) b.cells cs ∧ ∀ p H2, Ex H H2 → H2 p = some (.tup fs) → Q (.ref p) H2
def spBookInit (K : PySem.W.Frag) : Sp := fun vs H Q _ => ∃ b x dx pl cs pf fs, vs = [.ref x, .ref pl, .ref pf] ∧ H x = some (.ins (He.ga K "Book") dx []) ∧ BOk b ∧ H pl = some (.lst cs) ∧ Paired (CelP K H) b.cells cs ∧ H pf = some (.lst fs) ∧ Paired (FunP K H) b.fns fs ∧
  ∀ pc pr H2, ExX x H H2 → H2 x = some (.ins (He.ga K "Book") dx [("cell_row", .ref pc), ("row", .ref pr)]) → H2 pc = some (.tup cs) → H2 pr = some (.tup fs) → Q .non H2
/-- tuple(list) -/
theorem ep_tupleL {K : PySem.W.Frag} {σ : L2.St} {H : Hp} {te : TE} {p : Addr} {ys : List V} (h : Ev te σ H (.ref p)) (hp : SqL K H p ys) : EvU (tCB (fun xs H Q => ∃ p ys, xs = [V.ref p] ∧ ((SqL K H p ys ∧ ∀ l, H l = none → Q (.ref l) (upd H l (.tup ys))) ∨ (SqT K H p ys ∧ Q (.ref p) H))) (tCons te tNil)) σ H ys := fun H1 e Q q =>
  h H1 e _ fun H2 e2 => ⟨p, ys, rfl, .inl ⟨ex_l (e.trans e2) hp, fun l hl => q l _ (fresh_back e2 hl) (e2.trans (Ex.new hl)) upd_same⟩⟩
theorem nd_take {α : Type} {l : List α} {κ : α → Str} (hn : (l.map κ).Nodup) {i : Nat} {c : α} (h : l[i]? = some c) : κ c ∉ (l.take i).map κ := by
  intro hm
  obtain ⟨d, hd, e⟩ := List.mem_map.mp hm
  obtain ⟨j, hj⟩ := List.getElem?_of_mem hd
  rw [List.getElem?_take] at hj
  split at hj
  · rename_i hlt
    obtain ⟨h1, h1'⟩ := List.getElem?_eq_some_iff.mp hj
    obtain ⟨h2, h2'⟩ := List.getElem?_eq_some_iff.mp h
    have := List.getElem_inj (i := j) (j := i) (h₀ := by simpa using h1) (h₁ := by simpa using h2) hn
    rw [List.getElem_map, List.getElem_map, h1', h2'] at this
    exact absurd (this.mp e) (by omega)
  · cases hj

section
variable {P : Program} {w : World} {K : PySem.W.Frag} {mg : Str → Option Value} {base : Heap} (T : Tx K mg)
include T

omit T in
theorem scCheckedCells : FnScope ["cells", "known", "index", "cell"] ["cells"] (defScope sCheckedCells) := ⟨rfl, rfl, rfl, by decide +kernel, rfl, by decide +kernel, by decide +kernel⟩
theorem okCheckedCells : Cal P w K mg base 1 "checked_cells" (spCheckedCells K) [] := by
  obtain ⟨fd, F⟩ := T.DCheckedCells
  refine cal_of T.g_checked_cells F (F.bindsN fun _ _ _ _ _ _ us hl => match us, hl with | [_], _ => rfl) scCheckedCells (fun vs H Q E h => ?_) (fun cdv A outer s H vs Q E hr h => ?_)
  · obtain ⟨pl, cl, cs, rfl, _⟩ := h; rfl
  · refine ⟨_, (pss_cons (ps_if (pt_not (pt_val (pe_callB call_isiT rfl T.f_isinstance (by decide +kernel) (pa_cons (pv 0) (pa_cons (pe_tup (pa_cons (pe_bltn (v := .ty "list") (u := .type "list") rfl T.f_list (by decide +kernel) rfl) (pa_cons (pe_bltn (v := .ty "tuple") (u := .type "tuple") rfl T.f_tuple (by decide +kernel) rfl) pa_nil))) pa_nil))))) (pss_one ps_never) pss_nil) (pss_cons (ps_set (i := 1) scCheckedCells.nd rfl (by first | exact Or.inl rfl | exact Or.inr rfl) pe_dnewK) (pss_cons (ps_for PassesOwn.never rfl (pi_enum (by rfl) T.f_enumerate (pa_cons (pv 0) pa_nil)) (pg_tup (by rfl) (pgs_cons (pg_name (i := 2) scCheckedCells.nd rfl (by first | exact Or.inl rfl | exact Or.inr rfl)) (pgs_cons (pg_name (i := 3) scCheckedCells.nd rfl (by first | exact Or.inl rfl | exact Or.inr rfl)) pgs_nil))) (pss_cons (ps_if (PW.pt (pw_or (pt_not (pt_val (pe_callB call_isi rfl T.f_isinstance (by decide +kernel) (pa_cons (pv 3) (pa_cons (pe_glob (v := .ref (He.ga K "Cell")) rfl T.g_Cell rfl) pa_nil))))) (pw_or1 (pt_cmp (pc_din (hu_of hr) (pe_fld (pv 3) rfl) (pv 1)))))) (pss_one ps_never) pss_nil) (pss_one (ps_dput (hu_of hr) (pv 1) (pe_fld (pv 3) rfl) pe_bl rfl)))) (pss_cons (ps_if (pt_cmpR op_gt (pe_callB call_len rfl T.f_len (by decide +kernel) (pa_cons (pv 0) pa_nil)) (pe_gi T.i_MOST_CELLS) (nomark _)) (pss_one ps_never) pss_nil) (pss_one (ps_ret (pe_callTy call_tuple_of rfl T.f_tuple (by decide +kernel) (pa_cons (pv 0) pa_nil)))))))), ?_⟩
    obtain ⟨pl, cl, cs, rfl, hpl, hc, hnd, hl, hq⟩ := h
    have hlen : cs.length ≤ 3 := by rw [← Paired.length hc]; exact hl
    refine q_when (b := false) (et_not (a := true) (et_B (ev_isiLT (ev_var rfl) (ty_lst hpl) kit_lt_lst))) (fun z => by cases z) fun _ H1 e1 => ?_
    refine q_asgDN fun d H2 hd e2 hd2 => ?_
    have hpl2 := e2 _ _ (e1 _ _ hpl)
    have e12 := e1.trans e2
    have hc2 : Paired (CelP K H2) cl cs := Paired.mapP hc fun _ _ z => CelP.mono e12 z
    refine q_forEnumX (d := d) (i0 := 2) (j0 := 3) (ea_cons (ev_var rfl) ea_nil) hpl2 (fun z => by rw [z, hd2] at hpl2; cases hpl2) (fun i σ' H' => (∃ x2 x3, σ' = [some (.ref pl), some (.ref d), x2, x3]) ∧ H' d = some (.dK (trK ((cl.take i).map (·.1))))) (fun H3 e3 => ⟨⟨none, none, rfl⟩, e3 _ _ hd2⟩) (fun i x σ' H' H'' hx eX hP e' => ?_) (fun σ' H' eX hP => ?_)
    · obtain ⟨⟨x2, x3, rfl⟩, hdd⟩ := hP
      obtain ⟨c, hci, hcx⟩ := Paired.getR hc2 hx
      have hcx2 : CelP K H'' c x := (hcx.monoT (eX.t hd2)).mono e'
      refine q_when (b := false) (et_is (et_or (et_not (a := true) (et_B (ev_cisi T (ev_var rfl) hcx2))) fun _ => et_test (ev_din (ev_cname T (ev_var rfl) hcx2) (ev_var rfl) (e' _ _ hdd))) ?_) (fun z => by cases z) fun _ H3 e3 => ?_
      · rw [tr_val, decide_eq_false (nd_take hnd hci)]; rfl
      refine s_dput ev_c (ev_var rfl) (ev_cname T (ev_var rfl) (hcx2.mono e3)) (e3 _ _ (e' _ _ hdd)) (by rw [trK, List.length_map, List.length_map, List.length_take]; omega) fun H4 x4 h4 => ?_
      refine ⟨(ExX.of (e'.trans e3)).trans x4, ⟨_, _, rfl⟩, ?_⟩
      rw [h4, tr_put, List.take_add_one, hci, List.map_append]
      show some (HO.dK (trK (addU _ c.1))) = _
      rw [addU, if_neg (nd_take hnd hci)]
      rfl
    · obtain ⟨⟨x2, x3, rfl⟩, hdd⟩ := hP
      have hpl' : H' pl = some (.lst cs) := eX _ _ (fun z => by rw [z, hd2] at hpl2; cases hpl2) hpl2
      have eH : Ex H H' := ExX.ex eX e12 (fresh_back e1 hd)
      refine q_when (b := false) (et_is (et_test (ev_op (ev_len2 (ev_var rfl) (sq_of hpl')) ev_c rv_I0)) (decide_eq_false (by omega))) (fun z => by cases z) fun _ H3 e3 => ?_
      exact s_retU (ep_tupleL (ev_var rfl) (sq_of (e3 _ _ hpl'))) fun p H4 _ e4 h4 => hq p H4 ((eH.trans e3).trans e4) h4

omit T in
theorem scFits : FnScope ["function", "cells", "known", "row", "term", "name", "part"] ["function", "cells", "known"] (defScope sFits) := ⟨rfl, rfl, rfl, by decide +kernel, rfl, by decide +kernel, by decide +kernel⟩
theorem okFits : Cal P w K mg base 8 "fits" (spFits K) [] := by
  obtain ⟨fd, F⟩ := T.DFits
  refine cal_of T.g_fits F (F.bindsN fun _ _ _ _ _ _ us hl => match us, hl with | [_, _, _], _ => rfl) scFits (fun vs H Q E h => ?_) (fun cdv A outer s H vs Q E hr h => ?_)
  · obtain ⟨g, v, pc, pk, cells, ahead, us, rfl, _⟩ := h; rfl
  · refine ⟨_, (pss_cons (ps_if (PW.pt (pw_or (pt_cmp (pc_din (hu_of hr) (pe_fld (pv 0) rfl) (pv 1))) (pw_or1 (pt_cmp (pc_din (hu_of hr) (pe_fld (pv 0) rfl) (pv 2)))))) (pss_one (ps_ret pe_bl)) pss_nil) (pss_cons (ps_if (pt_val (pe_callB (cr_any rfl) rfl T.f_any (by decide +kernel) (pa_cons (pe_lc  (own := [("row", 3)]) (by rfl) scFits.nd (pi_tup (pe_fld (pv 0) rfl)) (blkOk_by (own := [("row", 3)]) (N := ["function", "cells", "known", "row", "term", "name", "part"]) (sc := defScope sFits) (by decide +kernel)) (fun _ _ _ _ _ => (pg_name (i := 3) scFits.nd rfl (by first | exact Or.inl rfl | exact Or.inr rfl))) (fun _ _ _ _ _ => pts_nil) (fun _ _ _ _ _ => (pe_cmpR op_ne (pe_dget1 (hu_of hr) (pv 1) (pe_ix (ix_tupK (K := K) rfl) (pv 3) pe_int (fun _ _ => rfl)) ⟨rfl, rfl, rfl, rfl⟩) pe_str (nomark _)))) pa_nil))) (pss_one (ps_ret pe_bl)) pss_nil) (pss_cons (ps_for PassesOwn.never rfl (pi_list (pe_mt0 (okFunctionParts T) hr (by decide) (pv 0))) (pg_name (i := 4) scFits.nd rfl (by first | exact Or.inl rfl | exact Or.inr rfl)) (pss_cons (ps_if (pt_val (pe_callB (cr_any rfl) rfl T.f_any (by decide +kernel) (pa_cons (pe_lc  (own := [("name", 5)]) (by rfl) scFits.nd (pi_list (pe_c (okCellsIn T) hr (by decide) rfl (pa_cons (pv 4) pa_nil))) (blkOk_by (own := [("name", 5)]) (N := ["function", "cells", "known", "row", "term", "name", "part"]) (sc := defScope sFits) (by decide +kernel)) (fun _ _ _ _ _ => (pg_name (i := 5) scFits.nd rfl (by first | exact Or.inl rfl | exact Or.inr rfl))) (fun _ _ _ _ _ => pts_nil) (fun _ _ _ _ _ => (pe_cmp (pc_dnotin (hu_of hr) (pv 5) (pv 1)) rfl))) pa_nil))) (pss_one (ps_ret pe_bl)) pss_nil) (pss_one (ps_for PassesOwn.never rfl (pi_list (pe_c (okLeaves T 3) hr (by decide) rfl (pa_cons (pv 4) pa_nil))) (pg_name (i := 6) scFits.nd rfl (by first | exact Or.inl rfl | exact Or.inr rfl)) (pss_one (ps_if (PW.pt (pw_and (pt_val (pe_callB call_isi rfl T.f_isinstance (by decide +kernel) (pa_cons (pv 6) (pa_cons (pe_bltn (v := .ty "tuple") (u := .type "tuple") rfl T.f_tuple (by decide +kernel) rfl) pa_nil)))) (pw_and1 (pt_cmpR op_eq (pe_ix ix_tup (pv 6) pe_int (fun _ _ => rfl)) pe_str (nomark _))))) (pss_one (ps_if (PW.pt (pw_or (pt_cmp (pc_dnotin (hu_of hr) (pe_ix ix_tup (pv 6) pe_int (fun _ _ => rfl)) (pv 2))) (pw_or1 (pt_cmpR op_ne (pe_fld (pe_dget (hu_of hr) (pv 2) (pe_ix ix_tup (pv 6) pe_int (fun _ _ => rfl)) (fun _ _ => rfl)) rfl) (pe_callB call_len rfl T.f_len (by decide +kernel) (pa_cons (pe_ix ix_tup (pv 6) pe_int (fun _ _ => rfl)) pa_nil)) (nomark _))))) (pss_one (ps_ret pe_bl)) pss_nil)) pss_nil)))))) (pss_one (ps_ret pe_bl))))), ?_⟩
    obtain ⟨g, v, pc, pk, cells, ahead, us, rfl, hg, hpc, hpk, hus, hok, hndc, hnda, hnc, hna, hq⟩ := h
    refine q_when (b := false) (et_is (et_or (et_test (ev_din (ev_fname T (ev_var rfl) hg) (ev_var rfl) hpc)) fun _ => et_test (ev_din (ev_fname T (ev_var rfl) hg) (ev_var rfl) hpk)) ?_) (fun z => by cases z) fun _ H1 e1 => ?_
    · rw [cKV_in, fKV_in hus, decide_eq_false hnc, decide_eq_false hna]; rfl
    have hg1 := hg.mono e1
    obtain ⟨p, dx, pl, dl, hl', x, pw, ws, rfl, hp, hpl, hx, hpw, hw⟩ := id hg1
    have hlen : ws.length ≤ 1 := by rw [← Paired.length hw]; exact hok.wl
    refine q_when (b := false) (et_B (ev_is (ev_any (bs := ws.map fun _ => false) ?_) ?_)) (fun z => by cases z) fun _ H2 e2 => ?_
    · rw [List.map_map]
      refine el_map (vs := [3]) (j := 3) (evi_tup (ev_fld (ev_var rfl) hp T.cl_Function T.n_Function_writes rfl) (st_of hpw)) (fun _ => .bl false) (by omega) (fun _ => rfl) fun y hy => ?_
      obtain ⟨i, hi⟩ := List.getElem?_of_mem hy
      obtain ⟨w, hwi, q, z, rfl, hqq, _⟩ := Paired.getR hw hi
      have hcw := (hok.wr w (List.mem_of_getElem? hwi)).1
      refine ev_is (ev_op (ev_get1 (ev_var rfl) (ev_op (ev_var rfl) ev_c (rv_ixT (st_of hqq) at0)) (e1 _ _ hpc)) ev_c (rv_ne ?_)) ?_
      · rw [cKV_val hndc hcw]; rfl
      · rw [cKV_val hndc hcw]
        show V.bl (!decide (V.str (Str.ofString "table") = V.str (Str.ofString "table"))) = _
        rw [decide_eq_true rfl]; rfl
    · simp
    have e12 := e1.trans e2
    refine tFor_lpq (lp_parts (ev_var rfl) (hg1.mono e2) hok.wl) fun pp xs H3 _ e3 hpp hxs => ?_
    have hxs : Paired (TmAt H3) g.parts xs := hxs
    refine q_forI (evi_list ev_c (sq_of hpp)) (fun i σ' H' => ∃ x3 x4 x5 x6, σ' = [some (.ref p), some (.ref pc), some (.ref pk), x3, x4, x5, x6]) (fun H4 e4 => ⟨none, none, none, none, rfl⟩) (fun i u σ' H' hu eH hP => ?_) (fun σ' H' eH hP => ?_)
    · obtain ⟨x3, x4, x5, x6, rfl⟩ := hP
      obtain ⟨t, hti, htu⟩ := Paired.getR hxs hu
      obtain ⟨tok, td, ts⟩ := parts_ok hok t (List.mem_of_getElem? hti)
      have e1' := (e12.trans e3).trans eH
      have htu' := htu.mono eH
      refine q_when (b := false) ?_ (fun z => by cases z) fun _ H4 e4 => ?_
      · refine et_B fun Ha ea Q q => e_cb (e_cons ?_)
        refine tLc_lpa (lp_cellsIn (ev_var rfl) (htu'.mono ea) td ts) fun r zs Hb _ eb hr hzs => ?_
        obtain ⟨ys, rfl, hys, hyl⟩ := hzs
        refine el_map (σ := [some (.ref p), some (.ref pc), some (.ref pk), x3, some u, x5, x6]) (vs := [5]) (j := 5) (evi_list (K := K) ev_c (sq_of hr)) (fun _ => .bl false) (by rw [List.length_map]; omega) (fun _ => rfl) (fun y hy => ?_) Hb (Ex.refl _) _ fun q2 Hc _ ec hq2 => ⟨q2, (ys.map fun _ => false), rfl, sq_of (by rw [hq2, List.map_map, List.map_map]; rfl), ?_⟩
        · obtain ⟨m, hm, rfl⟩ := List.mem_map.mp hy
          refine ev_is (ev_dnotin (ev_var rfl) (ev_var rfl) (((e1'.trans ea).trans eb) _ _ hpc)) ?_
          rw [cKV_in, decide_eq_true (cells_ok tok m ((hys m).mp hm))]; rfl
        · have : (ys.map fun _ => false).any id = false := by simp
          rw [this]
          exact q Hc (eb.trans ec)
      · refine tFor_lp (lp_leaves (ev_var rfl) (htu'.mono e4) td (by omega)) fun r zs H5 _ e5 hr hzs => ?_
        have hzs : Paired (TmAt H5) (leavesT t) zs := hzs
        refine s_forI (evi_list ev_c (sq_of hr)) (fun i σ' H' => ∃ x3 x4 x5 x6, σ' = [some (.ref p), some (.ref pc), some (.ref pk), x3, x4, x5, x6]) (fun H6 e6 => ⟨_, _, _, _, rfl⟩) (fun j y σ2 H6 hy e6 hP2 => ?_) (fun σ2 H6 e6 hP2 => ⟨(e4.trans e5).trans e6, hP2⟩)
        obtain ⟨x3, x4, x5, x6, rfl⟩ := hP2
        obtain ⟨t2, ht2, hty⟩ := Paired.getR hzs hy
        have hty := hty.mono e6
        have tok2 := tm_leaves tok t2 (List.mem_of_getElem? ht2)
        have e16 := ((e1'.trans e4).trans e5).trans e6
        refine s_when (b := decide (kindT t2 = some "call")) ?_ (fun hb H7 e7 => ?_) (fun _ H7 e7 => ⟨e7, _, _, _, _, rfl⟩)
        · rcases tm_shape hty with ⟨n, rfl, rfl⟩ | ⟨p, k, r, rfl, hk, hp'⟩
          · exact et_is (et_and (a := false) (b := false) (et_B (ev_isi false (ev_var rfl) ty_int (kit_ty (by decide +kernel)))) fun z => by cases z) rfl
          · refine et_is (et_and (et_B (ev_isi true (ev_var rfl) (ty_tup hp') (kit_ty (by decide +kernel)))) fun _ => et_test (ev_op (ev_op (ev_var rfl) ev_c (rv_ixT (st_of hp') at0)) ev_c (rv_eq rfl))) ?_
            rw [hk]; simp
        · have hb := of_decide_eq_true hb
          cases t2 with
          | call f as =>
            obtain ⟨p2, q2, us2, rfl, hp2, hq2, hu2⟩ := hty
            obtain ⟨⟨g2, hg2, e1f, e2f⟩, _⟩ := tok2
            subst e1f
            obtain ⟨vg, hvg, hFg⟩ := fKV_val hus hnda hg2
            have hpk7 := (e16.trans e7) _ _ hpk
            have hp7 := e7 _ _ hp2
            have hnm : Ev (tOp (rIxT K) (tVar 6) (tC (.int 1))) [some (.ref p), some (.ref pc), some (.ref pk), x3, some u, x5, some (.ref p2)] H7 (.str g2.name) := ev_op (ev_var rfl) ev_c (rv_ixT (st_of hp7) at1)
            refine s_when (b := false) (et_is (et_or (et_test (ev_dnotin hnm (ev_var rfl) hpk7)) fun _ => et_test (ev_op (ev_fmany T (ev_dget (ev_var rfl) hnm hpk7 hvg) (hFg.mono (e16.trans e7))) (ev_lenT (ev_op (ev_var rfl) ev_c (rv_ixT (st_of hp7) at2)) (st_of (e7 _ _ hq2))) (rv_ne rfl))) ?_) (fun z => by cases z) fun _ H8 e8 => ⟨e7.trans e8, _, _, _, _, rfl⟩
            rw [fKV_in hus, decide_eq_true (List.mem_map.mpr ⟨g2, hg2, rfl⟩), ← Paired.length hu2, e2f]
            simp
          | lf l => exact absurd hb (by cases l <;> simp [kindT] <;> decide +kernel)
          | op o a b => exact absurd hb (by cases o <;> simp [kindT, opName] <;> decide +kernel)
          | ite c a b => exact absurd hb (by simp [kindT] <;> decide +kernel)
    · exact s_ret ev_c fun H4 e4 => hq H4 (((e12.trans e3).trans eH).trans e4)

end
end SC
set_option Elab.async false
set_option linter.all false
set_option maxRecDepth 100000
set_option maxHeartbeats 1000000
/-! W3d: books made and asked. -/
namespace SC
open PySem PySem.Spec PyProof.Rows L2 C8 Evl


theorem BOk.aheadOk {b : Bk} (h : BOk b) (i : Nat) : ∀ g ∈ b.fns.take i, IsNm g.name ∧ g.many ≤ 2 := fun g hg => by
  have hm := List.mem_of_mem_take hg
  obtain ⟨j, hj⟩ := List.getElem?_of_mem hm
  exact ⟨h.nm _ (List.mem_append.mpr (.inr (List.mem_map.mpr ⟨g, hm, rfl⟩))), (h.fn j g hj).many⟩
theorem BOk.cnm {b : Bk} (h : BOk b) : ∀ c ∈ b.cells, IsNm c.1 := fun c hc => h.nm _ (List.mem_append.mpr (.inl (List.mem_map.mpr ⟨c, hc, rfl⟩)))
theorem BOk.fok {b : Bk} (h : BOk b) {g : Fn} (hg : g ∈ b.fns) : ∃ ahead, (∀ a ∈ ahead, a ∈ b.fns) ∧ GOk b.cells ahead g := by
  obtain ⟨j, hj⟩ := List.getElem?_of_mem hg
  exact ⟨_, fun a ha => List.mem_of_mem_take ha, h.fn j g hj⟩
theorem BOk.notcell {b : Bk} (h : BOk b) {g : Fn} (hg : g ∈ b.fns) : g.name ∉ b.cells.map (·.1) := fun hm =>
  (List.nodup_append.mp h.nd).2.2 g.name hm g.name (List.mem_map.mpr ⟨g, hg, rfl⟩) rfl
theorem nd_takeL {α : Type} {l : List α} {κ : α → Str} (hn : (l.map κ).Nodup) (i : Nat) : ((l.take i).map κ).Nodup := by
  rw [List.map_take]
  exact List.Nodup.sublist (List.take_sublist _ _) hn
theorem Paired.take {α β : Type} {F : α → β → Prop} {l : List α} {m : List β} (h : Paired F l m) (i : Nat) : Paired F (l.take i) (m.take i) := by
  induction h generalizing i with
  | nil => simp; exact .nil
  | cons r t ih =>
    cases i with
    | zero => exact .nil
    | succ i => exact .cons r (ih i)
def spBookGetitem (K : PySem.W.Frag) : Sp := fun vs H Q _ => ∃ b v n g, vs = [v, .str n] ∧ BookP K H b v ∧ findF b.fns n = some g ∧ ∀ u H2, Ex H H2 → FunP K H2 g u → Q u H2
def spBookAllCells (K : PySem.W.Frag) : Sp := fun vs H Q _ => ∃ b v, vs = [v] ∧ BookP K H b v ∧ ∀ p cs H2, H p = none → Ex H H2 → H2 p = some (.lst cs) → Paired (CelP K H2) b.cells cs → Q (.ref p) H2
def spBookNames (K : PySem.W.Frag) : Sp := fun vs H Q _ => ∃ b v, vs = [v] ∧ BookP K H b v ∧ b.fns.length ≤ 3 ∧ RetL ((b.fns.map (·.name)).map V.str) H Q
def spBookCell (K : PySem.W.Frag) : Sp := fun vs H Q _ => ∃ b v n, vs = [v, .str n] ∧ BookP K H b v ∧ n ∈ b.cells.map (·.1) ∧ ∀ c u H2, Ex H H2 → c ∈ b.cells → c.1 = n → CelP K H2 c u → Q u H2

section
variable {P : Program} {w : World} {K : PySem.W.Frag} {mg : Str → Option Value} {base : Heap} (T : Tx K mg)
include T

omit T in
theorem scCheckedFunctions : FnScope ["functions", "cells", "kinds", "cell", "known", "index", "function"] ["functions", "cells"] (defScope sCheckedFunctions) := ⟨rfl, rfl, rfl, by decide +kernel, rfl, by decide +kernel, by decide +kernel⟩
theorem okCheckedFunctions : Cal P w K mg base 9 "checked_functions" (spCheckedFunctions K) [] := by
  obtain ⟨fd, F⟩ := T.DCheckedFunctions
  refine cal_of T.g_checked_functions F (F.bindsN fun _ _ _ _ _ _ us hl => match us, hl with | [_, _], _ => rfl) scCheckedFunctions (fun vs H Q E h => ?_) (fun cdv A outer s H vs Q E hr h => ?_)
  · obtain ⟨b, pl, fs, pc, cs, rfl, _⟩ := h; rfl
  · refine ⟨_, (pss_cons (ps_if (PW.pt (pw_or (pt_not (pt_val (pe_callB call_isiT rfl T.f_isinstance (by decide +kernel) (pa_cons (pv 0) (pa_cons (pe_tup (pa_cons (pe_bltn (v := .ty "list") (u := .type "list") rfl T.f_list (by decide +kernel) rfl) (pa_cons (pe_bltn (v := .ty "tuple") (u := .type "tuple") rfl T.f_tuple (by decide +kernel) rfl) pa_nil))) pa_nil))))) (pw_or1 (pt_cmpR op_eq (pe_callB call_len rfl T.f_len (by decide +kernel) (pa_cons (pv 0) pa_nil)) pe_int (nomark _))))) (pss_one ps_never) pss_nil) (pss_cons (ps_setDc (i := 2) (own := [("cell", 3)]) (by rfl) scCheckedFunctions.nd rfl rfl (swD_true rfl rfl rfl (by decide +kernel)) (pi_tup (pv 1)) (blkOk_by (own := [("cell", 3)]) (N := ["functions", "cells", "kinds", "cell", "known", "index", "function"]) (sc := defScope sCheckedFunctions) (by decide +kernel)) (fun _ _ _ _ _ => (pg_name (i := 3) scCheckedFunctions.nd rfl (by first | exact Or.inl rfl | exact Or.inr rfl))) (fun _ _ _ _ _ => pts_nil) (fun _ _ _ _ _ => (pe_fldK (K := K) rfl (pv 3))) (fun _ _ _ _ _ => (pe_fldK (K := K) rfl (pv 3)))) (pss_cons (ps_set (i := 4) scCheckedFunctions.nd rfl (by first | exact Or.inl rfl | exact Or.inr rfl) pe_dnewK) (pss_cons (ps_for PassesOwn.never rfl (pi_enum (by rfl) T.f_enumerate (pa_cons (pv 0) pa_nil)) (pg_tup (by rfl) (pgs_cons (pg_name (i := 5) scCheckedFunctions.nd rfl (by first | exact Or.inl rfl | exact Or.inr rfl)) (pgs_cons (pg_name (i := 6) scCheckedFunctions.nd rfl (by first | exact Or.inl rfl | exact Or.inr rfl)) pgs_nil))) (pss_cons (ps_if (PW.pt (pw_or (pt_not (pt_val (pe_callB call_isi rfl T.f_isinstance (by decide +kernel) (pa_cons (pv 6) (pa_cons (pe_glob (v := .ref (He.ga K "Function")) rfl T.g_Function rfl) pa_nil))))) (pw_or1 (pt_not (pt_val (pe_c (okFits T) hr (by decide) rfl (pa_cons (pv 6) (pa_cons (pv 2) (pa_cons (pv 4) pa_nil))))))))) (pss_one ps_never) pss_nil) (pss_one (ps_dput (hu_of hr) (pv 4) (pe_fld (pv 6) rfl) (pv 6) rfl)))) (pss_cons (ps_if (pt_cmpR op_gt (pe_callB call_len rfl T.f_len (by decide +kernel) (pa_cons (pv 0) pa_nil)) (pe_gi T.i_MOST_FUNCTIONS) (nomark _)) (pss_one ps_never) pss_nil) (pss_one (ps_ret (pe_callTy call_tuple_of rfl T.f_tuple (by decide +kernel) (pa_cons (pv 0) pa_nil))))))))), ?_⟩
    obtain ⟨b, pl, fs, pc, cs, rfl, hb, hpl, hf, hpc, hc, hq⟩ := h
    have hlen : fs.length ≤ 3 := by rw [← Paired.length hf]; exact hb.lf
    have hlen1 : 1 ≤ fs.length := by rw [← Paired.length hf]; exact hb.pos
    have hlc : cs.length ≤ 3 := by rw [← Paired.length hc]; exact hb.lc
    refine q_when (b := false) (et_is (et_or (et_not (a := true) (et_B (ev_isiLT (ev_var rfl) (ty_lst hpl) kit_lt_lst))) fun _ => et_test (ev_op (ev_len2 (ev_var rfl) (sq_of hpl)) ev_c (rv_eq rfl))) ?_) (fun z => by cases z) fun _ H1 e1 => ?_
    · show (false || decide (V.int (fs.length : Nat) = V.int 0)) = false
      rw [decide_eq_false (fun z => by injection z with z; omega)]; rfl
    have hc1 : Paired (CelP K H1) b.cells cs := Paired.mapP hc fun _ _ z => CelP.mono e1 z
    refine q_asgD (kvs := cKV b.cells) (fun Ha ea Q q => ?_) fun pk H2 _ e2 hpk => ?_
    · have hca : Paired (CelP K Ha) b.cells cs := Paired.mapP hc1 fun _ _ z => CelP.mono ea z
      refine ed_fm (σ := [some (.ref pl), some (.ref pc), none, none, none, none, none]) (j := 3) (vs := [3]) (evi_tup (K := K) (ev_var rfl) (st_of ((e1.trans ea) _ _ hpc))) (fun _ => true) (cN Ha) (fun x => .str (cK Ha x)) (by omega) (fun _ => rfl) (fun _ _ => et_yes) (fun x hx _ => ?_) (fun x hx _ => ?_) Ha (Ex.refl _) Q fun p H2 hp e2 h2 => ?_
      · obtain ⟨i, hi⟩ := List.getElem?_of_mem hx
        obtain ⟨c, _, hcx⟩ := Paired.getR hca hi
        rw [cN_is hcx]
        exact ev_cname T (ev_var rfl) hcx
      · obtain ⟨i, hi⟩ := List.getElem?_of_mem hx
        obtain ⟨c, _, hcx⟩ := Paired.getR hca hi
        rw [cK_is hcx]
        exact ev_ckind T (ev_var rfl) hcx
      · rw [List.filter_eq_self.mpr (fun _ _ => rfl), cKV_fold hca hb.ndc] at h2
        exact q p H2 hp e2 h2
    have hpl2 := e2 _ _ (e1 _ _ hpl)
    have e12 := e1.trans e2
    refine q_asgDN fun d H3 hd e3 hd3 => ?_
    have e13 := e12.trans e3
    have hpl3 := e3 _ _ hpl2
    have hpk3 := e3 _ _ hpk
    have hf3 : Paired (FunP K H3) b.fns fs := Paired.mapP hf fun _ _ z => FunP.mono e13 z
    have npk : pk ≠ d := fun z => by rw [z, hd] at hpk; cases hpk
    have npl : pl ≠ d := fun z => by rw [z, hd] at hpl2; cases hpl2
    refine q_forEnumX (d := d) (i0 := 5) (j0 := 6) (ea_cons (ev_var rfl) ea_nil) hpl3 npl (fun i σ' H' => (∃ x3 x5 x6, σ' = [some (.ref pl), some (.ref pc), some (.ref pk), x3, some (.ref d), x5, x6]) ∧ H' d = some (.dK (fKV (b.fns.take i) (fs.take i)))) (fun H4 e4 => ⟨⟨none, none, none, rfl⟩, e4 _ _ hd3⟩) (fun i x σ' H' H'' hx eX hP e' => ?_) (fun σ' H' eX hP => ?_)
    · obtain ⟨⟨x3, x5, x6, rfl⟩, hdd⟩ := hP
      obtain ⟨g, hgi, hgx⟩ := Paired.getR hf3 hx
      have eT : ExT H3 H'' := (eX.t hd3).trans (ext e')
      have hgx2 : FunP K H'' g x := hgx.monoT eT
      have hft : Paired (FunP K H'') (b.fns.take i) (fs.take i) := Paired.mapP (SC.Paired.take hf3 i) fun _ _ z => FunP.monoT eT z
      have hgm := List.mem_of_getElem? hgi
      refine q_when (b := false) (et_is (et_or (et_not (a := true) (et_B (ev_fisi T (ev_var rfl) hgx2))) fun _ => et_not (a := true) (et_B (ev_call (ea_cons (ev_var rfl) (ea_cons (ev_var rfl) (ea_cons (ev_var rfl) ea_nil))) fun Ha ea Q q E => ⟨g, x, pk, d, b.cells, b.fns.take i, fs.take i, rfl, hgx2.mono ea, ea _ _ (e' _ _ (eX _ _ npk hpk3)), ea _ _ (e' _ _ hdd), Paired.mapP hft fun _ _ z => FunP.mono ea z, hb.fn i g hgi, hb.ndc, nd_takeL hb.ndf i, hb.notcell hgm, nd_take hb.ndf hgi, q⟩))) rfl) (fun z => by cases z) fun _ H4 e4 => ?_
      refine s_dput (ev_var rfl) (ev_var rfl) (ev_fname T (ev_var rfl) (hgx2.mono e4)) (e4 _ _ (e' _ _ hdd)) (by have := fKV_len (b.fns.take i) (fs.take i); rw [List.length_take] at this; have := hb.lf; omega) fun H5 x5 h5 => ?_
      refine ⟨(ExX.of (e'.trans e4)).trans x5, ⟨_, _, _, rfl⟩, ?_⟩
      rw [h5, fKV_snoc hft (nd_take hb.ndf hgi), List.take_add_one, hgi, List.take_add_one, hx]
      rfl
    · obtain ⟨⟨x3, x5, x6, rfl⟩, hdd⟩ := hP
      have hpl' : H' pl = some (.lst fs) := eX _ _ npl hpl3
      have eH : Ex H H' := ExX.ex eX e13 (fresh_back e12 hd)
      refine q_when (b := false) (et_is (et_test (ev_op (ev_len2 (ev_var rfl) (sq_of hpl')) ev_c rv_I0)) (decide_eq_false (by omega))) (fun z => by cases z) fun _ H4 e4 => ?_
      exact s_retU (ep_tupleL (ev_var rfl) (sq_of (e4 _ _ hpl'))) fun p H5 _ e5 h5 => hq p H5 ((eH.trans e4).trans e5) h5

omit T in
theorem scBookInit : FnScope ["self", "cells", "functions"] ["self", "cells", "functions"] (defScope sBookInit) := ⟨rfl, rfl, rfl, by decide +kernel, rfl, by decide +kernel, by decide +kernel⟩
theorem okBookInit : Mak P w K mg base 10 "Book" (He.ga K "Book") (spBookInit K) [] := by
  obtain ⟨fd, F⟩ := T.DBookInit
  refine mak_of T.mk_Book T.g_Book F (F.bindsN fun _ _ _ _ _ _ us hl => match us, hl with | [_, _, _], _ => rfl) scBookInit (fun vs H Q E h => ?_) (fun cdv A outer s H vs Q E hr h => ?_)
  · obtain ⟨b, x, dx, pl, cs, pf, fs, rfl, _⟩ := h; rfl
  · refine ⟨_, (pss_cons (ps_fld (pv 0) (pe_c (okCheckedCells T) hr (by decide) rfl (pa_cons (pv 1) pa_nil)) rfl) (pss_one (ps_fld (pv 0) (pe_c (okCheckedFunctions T) hr (by decide) rfl (pa_cons (pv 2) (pa_cons (pe_fld (pv 0) rfl) pa_nil))) rfl))), ?_⟩
    obtain ⟨b, x, dx, pl, cs, pf, fs, rfl, hx, hb, hpl, hc, hpf, hf, hq⟩ := h
    refine q_fldP (Φ := fun v H2 => ∃ pc, v = .ref pc ∧ H2 pc = some (.tup cs)) (fun Ha ea Q q => ⟨_, rfl, pl, b.cells, cs, rfl, ea _ _ hpl, Paired.mapP hc fun _ _ z => CelP.mono ea z, hb.ndc, hb.lc, fun p H2 e2 h2 => q _ H2 e2 ⟨p, rfl, h2⟩⟩) (ev_var rfl) hx T.cl_Book T.n_Book_cell_row (show 0 < 1000 by decide) fun y H1 H2 e1 hy x2 h2 => ?_
    obtain ⟨pc, rfl, hpc⟩ := hy
    have h2 : H2 x = some (.ins (He.ga K "Book") dx [("cell_row", .ref pc)]) := h2
    have hx1 := e1 _ _ hx
    have npc : pc ≠ x := fun z => by rw [z, hx1] at hpc; cases hpc
    have X2 : ExX x H H2 := (ExX.of e1).trans x2
    have hpc2 := x2 _ _ npc hpc
    have hpf2 : H2 pf = some (.lst fs) := X2 _ _ (fun z => by rw [z, hx] at hpf; cases hpf) hpf
    have hf2 : Paired (FunP K H2) b.fns fs := Paired.mapP hf fun _ _ z => exxF hx X2 z
    have hc2 : Paired (CelP K H2) b.cells cs := Paired.mapP hc fun _ _ z => exxC hx X2 z
    refine s_fldP (Φ := fun v H2 => ∃ pr, v = .ref pr ∧ H2 pr = some (.tup fs)) (fun Ha ea Q q => ⟨_, rfl, ?_⟩) (ev_var rfl) h2 T.cl_Book T.n_Book_row (show 1 < 1000 by decide) fun y H3 H4 e3 hy x4 h4 => ?_
    · refine ev_fld (ev_var rfl) (ea _ _ h2) T.cl_Book T.n_Book_cell_row rfl Ha (Ex.refl _) _ fun Hb eb => ⟨b, pf, fs, pc, cs, rfl, hb, (ea.trans eb) _ _ hpf2, Paired.mapP hf2 fun _ _ z => FunP.mono (ea.trans eb) z, (ea.trans eb) _ _ hpc2, Paired.mapP hc2 fun _ _ z => CelP.mono (ea.trans eb) z, fun p H2 e2 h2 => q _ H2 (eb.trans e2) ⟨p, rfl, h2⟩⟩
    · obtain ⟨pr, rfl, hpr⟩ := hy
      have h4 : H4 x = some (.ins (He.ga K "Book") dx [("cell_row", .ref pc), ("row", .ref pr)]) := h4
      have hx3 := e3 _ _ h2
      exact hq pc pr H4 ((X2.trans (ExX.of e3)).trans x4) h4 (x4 _ _ npc (e3 _ _ hpc2)) (x4 _ _ (fun z => by rw [z, hx3] at hpr; cases hpr) hpr)

end
end SC
set_option Elab.async false
set_option linter.all false
set_option maxRecDepth 100000
set_option maxHeartbeats 1000000
/-! W3e: books asked. -/
namespace SC
open PySem PySem.Spec PyProof.Rows L2 C8 Evl


theorem cK_fun {K : PySem.W.Frag} {H : Hp} {g : Fn} {v : V} (h : FunP K H g v) : cK H v = g.name := by obtain ⟨p, dx, pl, dl, hl', x, pw, ws, rfl, hp, _⟩ := h; simp only [cK, hp]
theorem find_first {l : List Fn} {n : Str} {g g' : Fn} (h : findF l n = some g) {i : Nat} (hi : l[i]? = some g') (hn : g'.name = n) (hb : ∀ a ∈ l.take i, a.name ≠ n) : g' = g := by
  unfold findF at h
  have e : l = l.take i ++ (g' :: l.drop (i + 1)) := by
    obtain ⟨h1, h2⟩ := List.getElem?_eq_some_iff.mp hi
    rw [← h2, ← List.drop_eq_getElem_cons h1, List.take_append_drop]
  rw [e, List.find?_append, List.find?_eq_none.mpr (fun a ha => by simpa using hb a ha), Option.none_or, List.find?_cons_of_pos (by simpa using hn)] at h
  exact Option.some.inj h
theorem ep_get {K : PySem.W.Frag} {σ : L2.St} {H : Hp} {ta tb : TE} {b : Bk} {v : V} {n : Str} {g : Fn} (h : Ev ta σ H v) (hb : BookP K H b v) (hk : Ev tb σ H (.str n)) (hf : findF b.fns n = some g) : EvP (tOwnIx (He.ga K "Book") (spBookGetitem K) ta tb) σ H (fun u H2 => FunP K H2 g u) := fun H1 e Q q =>
  h H1 e _ fun H2 e2 => hk H2 (e.trans e2) _ fun H3 e3 => by
    have hb3 := hb.mono ((e.trans e2).trans e3)
    obtain ⟨p, dx, pc, pf, cs, fs, rfl, hp, _⟩ := id hb3
    exact ⟨p, dx, _, rfl, hp, b, _, n, g, rfl, hb3, hf, fun u H4 e4 h4 => q u H4 ((e2.trans e3).trans e4) h4⟩
/-- the names of the book's functions that are reached -/
def reachV (b : Bk) (n : Str) : List Str := (b.fns.map (·.name)).filter fun m => decide (m ∈ reachL b.fns n)
def spBookReaches (K : PySem.W.Frag) : Sp := fun vs H Q _ => ∃ b v n, vs = [v, .str n] ∧ BookP K H b v ∧ BOk b ∧ n ∈ b.fns.map (·.name) ∧ RetL ((reachV b n).map V.str) H Q
def spBookTouched (K : PySem.W.Frag) : Sp := fun vs H Q _ => ∃ b v n, vs = [v, .str n] ∧ BookP K H b v ∧ BOk b ∧ n ∈ b.fns.map (·.name) ∧ RetL ((touchL b n).map V.str) H Q
theorem find_some {b : Bk} {n : Str} (h : n ∈ b.fns.map (·.name)) : ∃ g, findF b.fns n = some g ∧ g.name = n ∧ g ∈ b.fns := by
  cases q : findF b.fns n with
  | none =>
    obtain ⟨g, hg, e⟩ := List.mem_map.mp h
    have := List.find?_eq_none.mp q g hg
    simp [e] at this
  | some g => exact ⟨g, rfl, (find_mem q).2, (find_mem q).1⟩
theorem filter_names {l : List Str} {f : V → Bool} {p : Str → Bool} (h : ∀ s ∈ l, f (.str s) = p s) : (((l.map V.str).filter f).map id) = (l.filter p).map V.str := by
  rw [List.map_id]
  induction l with
  | nil => rfl
  | cons a r ih =>
    have h1 := h a List.mem_cons_self
    have h2 := ih fun s hs => h s (List.mem_cons_of_mem _ hs)
    rw [List.map_cons]
    cases q : p a with
    | true => rw [List.filter_cons_of_pos (by rw [h1, q]), List.filter_cons_of_pos q, h2]; rfl
    | false => rw [List.filter_cons_of_neg (by rw [h1, q]; exact Bool.false_ne_true), List.filter_cons_of_neg (by rw [q]; exact Bool.false_ne_true), h2]
theorem names_row {K : PySem.W.Frag} {H : Hp} {l : List Fn} {fs : List V} (h : Paired (FunP K H) l fs) : fs.map (fun x => V.str (cK H x)) = (l.map (·.name)).map V.str := by
  induction h with
  | nil => rfl
  | cons r t ih => rw [List.map_cons, List.map_cons, List.map_cons, ih, cK_fun r]

section
variable {P : Program} {w : World} {K : PySem.W.Frag} {mg : Str → Option Value} {base : Heap} (T : Tx K mg)
include T

omit T in
theorem scBookGetitem : FnScope ["self", "name", "function"] ["self", "name"] (defScope sBookGetitem) := ⟨rfl, rfl, rfl, by decide +kernel, rfl, by decide +kernel, by decide +kernel⟩
theorem okBookGetitem : OwnIx P w K mg base 1 (He.ga K "Book") (spBookGetitem K) := by
  obtain ⟨fd, F⟩ := T.DBookGetitem
  refine ⟨_, fd, ["self", "name"], T.m_Book_getitem__, fnIn_of F, F.ok scBookGetitem (fun vs H Q E h => ?_) fun cdv A outer s H vs Q E hr h => ?_, F.bindsN fun _ _ _ _ _ _ us hl => match us, hl with | [_, _], _ => rfl⟩
  · obtain ⟨b, v, n, g, rfl, _⟩ := h; rfl
  · suffices hh : ∃ t, PSs (cxOf C8.CX0 P w K mg base _ "Book.__getitem__" (defScope sBookGetitem) _ cdv A outer s H E).nox (defBody sBookGetitem) t ∧ t { nx := fun _ H' => Q .non H', rt := Q } (start _ vs) H by
      obtain ⟨t, p, q⟩ := hh
      exact ⟨t, p.nox, q⟩
    refine ⟨_, (pss_cons (ps_for PassesOwn.never rfl (pi_tup (pe_fld (pv 0) rfl)) (pg_name (i := 2) scBookGetitem.nd rfl (by first | exact Or.inl rfl | exact Or.inr rfl)) (pss_one (ps_if (PW.pt (pw_and (pt_val (pe_callB call_isi rfl T.f_isinstance (by decide +kernel) (pa_cons (pv 1) (pa_cons (pe_bltn (v := .ty "str") (u := .type "str") rfl T.f_str (by decide +kernel) rfl) pa_nil)))) (pw_and1 (pt_cmpR op_eq (pe_fld (pv 2) rfl) (pv 1) (nomark _))))) (pss_one (ps_ret (pv 2))) pss_nil))) (pss_one ps_never)), ?_⟩
    obtain ⟨b, v, n, g, rfl, hb, hf, hq⟩ := h
    obtain ⟨p, dx, pc, pf, cs, fs, rfl, hp, hpc, hc, hpf, hfs⟩ := hb
    refine q_forI (evi_tup (ev_fld (ev_var rfl) hp T.cl_Book T.n_Book_row rfl) (st_of hpf)) (fun i σ' H' => (∃ x2, σ' = [some (.ref p), some (.str n), x2]) ∧ ∀ a ∈ b.fns.take i, a.name ≠ n) (fun H1 e1 => ⟨⟨none, rfl⟩, fun a ha => by rw [List.take_zero] at ha; cases ha⟩) (fun i x σ' H' hx eH hP => ?_) (fun σ' H' eH hP => ?_)
    · obtain ⟨⟨x2, rfl⟩, hno⟩ := hP
      obtain ⟨g', hgi, hgx⟩ := Paired.getR hfs hx
      have hgx := hgx.mono eH
      refine s_when (b := decide (g'.name = n)) (et_is (et_and (et_B (ev_isi true (ev_var rfl) ty_str (kit_ty (by decide +kernel)))) fun _ => et_test (ev_op (ev_fname T (ev_var rfl) hgx) (ev_var rfl) (rv_eq rfl))) (by simp)) (fun hb H1 e1 => ?_) (fun hb H1 e1 => ⟨e1, ⟨_, rfl⟩, ?_⟩)
      · have hn := of_decide_eq_true hb
        have e := find_first hf hgi hn hno
        subst e
        exact s_ret (ev_var rfl) fun H2 e2 => hq _ H2 ((eH.trans e1).trans e2) (hgx.mono (e1.trans e2))
      · intro a ha
        rw [List.take_add_one, hgi] at ha
        rcases List.mem_append.mp ha with ha | ha
        · exact hno a ha
        · have e : a = g' := by simpa using ha
          rw [e]
          exact of_decide_eq_false hb
    · obtain ⟨_, hno⟩ := hP
      have hl : fs.length = b.fns.length := (Paired.length hfs).symm
      rw [hl, List.take_length] at hno
      exact absurd (find_mem hf).2 (hno _ (find_mem hf).1)

omit T in
theorem scBookAllCells : FnScope ["self"] ["self"] (defScope sBookAllCells) := ⟨rfl, rfl, rfl, by decide +kernel, rfl, by decide +kernel, by decide +kernel⟩
theorem okBookAllCells : Met P w K mg base 1 (He.ga K "Book") "all_cells" (spBookAllCells K) [] := by
  obtain ⟨fd, F⟩ := T.DBookAllCells
  refine met_of T.cl_Book T.m_Book_all_cells F (F.bindsN fun _ _ _ _ _ _ us hl => match us, hl with | [_], _ => rfl) scBookAllCells (fun vs H Q E h => ?_) (fun cdv A outer s H vs Q E hr h => ?_)
  · obtain ⟨b, v, rfl, _⟩ := h; rfl
  · refine ⟨_, (pss_one (ps_ret (pe_callTy call_list_of rfl T.f_list (by decide +kernel) (pa_cons (pe_fld (pv 0) rfl) pa_nil)))), ?_⟩
    obtain ⟨b, v, rfl, hb, hq⟩ := h
    obtain ⟨p, dx, pc, pf, cs, fs, rfl, hp, hpc, hc, hpf, hfs⟩ := hb
    exact s_retL (el_listT (ev_fld (ev_var rfl) hp T.cl_Book T.n_Book_cell_row rfl) (st_of hpc)) fun q H1 hq1 e1 h1 => hq q cs H1 hq1 e1 h1 (Paired.mapP hc fun _ _ z => CelP.mono e1 z)

omit T in
theorem scBookNames : FnScope ["self", "function"] ["self"] (defScope sBookNames) := ⟨rfl, rfl, rfl, by decide +kernel, rfl, by decide +kernel, by decide +kernel⟩
theorem okBookNames : Met P w K mg base 1 (He.ga K "Book") "names" (spBookNames K) [] := by
  obtain ⟨fd, F⟩ := T.DBookNames
  refine met_of T.cl_Book T.m_Book_names F (F.bindsN fun _ _ _ _ _ _ us hl => match us, hl with | [_], _ => rfl) scBookNames (fun vs H Q E h => ?_) (fun cdv A outer s H vs Q E hr h => ?_)
  · obtain ⟨b, v, rfl, _⟩ := h; rfl
  · refine ⟨_, (pss_one (ps_ret (pe_lc  (own := [("function", 1)]) (by rfl) scBookNames.nd (pi_tup (pe_fld (pv 0) rfl)) (blkOk_by (own := [("function", 1)]) (N := ["self", "function"]) (sc := defScope sBookNames) (by decide +kernel)) (fun _ _ _ _ _ => (pg_name (i := 1) scBookNames.nd rfl (by first | exact Or.inl rfl | exact Or.inr rfl))) (fun _ _ _ _ _ => pts_nil) (fun _ _ _ _ _ => (pe_fldK (K := K) rfl (pv 1)))))), ?_⟩
    obtain ⟨b, v, rfl, hb, hl, hq⟩ := h
    obtain ⟨p, dx, pc, pf, cs, fs, rfl, hp, hpc, hc, hpf, hfs⟩ := hb
    have hlen : fs.length ≤ 3 := by rw [← Paired.length hfs]; exact hl
    have hm : fs.map (fun x => V.str (cK H x)) = (b.fns.map (·.name)).map V.str := names_row hfs
    refine s_retL (xs := (b.fns.map fun (g : Fn) => g.name).map V.str) ?_ hq
    rw [← hm]
    refine el_map (vs := [1]) (j := 1) (evi_tup (ev_fld (ev_var rfl) hp T.cl_Book T.n_Book_row rfl) (st_of hpf)) (fun x => .str (cK H x)) (by omega) (fun _ => rfl) fun x hx => ?_
    obtain ⟨i, hi⟩ := List.getElem?_of_mem hx
    obtain ⟨g, _, hgx⟩ := Paired.getR hfs hi
    exact ev_is (ev_fname T (ev_var rfl) hgx) (by rw [cK_fun hgx])

omit T in
theorem scBookCell : FnScope ["self", "name", "cell"] ["self", "name"] (defScope sBookCell) := ⟨rfl, rfl, rfl, by decide +kernel, rfl, by decide +kernel, by decide +kernel⟩
theorem okBookCell : Met P w K mg base 1 (He.ga K "Book") "cell" (spBookCell K) [] := by
  obtain ⟨fd, F⟩ := T.DBookCell
  refine met_of T.cl_Book T.m_Book_cell F (F.bindsN fun _ _ _ _ _ _ us hl => match us, hl with | [_, _], _ => rfl) scBookCell (fun vs H Q E h => ?_) (fun cdv A outer s H vs Q E hr h => ?_)
  · obtain ⟨b, v, n, rfl, _⟩ := h; rfl
  · refine ⟨_, (pss_cons (ps_for PassesOwn.never rfl (pi_tup (pe_fld (pv 0) rfl)) (pg_name (i := 2) scBookCell.nd rfl (by first | exact Or.inl rfl | exact Or.inr rfl)) (pss_one (ps_if (PW.pt (pw_and (pt_val (pe_callB call_isi rfl T.f_isinstance (by decide +kernel) (pa_cons (pv 1) (pa_cons (pe_bltn (v := .ty "str") (u := .type "str") rfl T.f_str (by decide +kernel) rfl) pa_nil)))) (pw_and1 (pt_cmpR op_eq (pe_fld (pv 2) rfl) (pv 1) (nomark _))))) (pss_one (ps_ret (pv 2))) pss_nil))) (pss_one ps_never)), ?_⟩
    obtain ⟨b, v, n, rfl, hb, hn, hq⟩ := h
    obtain ⟨p, dx, pc, pf, cs, fs, rfl, hp, hpc, hc, hpf, hfs⟩ := hb
    refine q_forI (evi_tup (ev_fld (ev_var rfl) hp T.cl_Book T.n_Book_cell_row rfl) (st_of hpc)) (fun i σ' H' => (∃ x2, σ' = [some (.ref p), some (.str n), x2]) ∧ ∀ a ∈ b.cells.take i, a.1 ≠ n) (fun H1 e1 => ⟨⟨none, rfl⟩, fun a ha => by rw [List.take_zero] at ha; cases ha⟩) (fun i x σ' H' hx eH hP => ?_) (fun σ' H' eH hP => ?_)
    · obtain ⟨⟨x2, rfl⟩, hno⟩ := hP
      obtain ⟨c, hci, hcx⟩ := Paired.getR hc hx
      have hcx := hcx.mono eH
      refine s_when (b := decide (c.1 = n)) (et_is (et_and (et_B (ev_isi true (ev_var rfl) ty_str (kit_ty (by decide +kernel)))) fun _ => et_test (ev_op (ev_cname T (ev_var rfl) hcx) (ev_var rfl) (rv_eq rfl))) (by simp)) (fun hb H1 e1 => ?_) (fun hb H1 e1 => ⟨e1, ⟨_, rfl⟩, ?_⟩)
      · exact s_ret (ev_var rfl) fun H2 e2 => hq c _ H2 ((eH.trans e1).trans e2) (List.mem_of_getElem? hci) (of_decide_eq_true hb) (hcx.mono (e1.trans e2))
      · intro a ha
        rw [List.take_add_one, hci] at ha
        rcases List.mem_append.mp ha with ha | ha
        · exact hno a ha
        · have e : a = c := by simpa using ha
          rw [e]
          exact of_decide_eq_false hb
    · obtain ⟨_, hno⟩ := hP
      have hl : cs.length = b.cells.length := (Paired.length hc).symm
      rw [hl, List.take_length] at hno
      obtain ⟨c, hcm, e⟩ := List.mem_map.mp hn
      exact absurd e (hno _ hcm)

end
end SC
set_option Elab.async false
set_option linter.all false
set_option maxRecDepth 100000
set_option maxHeartbeats 1000000
/-! W3f: what a function reaches and touches. -/
namespace SC
open PySem PySem.Spec PyProof.Rows L2 C8 Evl


/-- the walk over the functions, last first -/
def rstep (acc : List Str) (g : Fn) : List Str := if g.name ∈ acc then acc ++ callsF g else acc
theorem reachL_eq (fns : List Fn) (n : Str) : reachL fns n = fns.reverse.foldl rstep [n] := rfl
theorem lp_names {K : PySem.W.Frag} {σ : L2.St} {H : Hp} {te : TE} {b : Bk} {v : V} (h : Ev te σ H v) (hb : BookP K H b v) (hl : b.fns.length ≤ 3) : EvL (tMeth (He.ga K "Book") "names" (spBookNames K) [] C8.E0 te tNil) σ H ((b.fns.map fun (g : Fn) => g.name).map V.str) := fun H1 e Q q =>
  h H1 e _ fun H2 e2 => by
    have hb2 := hb.mono (e.trans e2)
    obtain ⟨p, dx, pc, pf, cs, fs, rfl, hp, _⟩ := id hb2
    exact ⟨p, dx, _, rfl, hp, rfl, b, _, rfl, hb2, hl, fun q2 H3 a1 a2 a3 => q q2 H3 (fresh_back e2 a1) (e2.trans a2) a3⟩
theorem el_reaches {K : PySem.W.Frag} {σ : L2.St} {H : Hp} {te tk : TE} {b : Bk} {v : V} {n : Str} (h : Ev te σ H v) (hk : Ev tk σ H (.str n)) (hb : BookP K H b v) (hok : BOk b) (hn : n ∈ b.fns.map (·.name)) : EvL (tMeth (He.ga K "Book") "reaches" (spBookReaches K) [] C8.E0 te (tCons tk tNil)) σ H ((reachV b n).map V.str) := fun H1 e Q q =>
  h H1 e _ fun H2 e2 => by
    have hb2 := hb.mono (e.trans e2)
    obtain ⟨p, dx, pc, pf, cs, fs, rfl, hp, _⟩ := id hb2
    exact ⟨p, dx, _, rfl, hp, rfl, hk H2 (e.trans e2) _ fun H3 e3 => ⟨b, _, n, rfl, hb2.mono e3, hok, hn, fun q2 H4 a1 a2 a3 => q q2 H4 (fresh_back (e2.trans e3) a1) ((e2.trans e3).trans a2) a3⟩⟩
theorem el_touched {K : PySem.W.Frag} {σ : L2.St} {H : Hp} {te tk : TE} {b : Bk} {v : V} {n : Str} (h : Ev te σ H v) (hk : Ev tk σ H (.str n)) (hb : BookP K H b v) (hok : BOk b) (hn : n ∈ b.fns.map (·.name)) : EvL (tMeth (He.ga K "Book") "touched" (spBookTouched K) [] C8.E0 te (tCons tk tNil)) σ H ((touchL b n).map V.str) := fun H1 e Q q =>
  h H1 e _ fun H2 e2 => by
    have hb2 := hb.mono (e.trans e2)
    obtain ⟨p, dx, pc, pf, cs, fs, rfl, hp, _⟩ := id hb2
    exact ⟨p, dx, _, rfl, hp, rfl, hk H2 (e.trans e2) _ fun H3 e3 => ⟨b, _, n, rfl, hb2.mono e3, hok, hn, fun q2 H4 a1 a2 a3 => q q2 H4 (fresh_back (e2.trans e3) a1) ((e2.trans e3).trans a2) a3⟩⟩
theorem BOk.parts {b : Bk} (h : BOk b) {g : Fn} (hg : g ∈ b.fns) : ∀ t ∈ g.parts, t.depth ≤ 3 ∧ t.size ≤ 13 := fun t ht => by
  obtain ⟨ahead, _, ok⟩ := h.fok hg
  exact (parts_ok ok t ht).2
theorem BOk.wl {b : Bk} (h : BOk b) {g : Fn} (hg : g ∈ b.fns) : g.wr.length ≤ 1 := by
  obtain ⟨ahead, _, ok⟩ := h.fok hg
  exact ok.wl
theorem parts_len {g : Fn} (h : g.wr.length ≤ 1) : g.parts.length ≤ 2 := by
  show (g.res :: g.wr.map (·.2)).length ≤ 2
  rw [List.length_cons, List.length_map]; omega
theorem reach_mem {b : Bk} {n w : Str} (h : w ∈ reachV b n) : w ∈ b.fns.map (·.name) ∧ w ∈ reachL b.fns n := by
  have := List.mem_filter.mp h
  exact ⟨this.1, of_decide_eq_true this.2⟩
theorem reach_any {b : Bk} {n : Str} (p : Fn → Bool) : ((reachL b.fns n).any fun w => match findF b.fns w with
    | some g => p g
    | none => false) = true ↔ ∃ w ∈ reachV b n, ∃ g, findF b.fns w = some g ∧ p g = true := by
  rw [List.any_eq_true]
  constructor
  · rintro ⟨w, hw, h⟩
    cases q : findF b.fns w with
    | none => rw [q] at h; cases h
    | some g =>
      rw [q] at h
      obtain ⟨h1, h2⟩ := find_mem q
      exact ⟨w, List.mem_filter.mpr ⟨List.mem_map.mpr ⟨g, h1, h2⟩, decide_eq_true hw⟩, g, q, h⟩
  · rintro ⟨w, hw, g, q, h⟩
    refine ⟨w, (reach_mem hw).2, ?_⟩
    rw [q]; exact h
theorem touch_iff {b : Bk} {n c : Str} : touched b n c = true ↔ ∃ w ∈ reachV b n, ∃ g, findF b.fns w = some g ∧ c ∈ touchF g := by
  have this : touched b n c = true ↔ _ := reach_any (b := b) (n := n) fun g => decide (c ∈ touchF g)
  rw [this]
  constructor
  · rintro ⟨w, hw, g, q, h⟩; exact ⟨w, hw, g, q, of_decide_eq_true h⟩
  · rintro ⟨w, hw, g, q, h⟩; exact ⟨w, hw, g, q, decide_eq_true h⟩

section
variable {P : Program} {w : World} {K : PySem.W.Frag} {mg : Str → Option Value} {base : Heap} (T : Tx K mg)
include T

omit T in
theorem scBookReaches : FnScope ["self", "name", "found", "function", "term", "called", "one"] ["self", "name"] (defScope sBookReaches) := ⟨rfl, rfl, rfl, by decide +kernel, rfl, by decide +kernel, by decide +kernel⟩
theorem okBookReaches : Met P w K mg base 8 (He.ga K "Book") "reaches" (spBookReaches K) [] := by
  obtain ⟨fd, F⟩ := T.DBookReaches
  refine met_of T.cl_Book T.m_Book_reaches F (F.bindsN fun _ _ _ _ _ _ us hl => match us, hl with | [_, _], _ => rfl) scBookReaches (fun vs H Q E h => ?_) (fun cdv A outer s H vs Q E hr h => ?_)
  · obtain ⟨b, v, n, rfl, _⟩ := h; rfl
  · refine ⟨_, (pss_cons (ps_set (i := 2) scBookReaches.nd rfl (by first | exact Or.inl rfl | exact Or.inr rfl) (pe_disp (pps_cons (pe_fld (pe_ownIx (okBookGetitem T) hr (by decide) (pv 0) (pv 1)) rfl) pe_bl pps_nil) (by rfl) (by rfl) (fun z => by cases z) (by decide))) (pss_cons (ps_for PassesOwn.never rfl (pi_tup (pe_revT (pe_fld (pv 0) rfl))) (pg_name (i := 3) scBookReaches.nd rfl (by first | exact Or.inl rfl | exact Or.inr rfl)) (pss_one (ps_if (pt_cmp (pc_din (hu_of hr) (pe_fld (pv 3) rfl) (pv 2))) (pss_one (ps_for PassesOwn.never rfl (pi_list (pe_mt0 (okFunctionParts T) hr (by decide) (pv 3))) (pg_name (i := 4) scBookReaches.nd rfl (by first | exact Or.inl rfl | exact Or.inr rfl)) (pss_one (ps_expr (pe_bm PySem.F.plainAttrs_dict PySem.F.slot_dict_update PySem.F.type_dict_update mt_update (pv 2) (pa_cons (pe_dc  (own := [("called", 5)]) (by rfl) scBookReaches.nd (pi_list (pe_c (okCallsIn T) hr (by decide) rfl (pa_cons (pv 4) pa_nil))) (blkOk_by (own := [("called", 5)]) (N := ["self", "name", "found", "function", "term", "called", "one"]) (sc := defScope sBookReaches) (by decide +kernel)) (fun _ _ _ _ _ => (pg_name (i := 5) scBookReaches.nd rfl (by first | exact Or.inl rfl | exact Or.inr rfl))) (fun _ _ _ _ _ => pts_nil) (fun _ _ _ _ _ => (pv 5)) (fun _ _ _ _ _ => pe_bl)) pa_nil)))))) pss_nil))) (pss_one (ps_ret (pe_lc  (own := [("one", 6)]) (by rfl) scBookReaches.nd (pi_list (pe_mt0 (okBookNames T) hr (by decide) (pv 0))) (blkOk_by (own := [("one", 6)]) (N := ["self", "name", "found", "function", "term", "called", "one"]) (sc := defScope sBookReaches) (by decide +kernel)) (fun _ _ _ _ _ => (pg_name (i := 6) scBookReaches.nd rfl (by first | exact Or.inl rfl | exact Or.inr rfl))) (fun _ _ _ _ _ => (pts_one (pt_cmp (pc_din (hu_of hr) (pv 6) (pv 2))))) (fun _ _ _ _ _ => (pv 6))))))), ?_⟩
    obtain ⟨b, v, n, rfl, hb, hok, hn, hq⟩ := h
    obtain ⟨p, dx, pc, pf, cs, fs, rfl, hp, hpc, hc, hpf, hfs⟩ := id hb
    obtain ⟨g0, hg0, hgn, hgm⟩ := find_some hn
    have hl := hok.lf
    have hlen : fs.length ≤ 3 := by rw [← Paired.length hfs]; exact hl
    refine q_asgD (kvs := trK [n]) (fun Ha ea Q q p0 hp0 => ?_) fun d H1 hd e1 hd1 => ?_
    · refine ep_get (ev_var rfl) (hb.mono (ea.trans (Ex.new hp0))) (ev_var rfl) hg0 _ (Ex.refl _) _ fun u Hb eb hu => ?_
      obtain ⟨p1, dx1, pl1, dl1, hl1, x1, pw1, ws1, rfl, hp1, _⟩ := hu
      refine ⟨p1, _, dx1, _, _, rfl, hp1, T.cl_Function, T.n_Function_name, rfl, ?_⟩
      refine ⟨eb _ _ upd_same, [(Sum.inr g0.name, .bl true)], rfl, (show 1 ≤ 15 by decide), q p0 _ hp0 (Ex.mut ((Ex.new hp0).trans eb) hp0) ?_⟩
      rw [upd_same, hgn]; rfl
    have hpf1 := e1 _ _ hpf
    refine q_forX (d := d) (evix_tupN (eu_revT (ev_fld (ev_var rfl) (e1 _ _ hp) T.cl_Book T.n_Book_row rfl) (st_of hpf1)) hd1) (fun i σ' H' => (∃ x3 x4 x5 x6, σ' = [some (.ref p), some (.str n), some (.ref d), x3, x4, x5, x6]) ∧ ∃ ns, H' d = some (.dK (trK ns)) ∧ (∀ m, m ∈ ns ↔ m ∈ (b.fns.reverse.take i).foldl rstep [n]) ∧ ns.length ≤ 1 + 26 * i) (fun H2 e2 => ⟨⟨none, none, none, none, rfl⟩, [n], e2 _ _ hd1, fun m => Iff.rfl, Nat.le_refl _⟩) (fun i x σ' H' hx eX hP => ?_) (fun σ' H' eX hP => ?_)
    · obtain ⟨⟨x3, x4, x5, x6, rfl⟩, ns, hns, hmem, hlen2⟩ := hP
      have hrev : Paired (FunP K H1) b.fns.reverse fs.reverse := Paired.rev (Paired.mapP hfs fun _ _ z => FunP.mono e1 z)
      obtain ⟨g, hgi, hgx⟩ := Paired.getR hrev hx
      have hgm2 : g ∈ b.fns := List.mem_reverse.mp (List.mem_of_getElem? hgi)
      have hgx := hgx.monoT (eX.t hd1)
      have hi3 : i < 3 := by
        obtain ⟨h, _⟩ := List.getElem?_eq_some_iff.mp hgi
        rw [List.length_reverse] at h; omega
      have tk : (b.fns.reverse.take (i + 1)).foldl rstep [n] = rstep ((b.fns.reverse.take i).foldl rstep [n]) g := by
        rw [List.take_add_one, hgi, List.foldl_append]; rfl
      refine s_when (b := decide (g.name ∈ ns)) (et_is (et_test (ev_din (ev_fname T (ev_var rfl) hgx) (ev_var rfl) hns)) tr_val) (fun hb2 H2 e2 => ?_) (fun hb2 H2 e2 => ⟨ExX.of e2, ⟨_, _, _, _, rfl⟩, ns, e2 _ _ hns, fun m => ?_, by omega⟩)
      · have hin := of_decide_eq_true hb2
        refine tFor_lp (lp_parts (ev_var rfl) (hgx.mono e2) (hok.wl hgm2)) fun pp xs H3 hpp0 e3 hpp hxs => ?_
        have hxs : Paired (TmAt H3) g.parts xs := hxs
        have hd3 : H3 d = some (.dK (trK ns)) := e3 _ _ (e2 _ _ hns)
        have npp : pp ≠ d := fun z => by rw [z, e2 _ _ hns] at hpp0; cases hpp0
        have hpl := parts_len (hok.wl hgm2)
        refine s_forX (d := d) (evix_list ev_c hpp npp) (fun j σ2 H4 => (∃ x4 x5 x6, σ2 = [some (.ref p), some (.str n), some (.ref d), some x, x4, x5, x6]) ∧ ∃ ms, H4 d = some (.dK (trK ms)) ∧ (∀ m, m ∈ ms ↔ m ∈ ns ∨ m ∈ (g.parts.take j).flatMap callsT) ∧ ms.length ≤ ns.length + 13 * j) (fun H4 e4 => ⟨⟨_, _, _, rfl⟩, ns, e4 _ _ hd3, fun m => by simp, by omega⟩) (fun j y σ2 H4 hy e4 hP2 => ?_) (fun σ2 H4 e4 hP2 => ?_)
        · obtain ⟨⟨x4, x5, x6, rfl⟩, ms, hms, hmm, hml⟩ := hP2
          obtain ⟨t, hti, hty⟩ := Paired.getR hxs hy
          have hty := hty.monoT (e4.t hd3)
          obtain ⟨td, tz⟩ := hok.parts hgm2 t (List.mem_of_getElem? hti)
          have hj2 : j < 2 := by
            obtain ⟨h, _⟩ := List.getElem?_eq_some_iff.mp hti
            omega
          refine s_upd rfl hms (ed_lpNames (lp_callsIn (ev_var rfl) hty td tz) (fun _ => rfl) fun _ => rfl) (fun ks hk => by have := hk.2; omega) fun ks H5 hk x5 h5 => ⟨x5, ⟨_, _, _, rfl⟩, _, h5, fun m => ?_, ?_⟩
          · rw [mem_foldU, hk.1, hmm, List.take_add_one, hti, List.flatMap_append]
            simp [or_assoc]
          · have := len_foldU ks ms
            have := hk.2
            omega
        · obtain ⟨⟨x4, x5, x6, rfl⟩, ms, hms, hmm, hml⟩ := hP2
          have hlx : xs.length = g.parts.length := (Paired.length hxs).symm
          refine ⟨(ExX.of (e2.trans e3)).trans e4, ⟨_, _, _, _, rfl⟩, ms, hms, fun m => ?_, by omega⟩
          rw [hmm, hlx, List.take_length, tk, rstep, if_pos ((hmem _).mp hin), List.mem_append, hmem]
          rfl
      · rw [hmem, tk, rstep, if_neg fun z => of_decide_eq_false hb2 ((hmem _).mpr z)]
    · obtain ⟨⟨x3, x4, x5, x6, rfl⟩, ns, hns, hmem, hlen2⟩ := hP
      have hlr : fs.reverse.length = b.fns.reverse.length := by rw [List.length_reverse, List.length_reverse]; exact (Paired.length hfs).symm
      rw [hlr, List.take_length] at hmem
      have eH : Ex H H' := ExX.ex eX e1 hd
      have hb' := hb.mono eH
      refine s_retL (xs := (reachV b n).map V.str) ?_ fun q H2 hq2 e2 h2 => hq q H2 (fresh_back eH hq2) (eH.trans e2) h2
      have hfl := filter_names (l := b.fns.map fun (g : Fn) => g.name) (f := fun x => decide (strOf x ∈ ns)) (p := fun m => decide (m ∈ reachL b.fns n)) fun s _ => by
        show decide (s ∈ ns) = decide (s ∈ reachL b.fns n)
        rw [reachL_eq]
        exact decide_eq_decide.mpr (hmem s)
      have hrv : ((b.fns.map fun (g : Fn) => g.name).filter fun m => decide (m ∈ reachL b.fns n)).map V.str = (reachV b n).map V.str := rfl
      rw [← hrv, ← hfl]
      refine el_fm (vs := [6]) (j := 6) (evi_listN (lp_names (ev_var rfl) hb' hl)) (fun x => decide (strOf x ∈ ns)) id (by rw [List.length_map, List.length_map]; omega) (fun _ => rfl) (fun x hx => ?_) (fun x hx _ => ev_var rfl)
      obtain ⟨s, _, rfl⟩ := List.mem_map.mp hx
      exact et_is (et_test (ev_din (ev_var rfl) (ev_var rfl) hns)) tr_val

omit T in
theorem scBookTouched : FnScope ["self", "name", "found", "one", "function", "row", "term", "cell"] ["self", "name"] (defScope sBookTouched) := ⟨rfl, rfl, rfl, by decide +kernel, rfl, by decide +kernel, by decide +kernel⟩
theorem okBookTouched : Met P w K mg base 9 (He.ga K "Book") "touched" (spBookTouched K) [] := by
  obtain ⟨fd, F⟩ := T.DBookTouched
  refine met_of T.cl_Book T.m_Book_touched F (F.bindsN fun _ _ _ _ _ _ us hl => match us, hl with | [_, _], _ => rfl) scBookTouched (fun vs H Q E h => ?_) (fun cdv A outer s H vs Q E hr h => ?_)
  · obtain ⟨b, v, n, rfl, _⟩ := h; rfl
  · refine ⟨_, (pss_cons (ps_set (i := 2) scBookTouched.nd rfl (by first | exact Or.inl rfl | exact Or.inr rfl) pe_dnewK) (pss_cons (ps_for PassesOwn.never rfl (pi_list (pe_mt (okBookReaches T) hr (by decide) (pv 0) (pa_cons (pv 1) pa_nil))) (pg_name (i := 3) scBookTouched.nd rfl (by first | exact Or.inl rfl | exact Or.inr rfl)) (pss_cons (ps_set (i := 4) scBookTouched.nd rfl (by first | exact Or.inl rfl | exact Or.inr rfl) (pe_ownIx (okBookGetitem T) hr (by decide) (pv 0) (pv 3))) (pss_cons (ps_expr (pe_bm PySem.F.plainAttrs_dict PySem.F.slot_dict_update PySem.F.type_dict_update mt_update (pv 2) (pa_cons (pe_dc  (own := [("row", 5)]) (by rfl) scBookTouched.nd (pi_tup (pe_fld (pv 4) rfl)) (blkOk_by (own := [("row", 5)]) (N := ["self", "name", "found", "one", "function", "row", "term", "cell"]) (sc := defScope sBookTouched) (by decide +kernel)) (fun _ _ _ _ _ => (pg_name (i := 5) scBookTouched.nd rfl (by first | exact Or.inl rfl | exact Or.inr rfl))) (fun _ _ _ _ _ => pts_nil) (fun _ _ _ _ _ => (pe_ix (ix_tupK (K := K) rfl) (pv 5) pe_int (fun _ _ => rfl))) (fun _ _ _ _ _ => pe_bl)) pa_nil))) (pss_one (ps_for PassesOwn.never rfl (pi_list (pe_mt0 (okFunctionParts T) hr (by decide) (pv 4))) (pg_name (i := 6) scBookTouched.nd rfl (by first | exact Or.inl rfl | exact Or.inr rfl)) (pss_one (ps_expr (pe_bm PySem.F.plainAttrs_dict PySem.F.slot_dict_update PySem.F.type_dict_update mt_update (pv 2) (pa_cons (pe_dc  (own := [("cell", 7)]) (by rfl) scBookTouched.nd (pi_list (pe_c (okCellsIn T) hr (by decide) rfl (pa_cons (pv 6) pa_nil))) (blkOk_by (own := [("cell", 7)]) (N := ["self", "name", "found", "one", "function", "row", "term", "cell"]) (sc := defScope sBookTouched) (by decide +kernel)) (fun _ _ _ _ _ => (pg_name (i := 7) scBookTouched.nd rfl (by first | exact Or.inl rfl | exact Or.inr rfl))) (fun _ _ _ _ _ => pts_nil) (fun _ _ _ _ _ => (pv 7)) (fun _ _ _ _ _ => pe_bl)) pa_nil))))))))) (pss_one (ps_ret (pe_lc  (own := [("cell", 7)]) (by rfl) scBookTouched.nd (pi_tup (pe_fld (pv 0) rfl)) (blkOk_by (own := [("cell", 7)]) (N := ["self", "name", "found", "one", "function", "row", "term", "cell"]) (sc := defScope sBookTouched) (by decide +kernel)) (fun _ _ _ _ _ => (pg_name (i := 7) scBookTouched.nd rfl (by first | exact Or.inl rfl | exact Or.inr rfl))) (fun _ _ _ _ _ => (pts_one (pt_cmp (pc_din (hu_of hr) (pe_fldK (K := K) rfl (pv 7)) (pv 2))))) (fun _ _ _ _ _ => (pe_fldK (K := K) rfl (pv 7)))))))), ?_⟩
    obtain ⟨b, v, n, rfl, hb, hok, hn, hq⟩ := h
    obtain ⟨p, dx, pc, pf, cs, fs, rfl, hp, hpc, hc, hpf, hfs⟩ := id hb
    have hl := hok.lf
    have hlc := hok.lc
    have hlen : cs.length ≤ 3 := by rw [← Paired.length hc]; exact hlc
    have hrl : (reachV b n).length ≤ 3 := by
      have h1 := List.length_filter_le (fun m => decide (m ∈ reachL b.fns n)) (b.fns.map fun (g : Fn) => g.name)
      rw [List.length_map] at h1
      exact Nat.le_trans h1 hl
    refine q_asgDN fun d H1 hd e1 hd1 => ?_
    have hb1 := hb.mono e1
    refine tFor_lpq (EvL.lp (el_reaches (ev_var rfl) (ev_var rfl) hb1 hok hn)) fun r xs H2 hr0 e2 hr2 hxs => ?_
    subst hxs
    have hd2 := e2 _ _ hd1
    have e02 := e1.trans e2
    have hb2 := hb1.mono e2
    have nr : r ≠ d := fun z => by rw [z, hd1] at hr0; cases hr0
    refine q_forX (d := d) (evix_list ev_c hr2 nr) (fun i σ' H' => (∃ x3 x4 x5 x6 x7, σ' = [some (.ref p), some (.str n), some (.ref d), x3, x4, x5, x6, x7]) ∧ ∃ ns, H' d = some (.dK (trK ns)) ∧ (∀ m, m ∈ ns ↔ ∃ w ∈ (reachV b n).take i, ∃ g, findF b.fns w = some g ∧ m ∈ touchF g) ∧ ns.length ≤ 40 * i) (fun H3 e3 => ⟨⟨none, none, none, none, none, rfl⟩, [], e3 _ _ hd2, fun m => by simp, Nat.le_refl _⟩) (fun i x σ' H' hx eX hP => ?_) (fun σ' H' eX hP => ?_)
    · obtain ⟨⟨x3, x4, x5, x6, x7, rfl⟩, ns, hns, hmem, hnl⟩ := hP
      rw [List.getElem?_map] at hx
      obtain ⟨w, hwi, rfl⟩ := Option.map_eq_some_iff.mp hx
      have hi3 : i < 3 := by
        obtain ⟨h, _⟩ := List.getElem?_eq_some_iff.mp hwi
        omega
      have hwm := reach_mem (List.mem_of_getElem? hwi)
      obtain ⟨g, hg, hgn, hgm⟩ := find_some hwm.1
      have eT : ExT H2 H' := eX.t hd2
      have hb' : BookP K H' b (.ref p) := hb2.monoT eT
      have step : ∀ m, (∃ w ∈ (reachV b n).take (i + 1), ∃ g, findF b.fns w = some g ∧ m ∈ touchF g) ↔ m ∈ ns ∨ m ∈ touchF g := by
        intro m
        rw [hmem, List.take_add_one, hwi]
        constructor
        · rintro ⟨w2, hw2, g2, hg2, hm⟩
          rcases List.mem_append.mp hw2 with h | h
          · exact .inl ⟨w2, h, g2, hg2, hm⟩
          · have e : w2 = w := by simpa using h
            subst e
            rw [hg] at hg2
            cases hg2
            exact .inr hm
        · rintro (⟨w2, hw2, g2, hg2, hm⟩ | hm)
          · exact ⟨w2, List.mem_append.mpr (.inl hw2), g2, hg2, hm⟩
          · exact ⟨w, by simp, g, hg, hm⟩
      refine q_asgP (ep_get (ev_var rfl) hb' (ev_var rfl) hg) fun u H3 e3 hu => ?_
      have hu : FunP K H3 g u := hu
      have hwl := hok.wl hgm
      refine q_upd (i := 2) (Φ := fun ms => (∀ m, m ∈ ms ↔ m ∈ g.wr.map (·.1)) ∧ ms.length ≤ 1) rfl (e3 _ _ hns) (fun Ha ea Q q => ?_) (fun ms hm => by have := hm.2; omega) fun ms H4 hm x4 h4 => ?_
      · have hu := hu.mono ea
        obtain ⟨p1, dx1, pl1, dl1, hl1, z1, pw1, ws1, rfl, hp1, _, _, hpw1, hw1⟩ := hu
        refine ed_names (σ := [some (.ref p), some (.str n), some (.ref d), some (.str w), some (.ref p1), x5, x6, x7]) (ns := g.wr.map (·.1)) (evi_tup (K := K) (ev_fld (ev_var rfl) hp1 T.cl_Function T.n_Function_writes rfl) (st_of hpw1)) (h0 Ha) (h0_wr hw1) (by rw [← Paired.length hw1]; omega) (fun _ => rfl) (fun y hy => ?_) Ha (Ex.refl _) Q fun p2 ms2 Hb a1 a2 a3 a4 => q p2 ms2 Hb a1 a2 a3 ?_
        · obtain ⟨j, hj⟩ := List.getElem?_of_mem hy
          obtain ⟨ww, _, q3, y3, rfl, hq3, _⟩ := Paired.getR hw1 hj
          rw [h0_ref hq3]
          exact ev_op (ev_var rfl) ev_c (rv_ixT (st_of hq3) at0)
        · subst a4
          refine ⟨fun m => by rw [mem_foldU]; simp, Nat.le_trans (len_foldU _ _) ?_⟩
          rw [List.length_nil, List.length_map]; omega
      · have eT4 : ExT H3 H4 := x4.t (e3 _ _ hns)
        have hu4 : FunP K H4 g u := hu.monoT eT4
        refine tFor_lp (lp_parts (ev_var rfl) hu4 hwl) fun pp xs H5 hpp0 e5 hpp hxs => ?_
        have hxs : Paired (TmAt H5) g.parts xs := hxs
        have hd5 := e5 _ _ h4
        have npp : pp ≠ d := fun z => by rw [z, h4] at hpp0; cases hpp0
        have hpl := parts_len hwl
        have hfl := len_foldU ms ns
        have hml := hm.2
        refine s_forX (d := d) (evix_list ev_c hpp npp) (fun j σ2 H4 => (∃ x5 x6 x7, σ2 = [some (.ref p), some (.str n), some (.ref d), some (.str w), some u, x5, x6, x7]) ∧ ∃ ks, H4 d = some (.dK (trK ks)) ∧ (∀ m, m ∈ ks ↔ m ∈ ms.foldl addU ns ∨ m ∈ (g.parts.take j).flatMap cellsT) ∧ ks.length ≤ (ms.foldl addU ns).length + 13 * j) (fun H6 e6 => ⟨⟨_, _, _, rfl⟩, _, e6 _ _ hd5, fun m => by simp, by omega⟩) (fun j y σ2 H6 hy e6 hP2 => ?_) (fun σ2 H6 e6 hP2 => ?_)
        · obtain ⟨⟨x5, x6, x7, rfl⟩, ks, hks, hkm, hkl⟩ := hP2
          obtain ⟨t, hti, hty⟩ := Paired.getR hxs hy
          have hty := hty.monoT (e6.t hd5)
          obtain ⟨td, tz⟩ := hok.parts hgm t (List.mem_of_getElem? hti)
          have hj2 : j < 2 := by
            obtain ⟨h, _⟩ := List.getElem?_eq_some_iff.mp hti
            omega
          refine s_upd rfl hks (ed_lpNames (lp_cellsIn (ev_var rfl) hty td tz) (fun _ => rfl) fun _ => rfl) (fun zs hk => by have := hk.2; omega) fun zs H7 hk x7 h7 => ⟨x7, ⟨_, _, _, rfl⟩, _, h7, fun m => ?_, ?_⟩
          · rw [mem_foldU, hk.1, hkm, List.take_add_one, hti, List.flatMap_append]
            simp [or_assoc]
          · have := len_foldU zs ks
            have := hk.2
            omega
        · obtain ⟨⟨x5, x6, x7, rfl⟩, ks, hks, hkm, hkl⟩ := hP2
          have hlx : xs.length = g.parts.length := (Paired.length hxs).symm
          refine ⟨(ExX.of e3).trans (x4.trans ((ExX.of e5).trans e6)), ⟨_, _, _, _, _, rfl⟩, ks, hks, fun m => ?_, by omega⟩
          rw [hkm, hlx, List.take_length, step, mem_foldU, hm.1, or_assoc]
          show _ ↔ m ∈ ns ∨ m ∈ g.wr.map (·.1) ++ cellsF g
          rw [List.mem_append]
          rfl
    · obtain ⟨⟨x3, x4, x5, x6, x7, rfl⟩, ns, hns, hmem, hnl⟩ := hP
      rw [List.length_map, List.take_length] at hmem
      have eH : Ex H H' := ExX.ex eX e02 (fresh_back (Ex.refl _) hd)
      obtain ⟨p', dx', pc', pf', cs', fs', hpe, hp', hpc', hc', _, _⟩ := hb2.monoT (eX.t hd2)
      cases hpe
      have hlen' : cs'.length ≤ 3 := by rw [← Paired.length hc']; exact hlc
      refine s_retL (xs := (touchL b n).map V.str) ?_ fun q H3 hq2 e3 h3 => hq q H3 (fresh_back eH hq2) (eH.trans e3) h3
      have hfl : (cs'.filter (fun x => decide (cN H' x ∈ ns))).map (fun x => V.str (cN H' x)) = (touchL b n).map V.str := by
        have h1 : ∀ (l : List (Str × Str)) (m : List V), Paired (CelP K H') l m → (m.filter (fun x => decide (cN H' x ∈ ns))).map (fun x => V.str (cN H' x)) = ((l.map (·.1)).filter (touched b n)).map V.str := by
          intro l m hh
          induction hh with
          | nil => rfl
          | @cons c v l m r t ih =>
            have hcn := cN_is r
            have hdec : decide (cN H' v ∈ ns) = touched b n c.1 := by
              rw [hcn, Bool.eq_iff_iff, decide_eq_true_eq, hmem, touch_iff]
            rw [List.map_cons]
            cases q : touched b n c.1 with
            | true => rw [List.filter_cons_of_pos (by rw [hdec, q]), List.filter_cons_of_pos q, List.map_cons, List.map_cons, ih, hcn]
            | false => rw [List.filter_cons_of_neg (by rw [hdec, q]; exact Bool.false_ne_true), List.filter_cons_of_neg (by rw [q]; exact Bool.false_ne_true), ih]
        exact h1 _ _ hc'
      rw [← hfl]
      refine el_fm (vs := [7]) (j := 7) (evi_tup (ev_fld (ev_var rfl) hp' T.cl_Book T.n_Book_cell_row rfl) (st_of hpc')) (fun x => decide (cN H' x ∈ ns)) (fun x => .str (cN H' x)) (by omega) (fun _ => rfl) (fun x hx => ?_) (fun x hx _ => ?_)
      · obtain ⟨i, hi⟩ := List.getElem?_of_mem hx
        obtain ⟨c, _, hcx⟩ := Paired.getR hc' hi
        rw [cN_is hcx]
        exact et_is (et_test (ev_din (ev_cname T (ev_var rfl) hcx) (ev_var rfl) hns)) tr_val
      · obtain ⟨i, hi⟩ := List.getElem?_of_mem hx
        obtain ⟨c, _, hcx⟩ := Paired.getR hc' hi
        rw [cN_is hcx]
        exact ev_cname T (ev_var rfl) hcx

end
end SC
set_option Elab.async false
set_option linter.all false
set_option maxRecDepth 100000
set_option maxHeartbeats 1000000
/-! W4a: states and arguments checked, scenes made. -/
namespace SC
open PySem PySem.Spec PyProof.Rows L2 C8 Evl


structure StOk (cs : List Str) (s : Sta) : Prop where
  ks : keysS s = cs
  vl : ∀ p ∈ s, 0 ≤ p.2 ∧ p.2 ≤ 2
theorem StOk.set {cs : List Str} {s : Sta} (h : StOk cs s) {c : Str} {v : Int} (hc : c ∈ cs) (hv : 0 ≤ v ∧ v ≤ 2) : StOk cs (setS s c v) :=
  ⟨by rw [keys_setS_mem (by rw [h.ks]; exact hc), h.ks], vals_setS (P := fun v => 0 ≤ v ∧ v ≤ 2) h.vl hv⟩
theorem StOk.look {cs : List Str} {s : Sta} (h : StOk cs s) {c : Str} (hc : c ∈ cs) : 0 ≤ SC.look s c ∧ SC.look s c ≤ 2 := by
  obtain ⟨v, _, e, hm⟩ := look_mem (s := s) (c := c) (by rw [h.ks]; exact hc)
  rw [e]; exact h.vl _ hm
theorem StOk.val {cs : List Str} {s : Sta} (h : StOk cs s) {c : Str} (hc : c ∈ cs) : valV (stV s) (Sum.inr c : Key) = some (.int (SC.look s c)) := stV_look (by rw [h.ks]; exact hc)
theorem StOk.len {cs : List Str} {s : Sta} (h : StOk cs s) : s.length = cs.length := by rw [← h.ks]; simp [keysS]
def spCheckState (K : PySem.W.Frag) : Sp := fun vs H Q _ => ∃ pc cl cs ps s, vs = [.ref pc, .ref ps] ∧ H pc = some (.lst cs) ∧ Paired (CelP K H) cl cs ∧ H ps = some (.dK (stV s)) ∧ StOk (cl.map (·.1)) s ∧ RetV .non H Q
def ArgOk (many : Nat) (args : List Int) : Prop := args.length = many ∧ ∀ a ∈ args, 0 ≤ a ∧ a ≤ 2
def spCheckedArguments (K : PySem.W.Frag) : Sp := fun vs H Q _ => ∃ b v n g pa args, vs = [v, .str n, .ref pa] ∧ BookP K H b v ∧ findF b.fns n = some g ∧ H pa = some (.tup (args.map V.int)) ∧ ArgOk g.many args ∧ g.many ≤ 2 ∧ RetL (args.map V.int) H Q
def ScF (bv : V) (dh : Addr) (t : Int) : List (Str × V) := [("book", bv), ("held", .ref dh), ("tick_now", .int t), ("view_held", .non)]
def spSceneInit (K : PySem.W.Frag) : Sp := fun vs H Q _ => ∃ x dx bv hs kvs t, vs = [.ref x, bv, .ref hs, .int t, .non] ∧ H x = some (.ins (He.ga K "Scene") dx []) ∧ H hs = some (.dK kvs) ∧
  ∀ dh H2, ExX x H H2 → H dh = none → H2 x = some (.ins (He.ga K "Scene") dx (ScF bv dh t)) → H2 dh = some (.dK kvs) → Q .non H2
theorem ev_fmget {K : PySem.W.Frag} {mg : Str → Option Value} (T : Tx K mg) {σ : L2.St} {H : Hp} {ta tb : TE} {b : Bk} {v : V} {n : Str} {g : Fn} (h : Ev ta σ H v) (hb : BookP K H b v) (hk : Ev tb σ H (.str n)) (hf : findF b.fns n = some g) : Ev (tFld K (tOwnIx (He.ga K "Book") (spBookGetitem K) ta tb) "arguments") σ H (.int (g.many : Int)) := fun H1 e Q q =>
  ep_get h hb hk hf H1 e _ fun u H2 e2 hu => by
    obtain ⟨p, dx, pl, dl, hl', x, pw, ws, rfl, hp, _⟩ := hu
    exact ⟨p, _, dx, _, _, rfl, hp, T.cl_Function, T.n_Function_arguments, rfl, q H2 e2⟩
theorem ev_lenD {σ : L2.St} {H : Hp} {te : TE} {p : Addr} {kvs : List (Key × V)} (h : Ev te σ H (.ref p)) (hp : H p = some (.dK kvs)) : Ev (tCB (fun xs H Q => ∃ a kvs, xs = [V.ref a] ∧ H a = some (.dK kvs) ∧ Q (.int kvs.length) H) (tCons te tNil)) σ H (.int (kvs.length : Nat)) := fun H1 e Q q =>
  h H1 e _ fun H2 e2 => ⟨p, kvs, rfl, (e.trans e2) _ _ hp, q H2 e2⟩
theorem ed_dict {σ : L2.St} {H : Hp} {te : TE} {p : Addr} {kvs : List (Key × V)} (h : Ev te σ H (.ref p)) (hp : H p = some (.dK kvs)) : EvD (tCB (fun xs H Q => ∃ (a : Addr) (kvs : List (Key × V)), xs = [V.ref a] ∧ Rd H a (.dK kvs) ∧ ∀ p, H p = none → Q (.ref p) (upd H p (.dK kvs))) (tCons te tNil)) σ H kvs := fun H1 e Q q =>
  h H1 e _ fun H2 e2 => ⟨p, kvs, rfl, .inl ((e.trans e2) _ _ hp), fun d hd => q d _ (fresh_back e2 hd) (e2.trans (Ex.new hd)) upd_same⟩

section
variable {P : Program} {w : World} {K : PySem.W.Frag} {mg : Str → Option Value} {base : Heap} (T : Tx K mg)
include T

omit T in
theorem scCheckState : FnScope ["cells", "state", "cell"] ["cells", "state"] (defScope sCheckState) := ⟨rfl, rfl, rfl, by decide +kernel, rfl, by decide +kernel, by decide +kernel⟩
theorem okCheckState : Cal P w K mg base 4 "check_state" (spCheckState K) [] := by
  obtain ⟨fd, F⟩ := T.DCheckState
  refine cal_of T.g_check_state F (F.bindsN fun _ _ _ _ _ _ us hl => match us, hl with | [_, _], _ => rfl) scCheckState (fun vs H Q E h => ?_) (fun cdv A outer s H vs Q E hr h => ?_)
  · obtain ⟨pc, cl, cs, ps, s, rfl, _⟩ := h; rfl
  · refine ⟨_, (pss_cons (ps_if (PW.pt (pw_or (pt_not (pt_val (pe_callB call_isi rfl T.f_isinstance (by decide +kernel) (pa_cons (pv 1) (pa_cons (pe_bltn (v := .ty "dict") (u := .type "dict") rfl T.f_dict (by decide +kernel) rfl) pa_nil))))) (pw_or1 (pt_cmpR op_ne (pe_callB call_lenD rfl T.f_len (by decide +kernel) (pa_cons (pv 1) pa_nil)) (pe_callB call_len rfl T.f_len (by decide +kernel) (pa_cons (pv 0) pa_nil)) (nomark _))))) (pss_one ps_never) pss_nil) (pss_one (ps_for PassesOwn.never rfl (pi_list (pv 0)) (pg_name (i := 2) scCheckState.nd rfl (by first | exact Or.inl rfl | exact Or.inr rfl)) (pss_one (ps_if (PW.pt (pw_or (pt_cmp (pc_dnotin (hu_of hr) (pe_fld (pv 2) rfl) (pv 1))) (pw_or1 (pt_not (pt_val (pe_c (okIsValue T) hr (by decide) rfl (pa_cons (pe_dget (hu_of hr) (pv 1) (pe_fld (pv 2) rfl) (fun _ _ => rfl)) pa_nil))))))) (pss_one ps_never) pss_nil))))), ?_⟩
    obtain ⟨pc, cl, cs, ps, st, rfl, hpc, hc, hps, hst, hq⟩ := h
    refine q_when (b := false) (et_is (et_or (et_not (a := true) (et_B (ev_isi true (ev_var rfl) (ty_dK hps) (kit_ty (by decide +kernel))))) fun _ => et_test (ev_op (ev_lenD (ev_var rfl) hps) (ev_len2 (ev_var rfl) (sq_of hpc)) (rv_ne rfl))) ?_) (fun z => by cases z) fun _ H1 e1 => ?_
    · rw [stV_len, hst.len, List.length_map, Paired.length hc, decide_eq_true rfl]; rfl
    refine s_forI (evi_list (ev_var rfl) (sq_of (e1 _ _ hpc))) (fun i σ' H' => Ex H1 H' ∧ ∃ x2, σ' = [some (.ref pc), some (.ref ps), x2]) (fun H2 e2 => ⟨e2, none, rfl⟩) (fun i x σ' H' hx eH hP => ?_) (fun σ' H' eH hP => hq H' (e1.trans eH))
    obtain ⟨e2, x2, rfl⟩ := hP
    obtain ⟨c, hci, hcx⟩ := Paired.getR hc hx
    have hcx := hcx.mono (e1.trans e2)
    have hps' := (e1.trans e2) _ _ hps
    have hcm : c.1 ∈ cl.map (·.1) := List.mem_map.mpr ⟨c, List.mem_of_getElem? hci, rfl⟩
    have hlk := hst.look hcm
    refine s_when (b := false) (et_is (et_or (et_test (ev_dnotin (ev_cname T (ev_var rfl) hcx) (ev_var rfl) hps')) fun _ => et_not (et_B (ev_call (ea_cons (ev_dget (ev_var rfl) (ev_cname T (ev_var rfl) hcx) hps' (hst.val hcm)) ea_nil) (spv_isValue (.inl ⟨_, rfl, rfl⟩))))) ?_) (fun z => by cases z) fun _ H3 e3 => ⟨e3, e2.trans e3, _, rfl⟩
    rw [hst.val hcm]
    show (!true || !(decide (0 ≤ look st c.1) && decide (look st c.1 ≤ 2))) = false
    rw [decide_eq_true hlk.1, decide_eq_true hlk.2]; rfl

omit T in
theorem scCheckedArguments : FnScope ["book", "name", "arguments", "many", "value"] ["book", "name", "arguments"] (defScope sCheckedArguments) := ⟨rfl, rfl, rfl, by decide +kernel, rfl, by decide +kernel, by decide +kernel⟩
theorem okCheckedArguments : Cal P w K mg base 4 "checked_arguments" (spCheckedArguments K) [] := by
  obtain ⟨fd, F⟩ := T.DCheckedArguments
  refine cal_of T.g_checked_arguments F (F.bindsN fun _ _ _ _ _ _ us hl => match us, hl with | [_, _, _], _ => rfl) scCheckedArguments (fun vs H Q E h => ?_) (fun cdv A outer s H vs Q E hr h => ?_)
  · obtain ⟨b, v, n, g, pa, args, rfl, _⟩ := h; rfl
  · refine ⟨_, (pss_cons (ps_set (i := 3) scCheckedArguments.nd rfl (by first | exact Or.inl rfl | exact Or.inr rfl) (pe_fld (pe_ownIx (okBookGetitem T) hr (by decide) (pv 0) (pv 1)) rfl)) (pss_cons (ps_if (PW.pt (pw_or (pt_not (pt_val (pe_callB call_isiT rfl T.f_isinstance (by decide +kernel) (pa_cons (pv 2) (pa_cons (pe_tup (pa_cons (pe_bltn (v := .ty "list") (u := .type "list") rfl T.f_list (by decide +kernel) rfl) (pa_cons (pe_bltn (v := .ty "tuple") (u := .type "tuple") rfl T.f_tuple (by decide +kernel) rfl) pa_nil))) pa_nil))))) (pw_or1 (pt_cmpR op_ne (pe_callB call_len rfl T.f_len (by decide +kernel) (pa_cons (pv 2) pa_nil)) (pv 3) (nomark _))))) (pss_one ps_never) pss_nil) (pss_cons (ps_if (pt_not (pt_val (pe_callB (cr_all rfl) rfl T.f_all (by decide +kernel) (pa_cons (pe_lc  (own := [("value", 4)]) (by rfl) scCheckedArguments.nd (pi_tup (pv 2)) (blkOk_by (own := [("value", 4)]) (N := ["book", "name", "arguments", "many", "value"]) (sc := defScope sCheckedArguments) (by decide +kernel)) (fun _ _ _ _ _ => (pg_name (i := 4) scCheckedArguments.nd rfl (by first | exact Or.inl rfl | exact Or.inr rfl))) (fun _ _ _ _ _ => pts_nil) (fun _ _ _ _ _ => (pe_c (okIsValue T) hr (by decide) rfl (pa_cons (pv 4) pa_nil)))) pa_nil)))) (pss_one ps_never) pss_nil) (pss_one (ps_ret (pe_callTy call_list_of rfl T.f_list (by decide +kernel) (pa_cons (pv 2) pa_nil))))))), ?_⟩
    obtain ⟨b, v, n, g, pa, args, rfl, hb, hf, hpa, ⟨hal, hav⟩, hm, hq⟩ := h
    refine q_asg (ev_fmget T (ev_var rfl) hb (ev_var rfl) hf) fun H1 e1 => ?_
    have hpa1 := e1 _ _ hpa
    refine q_when (b := false) (et_is (et_or (et_not (a := true) (et_B (ev_isiLT (ev_var rfl) (ty_tup hpa1) kit_lt_tup))) fun _ => et_test (ev_op (ev_lenT (ev_var rfl) (st_of hpa1)) (ev_var rfl) (rv_ne rfl))) ?_) (fun z => by cases z) fun _ H2 e2 => ?_
    · rw [List.length_map, hal, decide_eq_true rfl]; rfl
    refine q_when (b := false) (et_not (a := true) (et_B (ev_allT (el_map (vs := [4]) (j := 4) (evi_tup (ev_var rfl) (st_of (e2 _ _ hpa1))) (fun _ => .bl true) (by rw [List.length_map]; omega) (fun _ => rfl) fun x hx => ?_)))) (fun z => by cases z) fun _ H3 e3 => ?_
    · obtain ⟨a, ha, rfl⟩ := List.mem_map.mp hx
      have := hav a ha
      refine ev_is (ev_call (ea_cons (ev_var rfl) ea_nil) (spv_isValue (K := K) (.inl ⟨_, rfl, rfl⟩))) ?_
      show V.bl (decide (0 ≤ a) && decide (a ≤ 2)) = V.bl true
      rw [decide_eq_true this.1, decide_eq_true this.2]; rfl
    exact s_retL (el_listT (ev_var rfl) (st_of (e3 _ _ (e2 _ _ hpa1)))) fun q H4 hq4 e4 h4 => hq q H4 (fresh_back ((e1.trans e2).trans e3) hq4) (((e1.trans e2).trans e3).trans e4) h4

omit T in
theorem scSceneInit : FnScope ["self", "book", "held", "tick_now", "view_held"] ["self", "book", "held", "tick_now", "view_held"] (defScope sSceneInit) := ⟨rfl, rfl, rfl, by decide +kernel, rfl, by decide +kernel, by decide +kernel⟩
theorem okSceneInit : Mak P w K mg base 1 "Scene" (He.ga K "Scene") (spSceneInit K) [] := by
  obtain ⟨fd, F⟩ := T.DSceneInit
  refine mak_of T.mk_Scene T.g_Scene F (F.bindsN fun _ _ _ _ _ _ us hl => match us, hl with | [_, _, _, _, _], _ => rfl) scSceneInit (fun vs H Q E h => ?_) (fun cdv A outer s H vs Q E hr h => ?_)
  · obtain ⟨x, dx, bv, hs, kvs, t, rfl, _⟩ := h; rfl
  · refine ⟨_, (pss_cons (ps_fld (pv 0) (pv 1) rfl) (pss_cons (ps_fld (pv 0) (pe_callTy call_dictD rfl T.f_dict (by decide +kernel) (pa_cons (pv 2) pa_nil)) rfl) (pss_cons (ps_fld (pv 0) (pv 3) rfl) (pss_one (ps_fld (pv 0) (pv 4) rfl))))), ?_⟩
    obtain ⟨x, dx, bv, hs, kvs, t, rfl, hx, hhs, hq⟩ := h
    refine q_fld (ev_var rfl) (ev_var rfl) hx T.cl_Scene T.n_Scene_book (show 0 < 1000 by decide) fun H1 x1 h1 => ?_
    have h1 : H1 x = some (.ins (He.ga K "Scene") dx [("book", bv)]) := h1
    have hhs1 : H1 hs = some (.dK kvs) := x1 _ _ (fun z => by rw [z, hx] at hhs; cases hhs) hhs
    refine q_fldP (Φ := fun v H2 => ∃ dh, v = .ref dh ∧ H1 dh = none ∧ H2 dh = some (.dK kvs)) (fun Ha ea Q q => ed_dict (ev_var rfl) hhs1 Ha ea Q fun d H2 hd e2 h2 => q _ H2 e2 ⟨d, rfl, fresh_back ea hd, h2⟩) (ev_var rfl) h1 T.cl_Scene T.n_Scene_held (show 1 < 1000 by decide) fun y H2 H3 e2 hy x3 h3 => ?_
    obtain ⟨dh, rfl, hdh, hdh2⟩ := hy
    have h3 : H3 x = some (.ins (He.ga K "Scene") dx [("book", bv), ("held", .ref dh)]) := h3
    have nd : dh ≠ x := fun z => by rw [z, h1] at hdh; cases hdh
    refine q_fld (ev_var rfl) (ev_var rfl) h3 T.cl_Scene T.n_Scene_tick_now (show 2 < 1000 by decide) fun H4 x4 h4 => ?_
    have h4 : H4 x = some (.ins (He.ga K "Scene") dx [("book", bv), ("held", .ref dh), ("tick_now", .int t)]) := h4
    refine s_fld (ev_var rfl) (ev_var rfl) h4 T.cl_Scene T.n_Scene_view_held (show 3 < 1000 by decide) fun H5 x5 h5 => ?_
    refine hq dh H5 (x1.trans ((ExX.of e2).trans (x3.trans (x4.trans x5)))) ?_ h5 (x5 _ _ nd (x4 _ _ nd (x3 _ _ nd hdh2)))
    cases q : H dh with
    | none => rfl
    | some o => rw [x1 _ _ nd q] at hdh; cases hdh

end
end SC
set_option Elab.async false
set_option linter.all false
set_option maxRecDepth 100000
set_option maxHeartbeats 1000000
/-! S01: running keeps states and values in their range. -/
namespace SC
open PySem
theorem TmOk.mono {cs : List Str} {a a' : List Fn} (h : ∀ g ∈ a, g ∈ a') {many : Nat} : ∀ {t : Tm}, TmOk cs a many t → TmOk cs a' many t
  | .lf l, ht => ht
  | .call f as, ⟨⟨g, hg, e1, e2⟩, h2⟩ => ⟨⟨g, h g hg, e1, e2⟩, h2⟩
  | .op o x y, ht => ⟨TmOk.mono h ht.1, TmOk.mono h ht.2⟩
  | .ite c x y, ht => ⟨TmOk.mono h ht.1, TmOk.mono h ht.2.1, TmOk.mono h ht.2.2⟩
def V3 (v : Int) : Prop := 0 ≤ v ∧ v ≤ 2
def CfOk (cs : List Str) (ahead : List Fn) (cf : CallF) : Prop := ∀ f args s, (∃ g ∈ ahead, g.name = f ∧ args.length = g.many) → (∀ a ∈ args, V3 a) → StOk cs s → V3 (cf f args s).1 ∧ StOk cs (cf f args s).2
theorem lfV_ok {cs : List Str} {many : Nat} {l : Lf} {args : List Int} {t : Int} {s : Sta} (h : LfOk cs many l) (ha : ArgOk many args) (hs : StOk cs s) : V3 (lfV args t s l) := by
  cases l with
  | val n => exact h
  | arg i =>
    have hi : i < args.length := by rw [ha.1]; exact h
    show V3 (args.getD i 0)
    rw [List.getD_eq_getElem?_getD, List.getElem?_eq_getElem hi]
    exact ha.2 _ (List.getElem_mem hi)
  | cel c => exact hs.look h
  | tick => show V3 (t % 3); unfold V3; omega
theorem ev_ok {cs : List Str} {ahead : List Fn} {cf : CallF} (hc : CfOk cs ahead cf) {many : Nat} {args : List Int} {t : Int} (ha : ArgOk many args) : ∀ {tm : Tm} {s : Sta}, TmOk cs ahead many tm → StOk cs s → V3 (ev cf args t tm s).1 ∧ StOk cs (ev cf args t tm s).2
  | .lf l, s, h, hs => ⟨lfV_ok h ha hs, hs⟩
  | .call f as, s, ⟨⟨g, hg, e1, e2⟩, h2⟩, hs => hc f _ s ⟨g, hg, e1, by rw [List.length_map, e2]⟩ (fun a hm => by obtain ⟨l, hl, rfl⟩ := List.mem_map.mp hm; exact lfV_ok (h2 l hl) ha hs) hs
  | .op o a b, s, h, hs => by
    have h1 := ev_ok (t := t) hc ha h.1 hs
    have h2 := ev_ok (t := t) hc ha h.2 h1.2
    refine ⟨?_, h2.2⟩
    have key : ∀ x y : Int, V3 (o.app x y) := fun x y => by
      cases o with
      | plus => show 0 ≤ (x + y) % 3 ∧ (x + y) % 3 ≤ 2; omega
      | less => show V3 (if x < y then 1 else 0); unfold V3; split <;> omega
      | same => show V3 (if x = y then 1 else 0); unfold V3; split <;> omega
    exact key _ _
  | .ite c a b, s, h, hs => by
    have h1 := ev_ok (t := t) hc ha h.1 hs
    rw [ev]
    split
    · exact ev_ok hc ha h.2.1 h1.2
    · exact ev_ok hc ha h.2.2 h1.2
theorem wrs_snoc {cf : CallF} {args : List Int} {t : Int} (w : Str × Tm) : ∀ (l : List (Str × Tm)) (s : Sta), wrs cf args t (l ++ [w]) s = setS (ev cf args t w.2 (wrs cf args t l s)).2 w.1 (ev cf args t w.2 (wrs cf args t l s)).1
  | [], s => rfl
  | a :: r, s => by
    show wrs cf args t (r ++ [w]) _ = _
    rw [wrs_snoc w r]
    rfl
theorem wrs_ok {cs : List Str} {ahead : List Fn} {cf : CallF} (hc : CfOk cs ahead cf) {many : Nat} {args : List Int} {t : Int} (ha : ArgOk many args) : ∀ {l : List (Str × Tm)} {s : Sta}, (∀ w ∈ l, w.1 ∈ cs ∧ TmOk cs ahead many w.2) → StOk cs s → StOk cs (wrs cf args t l s)
  | [], s, _, hs => hs
  | w :: r, s, h, hs => by
    have hw := h w List.mem_cons_self
    have h1 := ev_ok (t := t) hc ha hw.2 hs
    exact wrs_ok (l := r) hc ha (fun x hx => h x (List.mem_cons_of_mem w hx)) (h1.2.set hw.1 h1.1)
/-- a function among the first -/
theorem BOk.at_ {b : Bk} (h : BOk b) {i : Nat} {g : Fn} (hg : g ∈ b.fns.take (i + 1)) : GOk b.cells (b.fns.take i) g := by
  obtain ⟨j, hj⟩ := List.getElem?_of_mem hg
  rw [List.getElem?_take] at hj
  split at hj
  · rename_i hlt
    have ok := h.fn j g hj
    have sub : ∀ a ∈ b.fns.take j, a ∈ b.fns.take i := fun a ha => by
      have : b.fns.take j = (b.fns.take i).take j := by rw [List.take_take]; congr 1; omega
      rw [this] at ha
      exact List.mem_of_mem_take ha
    exact ⟨ok.many, ok.res.mono sub, ok.rd, ok.rs, ok.wl, fun w hw => let ⟨h1, h2, h3, h4⟩ := ok.wr w hw; ⟨h1, h2.mono sub, h3, h4⟩, ok.label, ok.cost⟩
  · cases hj
theorem GOk.ws {cells : List (Str × Str)} {ahead : List Fn} {g : Fn} (h : GOk cells ahead g) : ∀ w ∈ g.wr, w.1 ∈ cells.map (·.1) ∧ TmOk (cells.map (·.1)) ahead g.many w.2 := fun w hw =>
  let ⟨h1, h2, _, _⟩ := h.wr w hw
  ⟨List.mem_map.mpr ⟨_, h1, rfl⟩, h2⟩
theorem ran_ok {b : Bk} (h : BOk b) {t : Int} {i : Nat} (hc : CfOk (b.cells.map (·.1)) (b.fns.take i) (callN b.fns t i)) {g : Fn} (hg : g ∈ b.fns.take (i + 1)) {args : List Int} (ha : ArgOk g.many args) {s : Sta} (hs : StOk (b.cells.map (·.1)) s) :
    V3 (ran b.fns t i g args s).1 ∧ StOk (b.cells.map (·.1)) (ran b.fns t i g args s).2 := by
  have ok := h.at_ hg
  have h1 := ev_ok hc ha ok.res hs (t := t)
  exact ⟨h1.1, wrs_ok hc ha ok.ws h1.2⟩
theorem find_take {b : Bk} (h : BOk b) {i : Nat} {f : Str} (hf : ∃ g ∈ b.fns.take i, g.name = f) : ∃ g, findF b.fns f = some g ∧ g ∈ b.fns.take i ∧ g.name = f := by
  obtain ⟨g, hg, rfl⟩ := hf
  exact ⟨g, find_name h.ndf (List.mem_of_mem_take hg), hg, rfl⟩
theorem find_uni {b : Bk} (h : BOk b) {g g' : Fn} (h1 : g ∈ b.fns) (h2 : g' ∈ b.fns) (e : g.name = g'.name) : g = g' := by
  have a1 := find_name h.ndf h1
  have a2 := find_name h.ndf h2
  rw [e, a2] at a1
  exact (Option.some.inj a1).symm
theorem callN_ok {b : Bk} (h : BOk b) (t : Int) : ∀ i, CfOk (b.cells.map (·.1)) (b.fns.take i) (callN b.fns t i)
  | 0 => fun f args s ⟨g, hg, _⟩ => by rw [List.take_zero] at hg; cases hg
  | i + 1 => fun f args s ⟨g, hg, e, hl⟩ ha hs => by
    subst e
    rw [callN_some (find_name h.ndf (List.mem_of_mem_take hg))]
    exact ran_ok h (callN_ok h t i) hg ⟨hl, ha⟩ hs
end SC
set_option Elab.async false
set_option linter.all false
set_option maxRecDepth 100000
set_option maxHeartbeats 1000000
/-! W4b: running. -/
namespace SC
open PySem PySem.Spec PyProof.Rows L2 C8 Evl


structure ScAt (K : PySem.W.Frag) (b : Bk) (p dx : Addr) (bv : V) (dh : Addr) (t : Int) (s : Sta) (H : Hp) : Prop where
  at_ : H p = some (.ins (He.ga K "Scene") dx (ScF bv dh t))
  bk : BookP K H b bv
  hd : H dh = some (.dK (stV s))
  ok : BOk b
  st : StOk (b.cells.map (·.1)) s
theorem ScAt.go {K : PySem.W.Frag} {b : Bk} {p dx : Addr} {bv : V} {dh : Addr} {t : Int} {s s' : Sta} {H H' : Hp} (h : ScAt K b p dx bv dh t s H) (e : ExX dh H H') (hd : H' dh = some (.dK (stV s'))) (hs : StOk (b.cells.map (·.1)) s') : ScAt K b p dx bv dh t s' H' :=
  ⟨e _ _ (fun z => by have := h.hd; rw [← z, h.at_] at this; cases this) h.at_, h.bk.monoT (e.t h.hd), hd, h.ok, hs⟩
theorem ScAt.mono {K : PySem.W.Frag} {b : Bk} {p dx : Addr} {bv : V} {dh : Addr} {t : Int} {s : Sta} {H H' : Hp} (h : ScAt K b p dx bv dh t s H) (e : Ex H H') : ScAt K b p dx bv dh t s H' := h.go (ExX.of e) (e _ _ h.hd) h.st
def RanV (dh : Addr) (H : Hp) (r : Int × Sta) (Q : VK) : Prop := ∀ H2, ExX dh H H2 → H2 dh = some (.dK (stV r.2)) → Q (.int r.1) H2
def spWorked (K : PySem.W.Frag) (i d : Nat) : Sp := fun vs H Q _ => ∃ b p dx bv dh t s v pa tm args many, vs = [.ref p, v, .ref pa] ∧ ScAt K b p dx bv dh t s H ∧ TmAt H tm v ∧ TmOk (b.cells.map (·.1)) (b.fns.take i) many tm ∧ tm.depth ≤ d ∧ H pa = some (.lst (args.map V.int)) ∧ ArgOk many args ∧ many ≤ 2 ∧
  RanV dh H (ev (callN b.fns t i) args t tm s) Q
def spCalled (K : PySem.W.Frag) (i : Nat) : Sp := fun vs H Q _ => ∃ b p dx bv dh t s pa args g, vs = [.ref p, .str g.name, .ref pa] ∧ ScAt K b p dx bv dh t s H ∧ g ∈ b.fns.take i ∧ H pa = some (.lst (args.map V.int)) ∧ ArgOk g.many args ∧ RanV dh H (callN b.fns t i g.name args s) Q
def spRun (K : PySem.W.Frag) (i : Nat) : Sp := fun vs H Q _ => ∃ b p dx bv dh t s v pa args g, vs = [.ref p, v, .ref pa] ∧ ScAt K b p dx bv dh t s H ∧ FunP K H g v ∧ g ∈ b.fns.take (i + 1) ∧ H pa = some (.lst (args.map V.int)) ∧ ArgOk g.many args ∧ RanV dh H (ran b.fns t i g args s) Q
/-- a value, and the cells held thereafter -/
def EvW (dh : Addr) (te : TE) (σ : L2.St) (H : Hp) (r : Int × Sta) : Prop := ∀ H1, Ex H H1 → ∀ Q : VK, RanV dh H1 r Q → te σ H1 Q
section
variable {K : PySem.W.Frag} {σ : L2.St} {H : Hp} {te ta tb tc : TE} {dh : Addr} {r : Int × Sta} {tz : TS} {D : Ends}
theorem ew_ev {v : Int} {s : Sta} (h : EvW dh te σ H (v, s)) (hd : H dh = some (.dK (stV s))) : Ev te σ H (.int v) := fun H1 e Q q => h H1 e Q fun H2 x h2 => q H2 fun a o ha => by
  by_cases z : a = dh
  · subst z
    rw [e _ _ hd] at ha
    cases ha
    exact h2
  · exact x a o z ha
theorem q_asgW {i : Nat} (h : EvW dh te σ H r) (k : ∀ H1, ExX dh H H1 → H1 dh = some (.dK (stV r.2)) → tz D (σ.set i (some (.int r.1))) H1) : tSeq (tAsg te (gName i)) tz D σ H := h H (Ex.refl H) _ k
theorem s_retW (h : EvW dh te σ H r) (k : ∀ H1, ExX dh H H1 → H1 dh = some (.dK (stV r.2)) → D.rt (.int r.1) H1) : tRet te D σ H := h H (Ex.refl H) _ k
theorem e_ifW {v : Int} {s' : Sta} {W : TE} {Q : VK} (h : EvW dh W σ H (v, s')) (k1 : v ≠ 0 → ∀ H1, ExX dh H H1 → H1 dh = some (.dK (stV s')) → ta σ H1 Q) (k2 : v = 0 → ∀ H1, ExX dh H H1 → H1 dh = some (.dK (stV s')) → tb σ H1 Q) : tIf (tTest (tOp rNe W (tC (.int 0)))) ta tb σ H Q :=
  h H (Ex.refl H) _ fun H1 x1 h1 => ⟨rfl, _, rfl, by
    by_cases z : v = 0
    · subst z
      show if (!decide (V.int 0 = V.int 0)) = true then ta σ H1 Q else tb σ H1 Q
      rw [decide_eq_true rfl, if_neg (by simp)]
      exact k2 rfl H1 x1 h1
    · show if (!decide (V.int v = V.int 0)) = true then ta σ H1 Q else tb σ H1 Q
      rw [decide_eq_false (fun e => z (by injection e)), if_pos (by simp)]
      exact k1 z H1 x1 h1⟩
theorem el_pair {α : Type} {F : α → V → Prop} {l : List α} {wi : TI} {xs : List V} {vs : List Nat} {j : Nat} (hi : EvI wi σ H xs) (hp : Paired F l xs) (φ : α → V) (hz : xs.length ≤ 50000) (hw : ∀ x, wipe ((wipe σ vs).set j (some x)) vs = wipe σ vs)
    (he : ∀ a x, a ∈ l → F a x → Ev te ((wipe σ vs).set j (some x)) H (φ a)) : EvL (tLc wi (gName j) tYes te vs) σ H (l.map φ) := by
  have h := lc_gen (tt := tYes) (te := te) hi (fun i acc _ => acc = (l.take i).map φ) (fun _ _ _ _ _ z => z) (fun _ _ => rfl) hz hw fun i x acc H1 hx e hl hi => ?_
  · rw [← Paired.length hp, List.take_length] at h
    exact h.l
  · obtain ⟨a, ha, hax⟩ := Paired.getR hp hx
    refine ⟨true, et_yes, fun _ H2 e2 Q q => he a x (List.mem_of_getElem? ha) hax H2 (e.trans e2) Q fun H3 e3 => q _ H3 e3 ?_, fun z => by cases z⟩
    rw [hi, List.take_add_one, ha, List.map_append]; rfl
theorem rc_intB {k : Bool} : RC (fun xs H Q => (∃ i, xs = [V.int i] ∧ Q (.int i) H) ∨ ∃ k, xs = [V.bl k] ∧ Q (.int (if k then 1 else 0)) H) [.bl k] H (.int (if k then 1 else 0)) := fun H1 _ _ q => .inr ⟨k, rfl, q H1 (Ex.refl _)⟩
theorem ew_called {i : Nat} {b : Bk} {p dx : Addr} {bv : V} {t : Int} {s : Sta} {g : Fn} {args : List Int} (hp : Ev ta σ H (.ref p)) (hv : Ev tb σ H (.str g.name)) (hl : EvL tc σ H (args.map V.int)) (sc : ScAt K b p dx bv dh t s H) (hg : g ∈ b.fns.take i) (hag : ArgOk g.many args) :
    EvW dh (tMeth (He.ga K "Scene") "called" (spCalled K i) [] C8.E0 ta (tCons tb (tCons tc tNil))) σ H (callN b.fns t i g.name args s) := fun H1 e Q q =>
  hp H1 e _ fun H2 e2 => ⟨p, dx, _, rfl, ((e.trans e2) _ _ sc.at_), rfl, hv H2 (e.trans e2) _ fun H3 e3 => hl H3 ((e.trans e2).trans e3) _ fun pa H4 _ e4 hpa => by
    have e14 := (e2.trans e3).trans e4
    exact ⟨b, p, dx, bv, dh, t, s, pa, args, g, rfl, sc.mono (e.trans e14), hg, hpa, hag, fun H5 x5 h5 => q H5 ((ExX.of e14).trans x5) h5⟩⟩
theorem ew_worked {i d : Nat} {b : Bk} {p dx : Addr} {bv v : V} {t : Int} {s : Sta} {pa : Addr} {tm : Tm} {args : List Int} {many : Nat} (hp : Ev ta σ H (.ref p)) (hv : Ev tb σ H v) (ha : Ev tc σ H (.ref pa)) (sc : ScAt K b p dx bv dh t s H) (ht : TmAt H tm v) (hok : TmOk (b.cells.map (·.1)) (b.fns.take i) many tm) (hd : tm.depth ≤ d)
    (hpa : H pa = some (.lst (args.map V.int))) (hag : ArgOk many args) (hm : many ≤ 2) : EvW dh (tMeth (He.ga K "Scene") "worked" (spWorked K i d) [] C8.E0 ta (tCons tb (tCons tc tNil))) σ H (ev (callN b.fns t i) args t tm s) := fun H1 e Q q =>
  hp H1 e _ fun H2 e2 => ⟨p, dx, _, rfl, ((e.trans e2) _ _ sc.at_), rfl, hv H2 (e.trans e2) _ fun H3 e3 => ha H3 ((e.trans e2).trans e3) _ fun H4 e4 => by
    have e14 := (e2.trans e3).trans e4
    exact ⟨b, p, dx, bv, dh, t, s, v, pa, tm, args, many, rfl, sc.mono (e.trans e14), ht.mono (e.trans e14), hok, hd, (e.trans e14) _ _ hpa, hag, hm, fun H5 x5 h5 => q H5 ((ExX.of e14).trans x5) h5⟩⟩
end

section
variable {P : Program} {w : World} {K : PySem.W.Frag} {mg : Str → Option Value} {base : Heap} (T : Tx K mg)
include T

omit T in
theorem scSceneWorked : FnScope ["self", "term", "arguments", "part", "one", "other"] ["self", "term", "arguments"] (defScope sSceneWorked) := ⟨rfl, rfl, rfl, by decide +kernel, rfl, by decide +kernel, by decide +kernel⟩
theorem okSceneWorked (i c : Nat) (hC : Met P w K mg base c (He.ga K "Scene") "called" (spCalled K i) []) : ∀ d, Met P w K mg base (c + 1 + d) (He.ga K "Scene") "worked" (spWorked K i d) [] := by
  obtain ⟨fd, F⟩ := T.DSceneWorked
  intro d
  induction d with
  | zero =>
    refine met_of T.cl_Scene T.m_Scene_worked F (F.bindsN fun _ _ _ _ _ _ us hl => match us, hl with | [_, _, _], _ => rfl) scSceneWorked (fun vs H Q E h => ?_) (fun cdv A outer s H vs Q E hr h => ?_)
    · obtain ⟨b, p, dx, bv, dh, t, s, v, pa, tm, args, many, rfl, _⟩ := h; rfl
    · obtain ⟨b, p, dx, bv, dh, t, s, v, pa, tm, args, many, rfl, sc, ht, hok, hd, _⟩ := h
      have := depth_pos tm
      omega
  | succ d ih =>
    refine met_of T.cl_Scene T.m_Scene_worked F (F.bindsN fun _ _ _ _ _ _ us hl => match us, hl with | [_, _, _], _ => rfl) scSceneWorked (fun vs H Q E h => ?_) (fun cdv A outer s H vs Q E hr h => ?_)
    · obtain ⟨b, p, dx, bv, dh, t, s, v, pa, tm, args, many, rfl, _⟩ := h; rfl
    · refine ⟨_, (pss_cons (ps_if (pt_not (pt_val (pe_callB call_isi rfl T.f_isinstance (by decide +kernel) (pa_cons (pv 1) (pa_cons (pe_bltn (v := .ty "tuple") (u := .type "tuple") rfl T.f_tuple (by decide +kernel) rfl) pa_nil))))) (pss_one (ps_ret (pv 1))) pss_nil) (pss_cons (ps_if (pt_cmpR op_eq (pe_ix ix_tup (pv 1) pe_int (fun _ _ => rfl)) pe_str (nomark _)) (pss_one (ps_ret (pe_ix ix_list (pv 2) (pe_ix ix_tup (pv 1) pe_int (fun _ _ => rfl)) (fun _ _ => rfl)))) pss_nil) (pss_cons (ps_if (pt_cmpR op_eq (pe_ix ix_tup (pv 1) pe_int (fun _ _ => rfl)) pe_str (nomark _)) (pss_one (ps_ret (pe_dget (hu_of hr) (pe_fld (pv 0) rfl) (pe_ix ix_tup (pv 1) pe_int (fun _ _ => rfl)) (fun _ _ => rfl)))) pss_nil) (pss_cons (ps_if (pt_cmpR op_eq (pe_ix ix_tup (pv 1) pe_int (fun _ _ => rfl)) pe_str (nomark _)) (pss_one (ps_ret (pe_op op_mod (pe_fld (pv 0) rfl) pe_int))) pss_nil) (pss_cons (ps_if (pt_cmpR op_eq (pe_ix ix_tup (pv 1) pe_int (fun _ _ => rfl)) pe_str (nomark _)) (pss_one (ps_ret (pe_mt hC hr (show c ≤ c + 1 + d by omega) (pv 0) (pa_cons (pe_ix ix_tup (pv 1) pe_int (fun _ _ => rfl)) (pa_cons (pe_lc  (own := [("part", 3)]) (by rfl) scSceneWorked.nd (pi_tup (pe_ix ix_tup (pv 1) pe_int (fun _ _ => rfl))) (blkOk_by (own := [("part", 3)]) (N := ["self", "term", "arguments", "part", "one", "other"]) (sc := defScope sSceneWorked) (by decide +kernel)) (fun _ _ _ _ _ => (pg_name (i := 3) scSceneWorked.nd rfl (by first | exact Or.inl rfl | exact Or.inr rfl))) (fun _ _ _ _ _ => pts_nil) (fun _ _ _ _ _ => (pe_mt ih hr (Nat.le_refl _) (pv 0) (pa_cons (pv 3) (pa_cons (pv 2) pa_nil))))) pa_nil))))) pss_nil) (pss_cons (ps_if (pt_cmpR op_eq (pe_ix ix_tup (pv 1) pe_int (fun _ _ => rfl)) pe_str (nomark _)) (pss_one (ps_ret (pe_mt ih hr (Nat.le_refl _) (pv 0) (pa_cons (pe_ifExp (pt_cmpR op_ne (pe_mt ih hr (Nat.le_refl _) (pv 0) (pa_cons (pe_ix ix_tup (pv 1) pe_int (fun _ _ => rfl)) (pa_cons (pv 2) pa_nil))) pe_int (nomark _)) (pe_ix ix_tup (pv 1) pe_int (fun _ _ => rfl)) (pe_ix ix_tup (pv 1) pe_int (fun _ _ => rfl))) (pa_cons (pv 2) pa_nil))))) pss_nil) (pss_cons (ps_set (i := 4) scSceneWorked.nd rfl (by first | exact Or.inl rfl | exact Or.inr rfl) (pe_mt ih hr (Nat.le_refl _) (pv 0) (pa_cons (pe_ix ix_tup (pv 1) pe_int (fun _ _ => rfl)) (pa_cons (pv 2) pa_nil)))) (pss_cons (ps_set (i := 5) scSceneWorked.nd rfl (by first | exact Or.inl rfl | exact Or.inr rfl) (pe_mt ih hr (Nat.le_refl _) (pv 0) (pa_cons (pe_ix ix_tup (pv 1) pe_int (fun _ _ => rfl)) (pa_cons (pv 2) pa_nil)))) (pss_cons (ps_if (pt_cmpR op_eq (pe_ix ix_tup (pv 1) pe_int (fun _ _ => rfl)) pe_str (nomark _)) (pss_one (ps_ret (pe_op op_mod (pe_op op_add (pv 4) (pv 5)) pe_int))) pss_nil) (pss_one (ps_ret (pe_ifExp (pt_cmpR op_eq (pe_ix ix_tup (pv 1) pe_int (fun _ _ => rfl)) pe_str (nomark _)) (pe_callTy call_int1 rfl T.f_int (by decide +kernel) (pa_cons (pe_cmpR op_lt (pv 4) (pv 5) (nomark _)) pa_nil)) (pe_callTy call_int1 rfl T.f_int (by decide +kernel) (pa_cons (pe_cmpR op_eq (pv 4) (pv 5) (nomark _)) pa_nil)))))))))))))), ?_⟩
      obtain ⟨b, p, dx, bv, dh, t, s, v, pa, tm, args, many, rfl, sc, ht, hok, hd, hpa, hag, hm, hq⟩ := h
      have hcf := callN_ok sc.ok t i
      refine q_when (b := isVal tm) ?_ (fun hb H1 e1 => ?_) (fun hb H1 e1 => ?_)
      · rcases tm_shape ht with ⟨n, rfl, rfl⟩ | ⟨p, k, r, rfl, hk, hp'⟩
        · exact et_not (a := false) (et_B (ev_isi false (ev_var rfl) ty_int (kit_ty (by decide +kernel))))
        · refine et_is (et_not (a := true) (et_B (ev_isi true (ev_var rfl) (ty_tup hp') (kit_ty (by decide +kernel))))) ?_
          cases tm with
          | lf l =>
            cases l with
            | val n => cases hk
            | _ => rfl
          | _ => rfl
      · cases tm with
        | lf l =>
          cases l with
          | val n =>
            obtain rfl : v = .int n := ht
            exact s_ret (ev_var rfl) fun H2 e2 => hq H2 (ExX.of (e1.trans e2)) ((e1.trans e2) _ _ sc.hd)
          | _ => cases hb
        | _ => cases hb
      have sc1 := sc.mono e1
      have ht1 := ht.mono e1
      obtain ⟨n, rfl, rfl⟩ | ⟨q, k, r, rfl, hk, hq1⟩ := tm_shape ht1
      · cases hb
      let σ0 : L2.St := start ["self", "term", "arguments", "part", "one", "other"] [.ref p, .ref q, .ref pa]
      have KT : ∀ {H2 : Hp} (x4 x5 : Option V) (z : Str) (bb : Bool), Ex H1 H2 → decide (k = z) = bb → EvT (tTest (tOp rEq (tOp (rIxT K) (tVar 1) (tC (.int 0))) (tC (.str z)))) [some (.ref p), some (.ref q), some (.ref pa), none, x4, x5] H2 bb := fun x4 x5 z bb e hz => et_is (et_test (ev_op (ev_op (ev_var rfl) ev_c (rv_ixT (st_of (e _ _ hq1)) at0)) ev_c (rv_eq rfl))) (by rw [← hz]; simp)
      have ix : ∀ {H2 : Hp} (x4 x5 : Option V) (xs : List V) (j : Nat) (v : V), H1 q = some (.tup xs) → xs[j]? = some v → Ex H1 H2 → Ev (tOp (rIxT K) (tVar 1) (tC (.int (j : Int)))) [some (.ref p), some (.ref q), some (.ref pa), none, x4, x5] H2 v := fun x4 x5 xs j v h1 h2 e => ev_op (ev_var rfl) ev_c (rv_ixT (st_of (e _ _ h1)) (atI_nat h2))
      have NO : ∀ {H2 : Hp} (z : Str) {tu tz : TS} {Dd : Ends}, Ex H1 H2 → decide (k = z) = false → (∀ H3, Ex H1 H3 → tz Dd σ0 H3) → tSeq (tIfS (tTest (tOp rEq (tOp (rIxT K) (tVar 1) (tC (.int 0))) (tC (.str z)))) tu tNext) tz Dd σ0 H2 := fun z tu tz Dd e hz kk => q_when (b := false) (KT none none z false e hz) (fun z => by cases z) fun _ H3 e3 => kk H3 (e.trans e3)
      have YES : ∀ {H2 : Hp} (z : Str) {tu tz : TS} {Dd : Ends}, Ex H1 H2 → decide (k = z) = true → (∀ H3, Ex H1 H3 → tu { Dd with nx := tz Dd } σ0 H3) → tSeq (tIfS (tTest (tOp rEq (tOp (rIxT K) (tVar 1) (tC (.int 0))) (tC (.str z)))) tu tNext) tz Dd σ0 H2 := fun z tu tz Dd e hz kk => q_when (b := true) (KT none none z true e hz) (fun _ H3 e3 => kk H3 (e.trans e3)) fun z => by cases z
      clear hb
      cases tm with
      | lf l =>
        cases l with
        | val n => cases hk
        | arg j =>
          cases hk
          obtain ⟨q', hqq, hq2⟩ := ht1
          cases hqq
          refine YES "arg" (Ex.refl _) (by decide +kernel) fun H2 e2 => ?_
          have hj : j < args.length := by rw [hag.1]; exact hok
          refine s_ret (v := .int (args.getD j 0)) (ev_op (ev_var rfl) (ix none none _ 1 _ hq2 rfl e2) (rv_ixL (sq_of ((e1.trans e2) _ _ hpa)) (atI_nat ?_))) fun H3 e3 => hq H3 (ExX.of ((e1.trans e2).trans e3)) (((e1.trans e2).trans e3) _ _ sc.hd)
          rw [List.getElem?_map, List.getD_eq_getElem?_getD, List.getElem?_eq_getElem hj]; rfl
        | cel c =>
          cases hk
          obtain ⟨q', hqq, hq2⟩ := ht1
          cases hqq
          refine NO "arg" (Ex.refl _) (by decide +kernel) fun H2 e2 => ?_
          refine YES "cell" e2 (by decide +kernel) fun H3 e3 => ?_
          have sc3 := sc1.mono e3
          exact s_ret (ev_dget (ev_fld (ev_var rfl) sc3.at_ T.cl_Scene T.n_Scene_held rfl) (ix none none _ 1 _ hq2 rfl e3) sc3.hd (sc3.st.val hok)) fun H4 e4 => hq H4 (ExX.of ((e1.trans e3).trans e4)) (((e1.trans e3).trans e4) _ _ sc.hd)
        | tick =>
          cases hk
          refine NO "arg" (Ex.refl _) (by decide +kernel) fun H2 e2 => ?_
          refine NO "cell" e2 (by decide +kernel) fun H3 e3 => ?_
          refine YES "tick" e3 (by decide +kernel) fun H4 e4 => ?_
          have sc3 := sc1.mono e4
          exact s_ret (ev_op (ev_fld (ev_var rfl) sc3.at_ T.cl_Scene T.n_Scene_tick_now rfl) ev_c (rv_I (show (0 : Int) < 3 by decide))) fun H5 e5 => hq H5 (ExX.of ((e1.trans e4).trans e5)) (((e1.trans e4).trans e5) _ _ sc.hd)
      | call f as =>
        cases hk
        obtain ⟨q', qa, us, hqq, hq2, hqa, hus⟩ := ht1
        cases hqq
        refine NO "arg" (Ex.refl _) (by decide +kernel) fun H2 e2 => ?_
        refine NO "cell" e2 (by decide +kernel) fun H3 e3 => ?_
        refine NO "tick" e3 (by decide +kernel) fun H4 e4 => ?_
        refine YES "call" e4 (by decide +kernel) fun H5 e5 => ?_
        have sc5 := sc1.mono e5
        obtain ⟨⟨g, hg, e1f, e2f⟩, hal⟩ := hok
        subst e1f
        have hargs : ∀ l ∈ as, V3 (lfV args t s l) := fun l hl => lfV_ok (hal l hl) hag sc.st
        have hd1 : as ≠ [] → 1 ≤ d := fun ne => by
          unfold Tm.depth at hd
          rw [if_neg ne] at hd
          omega
        have hlist := el_pair (σ := σ0) (vs := [3]) (j := 3) (te := tMeth (He.ga K "Scene") "worked" (spWorked K i d) [] C8.E0 (tVar 0) (tCons (tVar 3) (tCons (tVar 2) tNil))) (evi_tup (K := K) (ix none none _ 2 _ hq2 rfl e5) (st_of (e5 _ _ hqa))) (Paired.mapP hus fun _ _ z => LfAt.mono e5 z) (fun l => .int (lfV args t s l)) (by rw [← Paired.length hus, e2f]; have := (sc.ok.aheadOk i g hg).2; omega) (fun _ => rfl) fun l x hl hx => ?_
        · have em : (as.map fun l => V.int (lfV args t s l)) = (as.map (lfV args t s)).map V.int := by rw [List.map_map]; rfl
          rw [em] at hlist
          exact s_retW (ew_called (ev_var rfl) (ix none none _ 1 _ hq2 rfl e5) hlist sc5 hg ⟨by rw [List.length_map, e2f], fun a ha => by obtain ⟨l, hl, rfl⟩ := List.mem_map.mp ha; exact hargs l hl⟩) fun H6 x6 h6 => hq H6 ((ExX.of (e1.trans e5)).trans x6) h6
        · exact ew_ev (ew_worked (tm := .lf l) (ev_var rfl) (ev_var rfl) (ev_var rfl) sc5 hx (hal l hl) (hd1 (fun z => by rw [z] at hl; cases hl)) ((e1.trans e5) _ _ hpa) hag hm) sc5.hd
      | ite c a b2 =>
        cases hk
        obtain ⟨q', z1, z2, z3, hqq, hq2, hc1, ha1, hb1⟩ := ht1
        cases hqq
        refine NO "arg" (Ex.refl _) (by decide +kernel) fun H2 e2 => ?_
        refine NO "cell" e2 (by decide +kernel) fun H3 e3 => ?_
        refine NO "tick" e3 (by decide +kernel) fun H4 e4 => ?_
        refine NO "call" e4 (by decide +kernel) fun H5 e5 => ?_
        refine YES "if" e5 (by decide +kernel) fun H6 e6 => ?_
        have sc6 := sc1.mono e6
        have hdc : c.depth ≤ d ∧ a.depth ≤ d ∧ b2.depth ≤ d := by simp only [Tm.depth] at hd; omega
        have okc := ev_ok (t := t) hcf hag hok.1 sc.st
        refine s_retE ⟨_, rfl, p, dx, _, rfl, sc6.at_, rfl, e_cons ?_⟩
        have fin : ∀ (j : Nat) (u : Tm) (z : V) (H7 : Hp), [V.str "if", z1, z2, z3][j]? = some z → TmAt H1 u z → TmOk (b.cells.map (·.1)) (b.fns.take i) many u → u.depth ≤ d → ExX dh H6 H7 → H7 dh = some (.dK (stV (ev (callN b.fns t i) args t c s).2)) → (∀ H8, ExX dh H H8 → H8 dh = some (.dK (stV (ev (callN b.fns t i) args t u (ev (callN b.fns t i) args t c s).2).2)) → Q (.int (ev (callN b.fns t i) args t u (ev (callN b.fns t i) args t c s).2).1) H8) → tOp (rIxT K) (tVar 1) (tC (.int (j : Int))) σ0 H7 fun v H8 => tCons (tVar 2) tNil σ0 H8 fun xs H9 => spWorked K i d (.ref p :: ((v :: xs) ++ [])) H9 Q C8.E0 := by
          intro j u z H7 hz hu hou hdu x7 h7 kk
          have eT : ExT H1 H7 := (ext e6).trans (x7.t sc6.hd)
          refine ⟨_, rfl, q, _, _, _, rfl, rfl, st_of (eT.at hq2), atI_nat hz, _, rfl, ?_⟩
          exact ⟨b, p, dx, bv, dh, t, _, z, pa, u, args, many, rfl, sc6.go x7 h7 okc.2, hu.monoT eT, hou, hdu, x7 _ _ (fun zz => by have h1 := (e1.trans e6) _ _ hpa; rw [zz, sc6.hd] at h1; cases h1) ((e1.trans e6) _ _ hpa), hag, hm, fun H8 x8 h8 => kk H8 ((ExX.of (e1.trans e6)).trans (x7.trans x8)) h8⟩
        refine e_ifW (ew_worked (ev_var rfl) (ix none none _ 1 _ hq2 rfl e6) (ev_var rfl) sc6 (hc1.mono e6) hok.1 hdc.1 ((e1.trans e6) _ _ hpa) hag hm) (fun hv H7 x7 h7 => ?_) (fun hv H7 x7 h7 => ?_)
        · refine fin 2 a z2 H7 rfl ha1 hok.2.1 hdc.2.1 x7 h7 fun H8 x8 h8 => ?_
          have e : ev (callN b.fns t i) args t (.ite c a b2) s = ev (callN b.fns t i) args t a (ev (callN b.fns t i) args t c s).2 := by rw [ev, if_pos hv]
          have := hq H8 x8
          rw [e] at this
          exact this h8
        · refine fin 3 b2 z3 H7 rfl hb1 hok.2.2 hdc.2.2 x7 h7 fun H8 x8 h8 => ?_
          have e : ev (callN b.fns t i) args t (.ite c a b2) s = ev (callN b.fns t i) args t b2 (ev (callN b.fns t i) args t c s).2 := by rw [ev, if_neg (fun z => z hv)]
          have := hq H8 x8
          rw [e] at this
          exact this h8
      | op o a b2 =>
        cases hk
        obtain ⟨q', z1, z2, hqq, hq2, ha1, hb1⟩ := ht1
        cases hqq
        have ne : ∀ z : Str, z = "arg" ∨ z = "cell" ∨ z = "tick" ∨ z = "call" ∨ z = "if" → decide (opName o = z) = false := by
          intro z hz
          rcases hz with rfl | rfl | rfl | rfl | rfl <;> cases o <;> decide +kernel
        refine NO "arg" (Ex.refl _) (ne _ (by simp)) fun H2 e2 => ?_
        refine NO "cell" e2 (ne _ (by simp)) fun H3 e3 => ?_
        refine NO "tick" e3 (ne _ (by simp)) fun H4 e4 => ?_
        refine NO "call" e4 (ne _ (by simp)) fun H5 e5 => ?_
        refine NO "if" e5 (ne _ (by simp)) fun H6 e6 => ?_
        have sc6 := sc1.mono e6
        have hdc : a.depth ≤ d ∧ b2.depth ≤ d := by simp only [Tm.depth] at hd; omega
        have oka := ev_ok (t := t) hcf hag hok.1 sc.st
        have npa : pa ≠ dh := fun zz => by rw [zz, sc.hd] at hpa; cases hpa
        refine q_asgW (ew_worked (ev_var rfl) (ix none none _ 1 _ hq2 rfl e6) (ev_var rfl) sc6 (ha1.mono e6) hok.1 hdc.1 ((e1.trans e6) _ _ hpa) hag hm) fun H7 x7 h7 => ?_
        have eT7 : ExT H1 H7 := (ext e6).trans (x7.t sc6.hd)
        have sc7 := sc6.go x7 h7 oka.2
        have hpa7 := x7 _ _ npa ((e1.trans e6) _ _ hpa)
        refine q_asgW (ew_worked (σ := [some (.ref p), some (.ref q), some (.ref pa), none, some (.int (ev (callN b.fns t i) args t a s).1), none]) (ev_var rfl) (ev_op (ev_var rfl) ev_c (rv_ixT (st_of (eT7.at hq2)) at2)) (ev_var rfl) sc7 (hb1.monoT eT7) hok.2 hdc.2 hpa7 hag hm) fun H8 x8 h8 => ?_
        have eT8 : ExT H1 H8 := eT7.trans (x8.t h7)
        have hq8 := eT8.at hq2
        have X8 : ExX dh H H8 := (ExX.of (e1.trans e6)).trans (x7.trans x8)
        have KQ : ∀ {H9 : Hp} (z : Str) (bb : Bool), Ex H8 H9 → decide (opName o = z) = bb → EvT (tTest (tOp rEq (tOp (rIxT K) (tVar 1) (tC (.int 0))) (tC (.str z)))) [some (.ref p), some (.ref q), some (.ref pa), none, some (.int (ev (callN b.fns t i) args t a s).1), some (.int (ev (callN b.fns t i) args t b2 (ev (callN b.fns t i) args t a s).2).1)] H9 bb := fun z bb e hz => et_is (et_test (ev_op (ev_op (ev_var rfl) ev_c (rv_ixT (st_of (e _ _ hq8)) at0)) ev_c (rv_eq rfl))) (by rw [← hz]; simp)
        refine q_when (b := decide (opName o = "plus")) (KQ _ _ (Ex.refl _) rfl) (fun hb H9 e9 => ?_) (fun hb H9 e9 => ?_)
        · cases o with
          | plus => exact s_ret (ev_op (ev_op (ev_var rfl) (ev_var rfl) rv_I0) ev_c (rv_I (show (0 : Int) < 3 by decide))) fun H10 e10 => hq H10 (X8.trans (ExX.of (e9.trans e10))) ((e9.trans e10) _ _ h8)
          | less => exact absurd hb (by decide +kernel)
          | same => exact absurd hb (by decide +kernel)
        · cases o with
          | plus => exact absurd hb (by decide +kernel)
          | less => exact s_ret (ev_if (v := .int (if (ev (callN b.fns t i) args t a s).1 < (ev (callN b.fns t i) args t b2 (ev (callN b.fns t i) args t a s).2).1 then 1 else 0)) (KQ _ true e9 (by decide +kernel)) (fun _ => ev_is (ev_cb (ea_cons (ev_op (ev_var rfl) (ev_var rfl) rv_I0) ea_nil) rc_intB) (by simp)) fun z => by cases z) fun H10 e10 => hq H10 (X8.trans (ExX.of (e9.trans e10))) ((e9.trans e10) _ _ h8)
          | same => exact s_ret (ev_if (v := .int (if (ev (callN b.fns t i) args t a s).1 = (ev (callN b.fns t i) args t b2 (ev (callN b.fns t i) args t a s).2).1 then 1 else 0)) (KQ _ false e9 (by decide +kernel)) (fun z => by cases z) fun _ => ev_is (ev_cb (ea_cons (ev_op (ev_var rfl) (ev_var rfl) (rv_eq rfl)) ea_nil) rc_intB) (by simp)) fun H10 e10 => hq H10 (X8.trans (ExX.of (e9.trans e10))) ((e9.trans e10) _ _ h8)

end
end SC
set_option Elab.async false
set_option linter.all false
set_option maxRecDepth 100000
set_option maxHeartbeats 1000000
/-! W4c: functions run. -/
namespace SC
open PySem PySem.Spec PyProof.Rows L2 C8 Evl


theorem pe_no {X : Cx} {e : Expr} : PE X e (fun _ _ _ => False) := ⟨fun _ _ _ _ _ _ h => h.elim⟩
theorem s_dputW {σ : L2.St} {H : Hp} {ta tb tv : TE} {dh : Addr} {r : Int × Sta} {k : Str} {D : Ends} (hv : EvW dh tv σ H r) (ha : ∀ H1, ExX dh H H1 → Ev ta σ H1 (.ref dh)) (hb : ∀ H1, ExX dh H H1 → Ev tb σ H1 (.str k)) (hz : r.2.length < 1000) (kk : ∀ H2, ExX dh H H2 → H2 dh = some (.dK (stV (setS r.2 k r.1))) → D.nx σ H2) : sDPut ta tb tv D σ H :=
  hv H (Ex.refl H) _ fun H1 x1 h1 => ha H1 x1 H1 (Ex.refl _) _ fun H2 e2 => hb H1 x1 H2 e2 _ fun H3 e3 => ⟨dh, _, rfl, DPut.k (k := Sum.inr k) ((e2.trans e3) _ _ h1) (sz_lt (by rw [stV_len]; omega)), kk _ (ExX.put (x1.trans (ExX.of (e2.trans e3)))) (by rw [upd_same, stV_set])⟩

section
variable {P : Program} {w : World} {K : PySem.W.Frag} {mg : Str → Option Value} {base : Heap} (T : Tx K mg)
include T

omit T in
theorem scSceneRunFunction : FnScope ["self", "function", "arguments", "value", "cell", "term"] ["self", "function", "arguments"] (defScope sSceneRunFunction) := ⟨rfl, rfl, rfl, by decide +kernel, rfl, by decide +kernel, by decide +kernel⟩
theorem okSceneRunFunction (i m : Nat) (hW : Met P w K mg base m (He.ga K "Scene") "worked" (spWorked K i 3) []) : Met P w K mg base (m + 1) (He.ga K "Scene") "run_function" (spRun K i) [] := by
  obtain ⟨fd, F⟩ := T.DSceneRunFunction
  refine met_of T.cl_Scene T.m_Scene_run_function F (F.bindsN fun _ _ _ _ _ _ us hl => match us, hl with | [_, _, _], _ => rfl) scSceneRunFunction (fun vs H Q E h => ?_) (fun cdv A outer s H vs Q E hr h => ?_)
  · obtain ⟨b, p, dx, bv, dh, t, s, v, pa, args, g, rfl, _⟩ := h; rfl
  · refine ⟨_, (pss_cons (ps_set (i := 3) scSceneRunFunction.nd rfl (by first | exact Or.inl rfl | exact Or.inr rfl) (pe_mt hW hr (Nat.le_refl _) (pv 0) (pa_cons (pe_fld (pv 1) rfl) (pa_cons (pv 2) pa_nil)))) (pss_cons (ps_for PassesOwn.never rfl (pi_tup (pe_fld (pv 1) rfl)) (pg_tup (by rfl) (pgs_cons (pg_name (i := 4) scSceneRunFunction.nd rfl (by first | exact Or.inl rfl | exact Or.inr rfl)) (pgs_cons (pg_name (i := 5) scSceneRunFunction.nd rfl (by first | exact Or.inl rfl | exact Or.inr rfl)) pgs_nil))) (pss_one (ps_dput (hu_of hr) (pe_fld (pv 0) rfl) (pv 4) (pe_mt hW hr (Nat.le_refl _) (pv 0) (pa_cons (pv 5) (pa_cons (pv 2) pa_nil))) rfl))) (pss_one (ps_ret (pv 3))))), ?_⟩
    obtain ⟨b, p, dx, bv, dh, t, s, v, pa, args, g, rfl, sc, hg, hgm, hpa, hag, hq⟩ := h
    have hcf := callN_ok sc.ok t i
    have ok := sc.ok.at_ hgm
    obtain ⟨q, dx', pl, dl, hl', x, pw, ws, rfl, hgq, hpl, hx, hpw, hws⟩ := id hg
    have npa : pa ≠ dh := fun z => by have := sc.hd; rw [← z, hpa] at this; cases this
    have npw : pw ≠ dh := fun z => by have := sc.hd; rw [← z, hpw] at this; cases this
    have nq : q ≠ dh := fun z => by have := sc.hd; rw [← z, hgq] at this; cases this
    have ok1 := ev_ok (t := t) hcf hag ok.res sc.st
    refine q_asgW (ew_worked (ev_var rfl) (ev_fld (ev_var rfl) hgq T.cl_Function T.n_Function_result rfl) (ev_var rfl) sc hx ok.res ok.rd hpa hag ok.many) fun H1 x1 h1 => ?_
    have sc1 := sc.go x1 h1 ok1.2
    have eT1 : ExT H H1 := x1.t sc.hd
    have hws1 : Paired (WrL H1) g.wr ws := Paired.mapP hws fun _ _ z => WrL.monoT eT1 z
    have hgq1 := x1 _ _ nq hgq
    have hpw1 := x1 _ _ npw hpw
    have hpa1 := x1 _ _ npa hpa
    refine q_forX (d := dh) (evix_tup (ev_fld (ev_var rfl) hgq1 T.cl_Function T.n_Function_writes rfl) hpw1 npw) (fun j σ' H' => (∃ x4 x5, σ' = [some (.ref p), some (.ref q), some (.ref pa), some (.int (ev (callN b.fns t i) args t g.res s).1), x4, x5]) ∧ H' dh = some (.dK (stV (wrs (callN b.fns t i) args t (g.wr.take j) (ev (callN b.fns t i) args t g.res s).2)))) (fun H2 e2 => ⟨⟨none, none, rfl⟩, e2 _ _ h1⟩) (fun j y σ' H' hy eX hP => ?_) (fun σ' H' eX hP => ?_)
    · obtain ⟨⟨x4, x5, rfl⟩, hdh⟩ := hP
      obtain ⟨wr, hwj, hwy⟩ := Paired.getR hws1 hy
      have hwm := List.mem_of_getElem? hwj
      obtain ⟨w1, w2, w3, w4⟩ := ok.wr wr hwm
      have eT2 : ExT H1 H' := eX.t h1
      obtain ⟨p3, z, rfl, hp3, hz⟩ := hwy.monoT eT2
      have ok2 := wrs_ok (l := g.wr.take j) (t := t) hcf hag (fun w hw => ok.ws w (List.mem_of_mem_take hw)) ok1.2
      have sc2 := sc1.go eX hdh ok2
      refine ⟨_, _, rfl, st_of hp3, rfl, _, _, rfl, ?_⟩
      refine ⟨_, _, rfl, ?_⟩
      refine ⟨rfl, ?_⟩
      have hev := ew_worked (σ := [some (.ref p), some (.ref q), some (.ref pa), some (.int (ev (callN b.fns t i) args t g.res s).1), some (.str wr.1), some z]) (K := K) (d := 3) (ta := tVar 0) (tb := tVar 5) (tc := tVar 2) (ev_var rfl) (ev_var rfl) (ev_var rfl) sc2 hz w2 (by omega) (eX _ _ npa hpa1) hag ok.many
      have ok3 := ev_ok (t := t) hcf hag w2 ok2
      refine s_dputW hev (fun Ha xa => ev_fld (ev_var rfl) (xa _ _ (fun zz => by have := sc2.hd; rw [← zz, sc2.at_] at this; cases this) sc2.at_) T.cl_Scene T.n_Scene_held rfl) (fun Ha xa => ev_var rfl) (by rw [ok3.2.len, List.length_map]; have := sc.ok.lc; omega) fun H3 x3 h3 => ⟨x3, ⟨_, _, rfl⟩, ?_⟩
      rw [h3, List.take_add_one, hwj]
      show some (HO.dK (stV (setS _ _ _))) = some (HO.dK (stV (wrs _ _ _ (g.wr.take j ++ [wr]) _)))
      rw [wrs_snoc]
    · obtain ⟨⟨x4, x5, rfl⟩, hdh⟩ := hP
      rw [← Paired.length hws1, List.take_length] at hdh
      exact s_ret (ev_var rfl) fun H2 e2 => hq H2 (x1.trans (eX.trans (ExX.of e2))) (e2 _ _ hdh)

omit T in
theorem scSceneCalled : FnScope ["self", "name", "arguments", "function"] ["self", "name", "arguments"] (defScope sSceneCalled) := ⟨rfl, rfl, rfl, by decide +kernel, rfl, by decide +kernel, by decide +kernel⟩
theorem okSceneCalled (i m k : Nat) (hW : Met P w K mg base k (He.ga K "Scene") "run_function" (spRun K i) []) (hm : k ≤ m) (hm2 : 2 ≤ m) : Met P w K mg base (m + 1) (He.ga K "Scene") "called" (spCalled K (i + 1)) [] := by
  obtain ⟨fd, F⟩ := T.DSceneCalled
  refine met_of T.cl_Scene T.m_Scene_called F (F.bindsN fun _ _ _ _ _ _ us hl => match us, hl with | [_, _, _], _ => rfl) scSceneCalled (fun vs H Q E h => ?_) (fun cdv A outer s H vs Q E hr h => ?_)
  · obtain ⟨b, p, dx, bv, dh, t, s, pa, args, g, rfl, _⟩ := h; rfl
  · refine ⟨_, (pss_cons (ps_set (i := 3) scSceneCalled.nd rfl (by first | exact Or.inl rfl | exact Or.inr rfl) (pe_ownIx (okBookGetitem T) hr hm2 (pe_fld (pv 0) rfl) (pv 1))) (pss_cons (ps_if (PW.pt (pw_and (pt_cmpR op_notN (pe_fld (pv 0) rfl) pe_non (nomark _)) (pw_and1 (pt_val pe_no)))) (pss_one ps_never) pss_nil) (pss_one (ps_ret (pe_mt hW hr hm (pv 0) (pa_cons (pv 3) (pa_cons (pv 2) pa_nil))))))), ?_⟩
    obtain ⟨b, p, dx, bv, dh, t, s, pa, args, g, rfl, sc, hgm, hpa, hag, hq⟩ := h
    have hf := find_name sc.ok.ndf (List.mem_of_mem_take hgm)
    refine q_asgP (ep_get (ev_fld (ev_var rfl) sc.at_ T.cl_Scene T.n_Scene_book rfl) sc.bk (ev_var rfl) hf) fun u H1 e1 hu => ?_
    have hu : FunP K H1 g u := hu
    have sc1 := sc.mono e1
    refine q_when (b := false) (et_is (et_and (a := false) (b := false) (et_is (et_test (ev_op (z := .bl false) (ev_fld (ev_var rfl) sc1.at_ T.cl_Scene T.n_Scene_view_held rfl) ev_c (rv_val fun H2 _ Q q => ⟨rfl, q⟩))) rfl) fun z => by cases z) rfl) (fun z => by cases z) fun _ H2 e2 => ?_
    have sc2 := sc1.mono e2
    have hc : callN b.fns t (i + 1) g.name args s = ran b.fns t i g args s := callN_some hf
    refine s_retW (r := ran b.fns t i g args s) (dh := dh) (fun Ha ea Q q => ⟨_, rfl, p, dx, _, rfl, (sc2.mono ea).at_, rfl, _, rfl, _, rfl, b, p, dx, bv, dh, t, s, u, pa, args, g, rfl, sc2.mono ea, (hu.mono e2).mono ea, hgm, ((e1.trans e2).trans ea) _ _ hpa, hag, q⟩) fun H3 x3 h3 => ?_
    have := hq H3
    rw [hc] at this
    exact this ((ExX.of (e1.trans e2)).trans x3) h3
/-- where no function is ahead -/
theorem okSceneCalled0 : Met P w K mg base 1 (He.ga K "Scene") "called" (spCalled K 0) [] := by
  obtain ⟨fd, F⟩ := T.DSceneCalled
  refine met_of T.cl_Scene T.m_Scene_called F (F.bindsN fun _ _ _ _ _ _ us hl => match us, hl with | [_, _, _], _ => rfl) scSceneCalled (fun vs H Q E h => ?_) (fun cdv A outer s H vs Q E hr h => ?_)
  · obtain ⟨b, p, dx, bv, dh, t, s, pa, args, g, rfl, _⟩ := h; rfl
  · obtain ⟨b, p, dx, bv, dh, t, s, pa, args, g, rfl, sc, hgm, _⟩ := h
    rw [List.take_zero] at hgm
    cases hgm
theorem okCalledN : ∀ i, ∃ k, k ≤ 1 + 8 * i ∧ Met P w K mg base k (He.ga K "Scene") "called" (spCalled K i) []
  | 0 => ⟨1, by omega, okSceneCalled0 T⟩
  | i + 1 => by
    obtain ⟨k, hk, hC⟩ := okCalledN i
    exact ⟨_, by omega, okSceneCalled T i (k + 1 + 3 + 1) _ (okSceneRunFunction T i _ (okSceneWorked T i k hC 3)) (Nat.le_refl _) (by omega)⟩
theorem okRun2 : ∃ k, k ≤ 24 ∧ Met P w K mg base k (He.ga K "Scene") "run_function" (spRun K 2) [] := by
  obtain ⟨k, hk, hC⟩ := okCalledN (P := P) (w := w) (base := base) T 2
  exact ⟨_, by omega, okSceneRunFunction T 2 _ (okSceneWorked T 2 k hC 3)⟩

end
end SC
set_option Elab.async false
set_option linter.all false
set_option maxRecDepth 100000
set_option maxHeartbeats 1000000
/-! W4d: run_alone. -/
namespace SC
open PySem PySem.Spec PyProof.Rows L2 C8 Evl


theorem e_tup {tar : TA} {σ : L2.St} {H : Hp} {Q : VK} (h : tar σ H fun vs H1 => vs.length ≤ sizeLine ∧ ∀ d, H1 d = none → Q (.ref d) (upd H1 d (.tup vs))) : tTup tar σ H Q := h
theorem st_map {s : Sta} (hn : (keysS s).Nodup) : (keysS s).map (fun c => (c, look s c)) = s := by
  have key : ∀ (l : Sta), (keysS l).Nodup → ∀ p ∈ l, look l p.1 = p.2 := by
    intro l
    induction l with
    | nil => intro _ p hp; cases hp
    | cons a r ih =>
      intro hn p hp
      unfold keysS at hn
      rw [List.map_cons, List.nodup_cons] at hn
      rcases List.mem_cons.mp hp with e | hp
      · subst e; simp [look]
      · have ne : ¬ a.1 = p.1 := fun z => hn.1 (by rw [z]; exact List.mem_map.mpr ⟨p, hp, rfl⟩)
        have := ih hn.2 p hp
        unfold look at this ⊢
        rw [List.find?_cons_of_neg (by simpa using ne)]
        exact this
  unfold keysS
  rw [List.map_map]
  have : (s.map fun p => (p.1, look s p.1)) = s.map id := List.map_congr_left fun p hp => by rw [key s hn p hp]; rfl
  rw [List.map_id] at this
  exact this
theorem stV_fold (s : Sta) : ∀ (cs done : List Str), (done ++ cs).Nodup → cs.foldl (fun acc c => putK acc (Sum.inr c : Key) (.int (look s c))) (stV (done.map fun c => (c, look s c))) = stV ((done ++ cs).map fun c => (c, look s c))
  | [], done, _ => by simp
  | c :: r, done, hn => by
    have hc : c ∉ keysS (done.map fun c => (c, look s c)) := by
      intro hm
      unfold keysS at hm
      rw [List.map_map] at hm
      have e : ((fun p : Str × Int => p.1) ∘ fun c => (c, look s c)) = id := rfl
      rw [e, List.map_id] at hm
      rw [List.nodup_append] at hn
      exact hn.2.2 c hm c (by simp) rfl
    rw [List.foldl_cons, stV_set, setS_new hc]
    have : (done.map fun c => (c, look s c)) ++ [(c, look s c)] = (done ++ [c]).map fun c => (c, look s c) := by simp
    rw [this, stV_fold s r (done ++ [c]) (by simpa using hn)]
    simp
theorem BookP.list {K : PySem.W.Frag} {σ : L2.St} {H : Hp} {te : TE} {b : Bk} {v : V} (h : Ev te σ H v) (hb : BookP K H b v) : EvLP (tMeth (He.ga K "Book") "all_cells" (spBookAllCells K) [] C8.E0 te tNil) σ H (fun xs H2 => Paired (CelP K H2) b.cells xs) := fun H1 e Q q =>
  h H1 e _ fun H2 e2 => by
    have hb2 := hb.mono (e.trans e2)
    obtain ⟨p, dx, pc, pf, cs, fs, rfl, hp, _⟩ := id hb2
    exact ⟨p, dx, _, rfl, hp, rfl, b, _, rfl, hb2, fun q2 xs H3 a1 a2 a3 a4 => q q2 xs H3 (fresh_back e2 a1) (e2.trans a2) a3 a4⟩
def spRunAlone (K : PySem.W.Frag) : Sp := fun vs H Q _ => ∃ b bv n g pa args ps s t, vs = [bv, .str n, .ref pa, .ref ps, .int t] ∧ BookP K H b bv ∧ BOk b ∧ findF b.fns n = some g ∧ H pa = some (.tup (args.map V.int)) ∧ ArgOk g.many args ∧ H ps = some (.dK (stV s)) ∧ StOk (b.cells.map (·.1)) s ∧ 0 ≤ t ∧
  ∀ p d H2, Ex H H2 → H2 p = some (.tup [.int (ran b.fns t 2 g args s).1, .ref d]) → H2 d = some (.dK (stV (ran b.fns t 2 g args s).2)) → Q (.ref p) H2

section
variable {P : Program} {w : World} {K : PySem.W.Frag} {mg : Str → Option Value} {base : Heap} (T : Tx K mg)
include T

omit T in
theorem scRunAlone : FnScope ["book", "name", "arguments", "state", "tick", "row", "scene", "value", "cell"] ["book", "name", "arguments", "state", "tick"] (defScope sRunAlone) := ⟨rfl, rfl, rfl, by decide +kernel, rfl, by decide +kernel, by decide +kernel⟩
theorem okRunAlone : ∃ (f : Addr) (fd : FuncData) (ps : List Str) (g : List Value → List Value → List Value) (gV : List V → List V → List V), mg "run_alone" = some (.ref f) ∧ PySem.W.keepIn K (.ref f) = true ∧ FnOk P w K mg base C8.CX0 26 f fd ps (spRunAlone K) ∧ KBn K fd ps 4 ["tick"] g gV ∧ ∀ vs zs, gV vs zs = vs ++ zs := by
  obtain ⟨k, hk, hW⟩ := okRun2 (P := P) (w := w) (base := base) T
  obtain ⟨fd, F⟩ := T.DRunAlone
  obtain ⟨mv, kb⟩ := F.kbinds0 4 ["tick"] [] (ps := ["book", "name", "arguments", "state", "tick"]) (fun us _ ws => us ++ ws) (by simp) (by simp) (fun r1 _ r3 => r1.append r3) (fun D doc pm an cdv ct us mv ws h1 h2 h3 => match us, ws, mv, h1, h3, h2 with | [_, _, _, _], [_], [], _, _, _ => rfl)
  refine ⟨_, fd, _, _, _, T.g_run_alone, F.kp, F.ok scRunAlone (fun vs H Q E h => ?_) fun cdv A outer s H vs Q E hr h => ?_, kb, fun _ _ => rfl⟩
  · obtain ⟨b, bv, n, g, pa, args, ps, s, t, rfl, _⟩ := h; rfl
  · suffices hh : ∃ t, PSs (cxOf C8.CX0 P w K mg base _ "run_alone" (defScope sRunAlone) _ cdv A outer s H E).nox (defBody sRunAlone) t ∧ t { nx := fun _ H' => Q .non H', rt := Q } (start _ vs) H by
      obtain ⟨t, p, q⟩ := hh
      exact ⟨t, p.nox, q⟩
    refine ⟨_, (pss_cons (ps_set (i := 5) scRunAlone.nd rfl (by first | exact Or.inl rfl | exact Or.inr rfl) (pe_c (okCheckedArguments T) hr (by decide) rfl (pa_cons (pv 0) (pa_cons (pv 1) (pa_cons (pv 2) pa_nil))))) (pss_cons (ps_expr (pe_c (okCheckState T) hr (by decide) rfl (pa_cons (pe_mt0 (okBookAllCells T) hr (by decide) (pv 0)) (pa_cons (pv 3) pa_nil)))) (pss_cons (ps_if (PW.pt (pw_or (pt_not (pt_val (pe_c (okIsInteger T) hr (by decide) rfl (pa_cons (pv 4) pa_nil)))) (pw_or1 (pt_cmpR op_lt (pv 4) pe_int (nomark _))))) (pss_one ps_never) pss_nil) (pss_cons (ps_set (i := 6) scRunAlone.nd rfl (by first | exact Or.inl rfl | exact Or.inr rfl) (pe_mk (okSceneInit T) hr (by decide) rfl (pa_cons (pv 0) (pa_cons (pv 3) (pa_cons (pv 4) (pa_cons pe_non pa_nil)))))) (pss_cons (ps_set (i := 7) scRunAlone.nd rfl (by first | exact Or.inl rfl | exact Or.inr rfl) (pe_mt hW hr (Nat.le_trans hk (by decide)) (pv 6) (pa_cons (pe_ownIx (okBookGetitem T) hr (by decide) (pv 0) (pv 1)) (pa_cons (pv 5) pa_nil)))) (pss_one (ps_ret (pe_tup (pa_cons (pv 7) (pa_cons (pe_dc  (own := [("cell", 8)]) (by rfl) scRunAlone.nd (pi_list (pe_mt0 (okBookAllCells T) hr (by decide) (pv 0))) (blkOk_by (own := [("cell", 8)]) (N := ["book", "name", "arguments", "state", "tick", "row", "scene", "value", "cell"]) (sc := defScope sRunAlone) (by decide +kernel)) (fun _ _ _ _ _ => (pg_name (i := 8) scRunAlone.nd rfl (by first | exact Or.inl rfl | exact Or.inr rfl))) (fun _ _ _ _ _ => pts_nil) (fun _ _ _ _ _ => (pe_fldK (K := K) rfl (pv 8))) (fun _ _ _ _ _ => (pe_dget (hu_of hr) (pe_fldK (K := K) rfl (pv 6)) (pe_fldK (K := K) rfl (pv 8)) (fun _ _ => rfl)))) pa_nil)))))))))), ?_⟩
    obtain ⟨b, bv, n, g, pa, args, ps, s, t, rfl, hb, hok, hf, hpa, hag, hps, hst, ht, hq⟩ := h
    have hgm := (find_mem hf).1
    have hl3 := hok.lf
    have hmany : g.many ≤ 2 := by
      obtain ⟨ahead, _, ok⟩ := hok.fok hgm
      exact ok.many
    refine q_asgL (xs := args.map V.int) (el_call (sp := spCheckedArguments K) (dvs := []) (ea_cons (ev_var rfl) (ea_cons (ev_var rfl) (ea_cons (ev_var rfl) ea_nil))) fun Ha ea Q q E => ⟨b, bv, n, g, pa, args, rfl, hb.mono ea, hf, ea _ _ hpa, hag, hmany, q⟩) fun pr H1 _ e1 hpr => ?_
    have hb1 := hb.mono e1
    refine q_dropE (BookP.list (ev_var rfl) hb1 H1 (Ex.refl _) _ fun pc cs H2 _ e2 hpc hc => ?_)
    have hc : Paired (CelP K H2) b.cells cs := hc
    have e12 := e1.trans e2
    refine ⟨.ref ps, rfl, pc, b.cells, cs, ps, s, rfl, hpc, hc, e12 _ _ hps, hst, fun H3 e3 => ?_⟩
    have e13 := e12.trans e3
    refine q_when (b := false) (et_is (et_or (et_not (a := true) (et_B (ev_call (ea_cons (ev_var rfl) ea_nil) (spv_isInteger (.inl ⟨t, rfl, rfl⟩))))) fun _ => et_test (ev_op (ev_var rfl) ev_c rv_I0)) ?_) (fun z => by cases z) fun _ H4 e4 => ?_
    · show (false || decide (t < 0)) = false
      rw [decide_eq_false (by omega)]; rfl
    have e14 := e13.trans e4
    refine q_asgP (ep_make (vs := [bv, .ref ps, .int t, .non]) (Ψ := fun x dx H5 => ∃ dh, H4 dh = none ∧ H5 x = some (.ins (He.ga K "Scene") dx (ScF bv dh t)) ∧ H5 dh = some (.dK (stV s))) (ea_cons (ev_var rfl) (ea_cons (ev_var rfl) (ea_cons (ev_var rfl) (ea_cons ev_c ea_nil)))) fun x dx Ha xa ha hdx hx Q hQ => ⟨x, dx, bv, ps, stV s, t, rfl, ha, xa _ _ (fun z => by have := e14 _ _ hps; rw [z, hx] at this; cases this) (e14 _ _ hps), fun dh Hb xb hdh hb2 hd2 => hQ Hb xb ⟨dh, ?_, hb2, hd2⟩⟩) fun v H5 e5 hv => ?_
    · cases q : H4 dh with
      | none => rfl
      | some o => rw [xa _ _ (fun z => by rw [z, hx] at q; cases q) q] at hdh; cases hdh
    obtain ⟨x, dx, rfl, hdx, dh, hdh, hx5, hd5⟩ := hv
    have hb5 := hb.mono (e14.trans e5)
    have sc : ScAt K b x dx bv dh t s H5 := ⟨hx5, hb5, hd5, hok, hst⟩
    have hpr5 := ((e2.trans e3).trans (e4.trans e5)) _ _ hpr
    have hgt : g ∈ b.fns.take (2 + 1) := by rw [List.take_of_length_le (by omega)]; exact hgm
    have hcf := callN_ok hok t 2
    have rok := ran_ok hok hcf hgt hag hst
    refine q_asgW (r := ran b.fns t 2 g args s) (dh := dh) (fun Ha ea Q q => ⟨_, rfl, x, dx, _, rfl, (sc.mono ea).at_, rfl, e_cons ?_⟩) fun H6 x6 h6 => ?_
    · refine ep_get (ev_var rfl) (hb5.mono ea) (ev_var rfl) hf Ha (Ex.refl _) _ fun u Hb eb hu => ⟨_, rfl, b, x, dx, bv, dh, t, s, u, pr, args, g, rfl, sc.mono (ea.trans eb), hu, hgt, (ea.trans eb) _ _ hpr5, hag, fun Hc xc hc => q Hc ((ExX.of eb).trans xc) hc⟩
    have sc6 := sc.go x6 h6 rok.2
    have e06 : Ex H H6 := ExX.ex x6 (e14.trans e5) (fresh_back e14 hdh)
    refine s_retE (e_tup (e_cons ⟨_, rfl, e_cons ?_⟩))
    refine tDc_lp (BookP.list (ev_var rfl) (hb.mono e06)) fun pc2 cs2 H7 _ e7 hpc2 hc2 => ?_
    have hc2 : Paired (CelP K H7) b.cells cs2 := hc2
    have sc7 := sc6.mono e7
    have hlen : cs2.length ≤ 3 := by rw [← Paired.length hc2]; exact hok.lc
    refine ed_fm (σ := [some bv, some (.str n), some (.ref pa), some (.ref ps), some (.int t), some (.ref pr), some (.ref x), some (.int (ran b.fns t 2 g args s).1), none]) (j := 8) (vs := [8]) (evi_list (K := K) ev_c (sq_of hpc2)) (fun _ => true) (cN H7) (fun y => .int (look (ran b.fns t 2 g args s).2 (cN H7 y))) (by omega) (fun _ => rfl) (fun _ _ => et_yes) (fun y hy _ => ?_) (fun y hy _ => ?_) H7 (Ex.refl _) _ fun d H8 _ e8 hd8 => ?_
    · obtain ⟨i, hi⟩ := List.getElem?_of_mem hy
      obtain ⟨c, _, hcx⟩ := Paired.getR hc2 hi
      rw [cN_is hcx]
      exact ev_cname T (ev_var rfl) hcx
    · obtain ⟨i, hi⟩ := List.getElem?_of_mem hy
      obtain ⟨c, hci, hcx⟩ := Paired.getR hc2 hi
      rw [cN_is hcx]
      exact ev_dget (ev_fld (ev_var rfl) sc7.at_ T.cl_Scene T.n_Scene_held rfl) (ev_cname T (ev_var rfl) hcx) sc7.hd (sc7.st.val (List.mem_map.mpr ⟨c, List.mem_of_getElem? hci, rfl⟩))
    · rw [List.filter_eq_self.mpr (fun _ _ => rfl)] at hd8
      have hfold : cs2.foldl (fun acc y => putK acc (Sum.inr (cN H7 y) : Key) (.int (look (ran b.fns t 2 g args s).2 (cN H7 y)))) [] = stV (ran b.fns t 2 g args s).2 := by
        have h1 := stV_fold (ran b.fns t 2 g args s).2 (b.cells.map fun c => c.1) [] (by simpa using hok.ndc)
        rw [← cN_row hc2, List.foldl_map] at h1
        have h2 := st_map (s := (ran b.fns t 2 g args s).2) (by rw [rok.2.ks]; exact hok.ndc)
        rw [rok.2.ks] at h2
        rw [cN_row hc2] at h1
        rw [List.nil_append, h2] at h1
        exact h1
      rw [hfold] at hd8
      refine ⟨show 2 ≤ sizeLine by decide, fun p hp => hq p d _ (((e06.trans e7).trans e8).trans (Ex.new hp)) upd_same ?_⟩
      rw [upd_ne (fun z => by rw [z, hp] at hd8; cases hd8)]
      exact hd8

end
end SC
set_option Elab.async false
set_option linter.all false
set_option maxRecDepth 100000
set_option maxHeartbeats 1000000
/-! W5a: value_at, writes_at. -/
namespace SC
open PySem PySem.Spec PyProof.Rows L2 C8 Evl


def CaseOk (H : Hp) (s : Sta) (t : Int) (v : V) : Prop := ∃ p ps, v = .ref p ∧ H p = some (.tup [.ref ps, .int t]) ∧ H ps = some (.dK (stV s))
def AskAt (K : PySem.W.Frag) (b : Bk) (n : Str) (g : Fn) (args : List Int) (s : Sta) (t : Int) (vs : List V) (H : Hp) : Prop := ∃ bv pa cv, vs = [bv, .str n, .ref pa, cv] ∧ BookP K H b bv ∧ BOk b ∧ findF b.fns n = some g ∧ H pa = some (.tup (args.map V.int)) ∧ ArgOk g.many args ∧ CaseOk H s t cv ∧ StOk (b.cells.map (·.1)) s ∧ 0 ≤ t
def spValueAt (K : PySem.W.Frag) : Sp := fun vs H Q _ => ∃ b n g args s t, AskAt K b n g args s t vs H ∧ RetV (.int (ran b.fns t 2 g args s).1) H Q
def spWritesAt (K : PySem.W.Frag) : Sp := fun vs H Q _ => ∃ b n g args s t, AskAt K b n g args s t vs H ∧ RetV (.bl (neS (ran b.fns t 2 g args s).2 s)) H Q

section
variable {P : Program} {w : World} {K : PySem.W.Frag} {mg : Str → Option Value} {base : Heap} (T : Tx K mg)
include T

omit T in
theorem scValueAt : FnScope ["book", "name", "arguments", "case"] ["book", "name", "arguments", "case"] (defScope sValueAt) := ⟨rfl, rfl, rfl, by decide +kernel, rfl, by decide +kernel, by decide +kernel⟩
theorem okValueAt : Cal P w K mg base 27 "value_at" (spValueAt K) [] := by
  obtain ⟨rf, rfd, rps, rg, gV, hg, hk, hF, kb, hgV⟩ := okRunAlone (P := P) (w := w) (base := base) T
  obtain ⟨fd, F⟩ := T.DValueAt
  refine cal_of T.g_value_at F (F.bindsN fun _ _ _ _ _ _ us hl => match us, hl with | [_, _, _, _], _ => rfl) scValueAt (fun vs H Q E h => ?_) (fun cdv A outer s H vs Q E hr h => ?_)
  · obtain ⟨b, n, g, args, st, t, ⟨bv, pa, cv, rfl, _⟩, _⟩ := h; rfl
  · refine ⟨_, (pss_one (ps_ret (pe_ix ix_tup (pe_callN (E := C8.E0) hF hr rfl hg hk kb C8.pass0 (pa_cons (pv 0) (pa_cons (pv 1) (pa_cons (pv 2) (pa_cons (pe_ix ix_tup (pv 3) pe_int (fun _ _ => rfl)) pa_nil)))) (pk_cons (pe_ix ix_tup (pv 3) pe_int (fun _ _ => rfl)) pk_nil)) pe_int (fun _ _ => rfl)))), ?_⟩
    obtain ⟨b, n, g, args, st, t, ⟨bv, pa, cv, rfl, hb, hok, hf, hpa, hag, ⟨p, ps, rfl, hp, hps⟩, hst, ht⟩, hq⟩ := h
    have call : EvP (tCallN 4 1 (spRunAlone K) gV C8.E0 (tCons (tVar 0) (tCons (tVar 1) (tCons (tVar 2) (tCons (tOp (rIxT K) (tVar 3) (tC (.int 0))) tNil)))) (tCons (tOp (rIxT K) (tVar 3) (tC (.int 1))) tNil)) (start ["book", "name", "arguments", "case"] [bv, .str n, .ref pa, .ref p]) H (fun v H2 => ∃ q d, v = .ref q ∧ H2 q = some (.tup [.int (ran b.fns t 2 g args st).1, .ref d]) ∧ H2 d = some (.dK (stV (ran b.fns t 2 g args st).2))) := fun Ha ea Q q =>
      ea_cons (ev_var rfl) (ea_cons (ev_var rfl) (ea_cons (ev_var rfl) (ea_cons (ev_op (ev_var rfl) ev_c (rv_ixT (st_of (ea _ _ hp)) at0)) ea_nil))) Ha (Ex.refl _) _ fun Hb eb => ea_cons (ev_op (ev_var rfl) ev_c (rv_ixT (st_of ((ea.trans eb) _ _ hp)) at1)) ea_nil Hb (Ex.refl _) _ fun Hc ec => by
        have e := (ea.trans eb).trans ec
        refine ⟨rfl, rfl, ?_⟩
        rw [hgV]
        exact ⟨b, bv, n, g, pa, args, ps, st, t, rfl, hb.mono e, hok, hf, e _ _ hpa, hag, e _ _ hps, hst, ht, fun p2 d2 H2 e2 h1 h2 => q _ H2 ((eb.trans ec).trans e2) ⟨p2, d2, rfl, h1, h2⟩⟩
    
    refine s_retE (e_op (call H (Ex.refl _) _ fun v H1 e1 hv => ?_))
    obtain ⟨q, d, rfl, h1, h2⟩ := hv
    exact ⟨q, _, _, _, rfl, rfl, st_of h1, at0, hq H1 e1⟩

omit T in
theorem scWritesAt : FnScope ["book", "name", "arguments", "case"] ["book", "name", "arguments", "case"] (defScope sWritesAt) := ⟨rfl, rfl, rfl, by decide +kernel, rfl, by decide +kernel, by decide +kernel⟩
theorem okWritesAt : Cal P w K mg base 27 "writes_at" (spWritesAt K) [] := by
  obtain ⟨rf, rfd, rps, rg, gV, hg, hk, hF, kb, hgV⟩ := okRunAlone (P := P) (w := w) (base := base) T
  obtain ⟨fd, F⟩ := T.DWritesAt
  refine cal_of T.g_writes_at F (F.bindsN fun _ _ _ _ _ _ us hl => match us, hl with | [_, _, _, _], _ => rfl) scWritesAt (fun vs H Q E h => ?_) (fun cdv A outer s H vs Q E hr h => ?_)
  · obtain ⟨b, n, g, args, st, t, ⟨bv, pa, cv, rfl, _⟩, _⟩ := h; rfl
  · refine ⟨_, (pss_one (ps_ret (pe_cmpR (op_neSt hr.units0) (pe_ix ix_tup (pe_callN (E := C8.E0) hF hr rfl hg hk kb C8.pass0 (pa_cons (pv 0) (pa_cons (pv 1) (pa_cons (pv 2) (pa_cons (pe_ix ix_tup (pv 3) pe_int (fun _ _ => rfl)) pa_nil)))) (pk_cons (pe_ix ix_tup (pv 3) pe_int (fun _ _ => rfl)) pk_nil)) pe_int (fun _ _ => rfl)) (pe_ix ix_tup (pv 3) pe_int (fun _ _ => rfl)) (nomark _)))), ?_⟩
    obtain ⟨b, n, g, args, st, t, ⟨bv, pa, cv, rfl, hb, hok, hf, hpa, hag, ⟨p, ps, rfl, hp, hps⟩, hst, ht⟩, hq⟩ := h
    have call : EvP (tCallN 4 1 (spRunAlone K) gV C8.E0 (tCons (tVar 0) (tCons (tVar 1) (tCons (tVar 2) (tCons (tOp (rIxT K) (tVar 3) (tC (.int 0))) tNil)))) (tCons (tOp (rIxT K) (tVar 3) (tC (.int 1))) tNil)) (start ["book", "name", "arguments", "case"] [bv, .str n, .ref pa, .ref p]) H (fun v H2 => ∃ q d, v = .ref q ∧ H2 q = some (.tup [.int (ran b.fns t 2 g args st).1, .ref d]) ∧ H2 d = some (.dK (stV (ran b.fns t 2 g args st).2))) := fun Ha ea Q q =>
      ea_cons (ev_var rfl) (ea_cons (ev_var rfl) (ea_cons (ev_var rfl) (ea_cons (ev_op (ev_var rfl) ev_c (rv_ixT (st_of (ea _ _ hp)) at0)) ea_nil))) Ha (Ex.refl _) _ fun Hb eb => ea_cons (ev_op (ev_var rfl) ev_c (rv_ixT (st_of ((ea.trans eb) _ _ hp)) at1)) ea_nil Hb (Ex.refl _) _ fun Hc ec => by
        have e := (ea.trans eb).trans ec
        refine ⟨rfl, rfl, ?_⟩
        rw [hgV]
        exact ⟨b, bv, n, g, pa, args, ps, st, t, rfl, hb.mono e, hok, hf, e _ _ hpa, hag, e _ _ hps, hst, ht, fun p2 d2 H2 e2 h1 h2 => q _ H2 ((eb.trans ec).trans e2) ⟨p2, d2, rfl, h1, h2⟩⟩
    
    refine s_retE (e_op (e_op (call H (Ex.refl _) _ fun v H1 e1 hv => ?_)))
    obtain ⟨q, d, rfl, h1, h2⟩ := hv
    refine ⟨q, _, _, _, rfl, rfl, st_of h1, at1, ?_⟩
    exact ev_op (ev_var rfl) ev_c (rv_ixT (st_of (e1 _ _ hp)) at0) H1 (Ex.refl _) _ fun H2 e2 => ⟨d, ps, _, _, rfl, rfl, e2 _ _ h2, (e1.trans e2) _ _ hps, hq H2 (e1.trans e2)⟩

end
end SC
set_option Elab.async false
set_option linter.all false
set_option maxRecDepth 100000
set_option maxHeartbeats 1000000
/-! W5b: reads_tick. -/
namespace SC
open PySem PySem.Spec PyProof.Rows L2 C8 Evl


def spReadsTick (K : PySem.W.Frag) : Sp := fun vs H Q _ => ∃ b bv n, vs = [bv, .str n] ∧ BookP K H b bv ∧ BOk b ∧ n ∈ b.fns.map (·.name) ∧ RetV (.bl (tickM b n)) H Q
theorem spv_readsTick {K : PySem.W.Frag} {H : Hp} {b : Bk} {bv : V} {n : Str} (hb : BookP K H b bv) (hok : BOk b) (hn : n ∈ b.fns.map (·.name)) : SpV (spReadsTick K) [bv, .str n] H (.bl (tickM b n)) := fun H1 e Q q E => ⟨b, bv, n, rfl, hb.mono e, hok, hn, q⟩
theorem tick_iff {b : Bk} {n : Str} : tickM b n = true ↔ ∃ w ∈ reachV b n, ∃ g, findF b.fns w = some g ∧ tickF g = true := by
  have this : tickM b n = true ↔ _ := reach_any (b := b) (n := n) fun g => tickF g
  exact this
theorem ep_parts {K : PySem.W.Frag} {σ : L2.St} {H : Hp} {te : TE} {g : Fn} (h : EvP te σ H fun u H2 => FunP K H2 g u) (hl : g.wr.length ≤ 1) : EvLP (tMeth (He.ga K "Function") "parts" (spFunctionParts K) [] C8.E0 te tNil) σ H (fun xs H2 => Paired (TmAt H2) g.parts xs) := fun H1 e Q q =>
  h H1 e _ fun v H2 e2 hg => by
    obtain ⟨p, dx, pl, dl, hl', x, pw, ws, rfl, hp, _⟩ := id hg
    exact ⟨p, dx, _, rfl, hp, rfl, g, _, rfl, hg, hl, fun p xs H3 a1 a2 a3 a4 => q p xs H3 (fresh_back e2 a1) (e2.trans a2) a3 a4⟩
theorem BOk.fm {b : Bk} (h : BOk b) {g : Fn} (hg : g ∈ b.fns) : ∀ t ∈ g.parts, FmOk g.many t := fun t ht => by
  obtain ⟨j, hj⟩ := List.getElem?_of_mem hg
  have ok := (h.fn j g hj).fm h.cnm (h.aheadOk j)
  rcases List.mem_cons.mp ht with e | ht
  · subst e; exact ok.1
  · obtain ⟨w, hw, rfl⟩ := List.mem_map.mp ht
    exact (ok.2 w hw).fm

section
variable {P : Program} {w : World} {K : PySem.W.Frag} {mg : Str → Option Value} {base : Heap} (T : Tx K mg)
include T

omit T in
theorem scReadsTick : FnScope ["book", "name", "one", "term"] ["book", "name"] (defScope sReadsTick) := ⟨rfl, rfl, rfl, by decide +kernel, rfl, by decide +kernel, by decide +kernel⟩
theorem okReadsTick : Cal P w K mg base 10 "reads_tick" (spReadsTick K) [] := by
  obtain ⟨fd, F⟩ := T.DReadsTick
  refine cal_of T.g_reads_tick F (F.bindsN fun _ _ _ _ _ _ us hl => match us, hl with | [_, _], _ => rfl) scReadsTick (fun vs H Q E h => ?_) (fun cdv A outer s H vs Q E hr h => ?_)
  · obtain ⟨b, bv, n, rfl, _⟩ := h; rfl
  · refine ⟨_, (pss_one (ps_ret (pe_callB (cr_any rfl) rfl T.f_any (by decide +kernel) (pa_cons (pe_lc2  (own := [("one", 2), ("term", 3)]) (vs1 := [3]) (by rfl) scReadsTick.nd (pi_list (pe_mt (okBookReaches T) hr (by decide) (pv 0) (pa_cons (pv 1) pa_nil))) (blkOk_by (own := [("one", 2), ("term", 3)]) (N := ["book", "name", "one", "term"]) (sc := defScope sReadsTick) (by decide +kernel)) (by decide) (fun _ _ _ _ _ => (pg_name (i := 2) scReadsTick.nd rfl (by first | exact Or.inl rfl | exact Or.inr rfl))) (fun _ _ _ _ _ => pts_nil) (fun _ _ _ _ _ => (pi_listK (K := K) rfl (pe_mt0 (okFunctionParts T) hr (by decide) (pe_ownIx (okBookGetitem T) hr (by decide) (pv 0) (pv 2))))) (fun _ _ _ _ _ => (pg_name (i := 3) scReadsTick.nd rfl (by first | exact Or.inl rfl | exact Or.inr rfl))) (fun _ _ _ _ _ => pts_nil) (fun _ _ _ _ _ => (pe_c (okHasTick T) hr (by decide) rfl (pa_cons (pv 3) pa_nil)))) pa_nil)))), ?_⟩
    obtain ⟨b, bv, n, rfl, hb, hok, hn, hq⟩ := h
    have hrl : (reachV b n).length ≤ 3 := by
      have h1 := List.length_filter_le (fun m => decide (m ∈ reachL b.fns n)) (b.fns.map fun (g : Fn) => g.name)
      rw [List.length_map] at h1
      exact Nat.le_trans h1 hok.lf
    have lc := lc2_gen (σ := start ["book", "name", "one", "term"] [bv, .str n]) (H := H) (wi1 := iList K (tMeth (He.ga K "Function") "parts" (spFunctionParts K) [] C8.E0 (tOwnIx (He.ga K "Book") (spBookGetitem K) (tVar 0) (tVar 2)) tNil)) (te := tCall (spHasTick K) [] C8.E0 (tCons (tVar 3) tNil)) (vs := [2, 3]) (vs1 := [3]) (j := 2) (j1 := 3) (evi_listN (K := K) (el_reaches (te := tVar 0) (tk := tVar 1) (ev_var rfl) (ev_var rfl) hb hok hn))
      (fun i acc _ => ∃ bs : List Bool, acc = bs.map V.bl ∧ bs.length ≤ 2 * i ∧ (bs.any id = true ↔ ∃ w ∈ (reachV b n).take i, ∃ g, findF b.fns w = some g ∧ tickF g = true)) (fun _ _ _ _ _ z => z) (fun _ _ => ⟨[], rfl, Nat.le_refl _, by simp⟩) (fun _ => rfl) (fun _ _ => rfl) (fun i x acc D H1 hx e hD hi R hR => ?_)
    · refine s_retE (e_cb (e_cons (lc H (Ex.refl _) _ fun p ys H2 hp e2 h2 hys => ?_)))
      obtain ⟨bs, rfl, hl, hbs⟩ := hys
      rw [List.length_map, List.take_length] at hbs
      have : bs.any id = tickM b n := by rw [Bool.eq_iff_iff, hbs, tick_iff]
      exact ⟨p, bs, rfl, sq_of h2, by rw [this]; exact hq H2 e2⟩
    · obtain ⟨bs, rfl, hl, hbs⟩ := hi
      rw [List.getElem?_map] at hx
      obtain ⟨w, hwi, rfl⟩ := Option.map_eq_some_iff.mp hx
      have hi3 : i < 3 := by
        obtain ⟨h, _⟩ := List.getElem?_eq_some_iff.mp hwi
        omega
      obtain ⟨g, hg, hgn, hgm⟩ := find_some (reach_mem (List.mem_of_getElem? hwi)).1
      have hpl := parts_len (hok.wl hgm)
      refine ep_parts (ep_get (ev_var rfl) (hb.mono e) (ev_var rfl) hg) (hok.wl hgm) H1 (Ex.refl _) _ fun q zs H2 hq0 e2 hqz hzs => ?_
      have hzs : Paired (TmAt H2) g.parts zs := hzs
      have nqD : q ≠ D := fun z => by rw [z, hD] at hq0; cases hq0
      have hzl : zs.length ≤ 2 := by rw [← Paired.length hzs]; exact hpl
      have eT2 : ∀ {H3 : Hp}, ExX D H2 H3 → ExT H2 H3 := fun x => x.t (e2 _ _ hD)
      refine ⟨q, rfl, ⟨zs, sq_of hqz⟩, hR _ _ e2 ⟨zs, fun H' => SqL K H' q zs, fun k acc' _ => ∃ cs : List Bool, acc' = cs.map V.bl ∧ cs.length ≤ 2 * i + k ∧ k ≤ 2 ∧ (cs.any id = true ↔ (bs.any id = true ∨ (g.parts.take k).any tickT = true)), walk_list, fun H' x' => sq_of (x' q _ nqD hqz), fun _ _ _ _ _ z => z, fun k acc' H3 h => ?_, ⟨bs, rfl, by omega, by omega, by simp⟩, fun k y acc' H3 hy x3 h Q hQ => ?_, fun acc' H3 h => ?_⟩⟩
      · obtain ⟨cs, rfl, h1, h2, _⟩ := h
        rw [List.length_map]; omega
      · obtain ⟨cs, rfl, h1, h2, h3⟩ := h
        obtain ⟨u, hu, hyu⟩ := Paired.getR hzs hy
        have hum := List.mem_of_getElem? hu
        have hk2 : k < 2 := by
          obtain ⟨h, _⟩ := List.getElem?_eq_some_iff.mp hy
          omega
        obtain ⟨td, tz⟩ := hok.parts hgm u hum
        refine ev_call (σ := [some bv, some (.str n), some (.str w), some y]) (ea_cons (ev_var rfl) ea_nil) (spv_hasTick (K := K) (hyu.monoT (eT2 x3)) (hok.fm hgm u hum) td tz) H3 (Ex.refl _) Q fun H4 e4 => hQ _ H4 e4 ⟨cs ++ [tickT u], by rw [List.map_append]; rfl, by rw [List.length_append, List.length_singleton]; omega, by omega, ?_⟩
        rw [List.any_append, List.take_add_one, hu, List.any_append, Bool.or_eq_true, h3, Bool.or_eq_true]
        simp [or_assoc]
      · obtain ⟨cs, rfl, h1, h2, h3⟩ := h
        rw [← Paired.length hzs, List.take_length] at h3
        refine ⟨cs, rfl, by omega, ?_⟩
        rw [h3, hbs, List.take_add_one, hwi]
        constructor
        · rintro (⟨w2, hw2, g2, hg2, hm⟩ | hm)
          · exact ⟨w2, List.mem_append.mpr (.inl hw2), g2, hg2, hm⟩
          · exact ⟨w, by simp, g, hg, hm⟩
        · rintro ⟨w2, hw2, g2, hg2, hm⟩
          rcases List.mem_append.mp hw2 with h | h
          · exact .inl ⟨w2, h, g2, hg2, hm⟩
          · have e : w2 = w := by simpa using h
            subst e
            rw [hg] at hg2
            cases hg2
            exact .inr hm

end
end SC
set_option Elab.async false
set_option linter.all false
set_option maxRecDepth 100000
set_option maxHeartbeats 1000000
/-! W5c: states_of. -/
namespace SC
open PySem PySem.Spec PyProof.Rows L2 C8 Evl


theorem q_augR {C : Int → Int → Prop} {gg : Int → Int → Int} {te : TE} {σ : L2.St} {H : Hp} {tz : TS} {D : Ends} {i : Nat} {a b : Int} (hx : σ[i]? = some (some (.int a))) (h : Ev te σ H (.int b)) (hc : C a b) (k : ∀ H1, Ex H H1 → tz D (σ.set i (some (.int (gg a b)))) H1) : tSeq (tAug i te (rI C fun i j => .int (gg i j))) tz D σ H :=
  ⟨.int a, hx, h H (Ex.refl H) _ fun H1 e => ⟨a, b, rfl, rfl, hc, k H1 e⟩⟩
theorem s_augR {C : Int → Int → Prop} {gg : Int → Int → Int} {te : TE} {σ : L2.St} {H : Hp} {D : Ends} {i : Nat} {a b : Int} (hx : σ[i]? = some (some (.int a))) (h : Ev te σ H (.int b)) (hc : C a b) (k : ∀ H1, Ex H H1 → D.nx (σ.set i (some (.int (gg a b)))) H1) : tAug i te (rI C fun i j => .int (gg i j)) D σ H :=
  ⟨.int a, hx, h H (Ex.refl H) _ fun H1 e => ⟨a, b, rfl, rfl, hc, k H1 e⟩⟩
def spStates (K : PySem.W.Frag) : SpI := fun vs HI Nn want => ∃ pl cl cs, vs = [.ref pl] ∧ HI pl = some (.lst cs) ∧ Paired (CelP K HI) cl cs ∧ cl.length ≤ 3 ∧ (cl.map (·.1)).Nodup ∧ Nn = 3 ^ cl.length ∧ want = fun i => stV (digs (cl.map (·.1)) i)
theorem scStatesOf : LocScope ["cells", "rows", "many", "cell", "number", "state", "left"] ["cells"] (defScope sStatesOf) := ⟨⟨rfl, rfl, rfl, by decide +kernel, rfl, by decide +kernel, by decide +kernel⟩, fun _ => rfl, by decide +kernel⟩


def preS : List Stmt := (defBody sStatesOf).take 3
def bodyOf : Stmt → List Stmt
  | .For _ _ b _ _ => b
  | _ => []
def midS : List Stmt := (bodyOf ((defBody sStatesOf).getD 3 (.Pass ⟨0, 0, 0, 0⟩))).take 2
theorem el_revL {K : PySem.W.Frag} {σ : L2.St} {H : Hp} {te : TE} {a : Addr} {xs : List V} (h : Ev te σ H (.ref a)) (hx : SqL K H a xs) : EvL (tRevL K te) σ H xs.reverse := fun H1 e Q q =>
  h H1 e _ fun H2 e2 => ⟨a, xs, rfl, ex_l (e.trans e2) hx, fun p hp => q p _ (fresh_back e2 hp) (e2.trans (Ex.new hp)) upd_same⟩
theorem ed_star1 {σ : L2.St} {H : Hp} {tk tv te : TE} {k : Str} {v : V} {o : Addr} {more : List (Key × V)} (hk : Ev tk σ H (.str k)) (hv : Ev tv σ H v) (he : Ev te σ H (.ref o)) (ho : H o = some (.dK more)) (hz : more.length ≤ 900) : EvD (tStar1 tk tv te) σ H (mergeK [(Sum.inr k, v)] more) := fun H1 e Q q p hp =>
  hk _ (e.trans (Ex.new hp)) _ fun H2 e2 => hv H2 ((e.trans (Ex.new hp)).trans e2) _ fun H3 e3 => by
    have e13 : Ex H1 H3 := ((Ex.new hp).trans e2).trans e3
    have e4 : Ex H1 (upd H3 p (.dK [(Sum.inr k, v)])) := Ex.mut e13 hp
    refine ⟨(e2.trans e3) _ _ upd_same, Sum.inr k, rfl, he _ (e.trans e4) _ fun H5 e5 => ⟨o, more, rfl, e5 _ _ upd_same, .inl ((e.trans (e4.trans e5)) _ _ ho), fun z => ?_, hz, q p _ hp (Ex.mut (e4.trans e5) hp) upd_same⟩⟩
    have := e _ _ ho
    rw [← z, hp] at this
    cases this
theorem merge_fresh : ∀ (more s : Sta), (keysS s ++ keysS more).Nodup → mergeS s more = s ++ more
  | [], s, _ => by simp [mergeS]
  | p :: r, s, h => by
    have hn : p.1 ∉ keysS s := fun hm => (List.nodup_append.mp h).2.2 p.1 hm p.1 (by simp [keysS]) rfl
    show mergeS (setS s p.1 p.2) r = _
    rw [setS_new hn, merge_fresh r (s ++ [(p.1, p.2)]) (by simpa [keysS] using h)]
    simp
theorem keys_dig : ∀ (l : List Str) (p : Sta × Nat), keysS (l.foldl digStep p).1 = l.reverse ++ keysS p.1
  | [], p => rfl
  | c :: r, p => by
    show keysS (r.foldl digStep (digStep p c)).1 = _
    rw [keys_dig r]
    simp [digStep, keysS]
theorem el_listOf {K : PySem.W.Frag} {σ : L2.St} {H : Hp} {te : TE} {a : Addr} {xs : List V} (h : Ev te σ H (.ref a)) (hx : SqL K H a xs) : EvL (tCB (fun xs H Q => ∃ p ys, xs = [V.ref p] ∧ (SqL K H p ys ∨ SqT K H p ys) ∧ ∀ l, H l = none → Q (.ref l) (upd H l (.lst ys))) (tCons te tNil)) σ H xs := el_listL h hx
section
variable {P : Program} {w : World} {K : PySem.W.Frag} {mg : Str → Option Value} {base : Heap} (T : Tx K mg)
include T
theorem okStatesOf : ∃ (fd : FuncData) (ps : List Str), GInn P w K mg base 1 (He.ga K "states_of") fd ps (spStates K) ∧ Binds K fd ps [] := by
  obtain ⟨fd, F⟩ := T.DStatesOf
  have Fb : Binds K fd ["cells"] [] := F.bindsN fun _ _ _ _ _ _ us hl => match us, hl with | [_], _ => rfl
  obtain ⟨oc, od, dV, kV, doc, pm, an, cdv, ct, osl, e, lk, hcd, _, _⟩ := F.ex
  subst e
  refine ⟨_, ["cells"], ginn_of lk hcd scStatesOf (fun vs HI Nn want h => ?_) (fun A XI vs Nn want oL hP hw hK hmg hbase ok hr hfr hhd hsp hoL s W => ?_), Fb⟩
  · obtain ⟨pl, cl, cs, rfl, _⟩ := h; rfl
  · obtain ⟨pl, cl, cs, rfl, hpl, hc, hl, hnd, rfl, rfl⟩ := hsp
    subst hP hw hK hmg hbase
    have hcl : cs.length = cl.length := (Paired.length hc).symm
    refine inner_seg (N := ["cells", "rows", "many", "cell", "number", "state", "left"]) (P := ["cells"]) (pre := preS) (mid := midS) (jx := 4) (te := tVar 5) (σ0 := start _ [.ref pl])
      (Hdr := fun r xs σ H => (∃ x3 x4 x5 x6, σ = [some (.ref pl), some (.ref r), some (.int ((3 ^ cl.length : Nat) : Int)), x3, x4, x5, x6]) ∧ Paired (CelP XI.K XI.HI) cl xs) ok scStatesOf hhd hfr rfl (Or.inl rfl) (by have : 3 ^ cl.length ≤ 3 ^ 3 := Nat.pow_le_pow_right (by omega) hl; omega) rfl T.f_range hoL rfl (fun s => ⟨_, (pss_cons (ps_set (i := 1) scStatesOf.nd rfl (by first | exact Or.inl rfl | exact Or.inr rfl) (pe_callTy call_list_of rfl T.f_list (by decide +kernel) (pa_cons (pv 0) pa_nil))) (pss_cons (ps_set (i := 2) scStatesOf.nd rfl (by first | exact Or.inl rfl | exact Or.inr rfl) pe_int) (pss_one (ps_for PassesOwn.never rfl (pi_list (pv 1)) (pg_name (i := 3) scStatesOf.nd rfl (by first | exact Or.inl rfl | exact Or.inr rfl)) (pss_one (ps_aug (i := 2) scStatesOf.nd rfl (Or.inl rfl) pe_int iop_mul)))))), ?_⟩) (fun s => ⟨_, (pa_cons (pv 2) pa_nil), fun r xs σ H Q h q => ?_⟩) (fun s => rfl) (fun s i r xs σ H hi h hr2 hsub => ⟨_, (pss_cons (ps_par (i := 5) (j := 6) (by rfl) scStatesOf.nd rfl rfl (by decide) rfl rfl (pa_cons pe_dnewK (pa_cons (pv 4) pa_nil)) (by rfl)) (pss_one (ps_for PassesOwn.never rfl (pi_list (pe_revL (pv 1))) (pg_name (i := 3) scStatesOf.nd rfl (by first | exact Or.inl rfl | exact Or.inr rfl)) (pss_cons (ps_set (i := 5) scStatesOf.nd rfl (by first | exact Or.inl rfl | exact Or.inr rfl) (pe_star1 (pe_fld (pv 3) rfl) (pe_op op_mod (pv 6) pe_int) (pv 5))) (pss_one (ps_aug (i := 6) scStatesOf.nd rfl (Or.inl rfl) pe_int iop_fdiv)))))), ?_⟩) (fun s => pv 5) (fun r xs σ H H' h _ _ => h) rfl rfl s W
    · refine q_asgL (el_listL (ev_var rfl) (sq_of hpl)) fun r H1 hr0 e1 hr1 => ?_
      refine q_asg ev_c fun H2 e2 => ?_
      have hr2 := e2 _ _ hr1
      refine s_forI (evi_list (ev_var rfl) (sq_of hr2)) (fun i σ' H' => Ex H2 H' ∧ ∃ x3, σ' = [some (.ref pl), some (.ref r), some (.int ((3 ^ i : Nat) : Int)), x3, none, none, none]) (fun H3 e3 => ⟨e3, none, rfl⟩) (fun i x σ' H' hx eH hP => ?_) (fun σ' H' eH hP => ?_)
      · obtain ⟨e3, x3, rfl⟩ := hP
        have hi3 : i < 3 := by
          obtain ⟨h, _⟩ := List.getElem?_eq_some_iff.mp hx
          omega
        refine s_augR (i := 2) (a := ((3 ^ i : Nat) : Int)) (b := 3) rfl ev_c (.inr ⟨by omega, by omega⟩) fun H3 e4 => ⟨e4, e3.trans e4, some x, ?_⟩
        rw [Nat.pow_succ]
        push_cast
        rfl
      · obtain ⟨e3, x3, rfl⟩ := hP
        rw [hcl] 
        exact ⟨⟨r, cs, ⟨⟨_, _, _, _, rfl⟩, hc⟩, e3 _ _ hr2, hr0⟩, fun b u hb => e3 _ _ (e2 _ _ (e1 _ _ hb))⟩
    · obtain ⟨⟨x3, x4, x5, x6, rfl⟩, _⟩ := h
      exact ⟨_, rfl, q⟩
    · obtain ⟨⟨x3, x4, x5, x6, rfl⟩, hcx⟩ := h
      refine fun p hp => ⟨_, rfl, _, _, rfl, ?_⟩
      have ep : Ex H (upd H p (.dK [])) := Ex.new hp
      have hcr : Paired (CelP XI.K XI.HI) cl.reverse xs.reverse := Paired.rev hcx
      refine s_forI (evi_listN (el_revL (ev_var rfl) (sq_of (ep _ _ hr2)))) (fun k σ' H' => Ex H H' ∧ ∃ x3 d, σ' = [some (.ref pl), some (.ref r), some (.int ((3 ^ cl.length : Nat) : Int)), x3, some (.int (i : Nat)), some (.ref d), some (.int ((((cl.reverse.take k).map (·.1)).foldl digStep ([], i)).2 : Nat))] ∧ H' d = some (.dK (stV (((cl.reverse.take k).map (·.1)).foldl digStep ([], i)).1))) (fun H3 e3 => ⟨ep.trans e3, x3, p, rfl, e3 _ _ upd_same⟩) (fun k x σ' H' hx eH hP => ?_) (fun σ' H' eH hP => ?_)
      · obtain ⟨e3, x3, d, rfl, hd⟩ := hP
        obtain ⟨c, hck, hcx2⟩ := Paired.getR hcr hx
        have hcH : CelP XI.K H' c x := by
          obtain ⟨p1, dx1, h1, h2, h3⟩ := hcx2
          exact ⟨p1, dx1, h1, e3 _ _ (hsub _ _ h2), e3 _ _ (hsub _ _ h3)⟩
        have tk : (cl.reverse.take (k + 1)).map (fun z => z.1) = (cl.reverse.take k).map (fun z => z.1) ++ [c.1] := by rw [List.take_add_one, hck, List.map_append]; rfl
        have hks := keys_dig ((cl.reverse.take k).map (·.1)) ([], i)
        have hndr : (cl.reverse.map (·.1)).Nodup := by rw [List.map_reverse]; exact (List.reverse_perm _).nodup_iff.mpr hnd
        have hcn : c.1 ∉ keysS (((cl.reverse.take k).map (·.1)).foldl digStep ([], i)).1 := by
          rw [hks]
          show c.1 ∉ _ ++ []
          rw [List.append_nil, List.mem_reverse]
          exact nd_take hndr hck
        have hkn : (keysS (((cl.reverse.take k).map (·.1)).foldl digStep ([], i)).1).Nodup := by
          rw [hks]
          show (_ ++ []).Nodup
          rw [List.append_nil]
          exact (List.reverse_perm _).nodup_iff.mpr (nd_takeL hndr k)
        have hlen : (((cl.reverse.take k).map (·.1)).foldl digStep ([], i)).1.length ≤ 3 := by
          have : (keysS (((cl.reverse.take k).map (·.1)).foldl digStep ([], i)).1).length ≤ 3 := by
            rw [hks]
            show (_ ++ []).length ≤ 3
            rw [List.append_nil, List.length_reverse, List.length_map, List.length_take, List.length_reverse]
            omega
          simpa [keysS] using this
        refine q_asgD (ed_star1 (k := c.1) (v := .int (((((cl.reverse.take k).map (·.1)).foldl digStep ([], i)).2 % 3 : Nat) : Int)) (ev_cname T (ev_var rfl) hcH) (ev_is (ev_op (ev_var rfl) ev_c (rv_I (show (0 : Int) < 3 by decide))) (by push_cast; rfl)) (ev_var rfl) hd (by rw [stV_len]; omega)) fun d2 H4 _ e4 hd2 => ?_
        refine s_augR (i := 6) (a := ((((cl.reverse.take k).map (·.1)).foldl digStep ([], i)).2 : Nat)) (b := 3) rfl ev_c ⟨by decide, by decide⟩ fun H5 e5 => ⟨e4.trans e5, (e3.trans e4).trans e5, some x, d2, ?_, ?_⟩
        · rw [tk, List.foldl_append]
          show _ = [_, _, _, _, _, _, some (V.int ((((((cl.reverse.take k).map (·.1)).foldl digStep ([], i)).2 / 3 : Nat)) : Int))]
          push_cast
          rfl
        · rw [tk, List.foldl_append, e5 _ _ hd2]
          show some (HO.dK (mergeK [(Sum.inr c.1, V.int _)] (stV _))) = some (HO.dK (stV ((c.1, _) :: _)))
          have hm := stV_merge (((cl.reverse.take k).map (·.1)).foldl digStep ([], i)).1 [(c.1, (((((cl.reverse.take k).map (·.1)).foldl digStep ([], i)).2 % 3 : Nat) : Int))]
          rw [merge_fresh _ _ (by
            show ([c.1] ++ keysS _).Nodup
            rw [List.singleton_append, List.nodup_cons]
            exact ⟨hcn, hkn⟩)] at hm
          exact congrArg (fun z => some (HO.dK z)) hm
      · obtain ⟨e3, x3, d, rfl, hd⟩ := hP
        have hl2 : xs.reverse.length = cl.reverse.length := by rw [List.length_reverse, List.length_reverse]; exact (Paired.length hcx).symm
        refine ⟨⟨⟨_, _, _, _, rfl⟩, hcx⟩, e3 _ _ hr2, fun b u hb => e3 _ _ (hsub _ _ hb), ⟨_, rfl, rfl, d, rfl, ?_⟩⟩
        rw [hd, hl2, List.take_length, List.map_reverse]
        rfl
end
end SC
set_option Elab.async false
set_option linter.all false
set_option maxRecDepth 100000
set_option maxHeartbeats 1000000
/-! W5d: cases. -/
namespace SC
open PySem PySem.Spec PyProof.Rows L2 C8 Evl


theorem g_then {t : TS} {u : TGn} {D : GEnds} {ys : List V} {σ : L2.St} {H : Hp} (h : t { nx := fun σ' H' => u D ys σ' H', rt := D.rt ys, bk := D.bk ys, ct := D.ct ys } σ H) : tGThen (tPlain t) u D ys σ H := h
theorem g_asgL {te : TE} {u : TGn} {D : GEnds} {ys : List V} {σ : L2.St} {H : Hp} {xs : List V} {i : Nat} (h : EvL te σ H xs) (k : ∀ p H1, H p = none → Ex H H1 → H1 p = some (.lst xs) → u D ys (σ.set i (some (.ref p))) H1) : tGThen (tPlain (tAsg te (gName i))) u D ys σ H := h H (Ex.refl H) _ k
theorem g_asgD {te : TE} {u : TGn} {D : GEnds} {ys : List V} {σ : L2.St} {H : Hp} {kvs : List (Key × V)} {i : Nat} (h : EvD te σ H kvs) (k : ∀ p H1, H p = none → Ex H H1 → H1 p = some (.dK kvs) → u D ys (σ.set i (some (.ref p))) H1) : tGThen (tPlain (tAsg te (gName i))) u D ys σ H := h H (Ex.refl H) _ k
def spCases (K : PySem.W.Frag) : SpG2 := fun vs H Q => ∃ b bv n, vs = [bv, .str n] ∧ BookP K H b bv ∧ BOk b ∧ n ∈ b.fns.map (·.name) ∧ ∀ ys H2, Ex H H2 → Paired (CaseAt H2) (caseL b n) ys → Q ys H2
theorem scCases : GScope ["book", "name", "touched", "ticks", "blank", "cell", "state", "one", "tick"] ["book", "name"] (defScope sCases) := ⟨rfl, rfl, rfl, by decide +kernel, rfl, by decide +kernel, by decide +kernel⟩
theorem g_thenG {t u : TGn} {D : GEnds} {ys : List V} {σ : L2.St} {H : Hp} (h : t { D with nx := fun ys' σ' H' => u D ys' σ' H' } ys σ H) : tGThen t u D ys σ H := h
theorem s_asgD {te : TE} {σ : L2.St} {H : Hp} {kvs : List (Key × V)} {D : Ends} {i : Nat} (h : EvD te σ H kvs) (k : ∀ p H1, H p = none → Ex H H1 → H1 p = some (.dK kvs) → D.nx (σ.set i (some (.ref p))) H1) : tAsg te (gName i) D σ H := h H (Ex.refl H) _ k
/-- the cells, and their dicts, and one list -/
noncomputable def HIof (C pl : Addr) (H : Hp) : Hp := fun a =>
  open Classical in
  if a = pl ∨ (∃ dx fs, H a = some (.ins C dx fs) ∧ H dx = some (.own a)) ∨ (∃ y fs, H a = some (.own y) ∧ H y = some (.ins C a fs)) then H a else none
theorem HIof_pl {C pl : Addr} {H : Hp} : HIof C pl H pl = H pl := by unfold HIof; rw [if_pos (.inl rfl)]
theorem HIof_ins {C pl a dx : Addr} {H : Hp} {fs : List (Str × V)} (h : H a = some (.ins C dx fs)) (hd : H dx = some (.own a)) : HIof C pl H a = some (.ins C dx fs) ∧ HIof C pl H dx = some (.own a) := by
  unfold HIof
  rw [if_pos (.inr (.inl ⟨dx, fs, h, hd⟩)), if_pos (.inr (.inr ⟨a, fs, hd, h⟩))]
  exact ⟨h, hd⟩
theorem HIof_sub {C pl : Addr} {H : Hp} {xs : List V} (hpl : H pl = some (.lst xs)) : ∀ b u, HIof C pl H b = some u → H b = some u ∧ SimpleO (HIof C pl H) u := by
  intro b u h
  have h' := h
  unfold HIof at h
  split at h
  · rename_i hc
    refine ⟨h, ?_⟩
    rcases hc with rfl | ⟨dx, fs, h1, h2⟩ | ⟨y, fs, h1, h2⟩
    · rw [hpl] at h; cases h; exact True.intro
    · rw [h1] at h; cases h
      show (HIof C pl H dx).isSome = true
      rw [(HIof_ins h1 h2).2]; rfl
    · rw [h1] at h; cases h
      show (HIof C pl H y).isSome = true
      rw [(HIof_ins h2 h1).1]; rfl
  · cases h
theorem celP_HI {K : PySem.W.Frag} {pl : Addr} {H : Hp} {c : Str × Str} {v : V} (h : CelP K H c v) : CelP K (HIof (He.ga K "Cell") pl H) c v := by
  obtain ⟨p, dx, h1, h2, h3⟩ := h
  exact ⟨p, dx, h1, (HIof_ins h2 h3).1, (HIof_ins h2 h3).2⟩
theorem blank_fold {K : PySem.W.Frag} {H : Hp} {cl : List (Str × Str)} {cs : List V} (h : Paired (CelP K H) cl cs) (hn : (cl.map (·.1)).Nodup) : cs.foldl (fun acc y => putK acc (Sum.inr (cN H y) : Key) (.int 0)) [] = stV (cl.map fun c => (c.1, 0)) := by
  have h1 := stV_fold [] (cl.map fun c => c.1) [] (by simpa using hn)
  rw [← cN_row h, List.foldl_map] at h1
  rw [cN_row h, List.nil_append, List.map_map] at h1
  exact h1
/-- a cell of the book, by its name -/
theorem ep_cell {K : PySem.W.Frag} {σ : L2.St} {H : Hp} {ta tb : TE} {b : Bk} {v : V} {n : Str} (h : Ev ta σ H v) (hb : BookP K H b v) (hk : Ev tb σ H (.str n)) (hn : n ∈ b.cells.map (·.1)) : EvP (tMeth (He.ga K "Book") "cell" (spBookCell K) [] C8.E0 ta (tCons tb tNil)) σ H (fun u H2 => ∃ c, c ∈ b.cells ∧ c.1 = n ∧ CelP K H2 c u) := fun H1 e Q q =>
  h H1 e _ fun H2 e2 => by
    have hb2 := hb.mono (e.trans e2)
    obtain ⟨p, dx, pc, pf, cs, fs, rfl, hp, _⟩ := id hb2
    exact ⟨p, dx, _, rfl, hp, rfl, hk H2 (e.trans e2) _ fun H3 e3 => ⟨b, _, n, rfl, hb2.mono e3, hn, fun c u H4 e4 h1 h2 h3 => q u H4 ((e2.trans e3).trans e4) ⟨c, h1, h2, h3⟩⟩⟩
theorem CaseAt.mono {H H' : Hp} (e : Ex H H') {c : Sta × Int} {v : V} (h : CaseAt H c v) : CaseAt H' c v := let ⟨p, d, h1, h2, h3, h4⟩ := h; ⟨p, d, h1, e _ _ h2, e _ _ h3, h4⟩
theorem plain_upd {L : Nat} {H : Hp} (hP : ∀ b u, L ≤ b → H b = some u → PlainO u) {p : Addr} {o : HO} (ho : PlainO o) : ∀ b u, L ≤ b → upd H p o b = some u → PlainO u := fun b u hb h => by
  by_cases e : b = p
  · subst e
    rw [upd_same] at h
    cases h
    exact ho
  · rw [upd_ne e] at h
    exact hP b u hb h
def rowsC (bl : Sta) (ns : List Str) (ts : List Int) (i : Nat) : List (Sta × Int) := (List.range i).flatMap fun j => ts.map fun t => (mergeS bl (digs ns j), t)
theorem rowsC_succ {bl : Sta} {ns : List Str} {ts : List Int} {i : Nat} : rowsC bl ns ts (i + 1) = rowsC bl ns ts i ++ ts.map fun t => (mergeS bl (digs ns i), t) := by
  unfold rowsC
  rw [List.range_succ, List.flatMap_append, List.flatMap_cons, List.flatMap_nil, List.append_nil]
theorem rowsC_len {bl : Sta} {ns : List Str} {ts : List Int} {i : Nat} : (rowsC bl ns ts i).length = i * ts.length := by
  induction i with
  | zero => simp [rowsC]
  | succ i ih => rw [rowsC_succ, List.length_append, ih, List.length_map, Nat.succ_mul]
theorem case_rows {b : Bk} {n : Str} {l : Nat} (h : (touchL b n).Nodup) (hl : (touchL b n).length = l) : caseL b n = rowsC (blankS b) (touchL b n) (ticksL (tickM b n)) (3 ^ l) := by
  unfold caseL rowsC
  rw [states_digs l _ hl h, List.flatMap_map]
theorem touch_cells {b : Bk} {n c : Str} (h : c ∈ touchL b n) : c ∈ b.cells.map (·.1) := (List.mem_filter.mp h).1
section
variable {P : Program} {w : World} {K : PySem.W.Frag} {mg : Str → Option Value} {base : Heap} (T : Tx K mg)
include T

theorem okCases : ∃ (fd : FuncData) (ps : List Str), GFn2 P w K mg base 12 (He.ga K "cases") fd ps (spCases K) ∧ Binds K fd ps [] ∧ PySem.W.keepIn K (.ref (He.ga K "cases")) = true := by
  obtain ⟨ifd, ips, FI, FB⟩ := okStatesOf (P := P) (w := w) (base := base) T
  obtain ⟨sfd, SF⟩ := T.DStatesOf
  have FK := SF.kp
  obtain ⟨fd, F⟩ := T.DCases
  have Fb : Binds K fd ["book", "name"] [] := F.bindsN fun _ _ _ _ _ _ us hl => match us, hl with | [_, _], _ => rfl
  have Fk := F.kp
  obtain ⟨oc, od, dV, kV, doc, pm, an, cdv, ct, osl, e, lk, hcd, _, _⟩ := F.ex
  subst e
  refine ⟨_, ["book", "name"], gfn2_of lk hcd scCases (fun vs H Q h => ?_) (fun A outer s H vs Q pn hr h => ?_), Fb, Fk⟩
  · obtain ⟨b, bv, n, rfl, _⟩ := h; rfl
  · have hx : NoExc (ocx P w K mg base ["book", "name", "touched", "ticks", "blank", "cell", "state", "one", "tick"] "cases" (defScope sCases) (He.ga K "cases") cdv A outer s H pn) := fun _ _ h => h
    refine ⟨_, (gss_cons0 (GS2.gs0 (gs_ps2 hx (ps_set (i := 2) scCases.nd rfl (by first | exact Or.inl rfl | exact Or.inr rfl) (pe_mt (okBookTouched T) hr (by decide) (pv 0) (pa_cons (pv 1) pa_nil))))) (gss_cons0 (GS2.gs0 (gs_ps2 hx (ps_set (i := 3) scCases.nd rfl (by first | exact Or.inl rfl | exact Or.inr rfl) (pe_ifExp (pt_val (pe_c (okReadsTick T) hr (by decide) rfl (pa_cons (pv 0) (pa_cons (pv 1) pa_nil)))) (pe_callTy call_list_of rfl T.f_list (by decide +kernel) (pa_cons (pe_glob (v := .ref (He.ga K "VALUES")) rfl T.g_VALUES rfl) pa_nil)) (pe_lst (pa_cons pe_int pa_nil)))))) (gss_cons0 (GS2.gs0 (gs_ps2 hx (ps_setDc (i := 4) (own := [("cell", 5)]) (by rfl) scCases.nd rfl rfl (swD_true rfl rfl rfl (by decide +kernel)) (pi_list (pe_mt0 (okBookAllCells T) hr (by decide) (pv 0))) (blkOk_by (own := [("cell", 5)]) (N := ["book", "name", "touched", "ticks", "blank", "cell", "state", "one", "tick"]) (sc := defScope sCases) (by decide +kernel)) (fun _ _ _ _ _ => (pg_name (i := 5) scCases.nd rfl (by first | exact Or.inl rfl | exact Or.inr rfl))) (fun _ _ _ _ _ => pts_nil) (fun _ _ _ _ _ => (pe_fldK (K := K) rfl (pv 5))) (fun _ _ _ _ _ => pe_int)))) (gss_cons0 (gs_forG hx (by rfl) FI (hr.mono (by decide)) rfl T.g_states_of FK FB (pa_cons (pe_lc  (own := [("one", 7)]) (by rfl) scCases.nd (pi_list (pv 2)) (blkOk_by (own := [("one", 7)]) (N := ["book", "name", "touched", "ticks", "blank", "cell", "state", "one", "tick"]) (sc := defScope sCases) (by decide +kernel)) (fun _ _ _ _ _ => (pg_name (i := 7) scCases.nd rfl (by first | exact Or.inl rfl | exact Or.inr rfl))) (fun _ _ _ _ _ => pts_nil) (fun _ _ _ _ _ => (pe_mt (okBookCell T) hr (by decide) (pv 0) (pa_cons (pv 7) pa_nil)))) pa_nil) (pg_name (i := 6) scCases.nd rfl (by first | exact Or.inl rfl | exact Or.inr rfl)) (gss_cons2 (gs_forL hx (by rfl) (pv 3) (pg_name (i := 8) scCases.nd rfl (by first | exact Or.inl rfl | exact Or.inr rfl)) (gss_cons2 (gs_yield2 hx (pe_tup (pa_cons (pe_star2 (pv 4) (pv 6)) (pa_cons (pv 8) pa_nil)))) gss_nil2)) gss_nil2) (fun M A it v Q E s h hq => by obtain ⟨ga, og, vs, rfl, h1, h2, h3⟩ := h; exact go_of h1 h2 h3 (by decide) hq)) gss_nil0)))), ?_⟩
    obtain ⟨b, bv, n, rfl, hb, hok, hn, hq⟩ := h
    have htl : (touchL b n).length ≤ 3 := by
      have h1 := List.length_filter_le (touched b n) (b.cells.map (·.1))
      rw [List.length_map] at h1
      exact Nat.le_trans h1 hok.lc
    have htn : (touchL b n).Nodup := List.Nodup.sublist List.filter_sublist hok.ndc
    refine g_asgL (el_touched (ev_var rfl) (ev_var rfl) hb hok hn) fun pt H1 hpt0 e1 hpt => ?_
    have hb1 := hb.mono e1
    refine g_asgL (xs := (ticksL (tickM b n)).map V.int) (fun Ha ea Q q => ?_) fun pk H2 hpk0 e2 hpk => ?_
    · have hrt : ∀ z, tickM b n = z → EvT (tB (tCall (spReadsTick K) [] C8.E0 (tCons (tVar 0) (tCons (tVar 1) tNil)))) [some bv, some (.str n), some (.ref pt), none, none, none, none, none, none] Ha (z) := fun z hz => et_is (et_B (ev_call (ea_cons (ev_var rfl) (ea_cons (ev_var rfl) ea_nil)) (spv_readsTick (hb1.mono ea) hok hn))) hz
      cases hT : tickM b n with
      | true =>
        rw [hT] at q
        exact e_ifY (hrt _ hT) fun Hb eb => el_listT ev_c (T.tVALUES Hb) Hb (Ex.refl _) Q fun p Hc hp ec hc => q p Hc (fresh_back eb hp) (eb.trans ec) hc
      | false =>
        rw [hT] at q
        exact e_ifN (hrt _ hT) fun Hb eb => el_lst (ea_cons ev_c ea_nil) (show 1 ≤ 100000 by decide) Hb (Ex.refl _) Q fun p Hc hp ec hc => q p Hc (fresh_back eb hp) (eb.trans ec) hc
    have hb2 := hb1.mono e2
    refine g_asgD (kvs := stV (blankS b)) (fun Ha ea Q q => ?_) fun pb H3 hpb0 e3 hpb => ?_
    · refine tDc_lp (BookP.list (ev_var rfl) (hb2.mono ea)) fun pc cs Hb _ eb hpc hc => ?_
      have hc : Paired (CelP K Hb) b.cells cs := hc
      refine ed_fm (σ := [some bv, some (.str n), some (.ref pt), some (.ref pk), none, none, none, none, none]) (j := 5) (vs := [5]) (evi_list (K := K) ev_c (sq_of hpc)) (fun _ => true) (cN Hb) (fun _ => .int 0) (by rw [← Paired.length hc]; have := hok.lc; omega) (fun _ => rfl) (fun _ _ => et_yes) (fun y hy _ => ?_) (fun y hy _ => ev_c) Hb (Ex.refl _) Q fun p Hc hp ec hcc => ?_
      · obtain ⟨i, hi⟩ := List.getElem?_of_mem hy
        obtain ⟨c, _, hcx⟩ := Paired.getR hc hi
        rw [cN_is hcx]
        exact ev_cname T (ev_var rfl) hcx
      · rw [List.filter_eq_self.mpr (fun _ _ => rfl), blank_fold hc hok.ndc] at hcc
        exact q p Hc (fresh_back eb hp) (eb.trans ec) hcc
    have hb3 := hb2.mono e3
    have e03 := (e1.trans e2).trans e3
    refine g_thenG ?_
    have hlist := lc_gen (tt := tYes) (te := tMeth (He.ga K "Book") "cell" (spBookCell K) [] C8.E0 (tVar 0) (tCons (tVar 7) tNil)) (vs := [7]) (j := 7) (σ := [some bv, some (.str n), some (.ref pt), some (.ref pk), some (.ref pb), none, none, none, none]) (H := H3) (evi_list (K := K) (te := tVar 2) (a := pt) (ev_var rfl) (sq_of ((e2.trans e3) _ _ hpt))) (fun i acc H' => ∃ cl : List (Str × Str), cl.map (·.1) = (touchL b n).take i ∧ Paired (CelP K H') cl acc)
      (fun i acc Ha Hb e ⟨cl, h1, h2⟩ => ⟨cl, h1, Paired.mapP h2 fun _ _ z => CelP.monoN e z⟩) (fun _ _ => ⟨[], rfl, .nil⟩) (by rw [List.length_map]; omega) (fun _ => rfl) fun i x acc Ha hx ea hl hi => ?_
    · unfold tGForG
      refine e_cons (hlist H3 (Ex.refl _) _ fun pl cs H4 hpl0 e4 hpl hlc => ?_)
      obtain ⟨cl, hcl, hcp⟩ := hlc
      have hclt : cl.map (·.1) = touchL b n := by rw [hcl, List.length_map, List.take_length]
      have hcll : cl.length ≤ 3 := by
        have h1 : (cl.map (·.1)).length ≤ 3 := by rw [hclt]; exact htl
        rw [List.length_map] at h1
        exact h1
      have hnd : (cl.map (·.1)).Nodup := by rw [hclt]; exact htn
      have hpb4 : H4 pb = some (.dK (stV (blankS b))) := e4 _ _ hpb
      have hpk4 : H4 pk = some (.lst ((ticksL (tickM b n)).map V.int)) := (e3.trans e4) _ _ hpk
      have hbk : keysS (blankS b) = b.cells.map (·.1) := by unfold keysS blankS; rw [List.map_map]; rfl
      have hbn : (keysS (blankS b)).Nodup := by rw [hbk]; exact hok.ndc
      have hbl : (stV (blankS b)).length ≤ 400 := by
        rw [stV_len]; unfold blankS; rw [List.length_map]; have := hok.lc; omega
      have hm0 : mergeK [] (stV (blankS b)) = stV (blankS b) := by
        have h1 := stV_merge (blankS b) []
        rw [merge_fresh (blankS b) [] (by simpa [keysS] using hbn)] at h1
        exact h1
      have htk : (ticksL (tickM b n)).length ≤ 3 := by unfold ticksL; split <;> decide
      have h27 : 3 ^ cl.length ≤ 27 := by have h1 : 3 ^ cl.length ≤ 3 ^ 3 := Nat.pow_le_pow_right (by omega) hcll; omega
      refine ⟨HIof (He.ga K "Cell") pl H4, 3 ^ cl.length, fun i => stV (digs (cl.map (·.1)) i), ⟨pl, cl, cs, rfl, by rw [HIof_pl]; exact hpl, Paired.mapP hcp fun _ _ z => celP_HI z, hcll, hnd, rfl, rfl⟩, HIof_sub hpl, fun L hL => ?_⟩
      rw [hclt]
      refine ⟨fun i ys σ H' => (∃ x6 x8, σ = [some bv, some (.str n), some (.ref pt), some (.ref pk), some (.ref pb), none, x6, none, x8]) ∧ Ex H4 H' ∧ (∀ b u, L ≤ b → H' b = some u → PlainO u) ∧ Paired (CaseAt H') (rowsC (blankS b) (touchL b n) (ticksL (tickM b n)) i) ys, ⟨⟨none, none, rfl⟩, Ex.refl _, fun a u ha h => (by rw [hL a ha] at h; cases h), .nil⟩, fun i ys σ H' hw => ⟨fun a u h => hw.2.1 _ _ (HIof_sub hpl a u h).1, hw.2.2.1⟩, ?_, ?_⟩
      · rintro i ys σ H' d hi ⟨⟨x6, x8, rfl⟩, eH, hP, hR⟩ hd
        have eN : Ex H' (upd H' d (.dK (stV (digs (touchL b n) i)))) := Ex.new hd
        refine ⟨.ref pk, rfl, pk, (ticksL (tickM b n)).map V.int, rfl, fun j ys σ H'' => (∃ x8, σ = [some bv, some (.str n), some (.ref pt), some (.ref pk), some (.ref pb), none, some (.ref d), none, x8]) ∧ Ex (upd H' d (.dK (stV (digs (touchL b n) i)))) H'' ∧ j ≤ (ticksL (tickM b n)).length ∧ (∀ b u, L ≤ b → H'' b = some u → PlainO u) ∧ Paired (CaseAt H'') (rowsC (blankS b) (touchL b n) (ticksL (tickM b n)) i ++ ((ticksL (tickM b n)).take j).map fun t => (mergeS (blankS b) (digs (touchL b n) i), t)) ys, ⟨⟨_, rfl⟩, Ex.refl _, Nat.zero_le _, fun a u ha h => ?_, ?_⟩, fun j ys σ H'' hw => ⟨by rw [List.length_map]; exact hw.2.2.1, sq_of (hw.2.1 _ _ (eN _ _ (eH _ _ hpk4)))⟩, ?_, ?_⟩
        · exact plain_upd (o := .dK _) hP True.intro a u ha h
        · rw [List.take_zero, List.map_nil, List.append_nil]
          exact Paired.mapP hR fun _ _ z => CaseAt.mono eN z
        · rintro j x ys σ H'' hx ⟨⟨x8, rfl⟩, e5, hj, hP5, hR5⟩
          obtain ⟨t, ht, rfl⟩ : ∃ t, (ticksL (tickM b n))[j]? = some t ∧ V.int t = x := by simpa using hx
          have hjl : j < (ticksL (tickM b n)).length := (List.getElem?_eq_some_iff.mp ht).1
          have hpb5 : H'' pb = some (.dK (stV (blankS b))) := e5 _ _ (eN _ _ (eH _ _ hpb4))
          have hd5 : H'' d = some (.dK (stV (digs (touchL b n) i))) := e5 _ _ upd_same
          refine ⟨?_, ?_⟩
          · have h1 := Paired.length hR5
            rw [List.length_append, List.length_map, List.length_take, rowsC_len] at h1
            have h2 : i * (ticksL (tickM b n)).length ≤ 27 * 3 := Nat.mul_le_mul (by omega) htk
            rw [← h1, sizeLine_eq]
            omega
          · refine fun p hp => ⟨.ref pb, rfl, pb, stV (blankS b), rfl, upd_same, .inl ((Ex.new hp) _ _ hpb5), fun z => (by rw [z, hpb5] at hp; cases hp), hbl, .ref d, rfl, d, stV (digs (touchL b n) i), rfl, upd_same, .inl ((Ex.mut (Ex.new hp) hp) _ _ hd5), fun z => (by rw [z, hd5] at hp; cases hp), (by rw [stV_len]; have h1 := keys_digs (touchL b n) i; have h2 : (keysS (digs (touchL b n) i)).length ≤ 3 := (by rw [h1]; exact htl); unfold keysS at h2; rw [List.length_map] at h2; omega), ?_⟩
            refine ⟨.int t, rfl, (by rw [sizeLine_eq]; exact (show 2 ≤ 16777216 by decide)), fun q hq => ?_⟩
            rw [hm0, stV_merge] at hq ⊢
            have hqp : p ≠ q := fun z => by rw [z, upd_same] at hq; cases hq
            have eZ : Ex H'' (upd (upd (upd (upd H'' p (.dK [])) p (.dK (stV (blankS b)))) p (.dK (stV (mergeS (blankS b) (digs (touchL b n) i))))) q (.tup [.ref p, .int t])) := (Ex.mut (Ex.mut (Ex.new hp) hp) hp).trans (Ex.new hq)
            refine ⟨⟨_, rfl⟩, e5.trans eZ, hjl, plain_upd (o := .tup _) (plain_upd (o := .dK _) (plain_upd (o := .dK _) (plain_upd (o := .dK _) hP5 True.intro) True.intro) True.intro) True.intro, ?_⟩
            rw [List.take_add_one, ht, List.map_append, ← List.append_assoc]
            refine Paired.snoc (Paired.mapP hR5 fun _ _ z => CaseAt.mono eZ z) ⟨q, p, rfl, upd_same, ?_, ?_⟩
            · rw [upd_ne hqp]; exact upd_same
            · show (keysS (mergeS (blankS b) (digs (touchL b n) i))).Nodup
              rw [keys_mergeS fun z hz => ?_]
              · exact hbn
              · rw [hbk]
                have h1 : z.1 ∈ keysS (digs (touchL b n) i) := List.mem_map.mpr ⟨z, hz, rfl⟩
                rw [keys_digs] at h1
                exact touch_cells h1
        · rintro ys σ H'' ⟨⟨x8, rfl⟩, e5, hj, hP5, hR5⟩
          rw [List.length_map, List.take_length, ← rowsC_succ] at hR5
          exact ⟨⟨_, _, rfl⟩, (eH.trans eN).trans e5, hP5, hR5⟩
      · rintro ys σ H' ⟨_, eH, _, hR⟩
        refine hq ys H' (e03.trans (e4.trans eH)) ?_
        rw [case_rows htn rfl, ← hclt, List.length_map]
        rw [hclt]
        exact hR
    · obtain ⟨c, hc, rfl⟩ : ∃ c, (touchL b n)[i]? = some c ∧ V.str c = x := by simpa using hx
      obtain ⟨cl, h1, h2⟩ := hi
      refine ⟨true, et_yes, fun _ H2 e4 Q q => ?_, fun z => by cases z⟩
      refine ep_cell (b := b) (v := bv) (n := c) (ev_var rfl) (hb3.mono (ea.trans e4)) (ev_var rfl) (touch_cells (List.mem_of_getElem? hc)) H2 (Ex.refl _) Q fun u H3 e5 hu => ?_
      obtain ⟨d, hd, hdn, hu⟩ := hu
      refine q u H3 e5 ⟨cl ++ [d], ?_, Paired.snoc (Paired.mapP h2 fun _ _ z => CelP.mono (e4.trans e5) z) hu⟩
      rw [List.map_append, h1, List.take_add_one, hc]
      simp [hdn]
end
end SC
set_option Elab.async false
set_option linter.all false
set_option maxRecDepth 100000
set_option maxHeartbeats 1000000
/-! L1: the law draws. -/
namespace SC
open PySem PySem.Spec PyProof.Rows L2 C8 Evl

/-- a pool of draws -/
def PoolAt (H : Hp) (p : Addr) : Prop := ∃ x y : Int, H p = some (.lst [.int x, .int y]) ∧ 0 ≤ x ∧ 0 ≤ y ∧ y < 2147483647
theorem PoolAt.mono {H H' : Hp} {p : Addr} (e : Ex H H') (h : PoolAt H p) : PoolAt H' p := let ⟨x, y, h1, h2⟩ := h; ⟨x, y, e _ _ h1, h2⟩
def DrV (p : Addr) (H : Hp) (Φ : V → Hp → Prop) (Q : VK) : Prop := ∀ v H2, ExX p H H2 → PoolAt H2 p → Φ v H2 → Q v H2
/-- a term that draws -/
def EvDr (p : Addr) (te : TE) (σ : L2.St) (H : Hp) (Φ : V → Hp → Prop) : Prop := ∀ H1, Ex H H1 → ∀ Q : VK, DrV p H1 Φ Q → te σ H1 Q
def spLPool (K : PySem.W.Frag) : Sp := fun vs H Q _ => ∃ (a : Addr) (ns : List Int) (k : Nat), vs = [.ref a, .int (k : Int)] ∧ SqL K H a (ns.map V.int) ∧ ns.length ≤ 63 ∧ k < 64 ∧ ∀ p H2, H p = none → Ex H H2 → PoolAt H2 p → Q (.ref p) H2
def spLDraw (K : PySem.W.Frag) : Sp := fun vs H Q _ => ∃ p m, vs = [.ref p, .int ((m : Nat) : Int)] ∧ PoolAt H p ∧ 0 < m ∧ m < 1000 ∧ DrV p H (fun v _ => ∃ n : Nat, v = .int (n : Int) ∧ n < m) Q
def spLPick (K : PySem.W.Frag) : Sp := fun vs H Q _ => ∃ p r xs, vs = [.ref p, .ref r] ∧ PoolAt H p ∧ p ≠ r ∧ H r = some (.lst xs) ∧ 0 < xs.length ∧ xs.length < 1000 ∧ DrV p H (fun v _ => v ∈ xs) Q
section
variable {K : PySem.W.Frag} {σ : L2.St} {H : Hp} {te ta tb tc : TE} {p : Addr}
theorem ed_draw {m : Nat} (h : Ev ta σ H (.ref p)) (hm : Ev tb σ H (.int (m : Int))) (hp : PoolAt H p) (h0 : 0 < m) (h1 : m < 1000) : EvDr p (tCall (spLDraw K) [] C8.E0 (tCons ta (tCons tb tNil))) σ H (fun v _ => ∃ n : Nat, v = .int (n : Int) ∧ n < m) := fun H1 e Q q =>
  h H1 e _ fun H2 e2 => hm H2 (e.trans e2) _ fun H3 e3 => ⟨p, m, rfl, hp.mono ((e.trans e2).trans e3), h0, h1, fun v H4 x4 hp4 hv => q v H4 ((ExX.of (e2.trans e3)).trans x4) hp4 hv⟩
theorem ed_pick {r : Addr} {xs : List V} (h : Ev ta σ H (.ref p)) (hm : Ev tb σ H (.ref r)) (hp : PoolAt H p) (ne : p ≠ r) (hr : H r = some (.lst xs)) (h0 : 0 < xs.length) (h1 : xs.length < 1000) : EvDr p (tCall (spLPick K) [] C8.E0 (tCons ta (tCons tb tNil))) σ H (fun v _ => v ∈ xs) := fun H1 e Q q =>
  h H1 e _ fun H2 e2 => hm H2 (e.trans e2) _ fun H3 e3 => ⟨p, r, xs, rfl, hp.mono ((e.trans e2).trans e3), ne, ((e.trans e2).trans e3) _ _ hr, h0, h1, fun v H4 x4 hp4 hv => q v H4 ((ExX.of (e2.trans e3)).trans x4) hp4 hv⟩
theorem ed_pickL {xs : List V} (h : Ev ta σ H (.ref p)) (hm : EvL tb σ H xs) (hp : PoolAt H p) (h0 : 0 < xs.length) (h1 : xs.length < 1000) : EvDr p (tCall (spLPick K) [] C8.E0 (tCons ta (tCons tb tNil))) σ H (fun v _ => v ∈ xs) := fun H1 e Q q =>
  h H1 e _ fun H2 e2 => hm H2 (e.trans e2) _ fun r H3 hr0 e3 hr => by
    obtain ⟨x, y, hp1, _⟩ := id hp
    have hp2 := (e.trans e2) _ _ hp1
    exact ⟨p, r, xs, rfl, hp.mono ((e.trans e2).trans e3), fun z => (by rw [← z, hp2] at hr0; cases hr0), hr, h0, h1, fun v H4 x4 hp4 hv => q v H4 ((ExX.of (e2.trans e3)).trans x4) hp4 hv⟩
theorem q_asgDr {i : Nat} {Φ : V → Hp → Prop} {tz : TS} {D : Ends} (h : EvDr p te σ H Φ) (k : ∀ v H1, ExX p H H1 → PoolAt H1 p → Φ v H1 → tz D (σ.set i (some v)) H1) : tSeq (tAsg te (gName i)) tz D σ H := h H (Ex.refl H) _ k
theorem rc_intI {i : Int} : RC (fun xs H Q => (∃ i, xs = [V.int i] ∧ Q (.int i) H) ∨ ∃ k, xs = [V.bl k] ∧ Q (.int (if k then 1 else 0)) H) [.int i] H (.int i) := fun H1 _ _ q => .inl ⟨i, rfl, q H1 (Ex.refl _)⟩
theorem rc_abs {i : Int} : RC (fun xs H Q => ∃ i, xs = [V.int i] ∧ Q (.int (if i < 0 then -i else i)) H) [.int i] H (.int (if i < 0 then -i else i)) := fun H1 _ _ q => ⟨i, rfl, q H1 (Ex.refl _)⟩
theorem ev_int1 {i : Int} (h : Ev te σ H (.int i)) : Ev (tCB (fun xs H Q => (∃ i, xs = [V.int i] ∧ Q (.int i) H) ∨ ∃ k, xs = [V.bl k] ∧ Q (.int (if k then 1 else 0)) H) (tCons te tNil)) σ H (.int i) := ev_cb (ea_cons h ea_nil) rc_intI
theorem ev_intB {k : Bool} (h : Ev te σ H (.bl k)) : Ev (tCB (fun xs H Q => (∃ i, xs = [V.int i] ∧ Q (.int i) H) ∨ ∃ k, xs = [V.bl k] ∧ Q (.int (if k then 1 else 0)) H) (tCons te tNil)) σ H (.int (if k then 1 else 0)) := ev_cb (ea_cons h ea_nil) rc_intB
theorem ev_lenL {a : Addr} {xs : List V} (h : Ev te σ H (.ref a)) (hx : SqL K H a xs) : Ev (tCB (rLen K) (tCons te tNil)) σ H (.int (xs.length : Int)) := ev_cb (ea_cons h ea_nil) (rc_len fun H1 e => .inl ⟨_, ex_l e hx, rfl⟩)
theorem ev_sum {ns : List Int} (h : EvL te σ H (ns.map V.int)) : Ev (tCB (rSum K) (tCons te tNil)) σ H (.int ns.sum) := fun H1 e Q q => h H1 e _ fun a H2 _ e2 h2 => ⟨a, ns, rfl, sq_of h2, q H2 e2⟩
theorem cutV_map {ns : List Int} (lo hi : Option Int) : ∃ ms : List Int, cutV (ns.map V.int) lo hi = ms.map V.int := ⟨_, by unfold cutV; rw [← List.map_drop, ← List.map_take]⟩
end

section
variable {P : Program} {w : World} {K : PySem.W.Frag} {mg : Str → Option Value} {base : Heap} (T : Tx K mg)
include T

omit T in
theorem scLPool : FnScope ["_law_script", "_law_k", "_law_cell", "_law_size", "_law_mixed"] ["_law_script", "_law_k"] (defScope sLPool) := ⟨rfl, rfl, rfl, by decide +kernel, rfl, by decide +kernel, by decide +kernel⟩
theorem okLPool : Cal P w K mg base 1 "_law_pool" (spLPool K) [] := by
  obtain ⟨fd, F⟩ := T.DLPool
  refine cal_of T.g_law_pool F (F.bindsN fun _ _ _ _ _ _ us hl => match us, hl with | [_, _], _ => rfl) scLPool (fun vs H Q E h => ?_) (fun cdv A outer s H vs Q E hr h => ?_)
  · obtain ⟨a, ns, k, rfl, _⟩ := h; rfl
  · refine ⟨_, (pss_cons (ps_set (i := 2) scLPool.nd rfl (by first | exact Or.inl rfl | exact Or.inr rfl) (pe_ifExp (pt_cmpR op_lt (pv 1) (pe_callB call_len rfl T.f_len (by decide +kernel) (pa_cons (pv 0) pa_nil)) (nomark _)) (pe_ix ix_list (pv 0) (pv 1) (fun _ _ => rfl)) (pe_op op_add (pe_op op_mul pe_int (pe_callB (cr_sum rfl) rfl T.f_sum (by decide +kernel) (pa_cons (pe_slice sl_list (pv 0) po_none (po_some pe_int)) pa_nil))) (pv 1)))) (pss_cons (ps_set (i := 3) scLPool.nd rfl (by first | exact Or.inl rfl | exact Or.inr rfl) (pe_callB call_abs rfl T.f_abs (by decide +kernel) (pa_cons (pv 2) pa_nil))) (pss_cons (ps_set (i := 4) scLPool.nd rfl (by first | exact Or.inl rfl | exact Or.inr rfl) (pe_op op_add (pe_op op_add (pe_op op_add (pe_op op_mod (pe_callTy call_int1 rfl T.f_int (by decide +kernel) (pa_cons (pv 3) pa_nil)) pe_int) (pe_op op_mul (pe_op op_mul pe_int (pv 1)) (pv 1))) (pe_op op_mul pe_int (pv 1))) pe_int)) (pss_cons (ps_set (i := 4) scLPool.nd rfl (by first | exact Or.inl rfl | exact Or.inr rfl) (pe_op op_mod (pe_callTy call_int1 rfl T.f_int (by decide +kernel) (pa_cons (pe_op op_mul (pv 4) pe_int) pa_nil)) pe_int)) (pss_one (ps_ret (pe_lst (pa_cons (pe_op op_mul (pv 3) (pe_callTy call_int1 rfl T.f_int (by decide +kernel) (pa_cons (pe_cmpR op_ge (pv 3) (pe_op op_pow pe_int pe_int) (nomark _)) pa_nil))) (pa_cons (pe_op op_mod (pe_callTy call_int1 rfl T.f_int (by decide +kernel) (pa_cons (pe_op op_mul (pv 4) (pv 4)) pa_nil)) pe_int) pa_nil))))))))), ?_⟩
    obtain ⟨a, ns, k, rfl, ha, hl, hk, hq⟩ := h
    refine q_asgP (Φ := fun v _ => ∃ i : Int, v = .int i) ?_ fun v H1 e1 hv => ?_
    · have ht : ∀ H1, Ex H H1 → EvT (tTest (tOp (rI0 fun i j => .bl (decide (i < j))) (tVar 1) (tCB (rLen K) (tCons (tVar 0) tNil)))) (start ["_law_script", "_law_k", "_law_cell", "_law_size", "_law_mixed"] [.ref a, .int (k : Int)]) H1 (decide ((k : Int) < ((ns.map V.int).length : Int))) := fun H1 e => et_test (ev_op (ev_var rfl) (ev_lenL (ev_var rfl) (ex_l e ha)) rv_I0)
      rw [List.length_map] at ht
      intro H1 e Q q
      by_cases hlt : k < ns.length
      · refine e_ifY (et_is (ht H1 e) (decide_eq_true (by omega))) fun H2 e2 => ?_
        have hx : (ns.map V.int)[k]? = some (.int ns[k]) := by rw [List.getElem?_map, List.getElem?_eq_getElem hlt]; rfl
        exact ev_op (ev_var rfl) (ev_var rfl) (rv_ixL (ex_l (e.trans e2) ha) (atI_nat hx)) H2 (Ex.refl _) Q fun H3 e3 => q _ H3 (e2.trans e3) ⟨_, rfl⟩
      · refine e_ifN (et_is (ht H1 e) (decide_eq_false (by omega))) fun H2 e2 => ?_
        obtain ⟨ms, hms⟩ := cutV_map (ns := ns) none (some 63)
        exact ev_op (ev_op ev_c (ev_sum (ns := ms) (by rw [← hms]; exact el_sl (ev_var rfl) eo_none (eo_some ev_c) (ex_l (e.trans e2) ha))) (rv_I (.inl ⟨by decide, by decide⟩))) (ev_var rfl) rv_I0 H2 (Ex.refl _) Q fun H3 e3 => q _ H3 (e2.trans e3) ⟨_, rfl⟩
    obtain ⟨c, rfl⟩ := hv
    refine q_asg (ev_cb (ea_cons (ev_var rfl) ea_nil) rc_abs) fun H2 e2 => ?_
    have hs0 : (0 : Int) ≤ (if c < 0 then -c else c) := by split <;> omega
    generalize (if c < 0 then -c else c) = s at hs0
    have hk63 : k ≤ 63 := by omega
    refine q_asg (ev_op (ev_op (ev_op (ev_op (ev_int1 (ev_var rfl)) ev_c (rv_I (show (0 : Int) < 2147483629 by decide))) (ev_op (ev_op ev_c (ev_var rfl) (rv_I (.inl ⟨by decide, by decide⟩))) (ev_var rfl) (rv_I (.inr ⟨by omega, by omega⟩))) rv_I0) (ev_op ev_c (ev_var rfl) (rv_I (.inl ⟨by decide, by decide⟩))) rv_I0) ev_c rv_I0) fun H3 e3 => ?_
    refine q_asg (ev_op (ev_int1 (ev_op (ev_var rfl) ev_c (rv_I (.inr ⟨by decide, by decide⟩)))) ev_c (rv_I (show (0 : Int) < 2147483647 by decide))) fun H4 e4 => ?_
    generalize hm : (s % 2147483629 + 7919 * (k : Int) * (k : Int) + 31 * (k : Int) + 17) * 48271 % 2147483647 = m
    have hm0 : 0 ≤ m := by rw [← hm]; exact Int.emod_nonneg _ (by decide)
    have hm1 : m < 2147483647 := by rw [← hm]; exact Int.emod_lt_of_pos _ (by decide)
    have e14 := ((e1.trans e2).trans e3).trans e4
    refine s_retL (el_lst (ea_cons (ev_op (ev_var rfl) (ev_intB (k := decide ((10 : Int) ^ 18 ≤ s)) (ev_op (ev_var rfl) (ev_op ev_c ev_c (rv_I ⟨by decide, by decide, by decide⟩)) rv_I0)) (rv_I (.inr ⟨by split <;> decide, by split <;> decide⟩))) (ea_cons (ev_op (ev_int1 (ev_op (ev_var rfl) (ev_var rfl) (rv_I (.inl ⟨by omega, by omega⟩)))) ev_c (rv_I (show (0 : Int) < 2147483629 by decide))) ea_nil)) (show 2 ≤ 100000 by decide)) fun p H5 hp e5 h5 => hq p H5 (fresh_back e14 hp) (e14.trans e5) ⟨_, _, h5, ?_, Int.emod_nonneg _ (by decide), Int.lt_trans (Int.emod_lt_of_pos _ (by decide)) (by decide)⟩
    split <;> omega

omit T in
theorem scLDraw : FnScope ["_law_pool_here", "_law_many", "_law_found_here"] ["_law_pool_here", "_law_many"] (defScope sLDraw) := ⟨rfl, rfl, rfl, by decide +kernel, rfl, by decide +kernel, by decide +kernel⟩
theorem okLDraw : Cal P w K mg base 1 "_law_draw" (spLDraw K) [] := by
  obtain ⟨fd, F⟩ := T.DLDraw
  refine cal_of T.g_law_draw F (F.bindsN fun _ _ _ _ _ _ us hl => match us, hl with | [_, _], _ => rfl) scLDraw (fun vs H Q E h => ?_) (fun cdv A outer s H vs Q E hr h => ?_)
  · obtain ⟨p, m, rfl, _⟩ := h; rfl
  · refine ⟨_, (pss_cons (ps_if (pt_cmpR op_gt (pe_ix ix_list (pv 0) pe_int (fun _ _ => rfl)) pe_int (nomark _)) (pss_cons (ps_set (i := 2) scLDraw.nd rfl (by first | exact Or.inl rfl | exact Or.inr rfl) (pe_op op_mod (pe_callTy call_int1 rfl T.f_int (by decide +kernel) (pa_cons (pe_ix ix_list (pv 0) pe_int (fun _ _ => rfl)) pa_nil)) (pv 1))) (pss_cons (ps_asg (pe_op op_fdiv (pe_ix ix_list (pv 0) pe_int (fun _ _ => rfl)) (pv 1)) (pg_sub (pv 0) pe_int set_list)) (pss_one (ps_ret (pv 2))))) pss_nil) (pss_cons (ps_asg (pe_op op_mod (pe_callTy call_int1 rfl T.f_int (by decide +kernel) (pa_cons (pe_op op_add (pe_op op_mul (pe_ix ix_list (pv 0) pe_int (fun _ _ => rfl)) pe_int) pe_int) pa_nil)) pe_int) (pg_sub (pv 0) pe_int set_list)) (pss_one (ps_ret (pe_op op_mod (pe_callTy call_int1 rfl T.f_int (by decide +kernel) (pa_cons (pe_op op_fdiv (pe_op op_mod (pe_callTy call_int1 rfl T.f_int (by decide +kernel) (pa_cons (pe_op op_mul (pe_ix ix_list (pv 0) pe_int (fun _ _ => rfl)) (pe_ix ix_list (pv 0) pe_int (fun _ _ => rfl))) pa_nil)) pe_int) pe_int) pa_nil)) (pv 1)))))), ?_⟩
    obtain ⟨p, m, rfl, ⟨x, y, hp, hx, hy, hy2⟩, hm, hm2, hq⟩ := h
    refine q_when (b := decide (0 < x)) (et_test (ev_op (ev_op (ev_var rfl) ev_c (rv_ixL (sq_of hp) at0)) ev_c rv_I0)) (fun hb H1 e1 => ?_) (fun hb H1 e1 => ?_)
    · have hp1 := e1 _ _ hp
      refine q_asg (ev_op (ev_int1 (ev_op (ev_var rfl) ev_c (rv_ixL (sq_of hp1) at0))) (ev_var rfl) (rv_I (show (0 : Int) < (m : Int) by omega))) fun H2 e2 => ?_
      have hp2 := e2 _ _ hp1
      refine q_setL (j := 0) hp2 (ev_op (ev_op (ev_var rfl) ev_c (rv_ixL (sq_of hp2) at0)) (ev_var rfl) (rv_I ⟨by omega, by omega⟩)) (ev_var rfl) ev_c (show 0 < 2 by decide) fun H3 e3 => ?_
      refine s_ret (ev_var rfl) fun H4 e4 => hq _ H4 ((ExX.put ((ExX.of (e1.trans e2)).trans (ExX.of e3))).trans (ExX.of e4)) ⟨x / m, y, e4 _ _ upd_same, Int.ediv_nonneg hx (by omega), hy, hy2⟩ ⟨(x % m).toNat, ?_, ?_⟩
      · rw [Int.toNat_of_nonneg (Int.emod_nonneg _ (by omega))]
      · have := Int.emod_lt_of_pos x (show (0 : Int) < (m : Int) by omega)
        have := Int.emod_nonneg x (show (m : Int) ≠ 0 by omega)
        omega
    · have hp1 := e1 _ _ hp
      refine q_setL (j := 1) hp1 (ev_op (ev_int1 (ev_op (ev_op (ev_op (ev_var rfl) ev_c (rv_ixL (sq_of hp1) at1)) ev_c (rv_I (.inr ⟨by decide, by decide⟩))) ev_c rv_I0)) ev_c (rv_I (show (0 : Int) < 2147483647 by decide))) (ev_var rfl) ev_c (show 1 < 2 by decide) fun H2 e2 => ?_
      have hz0 : 0 ≤ (y * 48271 + 11) % 2147483647 := Int.emod_nonneg _ (by decide)
      have hz1 : (y * 48271 + 11) % 2147483647 < 2147483647 := Int.emod_lt_of_pos _ (by decide)
      have hs : [V.int x, V.int y].set 1 (.int ((y * 48271 + 11) % 2147483647)) = [V.int x, V.int ((y * 48271 + 11) % 2147483647)] := rfl
      rw [hs]
      generalize (y * 48271 + 11) % 2147483647 = z at hz0 hz1
      have hp2 : upd H2 p (.lst [.int x, .int z]) p = some (.lst [.int x, .int z]) := upd_same
      have at' : ∀ H3, Ex (upd H2 p (.lst [.int x, .int z])) H3 → SqL K H3 p [.int x, .int z] := fun H3 e3 => sq_of (e3 _ _ hp2)
      generalize hw : z * z % 2147483629 / 16 = w
      refine s_ret (v := .int (w % m)) (ev_op (ev_int1 (i := w) (ev_is (ev_op (ev_op (ev_int1 (ev_op (ev_op (ev_var rfl) ev_c (rv_ixL (sq_of hp2) at1)) (ev_op (ev_var rfl) ev_c (rv_ixL (sq_of hp2) at1)) (rv_I (.inl ⟨by omega, by omega⟩)))) ev_c (rv_I (show (0 : Int) < 2147483629 by decide))) ev_c (rv_I ⟨by decide, by decide⟩)) (by rw [hw]))) (ev_var rfl) (rv_I (show (0 : Int) < (m : Int) by omega))) fun H4 e4 => hq _ H4 ((ExX.put (ExX.of (e1.trans e2))).trans (ExX.of e4)) ⟨x, z, e4 _ _ hp2, hx, hz0, hz1⟩ ⟨(w % m).toNat, ?_, ?_⟩
      · rw [Int.toNat_of_nonneg (Int.emod_nonneg _ (by omega))]
      · have := Int.emod_lt_of_pos w (show (0 : Int) < (m : Int) by omega)
        have := Int.emod_nonneg w (show (m : Int) ≠ 0 by omega)
        omega

omit T in
theorem scLPick : FnScope ["_law_pool_here", "_law_row"] ["_law_pool_here", "_law_row"] (defScope sLPick) := ⟨rfl, rfl, rfl, by decide +kernel, rfl, by decide +kernel, by decide +kernel⟩
theorem okLPick : Cal P w K mg base 2 "_law_pick" (spLPick K) [] := by
  obtain ⟨fd, F⟩ := T.DLPick
  refine cal_of T.g_law_pick F (F.bindsN fun _ _ _ _ _ _ us hl => match us, hl with | [_, _], _ => rfl) scLPick (fun vs H Q E h => ?_) (fun cdv A outer s H vs Q E hr h => ?_)
  · obtain ⟨p, r, xs, rfl, _⟩ := h; rfl
  · refine ⟨_, (pss_one (ps_ret (pe_ix ix_list (pv 1) (pe_c (okLDraw T) hr (by decide) rfl (pa_cons (pv 0) (pa_cons (pe_callB call_len rfl T.f_len (by decide +kernel) (pa_cons (pv 1) pa_nil)) pa_nil))) (fun _ _ => rfl)))), ?_⟩
    obtain ⟨p, r, xs, rfl, hp, ne, hr0, h0, h1, hq⟩ := h
    refine s_retE ⟨_, rfl, ?_⟩
    refine ed_draw (m := xs.length) (ev_var rfl) (ev_lenL (ev_var rfl) (sq_of hr0)) hp h0 h1 H (Ex.refl _) _ fun v H1 x1 hp1 hv => ?_
    obtain ⟨n, rfl, hn⟩ := hv
    have hx : xs[n]? = some xs[n] := List.getElem?_eq_getElem hn
    exact ⟨r, xs, n, _, rfl, rfl, sq_of (x1 _ _ (Ne.symm ne) hr0), atI_nat hx, hq _ H1 x1 hp1 (List.getElem_mem hn)⟩

end
end SC
set_option Elab.async false
set_option linter.all false
set_option maxRecDepth 100000
set_option maxHeartbeats 1000000
/-! L2: names drawn; comprehensions that draw. -/
namespace SC
open PySem PySem.Spec PyProof.Rows L2 C8 Evl

/-! ### names -/
def nmS (h t : Str) (c : Nat) : Str := h ++ (⟨#[c]⟩ : Str) ++ t
def idxs (o d : Nat) : List Nat := (List.range 8).map fun k => (o + (1 + 2 * d) * k) % 26
def namesL (h t : Str) (o d : Nat) : List Str := (idxs o d).map fun i => nmS h t (97 + i)
def endsL : List (Str × Str) := [("", ""), ("", "q"), ("ab", ""), ("abcdefg", ""), ("", "abcdefg")]
theorem cps_app (a b : Str) : (a ++ b).cps.toList = a.cps.toList ++ b.cps.toList := by
  show (a.cps ++ b.cps).toList = _
  rw [Array.toList_append]
theorem len_str (a : Str) : a.length = a.cps.toList.length := by show a.cps.size = _; rw [Array.length_toList]
theorem nm_cps (h t : Str) (c : Nat) : (nmS h t c).cps.toList = h.cps.toList ++ c :: t.cps.toList := by
  unfold nmS
  rw [cps_app, cps_app]
  simp
theorem nm_inj {h t : Str} {c c' : Nat} (e : nmS h t c = nmS h t c') : c = c' := by
  have e1 : (nmS h t c).cps.toList = (nmS h t c').cps.toList := by rw [e]
  rw [nm_cps, nm_cps] at e1
  have e2 := List.append_cancel_left e1
  injection e2
theorem idx_nd : ∀ o : Fin 26, ∀ d : Fin 6, (idxs o d).Nodup := by decide +kernel
theorem idx_lt {o d i : Nat} (h : i ∈ idxs o d) : i < 26 := by
  obtain ⟨k, _, rfl⟩ := List.mem_map.mp h
  omega
theorem ends_ok : ∀ e ∈ endsL, (∀ c ∈ e.1.cps.toList, 97 ≤ c ∧ c ≤ 122) ∧ (∀ c ∈ e.2.cps.toList, 97 ≤ c ∧ c ≤ 122) ∧ e.1.cps.toList.length + e.2.cps.toList.length ≤ 7 := by decide +kernel
theorem nm_ok {e : Str × Str} (he : e ∈ endsL) {i : Nat} (hi : i < 26) : IsNm (nmS e.1 e.2 (97 + i)) := by
  obtain ⟨h1, h2, h3⟩ := ends_ok e he
  have hl : (nmS e.1 e.2 (97 + i)).length = e.1.cps.toList.length + e.2.cps.toList.length + 1 := by
    rw [len_str, nm_cps, List.length_append, List.length_cons]; omega
  refine ⟨by omega, by omega, fun c hc => ?_⟩
  rw [nm_cps] at hc
  rcases List.mem_append.mp hc with hc | hc
  · exact h1 c hc
  · rcases List.mem_cons.mp hc with rfl | hc
    · omega
    · exact h2 c hc
theorem names_ok {e : Str × Str} (he : e ∈ endsL) {o d : Nat} (ho : o < 26) (hd : d < 6) : (namesL e.1 e.2 o d).length = 8 ∧ (namesL e.1 e.2 o d).Nodup ∧ ∀ n ∈ namesL e.1 e.2 o d, IsNm n := by
  refine ⟨by simp [namesL, idxs], ?_, fun n hn => ?_⟩
  · unfold namesL List.Nodup
    rw [List.pairwise_map]
    exact (idx_nd ⟨o, ho⟩ ⟨d, hd⟩).imp fun {a b} ne e => ne (by have := nm_inj e; omega)
  · obtain ⟨i, hi, rfl⟩ := List.mem_map.mp hn
    exact nm_ok he (idx_lt hi)

/-! ### comprehensions whose elements draw -/
section
variable {K : PySem.W.Frag} {wi : TI} {te : TE} {vs : List Nat} {σ : L2.St} {H : Hp} {xs : List V} {d : Addr}
theorem lc_genX {j : Nat} {o0 : HO} (hd0 : H d = some o0) (hi : EvIX d wi σ H xs) (Iv : Nat → List V → Hp → Prop) (hm : ∀ i acc H1 H2, ExN H1 H2 → (∀ o, H1 d = some o → H2 d = some o) → Iv i acc H1 → Iv i acc H2) (h0 : ∀ H1, Ex H H1 → Iv 0 [] H1) (hz : xs.length ≤ 50000) (hw : ∀ x, wipe ((wipe σ vs).set j (some x)) vs = wipe σ vs)
    (hs : ∀ i x acc H1, xs[i]? = some x → ExX d H H1 → Iv i acc H1 → ∀ Q : VK, (∀ y H3, ExX d H1 H3 → Iv (i + 1) (acc ++ [y]) H3 → Q y H3) → te ((wipe σ vs).set j (some x)) H1 Q) :
    ∀ H1, Ex H H1 → ∀ Q : VK, (∀ p ys H2, H1 p = none → ExX d H1 H2 → H2 p = some (.lst ys) → ys.length ≤ xs.length → Iv xs.length ys H2 → Q (.ref p) H2) → tLc wi (gName j) tYes te vs σ H1 Q := fun H0 e0 Q q => hi H0 e0 _ fun J H1 G e1 hG w D hD => by
  have hd1 : H1 d = some o0 := (e0.trans e1) _ _ hd0
  have nD : D ≠ d := fun z => by rw [z, hd1] at hD; cases hD
  refine lc_it w (fun i H' => ∃ acc, H' D = some (.lst acc) ∧ acc.length ≤ i ∧ ExX d H1 H' ∧ Iv i acc H') ⟨[], upd_same, Nat.le_refl _, ExX.of (Ex.new hD), hm _ _ H1 _ (exn (Ex.new hD)) (fun o h => (Ex.new hD) _ _ h) (h0 H1 (e0.trans e1))⟩ (fun i H' _ ⟨acc, _, _, e, _⟩ => hG H' e) ?_ ?_
  · rintro i x H' H'' hlt ⟨acc, hd, hl, e, iv⟩ y
    obtain ⟨rfl, hx⟩ := yat_mem y
    refine ⟨hw x, ?_⟩
    show te ((wipe σ vs).set j (some x)) H'' _
    refine hs i x acc H'' hx ((ExX.of (e0.trans e1)).trans e) iv _ fun y H4 x4 i4 => ?_
    have hd4 := x4 _ _ nD hd
    refine ⟨acc, hd4, sz_lt (by omega), acc ++ [y], upd_same, by rw [List.length_append, List.length_singleton]; omega, fun a o na ha => ?_, hm _ _ _ _ (ExN.lst hd4) (fun o h => by rw [upd_ne (Ne.symm nD)]; exact h) i4⟩
    rw [upd_ne (ne_of_none ha hD)]
    exact (e.trans x4) a o na ha
  · rintro H' ⟨acc, hd, hl, e, iv⟩
    exact q D acc H' (fresh_back e1 hD) ((ExX.of e1).trans e) hd hl iv
end


section
variable {K : PySem.W.Frag} {σ : L2.St} {H : Hp} {te ta tb : TE} {p : Addr} {tz : TS} {D : Ends} {tar : TA}
theorem q_parE {i j : Nat} (h : tar σ H fun vs H1 => ∃ v w, vs = [v, w] ∧ tz D ((σ.set i (some v)).set j (some w)) H1) : tSeq (tPar i j tar) tz D σ H := h
theorem q_asgX {g : TG} (h : te σ H fun v H1 => g v σ H1 fun σ2 H2 => tz D σ2 H2) : tSeq (tAsg te g) tz D σ H := h
theorem s_asgX {g : TG} (h : te σ H fun v H1 => g v σ H1 fun σ2 H2 => D.nx σ2 H2) : tAsg te g D σ H := h
theorem e_opX {r : R2} {Q : VK} (h : ta σ H fun x H1 => tb σ H1 fun y H2 => r x y H2 Q) : tOp r ta tb σ H Q := h
theorem e_cX {v : V} {Q : VK} (h : Q v H) : tC v σ H Q := h
theorem e_vX {i : Nat} {v : V} {Q : VK} (hv : σ[i]? = some (some v)) (h : Q v H) : tVar i σ H Q := ⟨v, hv, h⟩
def pairsTA : List (Str × Str) → TA
  | [] => tNil
  | c :: r => tCons (tTup (tCons (tC (.str c.1)) (tCons (tC (.str c.2)) tNil))) (pairsTA r)
theorem ea_pairs : ∀ (l : List (Str × Str)) {H : Hp} {Q : List V → Hp → Prop}, (∀ vs H2, Ex H H2 → Paired (CelL H2) l vs → Q vs H2) → pairsTA l σ H Q
  | [], H, Q, q => q [] H (Ex.refl _) .nil
  | c :: r, H, Q, q => ⟨show 2 ≤ sizeLine by decide, fun a ha => ea_pairs r fun vs H2 e h => q (.ref a :: vs) H2 ((Ex.new ha).trans e) (.cons ⟨a, rfl, e _ _ upd_same⟩ h)⟩
theorem elp_pairs {l : List (Str × Str)} (hl : l.length ≤ 1000) : EvLP (tLst (pairsTA l)) σ H (fun xs H2 => Paired (CelL H2) l xs) := fun H1 e Q q =>
  ea_pairs l fun vs H2 e2 h => ⟨by rw [← Paired.length h, sizeLine_eq]; omega, fun a ha => q a vs _ (fresh_back e2 ha) (e2.trans (Ex.new ha)) upd_same (Paired.mapP h fun _ _ z => CelL.mono (Ex.new ha) z)⟩
theorem fresh_backX {H1 : Hp} {a : Addr} (x : ExX p H H1) (hp : PoolAt H1 p) (h : H1 a = none) : H a = none := by
  by_cases z : a = p
  · subst z
    obtain ⟨_, _, h1, _⟩ := hp
    rw [h] at h1; cases h1
  · cases q : H a with
    | none => rfl
    | some o => rw [x a o z q] at h; cases h
theorem rv_addS {a b : Str} (h : a.length + b.length ≤ 1000) : RV (fun x y H Q => ∃ i j, x = V.str i ∧ y = .str j ∧ i.length + j.length ≤ sizeLine ∧ Q (.str (i ++ j)) H) (.str a) (.str b) H (.str (a ++ b)) := rv_val fun H1 _ Q q => ⟨a, b, rfl, rfl, by rw [sizeLine_eq]; omega, q⟩
end
theorem sign_at : ∀ i : Fin 26, (("abcdefghijklmnopqrstuvwxyz" : Str)).cps.toList[i.1]? = some (97 + i.1) := by decide +kernel
def spLNames (K : PySem.W.Frag) : Sp := fun vs H Q _ => ∃ p, vs = [.ref p, .int 8] ∧ PoolAt H p ∧ DrV p H (fun v H2 => ∃ (a : Addr) (ns : List Str), v = .ref a ∧ H a = none ∧ H2 a = some (.lst (ns.map V.str)) ∧ ns.length = 8 ∧ ns.Nodup ∧ ∀ n ∈ ns, IsNm n) Q
def vI : V → Nat
  | .int i => i.toNat
  | _ => 0
theorem len_app (a b : Str) : (a ++ b).length = a.length + b.length := by
  rw [len_str, cps_app, List.length_append, ← len_str, ← len_str]

section
variable {P : Program} {w : World} {K : PySem.W.Frag} {mg : Str → Option Value} {base : Heap} (T : Tx K mg)
include T

omit T in
theorem scLNames : FnScope ["_law_pool_here", "_law_count", "_law_signs", "_law_origin", "_law_step", "_law_ends", "_law_head", "_law_tail", "_law_k"] ["_law_pool_here", "_law_count"] (defScope sLNames) := ⟨rfl, rfl, rfl, by decide +kernel, rfl, by decide +kernel, by decide +kernel⟩
theorem okLNames : Cal P w K mg base 3 "_law_names" (spLNames K) [] := by
  obtain ⟨fd, F⟩ := T.DLNames
  refine cal_of T.g_law_names F (F.bindsN fun _ _ _ _ _ _ us hl => match us, hl with | [_, _], _ => rfl) scLNames (fun vs H Q E h => ?_) (fun cdv A outer s H vs Q E hr h => ?_)
  · obtain ⟨p, rfl, _⟩ := h; rfl
  · refine ⟨_, (pss_cons (ps_set (i := 2) scLNames.nd rfl (by first | exact Or.inl rfl | exact Or.inr rfl) pe_str) (pss_cons (ps_asg (pe_tup (pa_cons (pe_c (okLDraw T) hr (by decide) rfl (pa_cons (pv 0) (pa_cons pe_int pa_nil))) (pa_cons (pe_op op_add pe_int (pe_op op_mul pe_int (pe_c (okLDraw T) hr (by decide) rfl (pa_cons (pv 0) (pa_cons pe_int pa_nil))))) pa_nil))) (pg_tup (by rfl) (pgs_cons (pg_name (i := 3) scLNames.nd rfl (by first | exact Or.inl rfl | exact Or.inr rfl)) (pgs_cons (pg_name (i := 4) scLNames.nd rfl (by first | exact Or.inl rfl | exact Or.inr rfl)) pgs_nil)))) (pss_cons (ps_set (i := 5) scLNames.nd rfl (by first | exact Or.inl rfl | exact Or.inr rfl) (pe_lst (pa_cons (pe_tup (pa_cons pe_str (pa_cons pe_str pa_nil))) (pa_cons (pe_tup (pa_cons pe_str (pa_cons pe_str pa_nil))) (pa_cons (pe_tup (pa_cons pe_str (pa_cons pe_str pa_nil))) (pa_cons (pe_tup (pa_cons pe_str (pa_cons pe_str pa_nil))) (pa_cons (pe_tup (pa_cons pe_str (pa_cons pe_str pa_nil))) pa_nil))))))) (pss_cons (ps_asg (pe_c (okLPick T) hr (by decide) rfl (pa_cons (pv 0) (pa_cons (pv 5) pa_nil))) (pg_tup (by rfl) (pgs_cons (pg_name (i := 6) scLNames.nd rfl (by first | exact Or.inl rfl | exact Or.inr rfl)) (pgs_cons (pg_name (i := 7) scLNames.nd rfl (by first | exact Or.inl rfl | exact Or.inr rfl)) pgs_nil)))) (pss_one (ps_ret (pe_lc  (own := [("_law_k", 8)]) (by rfl) scLNames.nd (pi_range1 (by rfl) T.f_range (pa_cons (pv 1) pa_nil)) (blkOk_by (own := [("_law_k", 8)]) (N := ["_law_pool_here", "_law_count", "_law_signs", "_law_origin", "_law_step", "_law_ends", "_law_head", "_law_tail", "_law_k"]) (sc := defScope sLNames) (by decide +kernel)) (fun _ _ _ _ _ => (pg_name (i := 8) scLNames.nd rfl (by first | exact Or.inl rfl | exact Or.inr rfl))) (fun _ _ _ _ _ => pts_nil) (fun _ _ _ _ _ => (pe_op op_add_str (pe_op op_add_str (pv 6) (pe_ix ix_str (pv 2) (pe_op op_mod (pe_callTy call_int1 rfl T.f_int (by decide +kernel) (pa_cons (pe_op op_add (pv 3) (pe_op op_mul (pv 4) (pv 8))) pa_nil)) pe_int) (fun _ _ => rfl))) (pv 7)))))))))), ?_⟩
    obtain ⟨p, rfl, hp, hq⟩ := h
    refine q_asg ev_c fun H1 e1 => ?_
    have hp1 := hp.mono e1
    refine q_asgX (e_tup (e_cons (ed_draw (m := 26) (ev_var rfl) ev_c hp1 (by decide) (by decide) H1 (Ex.refl _) _ fun v H2 x2 hp2 hv => ?_)))
    obtain ⟨o, rfl, ho⟩ := hv
    refine e_cons (e_opX (e_cX (e_opX (e_cX (ed_draw (m := 6) (ev_var rfl) ev_c hp2 (by decide) (by decide) H2 (Ex.refl _) _ fun v H3' x3' hp3' hv => ?_)))))
    obtain ⟨d, rfl, hd⟩ := hv
    refine ⟨2, d, rfl, rfl, .inl ⟨by decide, by decide⟩, 1, _, rfl, rfl, (show 2 ≤ sizeLine by decide), fun a0 ha0 => ⟨_, _, rfl, st_of upd_same, rfl, _, _, rfl, ⟨_, _, rfl, rfl, ?_⟩⟩⟩
    have x3 : ExX p H2 (upd H3' a0 (.tup [.int o, .int (1 + 2 * (d : Int))])) := x3'.trans (ExX.of (Ex.new ha0))
    have hp3 := hp3'.mono (Ex.new (o := .tup [.int o, .int (1 + 2 * (d : Int))]) ha0)
    refine q_asgLP (elp_pairs (l := endsL) (by decide)) fun a xs H4 ha e4 h4 hxs => ?_
    have hxs : Paired (CelL H4) endsL xs := hxs
    have hp4 := hp3.mono e4
    have nap : p ≠ a := fun z => by obtain ⟨_, _, h1, _⟩ := hp3; rw [z, ha] at h1; cases h1
    have hxl : xs.length = 5 := by rw [← Paired.length hxs]; rfl
    refine q_asgX (ed_pick (xs := xs) (ev_var rfl) (ev_var rfl) hp4 nap h4 (by omega) (by omega) H4 (Ex.refl _) _ fun v H5 x5 hp5 hv => ?_)
    obtain ⟨i, hi⟩ := List.getElem?_of_mem hv
    obtain ⟨e, he, hev⟩ := Paired.getR hxs hi
    have he := List.mem_of_getElem? he
    obtain ⟨_, _, hp4', _⟩ := id hp4
    obtain ⟨q, rfl, hq5⟩ := hev.monoT (x5.t hp4')
    refine ⟨_, _, rfl, st_of hq5, rfl, _, _, rfl, ?_⟩
    refine ⟨_, _, rfl, ?_⟩
    refine ⟨rfl, ?_⟩
    obtain ⟨k1, k2, k3⟩ := ends_ok e he
    rw [← len_str, ← len_str] at k3
    have X5 : ExX p H H5 := (ExX.of e1).trans (x2.trans (x3.trans ((ExX.of e4).trans x5)))
    refine s_retL (xs := ((List.range 8).map fun i : Nat => V.int (i : Int)).map fun x => .str (nmS e.1 e.2 (97 + (o + (1 + 2 * d) * vI x) % 26))) (el_map (vs := [8]) (j := 8) (evi_rng (n := 8) (ea_cons (ev_var rfl) ea_nil) (by decide)) (fun x => .str (nmS e.1 e.2 (97 + (o + (1 + 2 * d) * vI x) % 26))) (by decide) (fun _ => rfl) fun x hx => ?_) fun b H6 hb e6 h6 => hq _ H6 (X5.trans (ExX.of e6)) (hp5.mono e6) ⟨b, namesL e.1 e.2 o d, rfl, fresh_backX X5 hp5 hb, ?_, names_ok he ho hd⟩
    · obtain ⟨k, hk, rfl⟩ := List.mem_map.mp hx
      have hidx : Ev (tOp (rI (fun _ j => 0 < j) fun i j => .int (i % j)) (tCB (fun xs H Q => (∃ i, xs = [V.int i] ∧ Q (.int i) H) ∨ ∃ k, xs = [V.bl k] ∧ Q (.int (if k then 1 else 0)) H) (tCons (tOp (rI0 fun i j => .int (i + j)) (tVar 3) (tOp (rI CMul fun i j => .int (i * j)) (tVar 4) (tVar 8))) tNil)) (tC (.int 26))) [some (.ref p), some (.int 8), some (.str "abcdefghijklmnopqrstuvwxyz"), some (.int o), some (.int (1 + 2 * (d : Int))), some (.ref a), some (.str e.1), some (.str e.2), some (.int k)] H5 (.int (((o + (1 + 2 * d) * k) % 26 : Nat) : Int)) := ev_is (ev_op (ev_int1 (ev_op (ev_var rfl) (ev_op (ev_var rfl) (ev_var rfl) (rv_I (.inl ⟨by omega, by omega⟩))) rv_I0)) ev_c (rv_I (show (0 : Int) < 26 by decide))) (by push_cast; rfl)
      refine ev_op (ev_op (ev_var rfl) (ev_op (ev_var rfl) hidx (rv_ixS (by decide) (atI_nat (sign_at ⟨(o + (1 + 2 * d) * k) % 26, Nat.mod_lt _ (by decide)⟩)))) (rv_addS ?_)) (ev_var rfl) (rv_addS ?_)
      · show e.1.length + 1 ≤ 1000
        omega
      · rw [len_app]
        show (e.1.length + 1) + e.2.length ≤ 1000
        omega
    · rw [h6]
      unfold namesL idxs
      rw [List.map_map, List.map_map, List.map_map]
      rfl

end
end SC
set_option Elab.async false
set_option linter.all false
set_option maxRecDepth 100000
set_option maxHeartbeats 1000000
/-! L3: terms drawn. -/
namespace SC
open PySem PySem.Spec PyProof.Rows L2 C8 Evl

theorem PoolAt.keep {H H' : Hp} {p : Addr} (h : PoolAt H p) (k : ∀ o, H p = some o → H' p = some o) : PoolAt H' p := let ⟨x, y, h1, h2⟩ := h; ⟨x, y, k _ h1, h2⟩
theorem PoolAt.t {H H' : Hp} {p : Addr} (h : PoolAt H p) (x : ExX p H H') : ExT H H' := let ⟨_, _, h1, _⟩ := h; x.t h1
theorem not_pool {H : Hp} {p a : Addr} {xs : List V} {α : Type} {F : α → V → Prop} {l : List α} (h : PoolAt H p) (ha : H a = some (.lst xs)) (hp : Paired F l xs) (hF : ∀ c i, ¬ F c (.int i)) : a ≠ p := fun z => by
  obtain ⟨x, y, h1, _⟩ := h
  rw [z, h1] at ha
  cases ha
  cases hp with
  | cons h _ => exact hF _ _ h
theorem not_poolK {H : Hp} {p a : Addr} {kvs : List (Key × V)} (h : PoolAt H p) (ha : H a = some (.dK kvs)) : a ≠ p := fun z => by
  obtain ⟨x, y, h1, _⟩ := h
  rw [z, h1] at ha
  cases ha
theorem not_poolT {H : Hp} {p a : Addr} {kvs : List V} (h : PoolAt H p) (ha : H a = some (.tup kvs)) : a ≠ p := fun z => by
  obtain ⟨x, y, h1, _⟩ := h
  rw [z, h1] at ha
  cases ha
theorem celL_int {H : Hp} (c : Str × Str) (i : Int) : ¬ CelL H c (.int i) := fun ⟨p, h, _⟩ => by cases h
theorem funL_int {H : Hp} (g : Fn) (i : Int) : ¬ FunL H g (.int i) := fun ⟨p, _, _, _, h, _⟩ => by cases h
theorem FunL.monoP {H H' : Hp} {p : Addr} (hp : PoolAt H p) (x : ExX p H H') {g : Fn} {v : V} (h : FunL H g v) : FunL H' g v :=
  let ⟨q, r, pw, ws, h1, h2, h3, h4, h5⟩ := h
  ⟨q, r, pw, ws, h1, x _ _ (not_poolK hp h2) h2, h3.monoT (hp.t x), (hp.t x).at h4, Paired.mapP h5 fun _ _ z => WrL.monoT (hp.t x) z⟩
theorem BookL.monoP {H H' : Hp} {p : Addr} (hp : PoolAt H p) (x : ExX p H H') {b : Bk} {v : V} (h : BookL H b v) : BookL H' b v :=
  let ⟨q, pc, pf, cs, fs, h1, h2, h3, h4, h5, h6⟩ := h
  ⟨q, pc, pf, cs, fs, h1, x _ _ (not_poolK hp h2) h2, x _ _ (not_pool hp h3 h4 celL_int) h3, Paired.mapP h4 fun _ _ z => CelL.monoT (hp.t x) z, x _ _ (not_pool hp h5 h6 funL_int) h5, Paired.mapP h6 fun _ _ z => FunL.monoP hp x z⟩
def szB : Nat → Nat
  | 0 => 1
  | n + 1 => 1 + 3 * szB n
theorem szB_pos (d : Nat) : 1 ≤ szB d := by cases d <;> simp [szB]
/-- a book small enough -/
def BkS (b : Bk) : Prop := b.cells.length ≤ 3 ∧ b.fns.length ≤ 3 ∧ ∀ g ∈ b.fns, g.many ≤ 2
def TmGood (b : Bk) (many d : Nat) (tm : Tm) : Prop := TmOk (b.cells.map (·.1)) b.fns many tm ∧ tm.depth ≤ d + 1 ∧ tm.size ≤ szB d ∧ (d = 0 → ∃ l, tm = .lf l)
def TmPhi (b : Bk) (many d : Nat) (v : V) (H2 : Hp) : Prop := ∃ tm, TmAt H2 tm v ∧ TmGood b many d tm
def spLTerm (K : PySem.W.Frag) (d : Nat) : Sp := fun vs H Q _ => ∃ (p : Addr) (bv : V) (b : Bk) (many : Nat), vs = [.ref p, bv, .int (many : Int), .int (d : Int)] ∧ PoolAt H p ∧ BookL H b bv ∧ BkS b ∧ many ≤ 2 ∧ DrV p H (TmPhi b many d) Q
theorem lf_good {b : Bk} {many d : Nat} {l : Lf} (h : LfOk (b.cells.map (·.1)) many l) : TmGood b many d (.lf l) := ⟨h, by simp [Tm.depth], szB_pos d, fun _ => ⟨l, rfl⟩⟩
section
variable {K : PySem.W.Frag} {σ : L2.St} {H : Hp} {te ta tb tc td : TE} {p : Addr} {tz : TS} {D : Ends} {tar : TA}
theorem ed_term {bv : V} {b : Bk} {many d : Nat} (h1 : Ev ta σ H (.ref p)) (h2 : Ev tb σ H bv) (h3 : Ev tc σ H (.int (many : Int))) (h4 : Ev td σ H (.int (d : Int))) (hp : PoolAt H p) (hb : BookL H b bv) (hs : BkS b) (hm : many ≤ 2) :
    EvDr p (tCall (spLTerm K d) [] C8.E0 (tCons ta (tCons tb (tCons tc (tCons td tNil))))) σ H (TmPhi b many d) := fun H1 e Q q =>
  h1 H1 e _ fun H2 e2 => h2 H2 (e.trans e2) _ fun H3 e3 => h3 H3 (e.trans (e2.trans e3)) _ fun H4 e4 => h4 H4 (e.trans (e2.trans (e3.trans e4))) _ fun H5 e5 => by
    have e15 := e2.trans (e3.trans (e4.trans e5))
    exact ⟨p, bv, b, many, rfl, hp.mono (e.trans e15), hb.mono (e.trans e15), hs, hm, fun v H6 x6 hp6 hv => q v H6 ((ExX.of e15).trans x6) hp6 hv⟩
/-- x if draw == 0 else y -/
theorem e_ifDr {W : TE} {m : Nat} {Q : VK} {n0 : Int} (h : EvDr p W σ H (fun v _ => ∃ n : Nat, v = .int (n : Int) ∧ n < m)) (k1 : ∀ H1, ExX p H H1 → PoolAt H1 p → ta σ H1 Q) (k2 : ∀ H1, ExX p H H1 → PoolAt H1 p → tb σ H1 Q) : tIf (tTest (tOp rEq W (tC (.int n0)))) ta tb σ H Q :=
  h H (Ex.refl H) _ fun v H1 x1 hp1 hv => by
    obtain ⟨n, rfl, _⟩ := hv
    refine ⟨rfl, _, rfl, ?_⟩
    show if decide (V.int (n : Int) = V.int n0) = true then ta σ H1 Q else tb σ H1 Q
    split
    · exact k1 H1 x1 hp1
    · exact k2 H1 x1 hp1
theorem q_whenDr {t : TT} {tu : TS} (h : t σ H fun c H1 => if c = true then tu { D with nx := tz D } σ H1 else tz D σ H1) : tSeq (tIfS t tu tNext) tz D σ H := h
theorem ev_bk {b : Bk} {bv : V} {pc pf q : Addr} (h : Ev ta σ H (.ref q)) (hq : H q = some (.dK [KS "cells" (.ref pc), KS "functions" (.ref pf)])) : Ev (tDGet ta (tC (.str "cells"))) σ H (.ref pc) := ev_dget h ev_c hq rfl
theorem ev_bkf {pc pf q : Addr} (h : Ev ta σ H (.ref q)) (hq : H q = some (.dK [KS "cells" (.ref pc), KS "functions" (.ref pf)])) : Ev (tDGet ta (tC (.str "functions"))) σ H (.ref pf) := ev_dget h ev_c hq rfl
theorem ev_eqNil {a : Addr} {xs : List V} (h : Ev ta σ H (.ref a)) (ha : H a = some (.lst xs)) : Ev (tOp (rEqNil K) ta (tLst tNil)) σ H (.bl xs.isEmpty) := ev_opL h (el_lst ea_nil (by decide)) fun q H1 hq e1 => rv_val fun H2 e2 Q q2 => ⟨a, q, xs, rfl, rfl, sq_of ((e1.trans e2) _ _ ha), sq_of (e2 _ _ hq), q2⟩
theorem ev_neNil {a : Addr} {xs : List V} (h : Ev ta σ H (.ref a)) (ha : H a = some (.lst xs)) : Ev (tOp (rNeNil K) ta (tLst tNil)) σ H (.bl (!xs.isEmpty)) := ev_opL h (el_lst ea_nil (by decide)) fun q H1 hq e1 => rv_val fun H2 e2 Q q2 => ⟨a, q, xs, rfl, rfl, sq_of ((e1.trans e2) _ _ ha), sq_of (e2 _ _ hq), q2⟩
end
theorem in28 : ∀ k : Fin 9, inV (.int (k.1 : Int)) [.int 2, .int 8] = (decide (k.1 = 2) || decide (k.1 = 8)) := by decide
theorem et_eqN {σ : L2.St} {H : Hp} {ta : TE} {k : Nat} {m' : Int} (m : Nat) (h : Ev ta σ H (.int (k : Int))) (hm : m' = (m : Int) := by rfl) : EvT (tTest (tOp rEq ta (tC (.int m')))) σ H (decide (k = m)) := et_is (et_test (ev_op h ev_c (rv_eq rfl))) (by
  subst hm
  rw [dec_int]
  by_cases e : k = m
  · subst e; simp
  · rw [decide_eq_false e]
    exact beq_false_of_ne (by omega))
theorem Paired.isEmpty {α β : Type} {F : α → β → Prop} {l : List α} {m : List β} (h : Paired F l m) : m.isEmpty = l.isEmpty := by cases h <;> rfl

section
variable {K : PySem.W.Frag} {wi : TI} {te : TE} {vs : List Nat} {σ : L2.St} {H : Hp} {xs : List V} {p : Addr}
/-- [term for _ in xs] -/
theorem lc_terms {j : Nat} {b : Bk} {many d : Nat} (hp : PoolAt H p) (hi : EvIX p wi σ H xs) (hz : xs.length ≤ 50000) (hw : ∀ x, wipe ((wipe σ vs).set j (some x)) vs = wipe σ vs)
    (hte : ∀ x H1, ExX p H H1 → PoolAt H1 p → EvDr p te ((wipe σ vs).set j (some x)) H1 (TmPhi b many d)) {Q : VK}
    (q : ∀ a ys H2, H a = none → ExX p H H2 → H2 a = some (.lst ys) → PoolAt H2 p → (∃ tms : List Tm, tms.length = xs.length ∧ (∀ t ∈ tms, TmGood b many d t) ∧ Paired (TmAt H2) tms ys) → Q (.ref a) H2) : tLc wi (gName j) tYes te vs σ H Q := by
  obtain ⟨_, _, hp1, _⟩ := id hp
  refine lc_genX hp1 hi (fun i acc H' => PoolAt H' p ∧ ∃ tms : List Tm, tms.length = i ∧ (∀ t ∈ tms, TmGood b many d t) ∧ Paired (TmAt H') tms acc) (fun i acc H1 H2 e k ⟨h1, tms, h2, h3, h4⟩ => ⟨h1.keep k, tms, h2, h3, Paired.mapP h4 fun _ _ z => TmAt.monoN e z⟩) (fun H1 e => ⟨hp.mono e, [], rfl, fun _ z => (by cases z), .nil⟩) hz hw (fun i x acc H1 hx x1 ⟨hpp, tms, hlen, hgood, hpd⟩ Q q => ?_) H (Ex.refl _) Q fun a ys H2 ha x2 h2 hl ⟨hp2, tms, a1, a2, a3⟩ => q a ys H2 ha x2 h2 hp2 ⟨tms, a1, a2, a3⟩
  refine hte x H1 x1 hpp H1 (Ex.refl _) Q fun v H3 x3 hp3 hv => ?_
  obtain ⟨tm, ht, hg⟩ := hv
  refine q v H3 x3 ⟨hp3, tms ++ [tm], by rw [List.length_append, hlen]; rfl, fun t ht => ?_, Paired.snoc (Paired.mapP hpd fun _ _ z => TmAt.monoT (hpp.t x3) z) ht⟩
  rcases List.mem_append.mp ht with h | h
  · exact hgood t h
  · rw [List.mem_singleton.mp h]; exact hg
end
theorem all_lf : ∀ {tms : List Tm}, (∀ t ∈ tms, ∃ l, t = Tm.lf l) → ∃ ls : List Lf, tms = ls.map Tm.lf
  | [], _ => ⟨[], rfl⟩
  | t :: r, h => by
    obtain ⟨l, rfl⟩ := h t (List.mem_cons_self ..)
    obtain ⟨ls, rfl⟩ := all_lf (tms := r) fun u hu => h u (List.mem_cons_of_mem _ hu)
    exact ⟨l :: ls, rfl⟩
theorem paired_lf {H : Hp} : ∀ {ls : List Lf} {ys : List V}, Paired (TmAt H) (ls.map Tm.lf) ys → Paired (LfAt H) ls ys
  | [], _, h => by cases h; exact .nil
  | l :: r, _, h => by
    cases h with
    | cons a t => exact .cons a (paired_lf t)
theorem ops_mem {v : V} (h : v ∈ [V.str "plus", .str "less", .str "same"]) : ∃ o, v = .str (opName o) := by
  simp only [List.mem_cons, List.mem_nil_iff, or_false] at h
  rcases h with rfl | rfl | rfl
  · exact ⟨.plus, rfl⟩
  · exact ⟨.less, rfl⟩
  · exact ⟨.same, rfl⟩

section
variable {P : Program} {w : World} {K : PySem.W.Frag} {mg : Str → Option Value} {base : Heap} (T : Tx K mg)
include T

omit T in
theorem scLTerm : FnScope ["_law_pool_here", "_law_b", "_law_many", "_law_deep", "_law_kind", "_law_f", "_law_at", "_law_head"] ["_law_pool_here", "_law_b", "_law_many", "_law_deep"] (defScope sLTerm) := ⟨rfl, rfl, rfl, by decide +kernel, rfl, by decide +kernel, by decide +kernel⟩
theorem okLTerm0 : Cal P w K mg base 3 "_law_term" (spLTerm K 0) [] := by
  obtain ⟨fd, F⟩ := T.DLTerm
  refine cal_of T.g_law_term F (F.bindsN fun _ _ _ _ _ _ us hl => match us, hl with | [_, _, _, _], _ => rfl) scLTerm (fun vs H Q E h => ?_) (fun cdv A outer s H vs Q E hr h => ?_)
  · obtain ⟨p, bv, b, many, rfl, _⟩ := h; rfl
  · refine ⟨_, (pss_cons (ps_set (i := 4) scLTerm.nd rfl (by first | exact Or.inl rfl | exact Or.inr rfl) (pe_c (okLDraw T) hr (by decide) rfl (pa_cons (pv 0) (pa_cons (pe_ifExp (pt_cmpR op_gt (pv 3) pe_int (nomark _)) pe_int pe_int) pa_nil)))) (pss_cons (ps_if (PW.pt (pw_or (pt_cmpR op_eq (pv 4) pe_int (nomark _)) (pw_or (PW.pt (pw_and (pt_cmpR op_eq (pv 4) pe_int (nomark _)) (pw_and1 (pt_cmpR op_eq (pv 2) pe_int (nomark _))))) (pw_or1 (PW.pt (pw_and (pt_cmpR op_in_seq (pv 4) (pe_lst (pa_cons pe_int (pa_cons pe_int pa_nil))) (by rfl)) (pw_and1 (pt_cmpR (op_eqNil (Nat.lt_of_succ_lt (hu_of hr))) (pe_dget (hu_of hr) (pv 1) pe_str (fun _ _ => rfl)) (pe_lst pa_nil) (nomark _))))))))) (pss_one (ps_ret (pe_c (okLDraw T) hr (by decide) rfl (pa_cons (pv 0) (pa_cons pe_int pa_nil))))) pss_nil) (pss_cons (ps_if (pt_cmpR op_eq (pv 4) pe_int (nomark _)) (pss_one (ps_ret (pe_tup (pa_cons pe_str (pa_cons (pe_c (okLDraw T) hr (by decide) rfl (pa_cons (pv 0) (pa_cons (pv 2) pa_nil))) pa_nil))))) pss_nil) (pss_cons (ps_if (PW.pt (pw_or (pt_cmpR op_eq (pv 4) pe_int (nomark _)) (pw_or1 (pt_cmpR op_eq (pv 4) pe_int (nomark _))))) (pss_one (ps_ret (pe_tup (pa_cons pe_str (pa_cons (pe_ix ix_tup (pe_c (okLPick T) hr (by decide) rfl (pa_cons (pv 0) (pa_cons (pe_dget (hu_of hr) (pv 1) pe_str (fun _ _ => rfl)) pa_nil))) pe_int (fun _ _ => rfl)) pa_nil))))) pss_nil) (pss_cons (ps_if (pt_cmpR op_eq (pv 4) pe_int (nomark _)) (pss_one (ps_ret (pe_ifExp (pt_cmpR op_eq (pe_c (okLDraw T) hr (by decide) rfl (pa_cons (pv 0) (pa_cons pe_int pa_nil))) pe_int (nomark _)) (pe_tup (pa_cons pe_str pa_nil)) (pe_c (okLDraw T) hr (by decide) rfl (pa_cons (pv 0) (pa_cons pe_int pa_nil)))))) pss_nil) (pss_cons (ps_if (PW.pt (pw_and (pt_cmpR op_eq (pv 4) pe_int (nomark _)) (pw_and1 (pt_cmpR (op_neNil (Nat.lt_of_succ_lt (hu_of hr))) (pe_dget (hu_of hr) (pv 1) pe_str (fun _ _ => rfl)) (pe_lst pa_nil) (nomark _))))) (pss_cons (ps_set (i := 5) scLTerm.nd rfl (by first | exact Or.inl rfl | exact Or.inr rfl) (pe_c (okLPick T) hr (by decide) rfl (pa_cons (pv 0) (pa_cons (pe_dget (hu_of hr) (pv 1) pe_str (fun _ _ => rfl)) pa_nil)))) (pss_one (ps_ret (pe_tup (pa_cons pe_str (pa_cons (pe_dget (hu_of hr) (pv 5) pe_str (fun _ _ => rfl)) (pa_cons (pe_callTy call_tuple_of rfl T.f_tuple (by decide +kernel) (pa_cons (pe_lc  (own := [("_law_at", 6)]) (by rfl) scLTerm.nd (pi_range1 (by rfl) T.f_range (pa_cons (pe_dget (hu_of hr) (pv 5) pe_str (fun _ _ => rfl)) pa_nil)) (blkOk_by (own := [("_law_at", 6)]) (N := ["_law_pool_here", "_law_b", "_law_many", "_law_deep", "_law_kind", "_law_f", "_law_at", "_law_head"]) (sc := defScope sLTerm) (by decide +kernel)) (fun _ _ _ _ _ => (pg_name (i := 6) scLTerm.nd rfl (by first | exact Or.inl rfl | exact Or.inr rfl))) (fun _ _ _ _ _ => pts_nil) (fun _ _ _ _ _ => pe_no)) pa_nil)) pa_nil))))))) pss_nil) (pss_cons (ps_if (pt_cmpR op_eq (pv 4) pe_int (nomark _)) (pss_one (ps_ret (pe_op op_catT (pe_tup (pa_cons pe_str pa_nil)) (pe_callTy call_tuple_of rfl T.f_tuple (by decide +kernel) (pa_cons (pe_lc  (own := [("_law_at", 6)]) (by rfl) scLTerm.nd (pi_range1 (by rfl) T.f_range (pa_cons pe_int pa_nil)) (blkOk_by (own := [("_law_at", 6)]) (N := ["_law_pool_here", "_law_b", "_law_many", "_law_deep", "_law_kind", "_law_f", "_law_at", "_law_head"]) (sc := defScope sLTerm) (by decide +kernel)) (fun _ _ _ _ _ => (pg_name (i := 6) scLTerm.nd rfl (by first | exact Or.inl rfl | exact Or.inr rfl))) (fun _ _ _ _ _ => pts_nil) (fun _ _ _ _ _ => pe_no)) pa_nil))))) pss_nil) (pss_cons (ps_set (i := 7) scLTerm.nd rfl (by first | exact Or.inl rfl | exact Or.inr rfl) (pe_c (okLPick T) hr (by decide) rfl (pa_cons (pv 0) (pa_cons (pe_lst (pa_cons pe_str (pa_cons pe_str (pa_cons pe_str pa_nil)))) pa_nil)))) (pss_one (ps_ret (pe_tup (pa_cons (pv 7) (pa_cons pe_no (pa_cons pe_no pa_nil)))))))))))))), ?_⟩
    obtain ⟨p, bv, b, many, rfl, hp, hb, hs, hm, hq⟩ := h
    obtain ⟨q0, pc, pf, cs, fs, rfl, hq0, hpc, hcs, hpf, hfs⟩ := id hb
    refine q_asgE (ed_draw (m := 4) (ev_var rfl) (ev_is (ev_if (b := false) (v := .int 4) (et_is (et_test (ev_op (ev_var rfl) ev_c rv_I0)) (by decide)) (fun z => by cases z) fun _ => ev_c) rfl) hp (by decide) (by decide) H (Ex.refl _) _ fun v H1 x1 hp1 hv => ?_)
    obtain ⟨k, rfl, hk⟩ := hv
    have hb1 := hb.monoP hp x1
    have hcE := Paired.isEmpty hcs
    have hpc1 := x1 _ _ (not_pool hp hpc hcs celL_int) hpc
    have hq1 := x1 _ _ (not_poolK hp hq0) hq0
    have hpf1 := x1 _ _ (not_pool hp hpf hfs funL_int) hpf
    refine q_when (b := decide (k = 0) || ((decide (k = 1) && decide (many = 0)) || ((decide (k = 2) || decide (k = 8)) && b.cells.isEmpty))) (et_or (et_eqN 0 (ev_var rfl)) fun _ => et_or (et_and (et_eqN 1 (ev_var rfl)) fun _ => et_eqN 0 (ev_var rfl)) fun _ => et_and (et_is (et_test (ev_opL (ev_var rfl) (el_lst (ea_cons ev_c (ea_cons ev_c ea_nil)) (show 2 ≤ 100000 by decide)) fun _ _ h _ => rv_isL (sq_of h) rfl rfl)) (in28 ⟨k, by omega⟩)) fun _ => et_is (et_test (ev_eqNil (ev_dget (ev_var rfl) ev_c hq1 rfl) hpc1)) hcE) (fun hb0 H2 e2 => ?_) (fun hb0 H2 e2 => ?_)
    · refine s_retE (ed_draw (m := 3) (ev_var rfl) ev_c (hp1.mono e2) (by decide) (by decide) H2 (Ex.refl _) _ fun v H3 x3 hp3 hv => ?_)
      obtain ⟨n, rfl, hn⟩ := hv
      exact hq _ H3 (x1.trans ((ExX.of e2).trans x3)) hp3 ⟨.lf (.val n), rfl, lf_good ⟨by omega, by omega⟩⟩
    have hp2 := hp1.mono e2
    have hb2 := hb1.mono e2
    have hq2 := e2 _ _ hq1
    have hpc2 := e2 _ _ hpc1
    have hpf2 := e2 _ _ hpf1
    have hcs2 : Paired (CelL H2) b.cells cs := Paired.mapP hcs fun _ _ z => CelL.mono e2 (CelL.monoT (hp.t x1) z)
    have X2 : ExX p H H2 := x1.trans (ExX.of e2)
    have hk0 : k ≠ 0 ∧ ¬ (k = 1 ∧ many = 0) ∧ ((k = 2 ∨ k = 8) → b.cells ≠ []) := by
      simp only [Bool.or_eq_false_iff, Bool.and_eq_false_iff, decide_eq_false_iff_not, List.isEmpty_eq_false_iff] at hb0
      obtain ⟨a1, a2, a3⟩ := hb0
      refine ⟨a1, fun z => ?_, fun z => ?_⟩
      · rcases a2 with a2 | a2 <;> omega
      · rcases a3 with a3 | a3
        · omega
        · exact a3
    refine q_when (b := decide (k = 1)) (et_eqN 1 (ev_var rfl)) (fun hb1' H3 e3 => ?_) (fun hb1' H3 e3 => ?_)
    · have h1 := of_decide_eq_true hb1'
      refine s_retE (e_tup (e_cons (e_cX (e_cons (ed_draw (m := many) (ev_var rfl) (ev_var rfl) (hp2.mono e3) (by omega) (by omega) H3 (Ex.refl _) _ fun v H4 x4 hp4 hv => ?_)))))
      obtain ⟨n, rfl, hn⟩ := hv
      exact ⟨show 2 ≤ sizeLine by decide, fun a ha => hq _ _ (X2.trans ((ExX.of e3).trans (x4.trans (ExX.of (Ex.new ha))))) (hp4.mono (Ex.new ha)) ⟨.lf (.arg n), ⟨a, rfl, upd_same⟩, lf_good hn⟩⟩
    have h1 := of_decide_eq_false hb1'
    refine q_when (b := decide (k = 2) || decide (k = 8)) (et_or (et_eqN 2 (ev_var rfl)) fun _ => et_eqN 8 (ev_var rfl)) (fun hb2' H4 e4 => ?_) (fun hb2' H4 e4 => ?_)
    · have h2 : k = 2 ∨ k = 8 := by simpa using hb2'
      have hne := hk0.2.2 h2
      have hcl : 0 < cs.length := by rw [← Paired.length hcs2]; exact List.length_pos_iff.mpr hne
      have hcl3 : cs.length ≤ 3 := by rw [← Paired.length hcs2]; exact hs.1
      have e34 := e3.trans e4
      have hpc4 := e34 _ _ hpc2
      refine s_retE (e_tup (e_cons (e_cX (e_cons (e_opX (ed_pick (xs := cs) (ev_var rfl) (ev_dget (ev_var rfl) ev_c (e34 _ _ hq2) rfl) (hp2.mono e34) (Ne.symm (not_pool (hp2.mono e34) hpc4 (Paired.mapP hcs2 fun _ _ z => CelL.mono e34 z) celL_int)) hpc4 hcl (by omega) H4 (Ex.refl _) _ fun v H5 x5 hp5 hv => ?_))))))
      obtain ⟨i, hi⟩ := List.getElem?_of_mem hv
      obtain ⟨c, hc, hcv⟩ := Paired.getR hcs2 hi
      obtain ⟨pz, rfl, hpz⟩ := (hcv.mono e34).monoT ((hp2.mono e34).t x5)
      refine ⟨pz, _, 0, _, rfl, rfl, st_of hpz, at0, show 2 ≤ sizeLine by decide, fun a ha => hq _ _ (X2.trans ((ExX.of e34).trans (x5.trans (ExX.of (Ex.new ha))))) (hp5.mono (Ex.new ha)) ⟨.lf (.cel c.1), ⟨a, rfl, upd_same⟩, lf_good (List.mem_map.mpr ⟨c, List.mem_of_getElem? hc, rfl⟩)⟩⟩
    have h2 : ¬ k = 2 ∧ ¬ k = 8 := by simpa using hb2'
    refine q_when (b := decide (k = 3)) (et_eqN 3 (ev_var rfl)) (fun hb3' H5 e5 => ?_) (fun hb3' H5 e5 => ?_)
    · have e35 := (e3.trans e4).trans e5
      refine s_retE (e_ifDr (ed_draw (m := 3) (ev_var rfl) ev_c (hp2.mono e35) (by decide) (by decide)) (fun H6 x6 hp6 => ?_) (fun H6 x6 hp6 => ?_))
      · exact e_tup (e_cons (e_cX ⟨show 1 ≤ sizeLine by decide, fun a ha => hq _ _ (X2.trans ((ExX.of e35).trans (x6.trans (ExX.of (Ex.new ha))))) (hp6.mono (Ex.new ha)) ⟨.lf .tick, ⟨a, rfl, upd_same⟩, lf_good True.intro⟩⟩))
      · refine ed_draw (m := 3) (ev_var rfl) ev_c hp6 (by decide) (by decide) H6 (Ex.refl _) _ fun v H7 x7 hp7 hv => ?_
        obtain ⟨n, rfl, hn⟩ := hv
        exact hq _ H7 (X2.trans ((ExX.of e35).trans (x6.trans x7))) hp7 ⟨.lf (.val n), rfl, lf_good ⟨by omega, by omega⟩⟩
    have h3 := of_decide_eq_false hb3'
    have e35 := (e3.trans e4).trans e5
    exact absurd hk (by omega)
    
theorem okLTerm : ∀ d, Cal P w K mg base (d + 3) "_law_term" (spLTerm K d) [] := by
  obtain ⟨fd, F⟩ := T.DLTerm
  intro d
  induction d with
  | zero => exact okLTerm0 T
  | succ d ih =>
    refine cal_of T.g_law_term F (F.bindsN fun _ _ _ _ _ _ us hl => match us, hl with | [_, _, _, _], _ => rfl) scLTerm (fun vs H Q E h => ?_) (fun cdv A outer s H vs Q E hr h => ?_)
    · obtain ⟨p, bv, b, many, rfl, _⟩ := h; rfl
    · refine ⟨_, (pss_cons (ps_set (i := 4) scLTerm.nd rfl (by first | exact Or.inl rfl | exact Or.inr rfl) (pe_c (okLDraw T) hr (by omega) rfl (pa_cons (pv 0) (pa_cons (pe_ifExp (pt_cmpR op_gt (pv 3) pe_int (nomark _)) pe_int pe_int) pa_nil)))) (pss_cons (ps_if (PW.pt (pw_or (pt_cmpR op_eq (pv 4) pe_int (nomark _)) (pw_or (PW.pt (pw_and (pt_cmpR op_eq (pv 4) pe_int (nomark _)) (pw_and1 (pt_cmpR op_eq (pv 2) pe_int (nomark _))))) (pw_or1 (PW.pt (pw_and (pt_cmpR op_in_seq (pv 4) (pe_lst (pa_cons pe_int (pa_cons pe_int pa_nil))) (by rfl)) (pw_and1 (pt_cmpR (op_eqNil (Nat.lt_of_succ_lt (hu_of hr))) (pe_dget (hu_of hr) (pv 1) pe_str (fun _ _ => rfl)) (pe_lst pa_nil) (nomark _))))))))) (pss_one (ps_ret (pe_c (okLDraw T) hr (by omega) rfl (pa_cons (pv 0) (pa_cons pe_int pa_nil))))) pss_nil) (pss_cons (ps_if (pt_cmpR op_eq (pv 4) pe_int (nomark _)) (pss_one (ps_ret (pe_tup (pa_cons pe_str (pa_cons (pe_c (okLDraw T) hr (by omega) rfl (pa_cons (pv 0) (pa_cons (pv 2) pa_nil))) pa_nil))))) pss_nil) (pss_cons (ps_if (PW.pt (pw_or (pt_cmpR op_eq (pv 4) pe_int (nomark _)) (pw_or1 (pt_cmpR op_eq (pv 4) pe_int (nomark _))))) (pss_one (ps_ret (pe_tup (pa_cons pe_str (pa_cons (pe_ix ix_tup (pe_c (okLPick T) hr (by omega) rfl (pa_cons (pv 0) (pa_cons (pe_dget (hu_of hr) (pv 1) pe_str (fun _ _ => rfl)) pa_nil))) pe_int (fun _ _ => rfl)) pa_nil))))) pss_nil) (pss_cons (ps_if (pt_cmpR op_eq (pv 4) pe_int (nomark _)) (pss_one (ps_ret (pe_ifExp (pt_cmpR op_eq (pe_c (okLDraw T) hr (by omega) rfl (pa_cons (pv 0) (pa_cons pe_int pa_nil))) pe_int (nomark _)) (pe_tup (pa_cons pe_str pa_nil)) (pe_c (okLDraw T) hr (by omega) rfl (pa_cons (pv 0) (pa_cons pe_int pa_nil)))))) pss_nil) (pss_cons (ps_if (PW.pt (pw_and (pt_cmpR op_eq (pv 4) pe_int (nomark _)) (pw_and1 (pt_cmpR (op_neNil (Nat.lt_of_succ_lt (hu_of hr))) (pe_dget (hu_of hr) (pv 1) pe_str (fun _ _ => rfl)) (pe_lst pa_nil) (nomark _))))) (pss_cons (ps_set (i := 5) scLTerm.nd rfl (by first | exact Or.inl rfl | exact Or.inr rfl) (pe_c (okLPick T) hr (by omega) rfl (pa_cons (pv 0) (pa_cons (pe_dget (hu_of hr) (pv 1) pe_str (fun _ _ => rfl)) pa_nil)))) (pss_one (ps_ret (pe_tup (pa_cons pe_str (pa_cons (pe_dget (hu_of hr) (pv 5) pe_str (fun _ _ => rfl)) (pa_cons (pe_callTy call_tuple_of rfl T.f_tuple (by decide +kernel) (pa_cons (pe_lc  (own := [("_law_at", 6)]) (by rfl) scLTerm.nd (pi_range1 (by rfl) T.f_range (pa_cons (pe_dget (hu_of hr) (pv 5) pe_str (fun _ _ => rfl)) pa_nil)) (blkOk_by (own := [("_law_at", 6)]) (N := ["_law_pool_here", "_law_b", "_law_many", "_law_deep", "_law_kind", "_law_f", "_law_at", "_law_head"]) (sc := defScope sLTerm) (by decide +kernel)) (fun _ _ _ _ _ => (pg_name (i := 6) scLTerm.nd rfl (by first | exact Or.inl rfl | exact Or.inr rfl))) (fun _ _ _ _ _ => pts_nil) (fun _ _ _ _ _ => (pe_c (okLTerm0 T) hr (by omega) rfl (pa_cons (pv 0) (pa_cons (pv 1) (pa_cons (pv 2) (pa_cons pe_int pa_nil))))))) pa_nil)) pa_nil))))))) pss_nil) (pss_cons (ps_if (pt_cmpR op_eq (pv 4) pe_int (nomark _)) (pss_one (ps_ret (pe_op op_catT (pe_tup (pa_cons pe_str pa_nil)) (pe_callTy call_tuple_of rfl T.f_tuple (by decide +kernel) (pa_cons (pe_lc  (own := [("_law_at", 6)]) (by rfl) scLTerm.nd (pi_range1 (by rfl) T.f_range (pa_cons pe_int pa_nil)) (blkOk_by (own := [("_law_at", 6)]) (N := ["_law_pool_here", "_law_b", "_law_many", "_law_deep", "_law_kind", "_law_f", "_law_at", "_law_head"]) (sc := defScope sLTerm) (by decide +kernel)) (fun _ _ _ _ _ => (pg_name (i := 6) scLTerm.nd rfl (by first | exact Or.inl rfl | exact Or.inr rfl))) (fun _ _ _ _ _ => pts_nil) (fun _ _ _ _ _ => (pe_c ih hr (by omega) rfl (pa_cons (pv 0) (pa_cons (pv 1) (pa_cons (pv 2) (pa_cons (pe_op op_sub (pv 3) pe_int) pa_nil))))))) pa_nil))))) pss_nil) (pss_cons (ps_set (i := 7) scLTerm.nd rfl (by first | exact Or.inl rfl | exact Or.inr rfl) (pe_c (okLPick T) hr (by omega) rfl (pa_cons (pv 0) (pa_cons (pe_lst (pa_cons pe_str (pa_cons pe_str (pa_cons pe_str pa_nil)))) pa_nil)))) (pss_one (ps_ret (pe_tup (pa_cons (pv 7) (pa_cons (pe_c ih hr (by omega) rfl (pa_cons (pv 0) (pa_cons (pv 1) (pa_cons (pv 2) (pa_cons (pe_op op_sub (pv 3) pe_int) pa_nil))))) (pa_cons (pe_c ih hr (by omega) rfl (pa_cons (pv 0) (pa_cons (pv 1) (pa_cons (pv 2) (pa_cons (pe_op op_sub (pv 3) pe_int) pa_nil))))) pa_nil)))))))))))))), ?_⟩
      obtain ⟨p, bv, b, many, rfl, hp, hb, hs, hm, hq⟩ := h
      obtain ⟨q0, pc, pf, cs, fs, rfl, hq0, hpc, hcs, hpf, hfs⟩ := id hb
      refine q_asgE (ed_draw (m := 9) (ev_var rfl) (ev_is (ev_if (b := true) (v := .int 9) (et_is (et_test (ev_op (ev_var rfl) ev_c rv_I0)) (decide_eq_true (by omega))) (fun _ => ev_c) fun z => by cases z) rfl) hp (by decide) (by decide) H (Ex.refl _) _ fun v H1 x1 hp1 hv => ?_)
      obtain ⟨k, rfl, hk⟩ := hv
      have hb1 := hb.monoP hp x1
      have hcE := Paired.isEmpty hcs
      have hpc1 := x1 _ _ (not_pool hp hpc hcs celL_int) hpc
      have hq1 := x1 _ _ (not_poolK hp hq0) hq0
      have hpf1 := x1 _ _ (not_pool hp hpf hfs funL_int) hpf
      refine q_when (b := decide (k = 0) || ((decide (k = 1) && decide (many = 0)) || ((decide (k = 2) || decide (k = 8)) && b.cells.isEmpty))) (et_or (et_eqN 0 (ev_var rfl)) fun _ => et_or (et_and (et_eqN 1 (ev_var rfl)) fun _ => et_eqN 0 (ev_var rfl)) fun _ => et_and (et_is (et_test (ev_opL (ev_var rfl) (el_lst (ea_cons ev_c (ea_cons ev_c ea_nil)) (show 2 ≤ 100000 by decide)) fun _ _ h _ => rv_isL (sq_of h) rfl rfl)) (in28 ⟨k, by omega⟩)) fun _ => et_is (et_test (ev_eqNil (ev_dget (ev_var rfl) ev_c hq1 rfl) hpc1)) hcE) (fun hb0 H2 e2 => ?_) (fun hb0 H2 e2 => ?_)
      · refine s_retE (ed_draw (m := 3) (ev_var rfl) ev_c (hp1.mono e2) (by decide) (by decide) H2 (Ex.refl _) _ fun v H3 x3 hp3 hv => ?_)
        obtain ⟨n, rfl, hn⟩ := hv
        exact hq _ H3 (x1.trans ((ExX.of e2).trans x3)) hp3 ⟨.lf (.val n), rfl, lf_good ⟨by omega, by omega⟩⟩
      have hp2 := hp1.mono e2
      have hb2 := hb1.mono e2
      have hq2 := e2 _ _ hq1
      have hpc2 := e2 _ _ hpc1
      have hpf2 := e2 _ _ hpf1
      have hcs2 : Paired (CelL H2) b.cells cs := Paired.mapP hcs fun _ _ z => CelL.mono e2 (CelL.monoT (hp.t x1) z)
      have X2 : ExX p H H2 := x1.trans (ExX.of e2)
      have hk0 : k ≠ 0 ∧ ¬ (k = 1 ∧ many = 0) ∧ ((k = 2 ∨ k = 8) → b.cells ≠ []) := by
        simp only [Bool.or_eq_false_iff, Bool.and_eq_false_iff, decide_eq_false_iff_not, List.isEmpty_eq_false_iff] at hb0
        obtain ⟨a1, a2, a3⟩ := hb0
        refine ⟨a1, fun z => ?_, fun z => ?_⟩
        · rcases a2 with a2 | a2 <;> omega
        · rcases a3 with a3 | a3
          · omega
          · exact a3
      refine q_when (b := decide (k = 1)) (et_eqN 1 (ev_var rfl)) (fun hb1' H3 e3 => ?_) (fun hb1' H3 e3 => ?_)
      · have h1 := of_decide_eq_true hb1'
        refine s_retE (e_tup (e_cons (e_cX (e_cons (ed_draw (m := many) (ev_var rfl) (ev_var rfl) (hp2.mono e3) (by omega) (by omega) H3 (Ex.refl _) _ fun v H4 x4 hp4 hv => ?_)))))
        obtain ⟨n, rfl, hn⟩ := hv
        exact ⟨show 2 ≤ sizeLine by decide, fun a ha => hq _ _ (X2.trans ((ExX.of e3).trans (x4.trans (ExX.of (Ex.new ha))))) (hp4.mono (Ex.new ha)) ⟨.lf (.arg n), ⟨a, rfl, upd_same⟩, lf_good hn⟩⟩
      have h1 := of_decide_eq_false hb1'
      refine q_when (b := decide (k = 2) || decide (k = 8)) (et_or (et_eqN 2 (ev_var rfl)) fun _ => et_eqN 8 (ev_var rfl)) (fun hb2' H4 e4 => ?_) (fun hb2' H4 e4 => ?_)
      · have h2 : k = 2 ∨ k = 8 := by simpa using hb2'
        have hne := hk0.2.2 h2
        have hcl : 0 < cs.length := by rw [← Paired.length hcs2]; exact List.length_pos_iff.mpr hne
        have hcl3 : cs.length ≤ 3 := by rw [← Paired.length hcs2]; exact hs.1
        have e34 := e3.trans e4
        have hpc4 := e34 _ _ hpc2
        refine s_retE (e_tup (e_cons (e_cX (e_cons (e_opX (ed_pick (xs := cs) (ev_var rfl) (ev_dget (ev_var rfl) ev_c (e34 _ _ hq2) rfl) (hp2.mono e34) (Ne.symm (not_pool (hp2.mono e34) hpc4 (Paired.mapP hcs2 fun _ _ z => CelL.mono e34 z) celL_int)) hpc4 hcl (by omega) H4 (Ex.refl _) _ fun v H5 x5 hp5 hv => ?_))))))
        obtain ⟨i, hi⟩ := List.getElem?_of_mem hv
        obtain ⟨c, hc, hcv⟩ := Paired.getR hcs2 hi
        obtain ⟨pz, rfl, hpz⟩ := (hcv.mono e34).monoT ((hp2.mono e34).t x5)
        refine ⟨pz, _, 0, _, rfl, rfl, st_of hpz, at0, show 2 ≤ sizeLine by decide, fun a ha => hq _ _ (X2.trans ((ExX.of e34).trans (x5.trans (ExX.of (Ex.new ha))))) (hp5.mono (Ex.new ha)) ⟨.lf (.cel c.1), ⟨a, rfl, upd_same⟩, lf_good (List.mem_map.mpr ⟨c, List.mem_of_getElem? hc, rfl⟩)⟩⟩
      have h2 : ¬ k = 2 ∧ ¬ k = 8 := by simpa using hb2'
      refine q_when (b := decide (k = 3)) (et_eqN 3 (ev_var rfl)) (fun hb3' H5 e5 => ?_) (fun hb3' H5 e5 => ?_)
      · have e35 := (e3.trans e4).trans e5
        refine s_retE (e_ifDr (ed_draw (m := 3) (ev_var rfl) ev_c (hp2.mono e35) (by decide) (by decide)) (fun H6 x6 hp6 => ?_) (fun H6 x6 hp6 => ?_))
        · exact e_tup (e_cons (e_cX ⟨show 1 ≤ sizeLine by decide, fun a ha => hq _ _ (X2.trans ((ExX.of e35).trans (x6.trans (ExX.of (Ex.new ha))))) (hp6.mono (Ex.new ha)) ⟨.lf .tick, ⟨a, rfl, upd_same⟩, lf_good True.intro⟩⟩))
        · refine ed_draw (m := 3) (ev_var rfl) ev_c hp6 (by decide) (by decide) H6 (Ex.refl _) _ fun v H7 x7 hp7 hv => ?_
          obtain ⟨n, rfl, hn⟩ := hv
          exact hq _ H7 (X2.trans ((ExX.of e35).trans (x6.trans x7))) hp7 ⟨.lf (.val n), rfl, lf_good ⟨by omega, by omega⟩⟩
      have h3 := of_decide_eq_false hb3'
      have e35 := (e3.trans e4).trans e5
      have hdd : ∀ {H' : Hp} {x5 x6 x7 : Option V}, Ev (tOp (rI0 fun i j => .int (i - j)) (tVar 3) (tC (.int 1))) [some (.ref p), some (.ref q0), some (.int (many : Int)), some (.int ((d + 1 : Nat) : Int)), some (.int (k : Int)), x5, x6, x7] H' (.int (d : Int)) := fun {H'} {x5} {x6} {x7} => ev_is (ev_op (ev_var rfl) ev_c rv_I0) (by push_cast; congr 1; omega)
      have hsz := szB_pos d
      refine q_when (b := decide (k = 4) && !fs.isEmpty) (et_and (et_eqN 4 (ev_var rfl)) fun _ => et_test (ev_neNil (ev_dget (ev_var rfl) ev_c (e35 _ _ hq2) rfl) (e35 _ _ hpf2))) (fun hb4 H6 e6 => ?_) (fun hb4 H6 e6 => ?_)
      · have e36 := e35.trans e6
        have hp6 := hp2.mono e36
        have hb6 := hb2.mono e36
        have hpf6 := e36 _ _ hpf2
        have hfs6 : Paired (FunL H6) b.fns fs := Paired.mapP hfs fun _ _ z => FunL.mono e36 (FunL.mono e2 (FunL.monoP hp x1 z))
        have hfl : 0 < fs.length := by
          cases hfe : fs with
          | nil => rw [hfe] at hb4; simp at hb4
          | cons _ _ => simp
        have hfl3 : fs.length ≤ 3 := by rw [← Paired.length hfs6]; exact hs.2.1
        refine q_asgE (ed_pick (xs := fs) (ev_var rfl) (ev_dget (ev_var rfl) ev_c (e36 _ _ hq2) rfl) hp6 (Ne.symm (not_pool hp6 hpf6 hfs6 funL_int)) hpf6 hfl (by omega) H6 (Ex.refl _) _ fun v H7 x7 hp7 hv => ?_)
        obtain ⟨i, hi⟩ := List.getElem?_of_mem hv
        obtain ⟨g, hg, hgv⟩ := Paired.getR hfs6 hi
        have hgm := List.mem_of_getElem? hg
        have hgmany := hs.2.2 g hgm
        obtain ⟨pg, xg, pw, ws, rfl, hpg, _⟩ := FunL.monoP hp6 x7 hgv
        have hb7 := hb6.monoP hp6 x7
        refine s_retE (e_tup (e_cons (e_cX (e_cons (ev_dget (ev_var rfl) ev_c hpg rfl H7 (Ex.refl _) _ fun H8 e8 => e_cons (e_cb (e_cons ?_)))))))
        refine lc_terms (b := b) (many := many) (d := 0) (vs := [6]) (j := 6) (hp7.mono e8) (evix_rng (n := g.many) (ea_cons (ev_dget (ev_var rfl) ev_c (e8 _ _ hpg) rfl) ea_nil) (by omega)) (by rw [List.length_map, List.length_range]; omega) (fun _ => rfl) (fun x H9 x9 hp9 => ed_term (K := K) (d := 0) (ev_var rfl) (ev_var rfl) (ev_var rfl) ev_c hp9 ((hb7.mono e8).monoP (hp7.mono e8) x9) hs hm) fun a ys H9 ha x9 h9 hp9 htms => ?_
        obtain ⟨tms, hlen, hgood, hpd⟩ := htms
        rw [List.length_map, List.length_range] at hlen
        obtain ⟨ls, rfl⟩ := all_lf fun t ht => (hgood t ht).2.2.2 rfl
        rw [List.length_map] at hlen
        refine ⟨a, ys, rfl, .inl ⟨sq_of h9, fun l hl9 => ⟨show 3 ≤ sizeLine by decide, fun c hc => ?_⟩⟩⟩
        have eZ : Ex H9 (upd (upd H9 l (.tup ys)) c (.tup [.str "call", .str g.name, .ref l])) := (Ex.new hl9).trans (Ex.new hc)
        refine hq _ _ (X2.trans ((ExX.of e36).trans (x7.trans ((ExX.of e8).trans (x9.trans (ExX.of eZ)))))) (hp9.mono eZ) ⟨.call g.name ls, ⟨c, l, ys, rfl, upd_same, (Ex.new hc) _ _ upd_same, Paired.mapP (paired_lf hpd) fun _ _ z => LfAt.mono eZ z⟩, ⟨⟨g, hgm, rfl, hlen⟩, fun l hl => (hgood _ (List.mem_map.mpr ⟨l, hl, rfl⟩)).1⟩, ?_, ?_, fun z => by cases z⟩
        · unfold Tm.depth; split <;> omega
        · show 1 + ls.length ≤ 1 + 3 * szB d
          omega
      refine q_when (b := decide (k = 7)) (et_eqN 7 (ev_var rfl)) (fun hb7 H7 e7 => ?_) (fun hb7 H7 e7 => ?_)
      · have e37 := (e35.trans e6).trans e7
        have hp7 := hp2.mono e37
        refine s_retE (e_opX (e_tup (e_cons (e_cX ⟨show 1 ≤ sizeLine by decide, fun a0 ha0 => e_cb (e_cons ?_)⟩))))
        have e0 : Ex H7 (upd H7 a0 (.tup [.str "if"])) := Ex.new ha0
        have hb8 := (hb2.mono e37).mono e0
        refine lc_terms (b := b) (many := many) (d := d) (vs := [6]) (j := 6) (hp7.mono e0) (evix_rng (n := 3) (ea_cons ev_c ea_nil) (by decide)) (by decide) (fun _ => rfl) (fun x H9 x9 hp9 => ed_term (K := K) (d := d) (ev_var rfl) (ev_var rfl) (ev_var rfl) hdd hp9 (hb8.monoP (hp7.mono e0) x9) hs hm) fun a ys H9 ha x9 h9 hp9 htms => ?_
        obtain ⟨tms, hlen, hgood, hpd⟩ := htms
        have ha9 := x9 _ _ (not_poolT (hp7.mono e0) upd_same) (upd_same (H := H7) (a := a0) (o := .tup [.str "if"]))
        refine ⟨a, ys, rfl, .inl ⟨sq_of h9, fun l hl9 => ?_⟩⟩
        match tms, hlen, hgood, hpd with
        | [t1, t2, t3], _, hgood, .cons (b := y1) c1 (.cons (b := y2) c2 (.cons (b := y3) c3 .nil)) =>
          refine ⟨a0, l, _, _, rfl, rfl, st_of ((Ex.new hl9) _ _ ha9), st_of upd_same, (by simp), (by rw [sizeLine_eq]; exact (show 4 ≤ 16777216 by decide)), fun z => (by cases z), fun _ c hc => ?_⟩
          have eZ : Ex H9 (upd (upd H9 l (.tup [y1, y2, y3])) c (.tup [.str "if", y1, y2, y3])) := (Ex.new hl9).trans (Ex.new hc)
          have g1 := hgood t1 (by simp)
          have g2 := hgood t2 (by simp)
          have g3 := hgood t3 (by simp)
          refine hq _ _ (X2.trans ((ExX.of (e37.trans e0)).trans (x9.trans (ExX.of eZ)))) (hp9.mono eZ) ⟨.ite t1 t2 t3, ⟨c, y1, y2, y3, rfl, upd_same, c1.mono eZ, c2.mono eZ, c3.mono eZ⟩, ⟨g1.1, g2.1, g3.1⟩, ?_, ?_, fun z => by cases z⟩
          · have := g1.2.1; have := g2.2.1; have := g3.2.1
            show 1 + max _ (max _ _) ≤ _
            omega
          · have := g1.2.2.1; have := g2.2.2.1; have := g3.2.2.1
            show 1 + (_ + (_ + _)) ≤ 1 + 3 * szB d
            omega
      have e37 := (e35.trans e6).trans e7
      have hp7 := hp2.mono e37
      have hb7 := hb2.mono e37
      refine q_asgE (ed_pickL (ev_var rfl) (el_lst (ea_cons ev_c (ea_cons ev_c (ea_cons ev_c ea_nil))) (show 3 ≤ 100000 by decide)) hp7 (show 0 < 3 by decide) (show 3 < 1000 by decide) H7 (Ex.refl _) _ fun v H8 x8 hp8 hv => ?_)
      obtain ⟨o, rfl⟩ := ops_mem hv
      have hb8 := hb7.monoP hp7 x8
      refine s_retE (e_tup (e_cons (e_vX rfl (e_cons (ed_term (b := b) (many := many) (d := d) (ev_var rfl) (ev_var rfl) (ev_var rfl) hdd hp8 hb8 hs hm H8 (Ex.refl _) _ fun v H9 x9 hp9 hv => ?_)))))
      obtain ⟨t1, c1, g1⟩ := hv
      have hb9 := hb8.monoP hp8 x9
      refine e_cons (ed_term (b := b) (many := many) (d := d) (ev_var rfl) (ev_var rfl) (ev_var rfl) hdd hp9 hb9 hs hm H9 (Ex.refl _) _ fun v H10 x10 hp10 hv => ?_)
      obtain ⟨t2, c2, g2⟩ := hv
      refine ⟨show 3 ≤ sizeLine by decide, fun c hc => ?_⟩
      refine hq _ _ (X2.trans ((ExX.of e37).trans (x8.trans (x9.trans (x10.trans (ExX.of (Ex.new hc))))))) (hp10.mono (Ex.new hc)) ⟨.op o t1 t2, ⟨c, _, _, rfl, upd_same, (c1.monoT (hp9.t x10)).mono (Ex.new hc), c2.mono (Ex.new hc)⟩, ⟨g1.1, g2.1⟩, ?_, ?_, fun z => by cases z⟩
      · have := g1.2.1; have := g2.2.1
        show 1 + max _ _ ≤ _
        omega
      · have := g1.2.2.1; have := g2.2.2.1
        show 1 + (_ + _) ≤ 1 + 3 * szB d
        omega
      
end
end SC
set_option Elab.async false
set_option linter.all false
set_option maxRecDepth 100000
set_option maxHeartbeats 1000000
/-! L4: books drawn. -/
namespace SC
open PySem PySem.Spec PyProof.Rows L2 C8 Evl
section
variable {K : PySem.W.Frag} {wi : TI} {te tt tk tv ta tb : TE} {vs : List Nat} {σ : L2.St} {H : Hp} {xs : List V} {p : Addr} {D : Ends} {tz : TS} {tu : TS} {g : TG} {Q : VK}
theorem el_pairF {α : Type} {F : α → V → Prop} {l : List α} {tt : TT} {j : Nat} (hi : EvI wi σ H xs) (hp : Paired F l xs) (f : α → Bool) (φ : α → V) (hz : xs.length ≤ 50000) (hw : ∀ x, wipe ((wipe σ vs).set j (some x)) vs = wipe σ vs)
    (ht : ∀ a x, a ∈ l → F a x → EvT tt ((wipe σ vs).set j (some x)) H (f a)) (he : ∀ a x, a ∈ l → F a x → Ev te ((wipe σ vs).set j (some x)) H (φ a)) : EvL (tLc wi (gName j) tt te vs) σ H ((l.filter f).map φ) := by
  have h := lc_gen (tt := tt) (te := te) hi (fun i acc _ => acc = ((l.take i).filter f).map φ) (fun _ _ _ _ _ z => z) (fun _ _ => rfl) hz hw fun i x acc H1 hx e hl hi => ?_
  · rw [← Paired.length hp, List.take_length] at h
    exact h.l
  · obtain ⟨a, ha, hax⟩ := Paired.getR hp hx
    have tk : l.take (i + 1) = l.take i ++ [a] := by rw [List.take_add_one, ha]; rfl
    refine ⟨f a, fun H2 e2 Q q => ht a x (List.mem_of_getElem? ha) hax H2 (e.trans e2) Q q, fun hf H2 e2 Q q => he a x (List.mem_of_getElem? ha) hax H2 (e.trans e2) Q fun H3 e3 => q _ H3 e3 ?_, fun hf => ?_⟩
    · rw [hi, tk, List.filter_append, List.map_append]
      simp [hf]
    · rw [hi, tk, List.filter_append, List.map_append]
      simp [hf]
theorem pp_cons {r : List (TE × TE)} {Q : List (V × V) → Hp → Prop} (h : tk σ H fun x H1 => tv σ H1 fun y H2 => tPairs r σ H2 fun ps H3 => Q ((x, y) :: ps) H3) : tPairs ((tk, tv) :: r) σ H Q := h
theorem pp_nil {Q : List (V × V) → Hp → Prop} (h : Q [] H) : tPairs [] σ H Q := h
theorem e_disp {trs : List (TE × TE)} (h : ∀ p, H p = none → tPairs trs σ (upd H p (.dK [])) fun ps H2 => H2 p = some (.dK []) ∧ ∃ kvs : List (Key × V), ps = kvs.map (fun kv => (kV kv.1, kv.2)) ∧ kvs.length ≤ 15 ∧ Q (.ref p) (upd H2 p (.dK (mergeK [] kvs)))) : tDisp trs σ H Q := h
theorem q_dputE (h : tv σ H fun v H1 => ta σ H1 fun x H2 => tb σ H2 fun y H3 => ∃ a H4, x = .ref a ∧ DPut H3 a y v H4 ∧ tz D σ H4) : tSeq (sDPut ta tb tv) tz D σ H := h
theorem s_dputE (h : tv σ H fun v H1 => ta σ H1 fun x H2 => tb σ H2 fun y H3 => ∃ a H4, x = .ref a ∧ DPut H3 a y v H4 ∧ D.nx σ H4) : sDPut ta tb tv D σ H := h
theorem q_rngE (h : te σ H fun v H1 => tSeq (tFor (iRng1 (tCons (tC v) tNil)) g tu) tz D σ H1) : tSeq (tFor (iRng1 (tCons te tNil)) g tu) tz D σ H := h
theorem lc_rngE {tt : TT} (h : te σ H fun v H1 => tLc (iRng1 (tCons (tC v) tNil)) g tt ta vs σ H1 Q) : tLc (iRng1 (tCons te tNil)) g tt ta vs σ H Q := h
theorem t_tst {t : TE} {Q : Bool → Hp → Prop} (h : t σ H fun x H' => ∃ k, x = .bl k ∧ Q k H') : tTest t σ H Q := h
theorem ExX.putF {H1 : Hp} {d : Addr} {o : HO} (x : ExX p H H1) (hd : H d = none) : ExX p H (upd H1 d o) := fun a u na ha => by rw [upd_ne (ne_of_none ha hd)]; exact x a u na ha
/-- t or draw == 0, t false -/
theorem q_orDr {t : TT} {W : TE} {m : Nat} {n0 : Int} (ht : EvT t σ H false) (hp : PoolAt H p) (h : ∀ H1, Ex H H1 → EvDr p W σ H1 (fun v _ => ∃ n : Nat, v = .int (n : Int) ∧ n < m)) (k1 : ∀ H1, ExX p H H1 → PoolAt H1 p → tu { D with nx := tz D } σ H1) (k2 : ∀ H1, ExX p H H1 → PoolAt H1 p → tz D σ H1) : tSeq (tIfS (tOr t (tTest (tOp rEq W (tC (.int n0))))) tu tNext) tz D σ H := by
  refine q_whenDr (ht H (Ex.refl _) _ fun H1 e1 => ?_)
  rw [if_neg (by simp)]
  refine h H1 e1 H1 (Ex.refl _) _ fun v H2 x2 hp2 hv => ?_
  obtain ⟨n, rfl, _⟩ := hv
  refine ⟨rfl, _, rfl, ?_⟩
  show if decide (V.int (n : Int) = V.int n0) = true then _ else _
  split
  · exact k1 H2 ((ExX.of e1).trans x2) hp2
  · exact k2 H2 ((ExX.of e1).trans x2) hp2
end
def WrGood (b : Bk) (many : Nat) (wr : List (Str × Tm)) : Prop := wr.length ≤ 1 ∧ ∀ w ∈ wr, (w.1, (Str.ofString "table")) ∈ b.cells ∧ TmOk (b.cells.map (·.1)) b.fns many w.2 ∧ w.2.depth ≤ 2 ∧ w.2.size ≤ 4
def WrPhi (b : Bk) (many : Nat) (v : V) (H2 : Hp) : Prop := ∃ pw ws wr, v = .ref pw ∧ H2 pw = some (.tup ws) ∧ Paired (WrL H2) wr ws ∧ WrGood b many wr
def spLWrites (K : PySem.W.Frag) : Sp := fun vs H Q _ => ∃ (p : Addr) (bv : V) (b : Bk) (many : Nat), vs = [.ref p, bv, .int (many : Int)] ∧ PoolAt H p ∧ BookL H b bv ∧ BkS b ∧ many ≤ 2 ∧ DrV p H (WrPhi b many) Q
theorem ed_writes {K : PySem.W.Frag} {σ : L2.St} {H : Hp} {ta tb tc : TE} {p : Addr} {bv : V} {b : Bk} {many : Nat} (h1 : Ev ta σ H (.ref p)) (h2 : Ev tb σ H bv) (h3 : Ev tc σ H (.int (many : Int))) (hp : PoolAt H p) (hb : BookL H b bv) (hs : BkS b) (hm : many ≤ 2) :
    EvDr p (tCall (spLWrites K) [] C8.E0 (tCons ta (tCons tb (tCons tc tNil)))) σ H (WrPhi b many) := fun H1 e Q q =>
  h1 H1 e _ fun H2 e2 => h2 H2 (e.trans e2) _ fun H3 e3 => h3 H3 (e.trans (e2.trans e3)) _ fun H4 e4 => by
    have e15 := e2.trans (e3.trans e4)
    exact ⟨p, bv, b, many, rfl, hp.mono (e.trans e15), hb.mono (e.trans e15), hs, hm, fun v H6 x6 hp6 hv => q v H6 ((ExX.of e15).trans x6) hp6 hv⟩
theorem wrL_none {b : Bk} {many : Nat} : WrGood b many [] := ⟨by simp, fun w h => by cases h⟩
/-- the book that is being drawn -/
theorem FunL.monoQ {H H' : Hp} {q a b : Addr} (hq : H q = some (.dK [KS "cells" (.ref a), KS "functions" (.ref b)])) (x : ExX q H H') {g : Fn} {v : V} (h : FunL H g v) : FunL H' g v :=
  let ⟨r, z, pw, ws, h1, h2, h3, h4, h5⟩ := h
  ⟨r, z, pw, ws, h1, x _ _ (fun e => by rw [e, hq] at h2; injection h2 with h2; injection h2 with h2; have := congrArg List.length h2; simp at this) h2, h3.monoT (x.t hq), (x.t hq).at h4, Paired.mapP h5 fun _ _ z => WrL.monoT (x.t hq) z⟩
def spLBook (K : PySem.W.Frag) : Sp := fun vs H Q _ => ∃ p, vs = [.ref p, .int 3, .int 2] ∧ PoolAt H p ∧ DrV p H (fun v H2 => ∃ b, BookL H2 b v ∧ BOk b) Q
theorem kinds_mem {v : V} (h : v ∈ [V.str "frozen", .str "setting", .str "table", .str "table"]) : ∃ k, k ∈ kindsL ∧ v = .str k := by
  simp only [List.mem_cons, List.mem_nil_iff, or_false] at h
  rcases h with rfl | rfl | rfl | rfl
  · exact ⟨"frozen", by simp [kindsL], rfl⟩
  · exact ⟨"setting", by simp [kindsL], rfl⟩
  · exact ⟨"table", by simp [kindsL], rfl⟩
  · exact ⟨"table", by simp [kindsL], rfl⟩
theorem labels_mem {v : V} (h : v ∈ [V.str "always", .str "session", .str "statement", .str "changing", .str "changing"]) : ∃ k, k ∈ labelsL ∧ v = .str k := by
  simp only [List.mem_cons, List.mem_nil_iff, or_false] at h
  rcases h with rfl | rfl | rfl | rfl | rfl
  · exact ⟨"always", by simp [labelsL], rfl⟩
  · exact ⟨"session", by simp [labelsL], rfl⟩
  · exact ⟨"statement", by simp [labelsL], rfl⟩
  · exact ⟨"changing", by simp [labelsL], rfl⟩
  · exact ⟨"changing", by simp [labelsL], rfl⟩

section
variable {P : Program} {w : World} {K : PySem.W.Frag} {mg : Str → Option Value} {base : Heap} (T : Tx K mg)
include T

omit T in
theorem scLWrites : FnScope ["_law_pool_here", "_law_b", "_law_many", "_law_tables", "_law_cell"] ["_law_pool_here", "_law_b", "_law_many"] (defScope sLWrites) := ⟨rfl, rfl, rfl, by decide +kernel, rfl, by decide +kernel, by decide +kernel⟩
theorem okLWrites : Cal P w K mg base 5 "_law_writes" (spLWrites K) [] := by
  obtain ⟨fd, F⟩ := T.DLWrites
  refine cal_of T.g_law_writes F (F.bindsN fun _ _ _ _ _ _ us hl => match us, hl with | [_, _, _], _ => rfl) scLWrites (fun vs H Q E h => ?_) (fun cdv A outer s H vs Q E hr h => ?_)
  · obtain ⟨p, bv, b, many, rfl, _⟩ := h; rfl
  · refine ⟨_, (pss_cons (ps_setLc (i := 3) (own := [("_law_cell", 4)]) (by rfl) scLWrites.nd rfl rfl (sw_true rfl rfl rfl (by decide +kernel)) (pi_list (pe_dget (hu_of hr) (pv 1) pe_str (fun _ _ => rfl))) (blkOk_by (own := [("_law_cell", 4)]) (N := ["_law_pool_here", "_law_b", "_law_many", "_law_tables", "_law_cell"]) (sc := defScope sLWrites) (by decide +kernel)) (fun _ _ _ _ _ => (pg_name (i := 4) scLWrites.nd rfl (by first | exact Or.inl rfl | exact Or.inr rfl))) (fun _ _ _ _ _ => (pts_one (pt_cmpR op_eq (pe_ix (ix_tupK (K := K) rfl) (pv 4) pe_int (fun _ _ => rfl)) pe_str (nomark _)))) (fun _ _ _ _ _ => (pe_ix (ix_tupK (K := K) rfl) (pv 4) pe_int (fun _ _ => rfl)))) (pss_cons (ps_if (PW.pt (pw_or (pt_cmpR (op_eqNil (Nat.lt_of_succ_lt (hu_of hr))) (pv 3) (pe_lst pa_nil) (nomark _)) (pw_or1 (pt_cmpR op_eq (pe_c (okLDraw T) hr (by decide) rfl (pa_cons (pv 0) (pa_cons pe_int pa_nil))) pe_int (nomark _))))) (pss_one (ps_ret (pe_tup pa_nil))) pss_nil) (pss_one (ps_ret (pe_tup (pa_cons (pe_tup (pa_cons (pe_c (okLPick T) hr (by decide) rfl (pa_cons (pv 0) (pa_cons (pv 3) pa_nil))) (pa_cons (pe_c (okLTerm T 1) hr (by decide) rfl (pa_cons (pv 0) (pa_cons (pv 1) (pa_cons (pv 2) (pa_cons pe_int pa_nil))))) pa_nil))) pa_nil)))))), ?_⟩
    obtain ⟨p, bv, b, many, rfl, hp, hb, hs, hm, hq⟩ := h
    obtain ⟨q0, pc, pf, cs, fs, rfl, hq0, hpc, hcs, hpf, hfs⟩ := id hb
    have hcl : cs.length ≤ 3 := by rw [← Paired.length hcs]; exact hs.1
    refine q_asgL (xs := (b.cells.filter fun c => decide (c.2 = ("table" : Str))).map fun c => V.str c.1) (el_pairF (vs := [4]) (j := 4) (evi_list (ev_dget (ev_var rfl) ev_c hq0 rfl) (sq_of hpc)) hcs (fun c => decide (c.2 = ("table" : Str))) (fun c => V.str c.1) (by omega) (fun _ => rfl) (fun c x hc hx => ?_) (fun c x hc hx => ?_)) fun l H1 hl e1 hl1 => ?_
    · obtain ⟨pz, rfl, hpz⟩ := hx
      exact et_is (et_test (ev_op (ev_op (ev_var rfl) ev_c (rv_ixT (st_of hpz) at1)) ev_c (rv_eq rfl))) (by simp)
    · obtain ⟨pz, rfl, hpz⟩ := hx
      exact ev_op (ev_var rfl) ev_c (rv_ixT (st_of hpz) at0)
    have hp1 := hp.mono e1
    have none_ : ∀ H2, ExX p H1 H2 → PoolAt H2 p → ∀ a, H2 a = none → Q (.ref a) (upd H2 a (.tup [])) := fun H2 x2 hp2 a ha => hq _ _ ((ExX.of e1).trans (x2.trans (ExX.of (Ex.new ha)))) (hp2.mono (Ex.new ha)) ⟨a, [], [], rfl, upd_same, .nil, wrL_none⟩
    by_cases he : (b.cells.filter fun c => decide (c.2 = ("table" : Str))) = []
    · refine q_when (b := true) (et_or (a := true) (b := true) (et_is (et_test (ev_eqNil (ev_var rfl) hl1)) (by rw [he]; rfl)) fun z => by cases z) (fun _ H2 e2 => ?_) fun z => by cases z
      exact s_retE (e_tup ⟨Nat.zero_le _, fun a ha => none_ H2 (ExX.of e2) (hp1.mono e2) a ha⟩)
    refine q_orDr (m := 2) (et_is (et_test (ev_eqNil (ev_var rfl) hl1)) ?_) hp1 (fun H2 e2 => ed_draw (m := 2) (ev_var rfl) ev_c (hp1.mono e2) (by decide) (by decide)) (fun H2 x2 hp2 => ?_) (fun H2 x2 hp2 => ?_)
    · rw [List.isEmpty_eq_false_iff]
      intro z
      exact he (List.map_eq_nil_iff.mp z)
    · exact s_retE (e_tup ⟨Nat.zero_le _, fun a ha => none_ H2 x2 hp2 a ha⟩)
    have npl : p ≠ l := fun z => by
      obtain ⟨_, _, h1, _⟩ := hp
      rw [z, hl] at h1
      cases h1
    have hl2 := x2 _ _ (Ne.symm npl) hl1
    have hb2 := (hb.mono e1).monoP hp1 x2
    have hfl : (b.cells.filter fun c => decide (c.2 = ("table" : Str))).length ≤ 3 := Nat.le_trans (List.length_filter_le _ _) hs.1
    refine s_retE (e_tup (e_cons (e_tup (e_cons (ed_pick (ev_var rfl) (ev_var rfl) hp2 npl hl2 (by rw [List.length_map]; exact List.length_pos_iff.mpr he) (by rw [List.length_map]; omega) H2 (Ex.refl _) _ fun v H3 x3 hp3 hv => ?_)))))
    obtain ⟨c, hc, rfl⟩ := List.mem_map.mp hv
    rw [List.mem_filter] at hc
    refine e_cons (ed_term (b := b) (many := many) (d := 1) (ev_var rfl) (ev_var rfl) (ev_var rfl) ev_c hp3 (hb2.monoP hp2 x3) hs hm H3 (Ex.refl _) _ fun v H4 x4 hp4 hv => ?_)
    obtain ⟨tm, ht, hg⟩ := hv
    refine ⟨show 2 ≤ sizeLine by decide, fun a ha => ⟨show 1 ≤ sizeLine by decide, fun a2 ha2 => ?_⟩⟩
    have eZ : Ex H4 (upd (upd H4 a (.tup [.str c.1, v])) a2 (.tup [.ref a])) := (Ex.new ha).trans (Ex.new ha2)
    refine hq _ _ ((ExX.of e1).trans (x2.trans (x3.trans (x4.trans (ExX.of eZ))))) (hp4.mono eZ) ⟨a2, _, [(c.1, tm)], rfl, upd_same, .cons ⟨a, v, rfl, (Ex.new ha2) _ _ upd_same, ht.mono eZ⟩ .nil, by simp, fun w hw => ?_⟩
    rw [List.mem_singleton.mp hw]
    refine ⟨?_, hg.1, hg.2.1, hg.2.2.1⟩
    have hc2 : c.2 = ("table" : Str) := of_decide_eq_true hc.2
    show (c.1, _) ∈ b.cells
    rw [show (c.1, (Str.ofString "table")) = c from by rw [← hc2]]
    exact hc.1

omit T in
theorem scLBook : FnScope ["_law_pool_here", "_law_most", "_law_deep", "_law_words", "_law_b", "_law_at", "_law_many", "_law_f"] ["_law_pool_here", "_law_most", "_law_deep"] (defScope sLBook) := ⟨rfl, rfl, rfl, by decide +kernel, rfl, by decide +kernel, by decide +kernel⟩
theorem okLBook : Cal P w K mg base 6 "_law_book" (spLBook K) [] := by
  obtain ⟨fd, F⟩ := T.DLBook
  refine cal_of T.g_law_book F (F.bindsN fun _ _ _ _ _ _ us hl => match us, hl with | [_, _, _], _ => rfl) scLBook (fun vs H Q E h => ?_) (fun cdv A outer s H vs Q E hr h => ?_)
  · obtain ⟨p, rfl, _⟩ := h; rfl
  · refine ⟨_, (pss_cons (ps_set (i := 3) scLBook.nd rfl (by first | exact Or.inl rfl | exact Or.inr rfl) (pe_c (okLNames T) hr (by decide) rfl (pa_cons (pv 0) (pa_cons pe_int pa_nil)))) (pss_cons (ps_set (i := 4) scLBook.nd rfl (by first | exact Or.inl rfl | exact Or.inr rfl) (pe_disp (pps_cons pe_str (pe_lc  (own := [("_law_at", 5)]) (by rfl) scLBook.nd (pi_range1 (by rfl) T.f_range (pa_cons (pe_c (okLDraw T) hr (by decide) rfl (pa_cons (pv 0) (pa_cons pe_int pa_nil))) pa_nil)) (blkOk_by (own := [("_law_at", 5)]) (N := ["_law_pool_here", "_law_most", "_law_deep", "_law_words", "_law_b", "_law_at", "_law_many", "_law_f"]) (sc := defScope sLBook) (by decide +kernel)) (fun _ _ _ _ _ => (pg_name (i := 5) scLBook.nd rfl (by first | exact Or.inl rfl | exact Or.inr rfl))) (fun _ _ _ _ _ => pts_nil) (fun _ _ _ _ _ => (pe_tup (pa_cons (pe_ix (ix_listK (K := K) rfl) (pv 3) (pv 5) (fun _ _ => rfl)) (pa_cons (pe_c (okLPick T) hr (by decide) rfl (pa_cons (pv 0) (pa_cons (pe_lst (pa_cons pe_str (pa_cons pe_str (pa_cons pe_str (pa_cons pe_str pa_nil))))) pa_nil))) pa_nil))))) pps_nil) (by rfl) (by rfl) (fun z => by cases z) (by decide))) (pss_cons (ps_dput (hu_of hr) (pv 4) pe_str (pe_lst pa_nil) rfl) (pss_cons (ps_for PassesOwn.never rfl (pi_range1 (by rfl) T.f_range (pa_cons (pe_op op_add pe_int (pe_c (okLDraw T) hr (by decide) rfl (pa_cons (pv 0) (pa_cons (pv 1) pa_nil)))) pa_nil)) (pg_name (i := 5) scLBook.nd rfl (by first | exact Or.inl rfl | exact Or.inr rfl)) (pss_cons (ps_set (i := 6) scLBook.nd rfl (by first | exact Or.inl rfl | exact Or.inr rfl) (pe_c (okLDraw T) hr (by decide) rfl (pa_cons (pv 0) (pa_cons pe_int pa_nil)))) (pss_cons (ps_set (i := 7) scLBook.nd rfl (by first | exact Or.inl rfl | exact Or.inr rfl) (pe_disp (pps_cons pe_str (pe_ix ix_list (pv 3) (pe_op op_add pe_int (pv 5)) (fun _ _ => rfl)) (pps_cons pe_str (pv 6) (pps_cons pe_str (pe_c (okLTerm T 2) hr (by decide) rfl (pa_cons (pv 0) (pa_cons (pv 4) (pa_cons (pv 6) (pa_cons (pv 2) pa_nil))))) pps_nil))) (by rfl) (by rfl) (fun z => by cases z) (by decide))) (pss_cons (ps_asg (pe_tup (pa_cons (pe_c (okLWrites T) hr (by decide) rfl (pa_cons (pv 0) (pa_cons (pv 4) (pa_cons (pv 6) pa_nil)))) (pa_cons (pe_c (okLDraw T) hr (by decide) rfl (pa_cons (pv 0) (pa_cons pe_int pa_nil))) pa_nil))) (pg_tup (by rfl) (pgs_cons (pg_sub (pv 7) pe_str (set_dict (hu_of hr))) (pgs_cons (pg_sub (pv 7) pe_str (set_dict (hu_of hr))) pgs_nil)))) (pss_cons (ps_dput (hu_of hr) (pv 7) pe_str (pe_c (okLPick T) hr (by decide) rfl (pa_cons (pv 0) (pa_cons (pe_lst (pa_cons pe_str (pa_cons pe_str (pa_cons pe_str (pa_cons pe_str (pa_cons pe_str pa_nil)))))) pa_nil))) rfl) (pss_one (ps_dput (hu_of hr) (pv 4) pe_str (pe_op op_cat (pe_dget (hu_of hr) (pv 4) pe_str (fun _ _ => rfl)) (pe_lst (pa_cons (pv 7) pa_nil))) rfl))))))) (pss_one (ps_ret (pv 4))))))), ?_⟩
    obtain ⟨p, rfl, hp, hq⟩ := h
    refine q_asgE ⟨_, rfl, p, rfl, hp, fun v H1 x1 hp1 hv => ?_⟩
    obtain ⟨pw, ns, rfl, hpw0, hpw, hn8, hnd, hnm⟩ := hv
    have npw : pw ≠ p := fun z => by
      obtain ⟨_, _, h1, _⟩ := hp
      rw [← z, hpw0] at h1
      cases h1
    refine q_asgE (e_disp fun q hq0 => pp_cons (e_cX (lc_rngE ?_)))
    have hp1' := hp1.mono (Ex.new (o := .dK []) hq0)
    refine ed_draw (m := 4) (ev_var rfl) ev_c hp1' (by decide) (by decide) _ (Ex.refl _) _ fun v H2 x2 hp2 hv => ?_
    obtain ⟨nc, rfl, hnc⟩ := hv
    have X2 : ExX p H H2 := x1.trans ((ExX.of (Ex.new hq0)).trans x2)
    have hpw2 := x2 _ _ npw ((Ex.new hq0) _ _ hpw)
    have hq2 := x2 _ _ (not_poolK hp1' upd_same) (upd_same (H := H1) (a := q) (o := .dK []))
    obtain ⟨_, _, hp2', _⟩ := id hp2
    refine lc_genX (d := p) (vs := [5]) (j := 5) (xs := (List.range nc).map fun i : Nat => V.int (i : Int)) hp2' (evix_rng (ea_cons ev_c ea_nil) (by omega)) (fun i acc H' => PoolAt H' p ∧ ∃ cells : List (Str × Str), cells.map (·.1) = ns.take i ∧ (∀ c ∈ cells, c.2 ∈ kindsL) ∧ cells.length = i ∧ Paired (CelL H') cells acc) (fun i acc Ha Hb e k ⟨h1, cells, h3, h4, h5, h6⟩ => ⟨h1.keep k, cells, h3, h4, h5, Paired.mapP h6 fun _ _ z => CelL.monoN e z⟩) (fun Ha e => ⟨hp2.mono e, [], rfl, fun _ z => (by cases z), rfl, .nil⟩) (by rw [List.length_map, List.length_range]; omega) (fun _ => rfl) (fun i x acc Ha hx xa ⟨h1, cells, h3, h4, h5, h6⟩ Qa qa => ?_) H2 (Ex.refl _) _ fun pc cs H3 hpc0 x3 hpc _ hiv => ?_
    rotate_left
    · obtain ⟨i', hi', rfl⟩ : ∃ i' : Nat, (List.range nc)[i]? = some i' ∧ V.int (i' : Int) = x := by
        rw [List.getElem?_map] at hx
        exact Option.map_eq_some_iff.mp hx
      obtain ⟨hil, hie⟩ := List.getElem?_eq_some_iff.mp hi'
      rw [List.getElem_range] at hie
      subst hie
      rw [List.length_range] at hil
      have hn : ns[i]? = some ns[i] := List.getElem?_eq_getElem (by omega)
      have hpwa := xa _ _ npw hpw2
      refine e_tup (e_cons ((ev_op (ev_var rfl) (ev_var rfl) (rv_ixL (sq_of hpwa) (atI_nat (v := .str ns[i]) (by rw [List.getElem?_map, hn]; rfl)))) Ha (Ex.refl _) _ fun Hb eb => e_cons (ed_pickL (K := K) (ev_var rfl) (el_lst (ea_cons ev_c (ea_cons ev_c (ea_cons ev_c (ea_cons ev_c ea_nil)))) (show 4 ≤ 100000 by decide)) (h1.mono eb) (show 0 < 4 by decide) (show 4 < 1000 by decide) Hb (Ex.refl _) _ fun v Hc xc hpc hv => ?_)))
      obtain ⟨kd, hkd, rfl⟩ := kinds_mem hv
      refine ⟨show 2 ≤ sizeLine by decide, fun a ha => qa _ _ ((ExX.of eb).trans (xc.trans (ExX.of (Ex.new ha)))) ⟨hpc.mono (Ex.new ha), cells ++ [(ns[i], kd)], ?_, fun c hc => ?_, by rw [List.length_append, h5]; rfl, Paired.snoc (Paired.mapP h6 fun _ _ z => CelL.mono (Ex.new ha) (CelL.monoT ((h1.mono eb).t xc) (CelL.mono eb z))) ⟨a, rfl, upd_same⟩⟩⟩
      · rw [List.map_append, h3, List.take_add_one, hn]; rfl
      · rcases List.mem_append.mp hc with h | h
        · exact h4 c h
        · rw [List.mem_singleton.mp h]; exact hkd
    rw [List.length_map, List.length_range] at hiv
    obtain ⟨hp3, cells, hcn, hck, hcl, hcs⟩ := hiv
    have X3 : ExX p H H3 := X2.trans x3
    have hq3 := x3 _ _ (not_poolK hp2 hq2) hq2
    have hpw3 := x3 _ _ npw hpw2
    refine pp_nil ⟨hq3, [KS "cells" (.ref pc)], rfl, (show 1 ≤ 15 by decide), ?_⟩
    have hq0H : H q = none := fresh_backX x1 hp1 hq0
    have hpcq : pc ≠ q := fun z => by rw [z, hq2] at hpc0; cases hpc0
    have npq : p ≠ q := Ne.symm (not_poolK hp2 hq2)
    have npwq : pw ≠ q := fun z => by rw [z, hq0] at hpw; cases hpw
    have X4 : ExX p H (upd H3 q (.dK (mergeK [] [KS "cells" (.ref pc)]))) := X3.putF hq0H
    have hp4 : PoolAt (upd H3 q (.dK (mergeK [] [KS "cells" (.ref pc)]))) p := hp3.keep fun o h => by rw [upd_ne npq]; exact h
    have hpw4 : (upd H3 q (.dK (mergeK [] [KS "cells" (.ref pc)]))) pw = some (.lst (ns.map V.str)) := by rw [upd_ne npwq]; exact hpw3
    have hpc4 : (upd H3 q (.dK (mergeK [] [KS "cells" (.ref pc)]))) pc = some (.lst cs) := by rw [upd_ne hpcq]; exact hpc
    have hcs4 : Paired (CelL (upd H3 q (.dK (mergeK [] [KS "cells" (.ref pc)])))) cells cs := Paired.mapP hcs fun _ _ z => CelL.monoT (ExX.t (d := q) (fun a o na ha => by rw [upd_ne na]; exact ha) hq3) z
    have hq4 : (upd H3 q (.dK (mergeK [] [KS "cells" (.ref pc)]))) q = some (.dK [KS "cells" (.ref pc)]) := upd_same
    generalize (upd H3 q (.dK (mergeK [] [KS "cells" (.ref pc)]))) = H4 at X4 hp4 hpw4 hpc4 hcs4 hq4
    refine q_dputE (e_lst ⟨Nat.zero_le _, fun pf0 hpf0 => ⟨.ref q, rfl, q, _, rfl, DPut.k (k := Sum.inr "functions") ((Ex.new hpf0) _ _ hq4) (sz_lt (show 1 < 100000 by decide)), ?_⟩⟩)
    have hpf0q : pf0 ≠ q := fun z => by rw [z, hq4] at hpf0; cases hpf0
    have e5 : Ex H4 (upd H4 pf0 (.lst [])) := Ex.new hpf0
    have X5 := (X4.trans (ExX.of e5)).putF (o := .dK [KS "cells" (.ref pc), KS "functions" (.ref pf0)]) hq0H
    have hp5 : PoolAt (upd (upd H4 pf0 (.lst [])) q (.dK [KS "cells" (.ref pc), KS "functions" (.ref pf0)])) p := (hp4.mono e5).keep fun o h => by rw [upd_ne npq]; exact h
    have hpw5 : (upd (upd H4 pf0 (.lst [])) q (.dK [KS "cells" (.ref pc), KS "functions" (.ref pf0)])) pw = some (.lst (ns.map V.str)) := by rw [upd_ne npwq]; exact e5 _ _ hpw4
    have hpc5 : (upd (upd H4 pf0 (.lst [])) q (.dK [KS "cells" (.ref pc), KS "functions" (.ref pf0)])) pc = some (.lst cs) := by rw [upd_ne hpcq]; exact e5 _ _ hpc4
    have hpf5 : (upd (upd H4 pf0 (.lst [])) q (.dK [KS "cells" (.ref pc), KS "functions" (.ref pf0)])) pf0 = some (.lst []) := by rw [upd_ne hpf0q]; exact upd_same
    have hcs5 : Paired (CelL (upd (upd H4 pf0 (.lst [])) q (.dK [KS "cells" (.ref pc), KS "functions" (.ref pf0)]))) cells cs := Paired.mapP hcs4 fun _ _ z => CelL.monoT (ExX.t (d := q) (fun a o na ha => by rw [upd_ne na]; exact e5 _ _ ha) hq4) z
    have hq5 : (upd (upd H4 pf0 (.lst [])) q (.dK [KS "cells" (.ref pc), KS "functions" (.ref pf0)])) q = some (.dK [KS "cells" (.ref pc), KS "functions" (.ref pf0)]) := upd_same
    show tSeq _ _ _ _ (upd (upd H4 pf0 (.lst [])) q (.dK [KS "cells" (.ref pc), KS "functions" (.ref pf0)]))
    generalize (upd (upd H4 pf0 (.lst [])) q (.dK [KS "cells" (.ref pc), KS "functions" (.ref pf0)])) = H5 at X5 hp5 hpw5 hpc5 hpf5 hcs5 hq5
    refine q_rngE (e_opX (e_cX (ed_draw (m := 3) (ev_var rfl) (ev_var rfl) hp5 (by decide) (by decide) H5 (Ex.refl _) _ fun v H6 x6 hp6 hv => ?_)))
    obtain ⟨nf, rfl, hnf⟩ := hv
    refine ⟨1, nf, rfl, rfl, ?_⟩
    refine q_forR1 (n := 1 + (nf : Int)) (ea_cons ev_c ea_nil) (by omega) (fun i σ' H' => ∃ x5 x6 x7 fns pf fs, σ' = [some (.ref p), some (.int 3), some (.int 2), some (.ref pw), some (.ref q), x5, x6, x7] ∧ PoolAt H' p ∧ ExX p H H' ∧ H' pw = some (.lst (ns.map V.str)) ∧ H' q = some (.dK [KS "cells" (.ref pc), KS "functions" (.ref pf)]) ∧ H' pc = some (.lst cs) ∧ Paired (CelL H') cells cs ∧ H' pf = some (.lst fs) ∧ Paired (FunL H') fns fs ∧ fns.map (·.name) = (ns.drop 4).take i ∧ fns.length = i ∧ ∀ (j : Nat) (g : Fn), fns[j]? = some g → GOk cells (fns.take j) g) (fun H7 e7 => ?_) (fun i σ' Ha hi hP => ?_) (fun σ' H' hP => ?_)
    · have x57 : ExX p H5 H7 := x6.trans (ExX.of e7)
      exact ⟨none, none, none, [], pf0, [], rfl, hp6.mono e7, X5.trans x57, x57 _ _ npw hpw5, x57 _ _ (Ne.symm npq) hq5, x57 _ _ (not_pool hp5 hpc5 hcs5 celL_int) hpc5, Paired.mapP hcs5 fun _ _ z => CelL.monoT (hp5.t x57) z, x57 _ _ (fun z => by obtain ⟨_, _, h1, _⟩ := hp5; rw [← z, hpf5] at h1; cases h1) hpf5, .nil, rfl, rfl, fun j g h => by simp at h⟩
    · obtain ⟨x5, x6', x7, fns, pf, fs, rfl, hpa, Xa, hpwa, hqa, hpca, hcsa, hpfa, hfsa, hnames, hlen, hgok⟩ := hP
      have hi3 : i < 3 := by omega
      have hba : BookL Ha ⟨cells, fns⟩ (.ref q) := ⟨q, pc, pf, cs, fs, rfl, hqa, hpca, hcsa, hpfa, hfsa⟩
      have hs : BkS ⟨cells, fns⟩ := ⟨show cells.length ≤ 3 by omega, show fns.length ≤ 3 by omega, fun g hg => by
        obtain ⟨j, hj⟩ := List.getElem?_of_mem hg
        exact (hgok j g hj).many⟩
      refine q_asgDr (ed_draw (m := 3) (ev_var rfl) ev_c hpa (by decide) (by decide)) fun v Hb xb hpb hv => ?_
      obtain ⟨many, rfl, hm⟩ := hv
      have hm2 : many ≤ 2 := by omega
      have hbb := hba.monoP hpa xb
      have hpwb := xb _ _ npw hpwa
      have hnm4 : (ns.map V.str)[4 + i]? = some (.str (ns[4 + i]'(by omega))) := by rw [List.getElem?_map, List.getElem?_eq_getElem (by omega)]; rfl
      refine q_asgE (e_disp fun d hd => pp_cons (e_cX ((ev_op (ev_var rfl) (ev_is (ev_op ev_c (ev_var rfl) rv_I0) (by push_cast; rfl)) (rv_ixL (sq_of ((Ex.new hd) _ _ hpwb)) (atI_nat hnm4))) _ (Ex.refl _) _ fun Hc ec => pp_cons (e_cX (e_vX rfl (pp_cons (e_cX (ed_term (b := ⟨cells, fns⟩) (many := many) (d := 2) (ev_var rfl) (ev_var rfl) (ev_var rfl) (ev_var rfl) (hpb.mono ((Ex.new hd).trans ec)) (hbb.mono ((Ex.new hd).trans ec)) hs hm2 Hc (Ex.refl _) _ fun v Hd xd hpd hv => ?_))))))))
      obtain ⟨tm, ht, hg⟩ := hv
      have hdp : d ≠ p := not_poolK (hpb.mono (Ex.new (o := .dK []) hd)) upd_same
      have hdd : Hd d = some (.dK []) := xd _ _ hdp (ec _ _ upd_same)
      refine pp_nil ⟨hdd, [KS "name" (.str (ns[4 + i]'(by omega))), KS "many" (.int (many : Int)), KS "result" v], rfl, (show 3 ≤ 15 by decide), ?_⟩
      have xd' : ExX p Hb Hd := (ExX.of ((Ex.new hd).trans ec)).trans xd
      have xe := xd'.putF (o := .dK [KS "name" (.str (ns[4 + i]'(by omega))), KS "many" (.int (many : Int)), KS "result" v]) hd
      have hpe := hpd.keep (H' := upd Hd d (.dK [KS "name" (.str (ns[4 + i]'(by omega))), KS "many" (.int (many : Int)), KS "result" v])) fun o h => by rw [upd_ne (Ne.symm hdp)]; exact h
      have hte : TmAt (upd Hd d (.dK [KS "name" (.str (ns[4 + i]'(by omega))), KS "many" (.int (many : Int)), KS "result" v])) tm v := ht.monoT (ExX.t (d := d) (fun a o na ha => by rw [upd_ne na]; exact ha) hdd)
      have hde : upd Hd d (.dK [KS "name" (.str (ns[4 + i]'(by omega))), KS "many" (.int (many : Int)), KS "result" v]) d = some (.dK [KS "name" (.str (ns[4 + i]'(by omega))), KS "many" (.int (many : Int)), KS "result" v]) := upd_same
      show tSeq _ _ _ _ (upd Hd d (.dK [KS "name" (.str (ns[4 + i]'(by omega))), KS "many" (.int (many : Int)), KS "result" v]))
      generalize (upd Hd d (.dK [KS "name" (.str (ns[4 + i]'(by omega))), KS "many" (.int (many : Int)), KS "result" v])) = He at xe hpe hte hde
      have hbe := hbb.monoP hpb xe
      refine q_asgX (e_tup (e_cons (ed_writes (b := ⟨cells, fns⟩) (many := many) (ev_var rfl) (ev_var rfl) (ev_var rfl) hpe hbe hs hm2 He (Ex.refl _) _ fun v1 Hf xf hpf' hv => ?_)))
      obtain ⟨pww, ws, wr, rfl, hpww, hws, hwg⟩ := hv
      refine e_cons (ed_draw (m := 10) (ev_var rfl) ev_c hpf' (by decide) (by decide) Hf (Ex.refl _) _ fun v2 Hg xg hpg hv => ⟨show 2 ≤ sizeLine by decide, fun t ht0 => ?_⟩)
      obtain ⟨cost, rfl, hcost⟩ := hv
      have eT : Ex Hg (upd Hg t (.tup [.ref pww, .int (cost : Int)])) := Ex.new ht0
      have hdg := eT _ _ (xg _ _ hdp (xf _ _ hdp hde))
      have hpg' := hpg.mono eT
      have xg' : ExX p He (upd Hg t (.tup [.ref pww, .int (cost : Int)])) := xf.trans (xg.trans (ExX.of eT))
      have hwg' : Paired (WrL (upd Hg t (.tup [.ref pww, .int (cost : Int)]))) wr ws := Paired.mapP hws fun _ _ z => WrL.mono eT (WrL.monoT (hpf'.t xg) z)
      have hpwwg : (upd Hg t (.tup [.ref pww, .int (cost : Int)])) pww = some (.tup ws) := eT _ _ ((hpf'.t xg).at hpww)
      refine ⟨t, _, rfl, st_of upd_same, rfl, _, _, rfl, .ref d, rfl, d, _, rfl, DPut.k (k := Sum.inr "writes") hdg (sz_lt (show 3 < 100000 by decide)), _, _, rfl, .ref d, rfl, d, _, rfl, DPut.k (k := Sum.inr "cost") upd_same (sz_lt (show 4 < 100000 by decide)), rfl, ?_⟩
      generalize (upd Hg t (.tup [.ref pww, .int (cost : Int)])) = Hh at hdg hpg' xg' hwg' hpwwg
      have eH : ExX d Hh (upd (upd Hh d (.dK (putK [KS "name" (.str (ns[4 + i]'(by omega))), KS "many" (.int (many : Int)), KS "result" v] (Sum.inr "writes" : Key) (.ref pww)))) d (.dK [KS "name" (.str (ns[4 + i]'(by omega))), KS "many" (.int (many : Int)), KS "result" v, KS "writes" (.ref pww), KS "cost" (.int (cost : Int))])) := fun a o na ha => by rw [upd_ne na, upd_ne na]; exact ha
      have xi' : ExX p Hb (upd (upd Hh d (.dK (putK [KS "name" (.str (ns[4 + i]'(by omega))), KS "many" (.int (many : Int)), KS "result" v] (Sum.inr "writes" : Key) (.ref pww)))) d (.dK [KS "name" (.str (ns[4 + i]'(by omega))), KS "many" (.int (many : Int)), KS "result" v, KS "writes" (.ref pww), KS "cost" (.int (cost : Int))])) := ((xe.trans xg').putF hd).putF hd
      have hdi : (upd (upd Hh d (.dK (putK [KS "name" (.str (ns[4 + i]'(by omega))), KS "many" (.int (many : Int)), KS "result" v] (Sum.inr "writes" : Key) (.ref pww)))) d (.dK [KS "name" (.str (ns[4 + i]'(by omega))), KS "many" (.int (many : Int)), KS "result" v, KS "writes" (.ref pww), KS "cost" (.int (cost : Int))])) d = some (.dK [KS "name" (.str (ns[4 + i]'(by omega))), KS "many" (.int (many : Int)), KS "result" v, KS "writes" (.ref pww), KS "cost" (.int (cost : Int))]) := upd_same
      show tSeq _ _ _ _ (upd (upd Hh d (.dK (putK [KS "name" (.str (ns[4 + i]'(by omega))), KS "many" (.int (many : Int)), KS "result" v] (Sum.inr "writes" : Key) (.ref pww)))) d (.dK [KS "name" (.str (ns[4 + i]'(by omega))), KS "many" (.int (many : Int)), KS "result" v, KS "writes" (.ref pww), KS "cost" (.int (cost : Int))]))
      generalize (upd (upd Hh d (.dK (putK [KS "name" (.str (ns[4 + i]'(by omega))), KS "many" (.int (many : Int)), KS "result" v] (Sum.inr "writes" : Key) (.ref pww)))) d (.dK [KS "name" (.str (ns[4 + i]'(by omega))), KS "many" (.int (many : Int)), KS "result" v, KS "writes" (.ref pww), KS "cost" (.int (cost : Int))])) = Hi at eH xi' hdi
      have eHT : ExT Hh Hi := eH.t hdg
      have hpi : PoolAt Hi p := hpg'.keep fun o h => eH _ _ (Ne.symm hdp) h
      refine q_dputE (ed_pickL (ev_var rfl) (el_lst (ea_cons ev_c (ea_cons ev_c (ea_cons ev_c (ea_cons ev_c (ea_cons ev_c ea_nil))))) (show 5 ≤ 100000 by decide)) hpi (show 0 < 5 by decide) (show 5 < 1000 by decide) Hi (Ex.refl _) _ fun v3 Hj xj hpj hv => ?_)
      obtain ⟨lb, hlb, rfl⟩ := labels_mem hv
      have hdj := xj _ _ hdp hdi
      refine ⟨.ref d, rfl, d, _, rfl, DPut.k (k := Sum.inr "label") hdj (sz_lt (show 5 < 100000 by decide)), ?_⟩
      have eK : ExX d Hj (upd Hj d (.dK [KS "name" (.str (ns[4 + i]'(by omega))), KS "many" (.int (many : Int)), KS "result" v, KS "writes" (.ref pww), KS "cost" (.int (cost : Int)), KS "label" (.str lb)])) := fun a o na ha => by rw [upd_ne na]; exact ha
      have xk : ExX p Hb (upd Hj d (.dK [KS "name" (.str (ns[4 + i]'(by omega))), KS "many" (.int (many : Int)), KS "result" v, KS "writes" (.ref pww), KS "cost" (.int (cost : Int)), KS "label" (.str lb)])) := (xi'.trans xj).putF hd
      have hdk : (upd Hj d (.dK [KS "name" (.str (ns[4 + i]'(by omega))), KS "many" (.int (many : Int)), KS "result" v, KS "writes" (.ref pww), KS "cost" (.int (cost : Int)), KS "label" (.str lb)])) d = some (.dK [KS "name" (.str (ns[4 + i]'(by omega))), KS "many" (.int (many : Int)), KS "result" v, KS "writes" (.ref pww), KS "cost" (.int (cost : Int)), KS "label" (.str lb)]) := upd_same
      show sDPut _ _ _ _ _ (upd Hj d (.dK [KS "name" (.str (ns[4 + i]'(by omega))), KS "many" (.int (many : Int)), KS "result" v, KS "writes" (.ref pww), KS "cost" (.int (cost : Int)), KS "label" (.str lb)]))
      generalize (upd Hj d (.dK [KS "name" (.str (ns[4 + i]'(by omega))), KS "many" (.int (many : Int)), KS "result" v, KS "writes" (.ref pww), KS "cost" (.int (cost : Int)), KS "label" (.str lb)])) = Hk at eK xk hdk
      have eKT : ExT Hh Hk := (eHT.trans (hpi.t xj)).trans (eK.t hdj)
      have hpk : PoolAt Hk p := hpj.keep fun o h => eK _ _ (Ne.symm hdp) h
      have xak : ExX p Ha Hk := xb.trans xk
      have hqk := xak _ _ (Ne.symm npq) hqa
      have hpfk := xak _ _ (not_pool hpa hpfa hfsa funL_int) hpfa
      have hfl : fs.length ≤ 3 := by rw [← Paired.length hfsa]; omega
      refine s_dputE (e_opX ((ev_dget (ev_var rfl) ev_c hqk rfl) Hk (Ex.refl _) _ fun Hl el => e_lst (e_cons (e_vX rfl ⟨show 1 ≤ sizeLine by decide, fun l hl => ⟨pf, l, fs, [.ref d], rfl, rfl, (Ex.new hl) _ _ (el _ _ hpfk), upd_same, (by rw [sizeLine_eq]; show fs.length + 1 ≤ _; omega), fun z hz => ⟨.ref q, rfl, q, _, rfl, DPut.k (k := Sum.inr "functions") ((Ex.new hz) _ _ ((Ex.new hl) _ _ (el _ _ hqk))) (sz_lt (show 2 < 100000 by decide)), ?_⟩⟩⟩))))
      have em : Ex Hk (upd (upd Hl l (.lst [.ref d])) z (.lst (fs ++ [.ref d]))) := (el.trans (Ex.new hl)).trans (Ex.new hz)
      have hzm : (upd (upd Hl l (.lst [.ref d])) z (.lst (fs ++ [.ref d]))) z = some (.lst (fs ++ [.ref d])) := upd_same
      show ∃ x5 x6 x7 fns pf fs, _
      generalize (upd (upd Hl l (.lst [.ref d])) z (.lst (fs ++ [.ref d]))) = Hm at em hzm
      have hqm := em _ _ hqk
      have xq : ExX q Hm (upd Hm q (.dK [KS "cells" (.ref pc), KS "functions" (.ref z)])) := fun a o na ha => by rw [upd_ne na]; exact ha
      have xqT : ExT Hm (upd Hm q (.dK [KS "cells" (.ref pc), KS "functions" (.ref z)])) := xq.t hqm
      have xam : ExX p Ha Hm := xak.trans (ExX.of em)
      have ndq : d ≠ q := fun z => by
        have := xb _ _ (Ne.symm npq) hqa
        rw [← z, hd] at this; cases this
      have nzq : z ≠ q := fun e => by rw [e, hqm] at hzm; cases hzm
      have xTe : ExT He Hk := ((hpe.t xg').trans eKT)
      have hF : FunL (upd Hm q (.dK [KS "cells" (.ref pc), KS "functions" (.ref z)])) ⟨ns[4 + i]'(by omega), many, tm, wr, lb, cost⟩ (.ref d) := ⟨d, v, pww, ws, rfl, xq _ _ ndq (em _ _ hdk), ((hte.monoT xTe).mono em).monoT xqT, xqT.at (em _ _ (eKT.at hpwwg)), Paired.mapP hwg' fun _ _ z => WrL.monoT ((eKT.trans (ext em)).trans xqT) z⟩
      have hqz : (upd Hm q (.dK [KS "cells" (.ref pc), KS "functions" (.ref z)])) q = some (.dK [KS "cells" (.ref pc), KS "functions" (.ref z)]) := upd_same
      have xHm : ExX p H (upd Hm q (.dK [KS "cells" (.ref pc), KS "functions" (.ref z)])) := (Xa.trans xam).putF hq0H
      have hput : putK [KS "cells" (.ref pc), KS "functions" (.ref pf)] (Sum.inr "functions" : Key) (.ref z) = [KS "cells" (.ref pc), KS "functions" (.ref z)] := rfl
      rw [hput]
      generalize (upd Hm q (.dK [KS "cells" (.ref pc), KS "functions" (.ref z)])) = Hn at xq xqT hF hqz xHm
      refine ⟨_, _, _, fns ++ [⟨ns[4 + i]'(by omega), many, tm, wr, lb, cost⟩], z, fs ++ [.ref d], rfl, (hpk.mono em).keep (fun o h => xq _ _ npq h), xHm, xq _ _ npwq (xam _ _ npw hpwa), hqz, xq _ _ hpcq (xam _ _ (not_pool hpa hpca hcsa celL_int) hpca), Paired.mapP hcsa fun _ _ z => CelL.monoT ((hpa.t xam).trans xqT) z, xq _ _ nzq hzm, Paired.snoc (Paired.mapP hfsa fun _ _ z => FunL.monoQ hqm xq (FunL.monoP hpa xam z)) hF, ?_, by rw [List.length_append, hlen]; rfl, fun j g hj => ?_⟩
      · rw [List.map_append, hnames, List.take_add_one, List.getElem?_drop, List.getElem?_eq_getElem (by omega)]
        rfl
      · by_cases hji : j < fns.length
        · rw [List.getElem?_append_left hji] at hj
          rw [List.take_append_of_le_length (by omega)]
          exact hgok j g hj
        · have hj2 : j = fns.length := by
            obtain ⟨h, _⟩ := List.getElem?_eq_some_iff.mp hj
            rw [List.length_append] at h
            simp at h
            omega
          subst hj2
          rw [List.getElem?_append_right (Nat.le_refl _), Nat.sub_self] at hj
          cases hj
          rw [List.take_append_of_le_length (Nat.le_refl _), List.take_length]
          exact ⟨hm2, hg.1, hg.2.1, hg.2.2.1, hwg.1, hwg.2, hlb, ⟨by show (0 : Int) ≤ (cost : Int); omega, by show (cost : Int) ≤ 9; omega⟩⟩
    · obtain ⟨x5, x6', x7, fns, pf, fs, rfl, hpa, Xa, hpwa, hqa, hpca, hcsa, hpfa, hfsa, hnames, hlen, hgok⟩ := hP
      have hn2 : ((1 + (nf : Int)).toNat) = 1 + nf := by omega
      rw [hn2] at hnames hlen
      refine s_ret (ev_var rfl) fun Hz ez => hq _ Hz (Xa.trans (ExX.of ez)) (hpa.mono ez) ⟨⟨cells, fns⟩, BookL.mono ez ⟨q, pc, pf, cs, fs, rfl, hqa, hpca, hcsa, hpfa, hfsa⟩, ?_⟩
      have hc4 : ns.take nc = (ns.take 4).take nc := by rw [List.take_take]; congr 1; omega
      have hsub : (cells.map (·.1) ++ fns.map (·.name)).Sublist ns := by
        rw [hcn, hnames, hc4]
        have h1 := List.Sublist.append (List.take_sublist nc (ns.take 4)) (List.take_sublist (1 + nf) (ns.drop 4))
        rw [List.take_append_drop] at h1
        exact h1
      exact ⟨hnd.sublist hsub, fun n hn => hnm n (hsub.subset hn), hck, show cells.length ≤ 3 by omega, show fns.length ≤ 3 by omega, show 1 ≤ fns.length by omega, hgok⟩

end
end SC
set_option Elab.async false
set_option linter.all false
set_option maxRecDepth 100000
set_option maxHeartbeats 1000000
/-! L5: the book made. -/
namespace SC
open PySem PySem.Spec PyProof.Rows L2 C8 Evl
section
variable {K : PySem.W.Frag} {wi : TI} {te tt ta tb : TE} {vs : List Nat} {σ : L2.St} {H : Hp} {xs : List V} {D : Ends} {tz : TS} {tu : TS} {g : TG} {Q : VK} {tr : TA}
theorem lc_genT (hi : EvI wi σ H xs) (Iv : Nat → List V → Hp → Prop) (hm : ∀ i acc H1 H2, ExN H1 H2 → Iv i acc H1 → Iv i acc H2) (h0 : ∀ H1, Ex H H1 → Iv 0 [] H1) (hz : xs.length ≤ 50000)
    (hs : ∀ i x acc H1, xs[i]? = some x → Ex H H1 → Iv i acc H1 → ∃ σ2 : L2.St, (∀ Q : L2.St → Hp → Prop, Q σ2 H1 → g x (wipe σ vs) H1 Q) ∧ wipe σ2 vs = wipe σ vs ∧ ∀ Q : VK, (∀ y H3, Ex H1 H3 → Iv (i + 1) (acc ++ [y]) H3 → Q y H3) → te σ2 H1 Q) :
    EvLP (tLc wi g tYes te vs) σ H (Iv xs.length) := fun H0 e0 Q q => hi H0 e0 _ fun J H1 G e1 hG w D hD => by
  refine lc_it w (fun i H' => ∃ acc, H' D = some (.lst acc) ∧ acc.length ≤ i ∧ Ex H1 H' ∧ Iv i acc H') ⟨[], upd_same, Nat.le_refl _, Ex.new hD, hm _ _ H1 _ (exn (Ex.new hD)) (h0 H1 (e0.trans e1))⟩ (fun i H' _ ⟨acc, _, _, e, _⟩ => hG H' e) ?_ ?_
  · rintro i x H' H'' hlt ⟨acc, hd, hl, e, iv⟩ y
    obtain ⟨rfl, hx⟩ := yat_mem y
    obtain ⟨σ2, h1, h2, h3⟩ := hs i x acc H'' hx ((e0.trans e1).trans e) iv
    refine h1 _ ⟨h2, ?_⟩
    show te σ2 H'' _
    refine h3 _ fun y H4 e4 i4 => ?_
    have hd4 := e4 _ _ hd
    exact ⟨acc, hd4, sz_lt (by omega), acc ++ [y], upd_same, by rw [List.length_append, List.length_singleton]; omega, Ex.mut (e.trans e4) hD, hm _ _ _ _ (ExN.lst hd4) i4⟩
  · rintro H' ⟨acc, hd, hl, e, iv⟩
    exact q D acc H' (fresh_back e1 hD) (e1.trans e) hd iv
theorem g_pair {a : Addr} {y z : V} {i j : Nat} {σ : L2.St} {Q : L2.St → Hp → Prop} (h : H a = some (.tup [y, z])) (q : Q ((σ.set i (some y)).set j (some z)) H) : gTup K 2 (gCons (gName i) (gCons (gName j) gNil)) (.ref a) σ H Q := ⟨a, _, rfl, st_of h, rfl, _, _, rfl, _, _, rfl, rfl, q⟩
theorem tMake_lp {C : Addr} {sp : Sp} {dvs : List V} {E : XK} {Φ : List V → Hp → Prop} (h : EvLP te σ H Φ) (k : ∀ p xs H1, H p = none → Ex H H1 → H1 p = some (.lst xs) → Φ xs H1 → tMake C sp dvs E (tCons (tC (.ref p)) tr) σ H1 Q) : tMake C sp dvs E (tCons te tr) σ H Q := h H (Ex.refl H) _ k
end
def spLMadeBook (K : PySem.W.Frag) : Sp := fun vs H Q _ => ∃ b bv, vs = [bv] ∧ BookL H b bv ∧ BOk b ∧ ∀ v H2, Ex H H2 → BookP K H2 b v → Q v H2

section
variable {P : Program} {w : World} {K : PySem.W.Frag} {mg : Str → Option Value} {base : Heap} (T : Tx K mg)
include T

omit T in
theorem scLMadeBook : FnScope ["_law_b", "_law_rows", "_law_f", "_law_one", "_law_name", "_law_kind"] ["_law_b"] (defScope sLMadeBook) := ⟨rfl, rfl, rfl, by decide +kernel, rfl, by decide +kernel, by decide +kernel⟩
theorem okLMadeBook : Cal P w K mg base 12 "_law_made_book" (spLMadeBook K) [] := by
  obtain ⟨rf, rfd, rps, rg, gV, hM, hF, kb, hgV⟩ := okFunctionInit (P := P) (w := w) (base := base) T
  obtain ⟨fd, F⟩ := T.DLMadeBook
  refine cal_of T.g_law_made_book F (F.bindsN fun _ _ _ _ _ _ us hl => match us, hl with | [_], _ => rfl) scLMadeBook (fun vs H Q E h => ?_) (fun cdv A outer s H vs Q E hr h => ?_)
  · obtain ⟨b, bv, rfl, _⟩ := h; rfl
  · refine ⟨_, (pss_cons (ps_set (i := 1) scLMadeBook.nd rfl (by first | exact Or.inl rfl | exact Or.inr rfl) (pe_lst pa_nil)) (pss_cons (ps_for PassesOwn.never rfl (pi_list (pe_dget (hu_of hr) (pv 0) pe_str (fun _ _ => rfl))) (pg_name (i := 2) scLMadeBook.nd rfl (by first | exact Or.inl rfl | exact Or.inr rfl)) (pss_cons (ps_set (i := 3) scLMadeBook.nd rfl (by first | exact Or.inl rfl | exact Or.inr rfl) (pe_makeK (E := C8.E0) hM hF (hr.mono (by decide)) rfl T.g_Function kb C8.pass0 (pa_cons (pe_dget (hu_of hr) (pv 2) pe_str (fun _ _ => rfl)) (pa_cons (pe_dget (hu_of hr) (pv 2) pe_str (fun _ _ => rfl)) (pa_cons (pe_dget (hu_of hr) (pv 2) pe_str (fun _ _ => rfl)) pa_nil))) (pk_cons (pe_dget (hu_of hr) (pv 2) pe_str (fun _ _ => rfl)) (pk_cons (pe_dget (hu_of hr) (pv 2) pe_str (fun _ _ => rfl)) (pk_cons (pe_dget (hu_of hr) (pv 2) pe_str (fun _ _ => rfl)) pk_nil))))) (pss_one (ps_expr (pe_bm PySem.F.plainAttrs_list PySem.F.slot_list_append PySem.F.type_list_append mt_append (pv 1) (pa_cons (pv 3) pa_nil)))))) (pss_one (ps_ret (pe_mk (okBookInit T) hr (by decide) rfl (pa_cons (pe_lc  (own := [("_law_name", 4), ("_law_kind", 5)]) (by rfl) scLMadeBook.nd (pi_list (pe_dget (hu_of hr) (pv 0) pe_str (fun _ _ => rfl))) (blkOk_by (own := [("_law_name", 4), ("_law_kind", 5)]) (N := ["_law_b", "_law_rows", "_law_f", "_law_one", "_law_name", "_law_kind"]) (sc := defScope sLMadeBook) (by decide +kernel)) (fun _ _ _ _ _ => (pg_tupK (K := K) (n := 2) rfl (by rfl) (pgs_cons (pg_name (i := 4) scLMadeBook.nd rfl (by first | exact Or.inl rfl | exact Or.inr rfl)) (pgs_cons (pg_name (i := 5) scLMadeBook.nd rfl (by first | exact Or.inl rfl | exact Or.inr rfl)) pgs_nil)))) (fun _ _ _ _ _ => pts_nil) (fun _ _ _ _ _ => (pe_mk (okCellInit T) hr (by decide) rfl (pa_cons (pv 4) (pa_cons (pv 5) pa_nil))))) (pa_cons (pv 1) pa_nil))))))), ?_⟩
    obtain ⟨b, bv, rfl, hb, hok, hq⟩ := h
    obtain ⟨q0, pc, pf, cs, fs, rfl, hq0, hpc, hcs, hpf, hfs⟩ := id hb
    refine q_asgL (el_lst ea_nil (by decide)) fun pr H1 hr0 e1 hr1 => ?_
    have npf : pf ≠ pr := fun z => by rw [z, hr0] at hpf; cases hpf
    refine q_forX (d := pr) (evix_list (ev_dget (ev_var rfl) ev_c (e1 _ _ hq0) rfl) (e1 _ _ hpf) npf) (fun i σ' H' => ∃ x2 x3 acc, σ' = [some (.ref q0), some (.ref pr), x2, x3, none, none] ∧ H' pr = some (.lst acc) ∧ Paired (FunP K H') (b.fns.take i) acc) (fun H2 e2 => ⟨none, none, [], rfl, e2 _ _ hr1, .nil⟩) (fun i x σ' H' hx xX hP => ?_) (fun σ' H' xX hP => ?_)
    · obtain ⟨x2, x3, acc, rfl, hacc, hpd⟩ := hP
      obtain ⟨g, hg, hgx⟩ := Paired.getR hfs hx
      have hgm := List.mem_of_getElem? hg
      have eH : Ex H H' := ExX.ex xX e1 hr0
      obtain ⟨pg, r, pw, ws, rfl, hpg, ht, hpw, hws⟩ := hgx.mono eH
      obtain ⟨ahead, hah, gok⟩ := hok.fok hgm
      obtain ⟨fm1, fm2⟩ := gok.fm hok.cnm fun a ha => ⟨hok.nm _ (List.mem_append.mpr (.inr (List.mem_map.mpr ⟨a, hah a ha, rfl⟩))), by obtain ⟨_, _, ga⟩ := hok.fok (hah a ha); exact ga.many⟩
      have hacl : acc.length ≤ 3 := by
        rw [← Paired.length hpd, List.length_take]
        have := hok.lf
        omega
      have F0 : ∀ (k : Str) (v : V) (Ha : Hp), Ex H' Ha → valV [KS "name" (.str g.name), KS "many" (.int (g.many : Int)), KS "result" r, KS "writes" (.ref pw), KS "cost" (.int g.cost), KS "label" (.str g.label)] (Sum.inr k : Key) = some v → Ev (tDGet (tVar 2) (tC (.str k))) [some (.ref q0), some (.ref pr), some (.ref pg), x3, none, none] Ha v := fun k v Ha ea hv => ev_dget (ev_var rfl) ev_c (ea _ _ hpg) hv
      refine q_asgE ((ea_cons (F0 "name" _ H' (Ex.refl _) rfl) (ea_cons (F0 "many" _ H' (Ex.refl _) rfl) (ea_cons (F0 "result" _ H' (Ex.refl _) rfl) ea_nil))) H' (Ex.refl _) _ fun Ha ea => (ea_cons (F0 "label" _ Ha ea rfl) (ea_cons (F0 "writes" _ Ha ea rfl) (ea_cons (F0 "cost" _ Ha ea rfl) ea_nil))) Ha (Ex.refl _) _ fun Hb eb => ⟨rfl, rfl, fun x dx hx0 hdx ne => ?_⟩)
      rw [hgV]
      have eb' := ea.trans eb
      have e0 : Ex Hb (upd (upd Hb dx (.own x)) x (.ins (He.ga K "Function") dx [])) := Ex.mut (Ex.new hdx) hx0
      have e02 := eb'.trans e0
      refine ⟨x, dx, g.name, g.many, r, g.label, pw, g.cost, g.res, g.wr, ws, rfl, upd_same, hok.nm _ (List.mem_append.mpr (.inr (List.mem_map.mpr ⟨g, hgm, rfl⟩))), gok.many, ht.mono e02, fm1, gok.rd, gok.rs, gok.label, e02 _ _ hpw, Paired.mapP hws fun _ _ z => WrL.mono e02 z, gok.wl, fm2, gok.cost, fun H2 x2' ho => ⟨rfl, ?_⟩⟩
      have e3 : Ex H' H2 := fun a o ha => x2' a o (ne_of_none (eb' a o ha) hx0) (e02 a o ha)
      obtain ⟨pl, dl, hl, ho1, ho2⟩ := ho
      have hF2 : FunP K H2 g (.ref x) := ⟨x, dx, pl, dl, hl, r, pw, ws, rfl, ho1, ho2, ht.mono e3, e3 _ _ hpw, Paired.mapP hws fun _ _ z => WrL.mono e3 z⟩
      have hacc2 := e3 _ _ hacc
      refine s_app hacc2 (ev_var rfl) (ev_var rfl) (by omega) fun H3 e4 => ⟨?_, _, _, acc ++ [.ref x], rfl, upd_same, ?_⟩
      · exact fun a o na ha => by rw [upd_ne na]; exact (e3.trans e4) a o ha
      · rw [List.take_add_one, hg]
        exact Paired.snoc (Paired.mapP hpd fun _ _ z => FunP.monoN (ExN.lst (e4 _ _ hacc2)) (FunP.mono (e3.trans e4) z)) (FunP.monoN (ExN.lst (e4 _ _ hacc2)) (FunP.mono e4 hF2))
    · obtain ⟨x2, x3, acc, rfl, hacc, hpd⟩ := hP
      rw [← Paired.length hfs, List.take_length] at hpd
      have eH : Ex H H' := ExX.ex xX e1 hr0
      have hcs' : Paired (CelL H') b.cells cs := Paired.mapP hcs fun _ _ z => CelL.mono eH z
      have hpc' := eH _ _ hpc
      have hcell : EvLP (tLc (iList K (tDGet (tVar 0) (tC (.str "cells")))) (gTup K 2 (gCons (gName 4) (gCons (gName 5) gNil))) tYes (tMake (He.ga K "Cell") (spCellInit K) [] C8.E0 (tCons (tVar 4) (tCons (tVar 5) tNil))) [4, 5]) [some (.ref q0), some (.ref pr), x2, x3, none, none] H' (fun ys H2 => Paired (CelP K H2) b.cells ys) := by
        have h1 := lc_genT (te := tMake (He.ga K "Cell") (spCellInit K) [] C8.E0 (tCons (tVar 4) (tCons (tVar 5) tNil))) (g := gTup K 2 (gCons (gName 4) (gCons (gName 5) gNil))) (vs := [4, 5]) (σ := [some (.ref q0), some (.ref pr), x2, x3, none, none]) (evi_list (K := K) (te := tDGet (tVar 0) (tC (.str "cells"))) (ev_dget (ev_var rfl) ev_c (eH _ _ hq0) rfl) (sq_of hpc')) (fun i acc H2 => Paired (CelP K H2) (b.cells.take i) acc) (fun _ _ _ _ e h => Paired.mapP h fun _ _ z => CelP.monoN e z) (fun _ _ => .nil) (by rw [← Paired.length hcs]; have := hok.lc; omega) fun i x acc H2 hx e hi => ?_
        · rw [← Paired.length hcs, List.take_length] at h1
          exact h1
        · obtain ⟨c, hc, hcx⟩ := Paired.getR hcs' hx
          obtain ⟨pz, rfl, hpz⟩ := hcx.mono e
          have hcm := List.mem_of_getElem? hc
          refine ⟨_, fun Q q => g_pair hpz q, rfl, fun Q q => ?_⟩
          refine ep_make (vs := [.str c.1, .str c.2]) (Ψ := fun x dx H3 => H3 x = some (.ins (He.ga K "Cell") dx [("name", .str c.1), ("kind", .str c.2)])) (ea_cons (ev_var rfl) (ea_cons (ev_var rfl) ea_nil)) (fun x dx Ha xa ha hdx hx0 Q2 q2 => ⟨x, dx, c.1, c.2, rfl, ha, hok.cnm c hcm, hok.kd c hcm, fun Hb xb hb => q2 Hb xb hb⟩) H2 (Ex.refl _) Q fun v H3 e3 hv => ?_
          obtain ⟨x, dx, rfl, hdx, hx3⟩ := hv
          refine q _ H3 e3 ?_
          rw [List.take_add_one, hc]
          exact Paired.snoc (Paired.mapP hi fun _ _ z => CelP.mono e3 z) ⟨x, dx, rfl, hx3, hdx⟩
      refine s_retE (tMake_lp hcell fun pl ys H2 hpl0 e2 hpl hys => ?_)
      have hys : Paired (CelP K H2) b.cells ys := hys
      have hacc2 := e2 _ _ hacc
      have hpd2 : Paired (FunP K H2) b.fns acc := Paired.mapP hpd fun _ _ z => FunP.mono e2 z
      refine ep_make (vs := [.ref pl, .ref pr]) (Ψ := fun x dx H3 => ∃ p1 p2, H3 x = some (.ins (He.ga K "Book") dx [("cell_row", .ref p1), ("row", .ref p2)]) ∧ H3 p1 = some (.tup ys) ∧ H3 p2 = some (.tup acc)) (ea_cons ev_c (ea_cons (ev_var rfl) ea_nil)) (fun x dx Ha xa ha hdx hx0 Q2 q2 => ?_) H2 (Ex.refl _) _ fun v H3 e3 hv => ?_
      · have e3 : Ex H2 Ha := fun a o hao => xa a o (ne_of_none hao hx0) hao
        exact ⟨b, x, dx, pl, ys, pr, acc, rfl, ha, hok, e3 _ _ hpl, Paired.mapP hys fun _ _ z => CelP.mono e3 z, e3 _ _ hacc2, Paired.mapP hpd2 fun _ _ z => FunP.mono e3 z, fun p1 p2 Hb xb hb h1 h2 => q2 Hb xb ⟨p1, p2, hb, h1, h2⟩⟩
      · obtain ⟨x, dx, rfl, hdx, p1, p2, h1, h2, h3⟩ := hv
        exact hq _ H3 ((eH.trans e2).trans e3) ⟨x, dx, p1, p2, ys, acc, rfl, h1, h2, Paired.mapP hys fun _ _ z => CelP.mono e3 z, h3, Paired.mapP hpd2 fun _ _ z => FunP.mono e3 z⟩

end
end SC
set_option Elab.async false
set_option linter.all false
set_option maxRecDepth 100000
set_option maxHeartbeats 1000000
/-! L6: how the law runs functions. -/
namespace SC
open PySem PySem.Spec PyProof.Rows L2 C8 Evl
theorem stV_ne {s : Sta} {k : Key} {v : V} {r : List (Key × V)} (h : stV s = (k, v) :: r) : ∃ i, v = .int i := by
  cases s with
  | nil => cases h
  | cons p s =>
    injection h with h1 h2
    injection h1 with h3 h4
    exact ⟨p.2, h4.symm⟩
theorem FunL.monoS {H H' : Hp} {dh : Addr} {s : Sta} (hd : H dh = some (.dK (stV s))) (x : ExX dh H H') {g : Fn} {v : V} (h : FunL H g v) : FunL H' g v :=
  let ⟨q, r, pw, ws, h1, h2, h3, h4, h5⟩ := h
  ⟨q, r, pw, ws, h1, x _ _ (fun z => by
    rw [z, hd] at h2
    injection h2 with h2
    injection h2 with h2
    obtain ⟨i, hi⟩ := stV_ne h2
    cases hi) h2, h3.monoT (x.t hd), (x.t hd).at h4, Paired.mapP h5 fun _ _ z => WrL.monoT (x.t hd) z⟩
theorem BookL.monoS {H H' : Hp} {dh : Addr} {s : Sta} (hd : H dh = some (.dK (stV s))) (x : ExX dh H H') {b : Bk} {v : V} (h : BookL H b v) : BookL H' b v :=
  let ⟨q, pc, pf, cs, fs, h1, h2, h3, h4, h5, h6⟩ := h
  ⟨q, pc, pf, cs, fs, h1, x _ _ (fun z => by
    rw [z, hd] at h2
    injection h2 with h2
    injection h2 with h2
    obtain ⟨i, hi⟩ := stV_ne h2
    cases hi) h2, x _ _ (fun z => by rw [z, hd] at h3; cases h3) h3, Paired.mapP h4 fun _ _ z => CelL.monoT (x.t hd) z, x _ _ (fun z => by rw [z, hd] at h5; cases h5) h5, Paired.mapP h6 fun _ _ z => FunL.monoS hd x z⟩
structure LAt (b : Bk) (bv : V) (dh : Addr) (s : Sta) (H : Hp) : Prop where
  bk : BookL H b bv
  hd : H dh = some (.dK (stV s))
  ok : BOk b
  st : StOk (b.cells.map (·.1)) s
theorem LAt.go {b : Bk} {bv : V} {dh : Addr} {s s' : Sta} {H H' : Hp} (h : LAt b bv dh s H) (e : ExX dh H H') (hd : H' dh = some (.dK (stV s'))) (hs : StOk (b.cells.map (·.1)) s') : LAt b bv dh s' H' := ⟨h.bk.monoS h.hd e, hd, h.ok, hs⟩
theorem LAt.mono {b : Bk} {bv : V} {dh : Addr} {s : Sta} {H H' : Hp} (h : LAt b bv dh s H) (e : Ex H H') : LAt b bv dh s H' := h.go (ExX.of e) (e _ _ h.hd) h.st
def spLFound (K : PySem.W.Frag) : Sp := fun vs H Q _ => ∃ b bv n g, vs = [bv, .str n] ∧ BookL H b bv ∧ b.fns.length ≤ 3 ∧ findF b.fns n = some g ∧ ∀ u H2, Ex H H2 → FunL H2 g u → Q u H2
def spLWorked (K : PySem.W.Frag) (i d : Nat) : Sp := fun vs H Q _ => ∃ b bv dh t s v pa tm args many, vs = [bv, v, .ref pa, .ref dh, .int t, .non] ∧ LAt b bv dh s H ∧ TmAt H tm v ∧ TmOk (b.cells.map (·.1)) (b.fns.take i) many tm ∧ tm.depth ≤ d ∧ H pa = some (.lst (args.map V.int)) ∧ ArgOk many args ∧ many ≤ 2 ∧
  RanV dh H (ev (callN b.fns t i) args t tm s) Q
def spLCalled (K : PySem.W.Frag) (i : Nat) : Sp := fun vs H Q _ => ∃ b bv dh t s pa args g, vs = [bv, .str g.name, .ref pa, .ref dh, .int t, .non] ∧ LAt b bv dh s H ∧ g ∈ b.fns.take i ∧ H pa = some (.lst (args.map V.int)) ∧ ArgOk g.many args ∧ RanV dh H (callN b.fns t i g.name args s) Q
def spLRan (K : PySem.W.Frag) (i : Nat) : Sp := fun vs H Q _ => ∃ b bv dh t s v pa args g, vs = [bv, v, .ref pa, .ref dh, .int t, .non] ∧ LAt b bv dh s H ∧ FunL H g v ∧ g ∈ b.fns.take (i + 1) ∧ H pa = some (.lst (args.map V.int)) ∧ ArgOk g.many args ∧ RanV dh H (ran b.fns t i g args s) Q
section
variable {K : PySem.W.Frag} {σ : L2.St} {H : Hp} {te ta tb tc : TE} {dh : Addr} {tz : TS} {D : Ends} {tar : TA}
theorem ep_lfound {b : Bk} {bv : V} {n : Str} {g : Fn} (h : EvA tar σ H [bv, .str n]) (hb : BookL H b bv) (hl : b.fns.length ≤ 3) (hf : findF b.fns n = some g) : EvP (tCall (spLFound K) [] C8.E0 tar) σ H (fun u H2 => FunL H2 g u) := fun H1 e Q q =>
  h H1 e _ fun H2 e2 => ⟨b, bv, n, g, rfl, hb.mono (e.trans e2), hl, hf, fun u H3 e3 hu => q u H3 (e2.trans e3) hu⟩
theorem ew_lcalled {i : Nat} {b : Bk} {bv : V} {t : Int} {s : Sta} {g : Fn} {pa : Addr} {args : List Int} (h : EvA tar σ H [bv, .str g.name, .ref pa, .ref dh, .int t, .non]) (sc : LAt b bv dh s H) (hg : g ∈ b.fns.take i) (hpa : H pa = some (.lst (args.map V.int))) (hag : ArgOk g.many args) :
    EvW dh (tCall (spLCalled K i) [] C8.E0 tar) σ H (callN b.fns t i g.name args s) := fun H1 e Q q =>
  h H1 e _ fun H2 e2 => ⟨b, bv, dh, t, s, pa, args, g, rfl, sc.mono (e.trans e2), hg, (e.trans e2) _ _ hpa, hag, fun H5 x5 h5 => q H5 ((ExX.of e2).trans x5) h5⟩
theorem ew_lran {i : Nat} {b : Bk} {bv v : V} {t : Int} {s : Sta} {g : Fn} {pa : Addr} {args : List Int} (h : EvA tar σ H [bv, v, .ref pa, .ref dh, .int t, .non]) (sc : LAt b bv dh s H) (hf : FunL H g v) (hg : g ∈ b.fns.take (i + 1)) (hpa : H pa = some (.lst (args.map V.int))) (hag : ArgOk g.many args) :
    EvW dh (tCall (spLRan K i) [] C8.E0 tar) σ H (ran b.fns t i g args s) := fun H1 e Q q =>
  h H1 e _ fun H2 e2 => ⟨b, bv, dh, t, s, v, pa, args, g, rfl, sc.mono (e.trans e2), hf.mono (e.trans e2), hg, (e.trans e2) _ _ hpa, hag, fun H5 x5 h5 => q H5 ((ExX.of e2).trans x5) h5⟩
theorem ew_lworked {i d : Nat} {b : Bk} {bv v : V} {t : Int} {s : Sta} {pa : Addr} {tm : Tm} {args : List Int} {many : Nat} (h : EvA tar σ H [bv, v, .ref pa, .ref dh, .int t, .non]) (sc : LAt b bv dh s H) (ht : TmAt H tm v) (hok : TmOk (b.cells.map (·.1)) (b.fns.take i) many tm) (hd : tm.depth ≤ d)
    (hpa : H pa = some (.lst (args.map V.int))) (hag : ArgOk many args) (hm : many ≤ 2) : EvW dh (tCall (spLWorked K i d) [] C8.E0 tar) σ H (ev (callN b.fns t i) args t tm s) := fun H1 e Q q =>
  h H1 e _ fun H2 e2 => ⟨b, bv, dh, t, s, v, pa, tm, args, many, rfl, sc.mono (e.trans e2), ht.mono (e.trans e2), hok, hd, (e.trans e2) _ _ hpa, hag, hm, fun H5 x5 h5 => q H5 ((ExX.of e2).trans x5) h5⟩
end

section
variable {P : Program} {w : World} {K : PySem.W.Frag} {mg : Str → Option Value} {base : Heap} (T : Tx K mg)
include T

omit T in
theorem scLFound : FnScope ["_law_b", "_law_name", "_law_f"] ["_law_b", "_law_name"] (defScope sLFound) := ⟨rfl, rfl, rfl, by decide +kernel, rfl, by decide +kernel, by decide +kernel⟩
theorem okLFound : Cal P w K mg base 1 "_law_found" (spLFound K) [] := by
  obtain ⟨fd, F⟩ := T.DLFound
  refine cal_of T.g_law_found F (F.bindsN fun _ _ _ _ _ _ us hl => match us, hl with | [_, _], _ => rfl) scLFound (fun vs H Q E h => ?_) (fun cdv A outer s H vs Q E hr h => ?_)
  · obtain ⟨b, bv, n, g, rfl, _⟩ := h; rfl
  · refine ⟨_, (pss_one (ps_ret (pe_ix ix_list (pe_lc  (own := [("_law_f", 2)]) (by rfl) scLFound.nd (pi_list (pe_dget (hu_of hr) (pv 0) pe_str (fun _ _ => rfl))) (blkOk_by (own := [("_law_f", 2)]) (N := ["_law_b", "_law_name", "_law_f"]) (sc := defScope sLFound) (by decide +kernel)) (fun _ _ _ _ _ => (pg_name (i := 2) scLFound.nd rfl (by first | exact Or.inl rfl | exact Or.inr rfl))) (fun _ _ _ _ _ => (pts_one (pt_cmpR op_eq (pe_dget (hu_of hr) (pv 2) pe_str (fun _ _ => rfl)) (pv 1) (nomark _)))) (fun _ _ _ _ _ => (pv 2))) pe_int (fun _ _ => rfl)))), ?_⟩
    obtain ⟨b, bv, n, g, rfl, hb, hl, hf, hq⟩ := h
    obtain ⟨q0, pc, pf, cs, fs, rfl, hq0, hpc, hcs, hpf, hfs⟩ := id hb
    have hlist := lc_gen (tt := tTest (tOp rEq (tDGet (tVar 2) (tC (.str "name"))) (tVar 1))) (te := tVar 2) (vs := [2]) (j := 2) (σ := [some (.ref q0), some (.str n), none]) (evi_list (K := K) (te := tDGet (tVar 0) (tC (.str "functions"))) (ev_dget (ev_var rfl) ev_c hq0 rfl) (sq_of hpf)) (fun i acc H2 => Paired (FunL H2) ((b.fns.take i).filter fun g => decide (g.name = n)) acc) (fun _ _ _ _ e h => Paired.mapP h fun _ _ z => FunL.monoN e z) (fun _ _ => .nil) (by rw [← Paired.length hfs]; omega) (fun _ => rfl) fun i x acc H2 hx e hl2 hi => ?_
    rotate_left
    · obtain ⟨a, ha, hax⟩ := Paired.getR hfs hx
      have hax := hax.mono e
      obtain ⟨pg, r, pw, ws, rfl, hpg, _⟩ := id hax
      have tk : b.fns.take (i + 1) = b.fns.take i ++ [a] := by rw [List.take_add_one, ha]; rfl
      refine ⟨decide (a.name = n), et_is (et_test (ev_op (ev_dget (ev_var rfl) ev_c hpg rfl) (ev_var rfl) (rv_eq rfl))) (by simp), fun hb2 H3 e3 Q q => ⟨_, rfl, q _ H3 (Ex.refl _) ?_⟩, fun hb2 => ?_⟩
      · rw [tk, List.filter_append]
        simp only [List.filter_cons, hb2, List.filter_nil, if_true]
        exact Paired.snoc (Paired.mapP hi fun _ _ z => FunL.mono e3 z) (hax.mono e3)
      · rw [tk, List.filter_append]
        simp only [List.filter_cons, hb2, List.filter_nil]
        simpa using hi
    refine s_retE (e_opX (hlist H (Ex.refl _) _ fun p ys H2 hp0 e2 hp hys => ?_))
    rw [← Paired.length hfs, List.take_length] at hys
    unfold findF at hf
    rw [← List.head?_filter] at hf
    cases hfl : b.fns.filter fun g => decide (g.name = n) with
    | nil => rw [hfl] at hf; cases hf
    | cons g' r =>
      rw [hfl] at hf hys
      cases hf
      cases hys with
      | cons h1 t1 => exact ⟨p, _, 0, _, rfl, rfl, sq_of hp, at0, hq _ H2 e2 h1⟩

omit T in
theorem scLWorked : FnScope ["_law_b", "_law_term_here", "_law_values", "_law_held", "_law_tick", "_law_view", "_law_some", "_law_part", "_law_one", "_law_other"] ["_law_b", "_law_term_here", "_law_values", "_law_held", "_law_tick", "_law_view"] (defScope sLWorked) := ⟨rfl, rfl, rfl, by decide +kernel, rfl, by decide +kernel, by decide +kernel⟩
theorem okLWorked (i c : Nat) (hC : Cal P w K mg base c "_law_called" (spLCalled K i) []) : ∀ d, Cal P w K mg base (c + 1 + d) "_law_worked" (spLWorked K i d) [] := by
  obtain ⟨fd, F⟩ := T.DLWorked
  intro d
  induction d with
  | zero =>
    refine cal_of T.g_law_worked F (F.bindsN fun _ _ _ _ _ _ us hl => match us, hl with | [_, _, _, _, _, _], _ => rfl) scLWorked (fun vs H Q E h => ?_) (fun cdv A outer s H vs Q E hr h => ?_)
    · obtain ⟨b, bv, dh, t, s, v, pa, tm, args, many, rfl, _⟩ := h; rfl
    · obtain ⟨b, bv, dh, t, s, v, pa, tm, args, many, rfl, sc, ht, hok, hd, _⟩ := h
      have := depth_pos tm
      omega
  | succ d ih =>
    refine cal_of T.g_law_worked F (F.bindsN fun _ _ _ _ _ _ us hl => match us, hl with | [_, _, _, _, _, _], _ => rfl) scLWorked (fun vs H Q E h => ?_) (fun cdv A outer s H vs Q E hr h => ?_)
    · obtain ⟨b, bv, dh, t, s, v, pa, tm, args, many, rfl, _⟩ := h; rfl
    · refine ⟨_, (pss_cons (ps_if (pt_not (pt_val (pe_callB call_isi rfl T.f_isinstance (by decide +kernel) (pa_cons (pv 1) (pa_cons (pe_bltn (v := .ty "tuple") (u := .type "tuple") rfl T.f_tuple (by decide +kernel) rfl) pa_nil))))) (pss_one (ps_ret (pv 1))) pss_nil) (pss_cons (ps_if (pt_cmpR op_eq (pe_ix ix_tup (pv 1) pe_int (fun _ _ => rfl)) pe_str (nomark _)) (pss_one (ps_ret (pe_ix ix_list (pv 2) (pe_ix ix_tup (pv 1) pe_int (fun _ _ => rfl)) (fun _ _ => rfl)))) pss_nil) (pss_cons (ps_if (pt_cmpR op_eq (pe_ix ix_tup (pv 1) pe_int (fun _ _ => rfl)) pe_str (nomark _)) (pss_one (ps_ret (pe_dget (hu_of hr) (pv 3) (pe_ix ix_tup (pv 1) pe_int (fun _ _ => rfl)) (fun _ _ => rfl)))) pss_nil) (pss_cons (ps_if (pt_cmpR op_eq (pe_ix ix_tup (pv 1) pe_int (fun _ _ => rfl)) pe_str (nomark _)) (pss_one (ps_ret (pe_op op_mod (pe_callTy call_int1 rfl T.f_int (by decide +kernel) (pa_cons (pv 4) pa_nil)) pe_int))) pss_nil) (pss_cons (ps_if (pt_cmpR op_eq (pe_ix ix_tup (pv 1) pe_int (fun _ _ => rfl)) pe_str (nomark _)) (pss_cons (ps_setLc (i := 6) (own := [("_law_part", 7)]) (by rfl) scLWorked.nd rfl rfl (sw_true rfl rfl rfl (by decide +kernel)) (pi_tup (pe_ix ix_tup (pv 1) pe_int (fun _ _ => rfl))) (blkOk_by (own := [("_law_part", 7)]) (N := ["_law_b", "_law_term_here", "_law_values", "_law_held", "_law_tick", "_law_view", "_law_some", "_law_part", "_law_one", "_law_other"]) (sc := defScope sLWorked) (by decide +kernel)) (fun _ _ _ _ _ => (pg_name (i := 7) scLWorked.nd rfl (by first | exact Or.inl rfl | exact Or.inr rfl))) (fun _ _ _ _ _ => pts_nil) (fun _ _ _ _ _ => (pe_c ih hr (Nat.le_refl _) rfl (pa_cons (pv 0) (pa_cons (pv 7) (pa_cons (pv 2) (pa_cons (pv 3) (pa_cons (pv 4) (pa_cons (pv 5) pa_nil))))))))) (pss_one (ps_ret (pe_c hC hr (show c ≤ c + 1 + d by omega) rfl (pa_cons (pv 0) (pa_cons (pe_ix ix_tup (pv 1) pe_int (fun _ _ => rfl)) (pa_cons (pv 6) (pa_cons (pv 3) (pa_cons (pv 4) (pa_cons (pv 5) pa_nil)))))))))) pss_nil) (pss_cons (ps_set (i := 8) scLWorked.nd rfl (by first | exact Or.inl rfl | exact Or.inr rfl) (pe_c ih hr (Nat.le_refl _) rfl (pa_cons (pv 0) (pa_cons (pe_ix ix_tup (pv 1) pe_int (fun _ _ => rfl)) (pa_cons (pv 2) (pa_cons (pv 3) (pa_cons (pv 4) (pa_cons (pv 5) pa_nil)))))))) (pss_cons (ps_if (pt_cmpR op_eq (pe_ix ix_tup (pv 1) pe_int (fun _ _ => rfl)) pe_str (nomark _)) (pss_one (ps_ret (pe_c ih hr (Nat.le_refl _) rfl (pa_cons (pv 0) (pa_cons (pe_ifExp (pt_cmpR op_ne (pv 8) pe_int (nomark _)) (pe_ix ix_tup (pv 1) pe_int (fun _ _ => rfl)) (pe_ix ix_tup (pv 1) pe_int (fun _ _ => rfl))) (pa_cons (pv 2) (pa_cons (pv 3) (pa_cons (pv 4) (pa_cons (pv 5) pa_nil))))))))) pss_nil) (pss_cons (ps_set (i := 9) scLWorked.nd rfl (by first | exact Or.inl rfl | exact Or.inr rfl) (pe_c ih hr (Nat.le_refl _) rfl (pa_cons (pv 0) (pa_cons (pe_ix ix_tup (pv 1) pe_int (fun _ _ => rfl)) (pa_cons (pv 2) (pa_cons (pv 3) (pa_cons (pv 4) (pa_cons (pv 5) pa_nil)))))))) (pss_cons (ps_if (pt_cmpR op_eq (pe_ix ix_tup (pv 1) pe_int (fun _ _ => rfl)) pe_str (nomark _)) (pss_one (ps_ret (pe_op op_mod (pe_callTy call_int1 rfl T.f_int (by decide +kernel) (pa_cons (pe_op op_add (pv 8) (pv 9)) pa_nil)) pe_int))) pss_nil) (pss_one (ps_ret (pe_ifExp (pt_cmpR op_eq (pe_ix ix_tup (pv 1) pe_int (fun _ _ => rfl)) pe_str (nomark _)) (pe_callTy call_int1 rfl T.f_int (by decide +kernel) (pa_cons (pe_cmpR op_lt (pv 8) (pv 9) (nomark _)) pa_nil)) (pe_callTy call_int1 rfl T.f_int (by decide +kernel) (pa_cons (pe_cmpR op_eq (pv 8) (pv 9) (nomark _)) pa_nil)))))))))))))), ?_⟩
      obtain ⟨b, bv, dh, t, s, v, pa, tm, args, many, rfl, sc, ht, hok, hd, hpa, hag, hm, hq⟩ := h
      have hcf := callN_ok sc.ok t i
      have npa : pa ≠ dh := fun zz => by rw [zz, sc.hd] at hpa; cases hpa
      refine q_when (b := isVal tm) ?_ (fun hb H1 e1 => ?_) (fun hb H1 e1 => ?_)
      · rcases tm_shape ht with ⟨n, rfl, rfl⟩ | ⟨p, k, r, rfl, hk, hp'⟩
        · exact et_not (a := false) (et_B (ev_isi false (ev_var rfl) ty_int (kit_ty (by decide +kernel))))
        · refine et_is (et_not (a := true) (et_B (ev_isi true (ev_var rfl) (ty_tup hp') (kit_ty (by decide +kernel))))) ?_
          cases tm with
          | lf l =>
            cases l with
            | val n => cases hk
            | _ => rfl
          | _ => rfl
      · cases tm with
        | lf l =>
          cases l with
          | val n =>
            obtain rfl : v = .int n := ht
            exact s_ret (ev_var rfl) fun H2 e2 => hq H2 (ExX.of (e1.trans e2)) ((e1.trans e2) _ _ sc.hd)
          | _ => cases hb
        | _ => cases hb
      have sc1 := sc.mono e1
      have ht1 := ht.mono e1
      obtain ⟨n, rfl, rfl⟩ | ⟨q, k, r, rfl, hk, hq1⟩ := tm_shape ht1
      · cases hb
      let σ0 : L2.St := start ["_law_b", "_law_term_here", "_law_values", "_law_held", "_law_tick", "_law_view", "_law_some", "_law_part", "_law_one", "_law_other"] [bv, .ref q, .ref pa, .ref dh, .int t, .non]
      have KT : ∀ {H2 : Hp} (x6 x8 x9 : Option V) (z : Str) (bb : Bool), Ex H1 H2 → decide (k = z) = bb → EvT (tTest (tOp rEq (tOp (rIxT K) (tVar 1) (tC (.int 0))) (tC (.str z)))) [some bv, some (.ref q), some (.ref pa), some (.ref dh), some (.int t), some .non, x6, none, x8, x9] H2 bb := fun x6 x8 x9 z bb e hz => et_is (et_test (ev_op (ev_op (ev_var rfl) ev_c (rv_ixT (st_of (e _ _ hq1)) at0)) ev_c (rv_eq rfl))) (by rw [← hz]; simp)
      have ix : ∀ {H2 : Hp} (x6 x8 x9 : Option V) (xs : List V) (j : Nat) (v : V), H1 q = some (.tup xs) → xs[j]? = some v → Ex H1 H2 → Ev (tOp (rIxT K) (tVar 1) (tC (.int (j : Int)))) [some bv, some (.ref q), some (.ref pa), some (.ref dh), some (.int t), some .non, x6, none, x8, x9] H2 v := fun x6 x8 x9 xs j v h1 h2 e => ev_op (ev_var rfl) ev_c (rv_ixT (st_of (e _ _ h1)) (atI_nat h2))
      have NO : ∀ {H2 : Hp} (z : Str) {tu tz : TS} {Dd : Ends}, Ex H1 H2 → decide (k = z) = false → (∀ H3, Ex H1 H3 → tz Dd σ0 H3) → tSeq (tIfS (tTest (tOp rEq (tOp (rIxT K) (tVar 1) (tC (.int 0))) (tC (.str z)))) tu tNext) tz Dd σ0 H2 := fun z tu tz Dd e hz kk => q_when (b := false) (KT none none none z false e hz) (fun z => by cases z) fun _ H3 e3 => kk H3 (e.trans e3)
      have YES : ∀ {H2 : Hp} (z : Str) {tu tz : TS} {Dd : Ends}, Ex H1 H2 → decide (k = z) = true → (∀ H3, Ex H1 H3 → tu { Dd with nx := tz Dd } σ0 H3) → tSeq (tIfS (tTest (tOp rEq (tOp (rIxT K) (tVar 1) (tC (.int 0))) (tC (.str z)))) tu tNext) tz Dd σ0 H2 := fun z tu tz Dd e hz kk => q_when (b := true) (KT none none none z true e hz) (fun _ H3 e3 => kk H3 (e.trans e3)) fun z => by cases z
      clear hb
      cases tm with
      | lf l =>
        cases l with
        | val n => cases hk
        | arg j =>
          cases hk
          obtain ⟨q', hqq, hq2⟩ := ht1
          cases hqq
          refine YES "arg" (Ex.refl _) (by decide +kernel) fun H2 e2 => ?_
          have hj : j < args.length := by rw [hag.1]; exact hok
          refine s_ret (v := .int (args.getD j 0)) (ev_op (ev_var rfl) (ix none none none _ 1 _ hq2 rfl e2) (rv_ixL (sq_of ((e1.trans e2) _ _ hpa)) (atI_nat ?_))) fun H3 e3 => hq H3 (ExX.of ((e1.trans e2).trans e3)) (((e1.trans e2).trans e3) _ _ sc.hd)
          rw [List.getElem?_map, List.getD_eq_getElem?_getD, List.getElem?_eq_getElem hj]; rfl
        | cel c =>
          cases hk
          obtain ⟨q', hqq, hq2⟩ := ht1
          cases hqq
          refine NO "arg" (Ex.refl _) (by decide +kernel) fun H2 e2 => ?_
          refine YES "cell" e2 (by decide +kernel) fun H3 e3 => ?_
          have sc3 := sc1.mono e3
          exact s_ret (ev_dget (ev_var rfl) (ix none none none _ 1 _ hq2 rfl e3) sc3.hd (sc3.st.val hok)) fun H4 e4 => hq H4 (ExX.of ((e1.trans e3).trans e4)) (((e1.trans e3).trans e4) _ _ sc.hd)
        | tick =>
          cases hk
          refine NO "arg" (Ex.refl _) (by decide +kernel) fun H2 e2 => ?_
          refine NO "cell" e2 (by decide +kernel) fun H3 e3 => ?_
          refine YES "tick" e3 (by decide +kernel) fun H4 e4 => ?_
          exact s_ret (ev_op (ev_int1 (ev_var rfl)) ev_c (rv_I (show (0 : Int) < 3 by decide))) fun H5 e5 => hq H5 (ExX.of ((e1.trans e4).trans e5)) (((e1.trans e4).trans e5) _ _ sc.hd)
      | call f as =>
        cases hk
        obtain ⟨q', qa, us, hqq, hq2, hqa, hus⟩ := ht1
        cases hqq
        refine NO "arg" (Ex.refl _) (by decide +kernel) fun H2 e2 => ?_
        refine NO "cell" e2 (by decide +kernel) fun H3 e3 => ?_
        refine NO "tick" e3 (by decide +kernel) fun H4 e4 => ?_
        refine YES "call" e4 (by decide +kernel) fun H5 e5 => ?_
        have sc5 := sc1.mono e5
        obtain ⟨⟨g, hg, e1f, e2f⟩, hal⟩ := hok
        subst e1f
        have hargs : ∀ l ∈ as, V3 (lfV args t s l) := fun l hl => lfV_ok (hal l hl) hag sc.st
        have hd1 : as ≠ [] → 1 ≤ d := fun ne => by
          unfold Tm.depth at hd
          rw [if_neg ne] at hd
          omega
        have hlist := el_pair (σ := σ0) (vs := [7]) (j := 7) (te := tCall (spLWorked K i d) [] C8.E0 (tCons (tVar 0) (tCons (tVar 7) (tCons (tVar 2) (tCons (tVar 3) (tCons (tVar 4) (tCons (tVar 5) tNil))))))) (evi_tup (K := K) (ix none none none _ 2 _ hq2 rfl e5) (st_of (e5 _ _ hqa))) (Paired.mapP hus fun _ _ z => LfAt.mono e5 z) (fun l => .int (lfV args t s l)) (by rw [← Paired.length hus, e2f]; have := (sc.ok.aheadOk i g hg).2; omega) (fun _ => rfl) fun l x hl hx => ?_
        · have em : (as.map fun l => V.int (lfV args t s l)) = (as.map (lfV args t s)).map V.int := by rw [List.map_map]; rfl
          rw [em] at hlist
          refine q_asgL hlist fun pl H6 hpl0 e6 hpl => ?_
          have sc6 := sc5.mono e6
          exact s_retW (ew_lcalled (pa := pl) (ea_cons (ev_var rfl) (ea_cons (ix (some (.ref pl)) none none _ 1 _ hq2 rfl (e5.trans e6)) (ea_cons (ev_var rfl) (ea_cons (ev_var rfl) (ea_cons (ev_var rfl) (ea_cons (ev_var rfl) ea_nil)))))) sc6 hg hpl ⟨by rw [List.length_map, e2f], fun a ha => by obtain ⟨l, hl, rfl⟩ := List.mem_map.mp ha; exact hargs l hl⟩) fun H7 x7 h7 => hq H7 ((ExX.of ((e1.trans e5).trans e6)).trans x7) h7
        · exact ew_ev (ew_lworked (tm := .lf l) (ea_cons (ev_var rfl) (ea_cons (ev_var rfl) (ea_cons (ev_var rfl) (ea_cons (ev_var rfl) (ea_cons (ev_var rfl) (ea_cons (ev_var rfl) ea_nil)))))) sc5 hx (hal l hl) (hd1 (fun z => by rw [z] at hl; cases hl)) ((e1.trans e5) _ _ hpa) hag hm) sc5.hd
      | ite c a b2 =>
        cases hk
        obtain ⟨q', z1, z2, z3, hqq, hq2, hc1, ha1, hb1⟩ := ht1
        cases hqq
        refine NO "arg" (Ex.refl _) (by decide +kernel) fun H2 e2 => ?_
        refine NO "cell" e2 (by decide +kernel) fun H3 e3 => ?_
        refine NO "tick" e3 (by decide +kernel) fun H4 e4 => ?_
        refine NO "call" e4 (by decide +kernel) fun H5 e5 => ?_
        have sc6 := sc1.mono e5
        have hdc : c.depth ≤ d ∧ a.depth ≤ d ∧ b2.depth ≤ d := by simp only [Tm.depth] at hd; omega
        have okc := ev_ok (t := t) hcf hag hok.1 sc.st
        refine q_asgW (ew_lworked (ea_cons (ev_var rfl) (ea_cons (ix none none none _ 1 _ hq2 rfl e5) (ea_cons (ev_var rfl) (ea_cons (ev_var rfl) (ea_cons (ev_var rfl) (ea_cons (ev_var rfl) ea_nil)))))) sc6 (hc1.mono e5) hok.1 hdc.1 ((e1.trans e5) _ _ hpa) hag hm) fun H7 x7 h7 => ?_
        have eT7 : ExT H1 H7 := (ext e5).trans (x7.t sc6.hd)
        have sc7 := sc6.go x7 h7 okc.2
        have hpa7 := x7 _ _ npa ((e1.trans e5) _ _ hpa)
        have X7 : ExX dh H H7 := (ExX.of (e1.trans e5)).trans x7
        have hq7 := eT7.at hq2
        refine q_when (b := true) (et_is (et_test (ev_op (ev_op (ev_var rfl) ev_c (rv_ixT (st_of hq7) at0)) ev_c (rv_eq rfl))) (by decide +kernel)) (fun _ H8 e8 => ?_) fun z => by cases z
        have sc8 := sc7.mono e8
        have hq8 := e8 _ _ hq7
        have hpa8 := e8 _ _ hpa7
        by_cases hv : (ev (callN b.fns t i) args t c s).1 = 0
        · refine s_retW (ew_lworked (tm := b2) (v := z3) (ea_cons (ev_var rfl) (ea_cons (ev_if (b := false) (et_is (et_test (ev_op (ev_var rfl) ev_c (rv_ne rfl))) (by rw [hv]; rfl)) (fun z => by cases z) fun _ => ev_op (ev_var rfl) ev_c (rv_ixT (st_of hq8) at3)) (ea_cons (ev_var rfl) (ea_cons (ev_var rfl) (ea_cons (ev_var rfl) (ea_cons (ev_var rfl) ea_nil)))))) sc8 ((hb1.monoT eT7).mono e8) hok.2.2 hdc.2.2 hpa8 hag hm) fun H9 x9 h9 => ?_
          have e : ev (callN b.fns t i) args t (.ite c a b2) s = ev (callN b.fns t i) args t b2 (ev (callN b.fns t i) args t c s).2 := by rw [ev, if_neg (fun z => z hv)]
          have := hq H9 (X7.trans ((ExX.of e8).trans x9))
          rw [e] at this
          exact this h9
        · refine s_retW (ew_lworked (tm := a) (v := z2) (ea_cons (ev_var rfl) (ea_cons (ev_if (b := true) (et_is (et_test (ev_op (ev_var rfl) ev_c (rv_ne rfl))) (by rw [decide_eq_false (fun z => hv (by injection z))]; rfl)) (fun _ => ev_op (ev_var rfl) ev_c (rv_ixT (st_of hq8) at2)) fun z => by cases z) (ea_cons (ev_var rfl) (ea_cons (ev_var rfl) (ea_cons (ev_var rfl) (ea_cons (ev_var rfl) ea_nil)))))) sc8 ((ha1.monoT eT7).mono e8) hok.2.1 hdc.2.1 hpa8 hag hm) fun H9 x9 h9 => ?_
          have e : ev (callN b.fns t i) args t (.ite c a b2) s = ev (callN b.fns t i) args t a (ev (callN b.fns t i) args t c s).2 := by rw [ev, if_pos hv]
          have := hq H9 (X7.trans ((ExX.of e8).trans x9))
          rw [e] at this
          exact this h9
      | op o a b2 =>
        cases hk
        obtain ⟨q', z1, z2, hqq, hq2, ha1, hb1⟩ := ht1
        cases hqq
        have ne : ∀ z : Str, z = "arg" ∨ z = "cell" ∨ z = "tick" ∨ z = "call" ∨ z = "if" → decide (opName o = z) = false := by
          intro z hz
          rcases hz with rfl | rfl | rfl | rfl | rfl <;> cases o <;> decide +kernel
        refine NO "arg" (Ex.refl _) (ne _ (by simp)) fun H2 e2 => ?_
        refine NO "cell" e2 (ne _ (by simp)) fun H3 e3 => ?_
        refine NO "tick" e3 (ne _ (by simp)) fun H4 e4 => ?_
        refine NO "call" e4 (ne _ (by simp)) fun H5 e6 => ?_
        have sc6 := sc1.mono e6
        have hdc : a.depth ≤ d ∧ b2.depth ≤ d := by simp only [Tm.depth] at hd; omega
        have oka := ev_ok (t := t) hcf hag hok.1 sc.st
        refine q_asgW (ew_lworked (ea_cons (ev_var rfl) (ea_cons (ix none none none _ 1 _ hq2 rfl e6) (ea_cons (ev_var rfl) (ea_cons (ev_var rfl) (ea_cons (ev_var rfl) (ea_cons (ev_var rfl) ea_nil)))))) sc6 (ha1.mono e6) hok.1 hdc.1 ((e1.trans e6) _ _ hpa) hag hm) fun H6' x6' h6' => ?_
        have sc6' := sc6.go x6' h6' oka.2
        have eT6' : ExT H1 H6' := (ext e6).trans (x6'.t sc6.hd)
        refine q_when (b := false) (et_is (et_test (ev_op (ev_op (ev_var rfl) ev_c (rv_ixT (st_of (eT6'.at hq2)) at0)) ev_c (rv_eq rfl))) ((by simp : decide (V.str (opName o) = V.str "if") = decide (opName o = "if")).trans (ne _ (by simp)))) (fun z => by cases z) fun _ H7 e7 => ?_
        have x7 : ExX dh H5 H7 := x6'.trans (ExX.of e7)
        have eT7 : ExT H1 H7 := eT6'.trans (ext e7)
        have sc7 := sc6'.mono e7
        have h7 := sc7.hd
        have hpa7 := x7 _ _ npa ((e1.trans e6) _ _ hpa)
        refine q_asgW (ew_lworked (ea_cons (ev_var rfl) (ea_cons (ev_op (ev_var rfl) ev_c (rv_ixT (st_of (eT7.at hq2)) at2)) (ea_cons (ev_var rfl) (ea_cons (ev_var rfl) (ea_cons (ev_var rfl) (ea_cons (ev_var rfl) ea_nil)))))) sc7 (hb1.monoT eT7) hok.2 hdc.2 hpa7 hag hm) fun H8 x8 h8 => ?_
        have eT8 : ExT H1 H8 := eT7.trans (x8.t h7)
        have hq8 := eT8.at hq2
        have X8 : ExX dh H H8 := (ExX.of (e1.trans e6)).trans (x7.trans x8)
        have KQ : ∀ {H9 : Hp} (z : Str) (bb : Bool), Ex H8 H9 → decide (opName o = z) = bb → EvT (tTest (tOp rEq (tOp (rIxT K) (tVar 1) (tC (.int 0))) (tC (.str z)))) [some bv, some (.ref q), some (.ref pa), some (.ref dh), some (.int t), some .non, none, none, some (.int (ev (callN b.fns t i) args t a s).1), some (.int (ev (callN b.fns t i) args t b2 (ev (callN b.fns t i) args t a s).2).1)] H9 bb := fun z bb e hz => et_is (et_test (ev_op (ev_op (ev_var rfl) ev_c (rv_ixT (st_of (e _ _ hq8)) at0)) ev_c (rv_eq rfl))) (by rw [← hz]; simp)
        refine q_when (b := decide (opName o = "plus")) (KQ _ _ (Ex.refl _) rfl) (fun hb H9 e9 => ?_) (fun hb H9 e9 => ?_)
        · cases o with
          | plus => exact s_ret (ev_op (ev_int1 (ev_op (ev_var rfl) (ev_var rfl) rv_I0)) ev_c (rv_I (show (0 : Int) < 3 by decide))) fun H10 e10 => hq H10 (X8.trans (ExX.of (e9.trans e10))) ((e9.trans e10) _ _ h8)
          | less => exact absurd hb (by decide +kernel)
          | same => exact absurd hb (by decide +kernel)
        · cases o with
          | plus => exact absurd hb (by decide +kernel)
          | less => exact s_ret (ev_if (v := .int (if (ev (callN b.fns t i) args t a s).1 < (ev (callN b.fns t i) args t b2 (ev (callN b.fns t i) args t a s).2).1 then 1 else 0)) (KQ _ true e9 (by decide +kernel)) (fun _ => ev_is (ev_cb (ea_cons (ev_op (ev_var rfl) (ev_var rfl) rv_I0) ea_nil) rc_intB) (by simp)) fun z => by cases z) fun H10 e10 => hq H10 (X8.trans (ExX.of (e9.trans e10))) ((e9.trans e10) _ _ h8)
          | same => exact s_ret (ev_if (v := .int (if (ev (callN b.fns t i) args t a s).1 = (ev (callN b.fns t i) args t b2 (ev (callN b.fns t i) args t a s).2).1 then 1 else 0)) (KQ _ false e9 (by decide +kernel)) (fun z => by cases z) fun _ => ev_is (ev_cb (ea_cons (ev_op (ev_var rfl) (ev_var rfl) (rv_eq rfl)) ea_nil) rc_intB) (by simp)) fun H10 e10 => hq H10 (X8.trans (ExX.of (e9.trans e10))) ((e9.trans e10) _ _ h8)

end
end SC
set_option Elab.async false
set_option linter.all false
set_option maxRecDepth 100000
set_option maxHeartbeats 1000000
/-! L7: how the law runs functions, whole. -/
namespace SC
open PySem PySem.Spec PyProof.Rows L2 C8 Evl

section
variable {P : Program} {w : World} {K : PySem.W.Frag} {mg : Str → Option Value} {base : Heap} (T : Tx K mg)
include T

omit T in
theorem scLRan : FnScope ["_law_b", "_law_f", "_law_values", "_law_held", "_law_tick", "_law_view", "_law_value", "_law_cell", "_law_term_here"] ["_law_b", "_law_f", "_law_values", "_law_held", "_law_tick", "_law_view"] (defScope sLRan) := ⟨rfl, rfl, rfl, by decide +kernel, rfl, by decide +kernel, by decide +kernel⟩
theorem okLRan (i m : Nat) (hW : Cal P w K mg base m "_law_worked" (spLWorked K i 3) []) : Cal P w K mg base (m + 1) "_law_ran" (spLRan K i) [] := by
  obtain ⟨fd, F⟩ := T.DLRan
  refine cal_of T.g_law_ran F (F.bindsN fun _ _ _ _ _ _ us hl => match us, hl with | [_, _, _, _, _, _], _ => rfl) scLRan (fun vs H Q E h => ?_) (fun cdv A outer s H vs Q E hr h => ?_)
  · obtain ⟨b, bv, dh, t, s, v, pa, args, g, rfl, _⟩ := h; rfl
  · refine ⟨_, (pss_cons (ps_set (i := 6) scLRan.nd rfl (by first | exact Or.inl rfl | exact Or.inr rfl) (pe_c hW hr (Nat.le_refl _) rfl (pa_cons (pv 0) (pa_cons (pe_dget (hu_of hr) (pv 1) pe_str (fun _ _ => rfl)) (pa_cons (pv 2) (pa_cons (pv 3) (pa_cons (pv 4) (pa_cons (pv 5) pa_nil)))))))) (pss_cons (ps_for PassesOwn.never rfl (pi_tup (pe_dget (hu_of hr) (pv 1) pe_str (fun _ _ => rfl))) (pg_tup (by rfl) (pgs_cons (pg_name (i := 7) scLRan.nd rfl (by first | exact Or.inl rfl | exact Or.inr rfl)) (pgs_cons (pg_name (i := 8) scLRan.nd rfl (by first | exact Or.inl rfl | exact Or.inr rfl)) pgs_nil))) (pss_one (ps_dput (hu_of hr) (pv 3) (pv 7) (pe_c hW hr (Nat.le_refl _) rfl (pa_cons (pv 0) (pa_cons (pv 8) (pa_cons (pv 2) (pa_cons (pv 3) (pa_cons (pv 4) (pa_cons (pv 5) pa_nil))))))) rfl))) (pss_one (ps_ret (pv 6))))), ?_⟩
    obtain ⟨b, bv, dh, t, s, v, pa, args, g, rfl, sc, hg, hgm, hpa, hag, hq⟩ := h
    have hcf := callN_ok sc.ok t i
    have ok := sc.ok.at_ hgm
    obtain ⟨q, x, pw, ws, rfl, hgq, hx, hpw, hws⟩ := id hg
    have npa : pa ≠ dh := fun z => by have := sc.hd; rw [← z, hpa] at this; cases this
    have npw : pw ≠ dh := fun z => by have := sc.hd; rw [← z, hpw] at this; cases this
    have ok1 := ev_ok (t := t) hcf hag ok.res sc.st
    refine q_asgW (ew_lworked (ea_cons (ev_var rfl) (ea_cons (ev_dget (ev_var rfl) ev_c hgq rfl) (ea_cons (ev_var rfl) (ea_cons (ev_var rfl) (ea_cons (ev_var rfl) (ea_cons (ev_var rfl) ea_nil)))))) sc hx ok.res ok.rd hpa hag ok.many) fun H1 x1 h1 => ?_
    have sc1 := sc.go x1 h1 ok1.2
    have eT1 : ExT H H1 := x1.t sc.hd
    have hws1 : Paired (WrL H1) g.wr ws := Paired.mapP hws fun _ _ z => WrL.monoT eT1 z
    have nq : q ≠ dh := fun z => by
      have h2 := hgq
      rw [z, sc.hd] at h2
      injection h2 with h2
      injection h2 with h2
      obtain ⟨i, hi⟩ := stV_ne h2
      cases hi
    have hgq1 := x1 _ _ nq hgq
    have hpw1 := x1 _ _ npw hpw
    have hpa1 := x1 _ _ npa hpa
    refine q_forX (d := dh) (evix_tup (ev_dget (ev_var rfl) ev_c hgq1 rfl) hpw1 npw) (fun j σ' H' => (∃ x7 x8, σ' = [some bv, some (.ref q), some (.ref pa), some (.ref dh), some (.int t), some .non, some (.int (ev (callN b.fns t i) args t g.res s).1), x7, x8]) ∧ H' dh = some (.dK (stV (wrs (callN b.fns t i) args t (g.wr.take j) (ev (callN b.fns t i) args t g.res s).2)))) (fun H2 e2 => ⟨⟨none, none, rfl⟩, e2 _ _ h1⟩) (fun j y σ' H' hy eX hP => ?_) (fun σ' H' eX hP => ?_)
    · obtain ⟨⟨x7, x8, rfl⟩, hdh⟩ := hP
      obtain ⟨wr, hwj, hwy⟩ := Paired.getR hws1 hy
      have hwm := List.mem_of_getElem? hwj
      obtain ⟨w1, w2, w3, w4⟩ := ok.wr wr hwm
      have eT2 : ExT H1 H' := eX.t h1
      obtain ⟨p3, z, rfl, hp3, hz⟩ := hwy.monoT eT2
      have ok2 := wrs_ok (l := g.wr.take j) (t := t) hcf hag (fun w hw => ok.ws w (List.mem_of_mem_take hw)) ok1.2
      have sc2 := sc1.go eX hdh ok2
      refine g_pair hp3 ?_
      have ok3 := ev_ok (t := t) hcf hag w2 ok2
      refine s_dputW (ew_lworked (K := K) (d := 3) (ea_cons (ev_var rfl) (ea_cons (ev_var rfl) (ea_cons (ev_var rfl) (ea_cons (ev_var rfl) (ea_cons (ev_var rfl) (ea_cons (ev_var rfl) ea_nil)))))) sc2 hz w2 (by omega) (eX _ _ npa hpa1) hag ok.many) (fun Ha xa => ev_var rfl) (fun Ha xa => ev_var rfl) (by rw [ok3.2.len, List.length_map]; have := sc.ok.lc; omega) fun H3 x3 h3 => ⟨x3, ⟨_, _, rfl⟩, ?_⟩
      rw [h3, List.take_add_one, hwj]
      show some (HO.dK (stV (setS _ _ _))) = some (HO.dK (stV (wrs _ _ _ (g.wr.take j ++ [wr]) _)))
      rw [wrs_snoc]
    · obtain ⟨⟨x7, x8, rfl⟩, hdh⟩ := hP
      rw [← Paired.length hws1, List.take_length] at hdh
      exact s_ret (ev_var rfl) fun H2 e2 => hq H2 (x1.trans (eX.trans (ExX.of e2))) (e2 _ _ hdh)

omit T in
theorem scLCalled : FnScope ["_law_b", "_law_name", "_law_values", "_law_held", "_law_tick", "_law_view", "_law_f"] ["_law_b", "_law_name", "_law_values", "_law_held", "_law_tick", "_law_view"] (defScope sLCalled) := ⟨rfl, rfl, rfl, by decide +kernel, rfl, by decide +kernel, by decide +kernel⟩
theorem okLCalled (i m k : Nat) (hW : Cal P w K mg base k "_law_ran" (spLRan K i) []) (hm : k ≤ m) (hm2 : 1 ≤ m) : Cal P w K mg base (m + 1) "_law_called" (spLCalled K (i + 1)) [] := by
  obtain ⟨fd, F⟩ := T.DLCalled
  refine cal_of T.g_law_called F (F.bindsN fun _ _ _ _ _ _ us hl => match us, hl with | [_, _, _, _, _, _], _ => rfl) scLCalled (fun vs H Q E h => ?_) (fun cdv A outer s H vs Q E hr h => ?_)
  · obtain ⟨b, bv, dh, t, s, pa, args, g, rfl, _⟩ := h; rfl
  · refine ⟨_, (pss_cons (ps_set (i := 6) scLCalled.nd rfl (by first | exact Or.inl rfl | exact Or.inr rfl) (pe_c (okLFound T) hr hm2 rfl (pa_cons (pv 0) (pa_cons (pv 1) pa_nil)))) (pss_cons (ps_if (PW.pt (pw_and (pt_cmpR op_notN (pv 5) pe_non (nomark _)) (pw_and1 (pt_cmpR op_ne (pe_dget (hu_of hr) (pv 6) pe_str (fun _ _ => rfl)) pe_str (nomark _))))) (pss_one ps_never) pss_nil) (pss_one (ps_ret (pe_c hW hr hm rfl (pa_cons (pv 0) (pa_cons (pv 6) (pa_cons (pv 2) (pa_cons (pv 3) (pa_cons (pv 4) (pa_cons (pv 5) pa_nil))))))))))), ?_⟩
    obtain ⟨b, bv, dh, t, s, pa, args, g, rfl, sc, hgm, hpa, hag, hq⟩ := h
    have hf := find_name sc.ok.ndf (List.mem_of_mem_take hgm)
    refine q_asgP (ep_lfound (ea_cons (ev_var rfl) (ea_cons (ev_var rfl) ea_nil)) sc.bk sc.ok.lf hf) fun u H1 e1 hu => ?_
    have hu : FunL H1 g u := hu
    have sc1 := sc.mono e1
    refine q_when (b := false) (et_is (et_and (a := false) (b := false) (et_is (et_test (ev_op (z := .bl false) (ev_var rfl) ev_c (rv_val fun H2 _ Q q => ⟨rfl, q⟩))) rfl) fun z => by cases z) rfl) (fun z => by cases z) fun _ H2 e2 => ?_
    have hc : callN b.fns t (i + 1) g.name args s = ran b.fns t i g args s := callN_some hf
    refine s_retW (ew_lran (ea_cons (ev_var rfl) (ea_cons (ev_var rfl) (ea_cons (ev_var rfl) (ea_cons (ev_var rfl) (ea_cons (ev_var rfl) (ea_cons (ev_var rfl) ea_nil)))))) (sc1.mono e2) (hu.mono e2) hgm ((e1.trans e2) _ _ hpa) hag) fun H3 x3 h3 => ?_
    have := hq H3
    rw [hc] at this
    exact this ((ExX.of (e1.trans e2)).trans x3) h3
/-- where no function is ahead -/
theorem okLCalled0 : Cal P w K mg base 1 "_law_called" (spLCalled K 0) [] := by
  obtain ⟨fd, F⟩ := T.DLCalled
  refine cal_of T.g_law_called F (F.bindsN fun _ _ _ _ _ _ us hl => match us, hl with | [_, _, _, _, _, _], _ => rfl) scLCalled (fun vs H Q E h => ?_) (fun cdv A outer s H vs Q E hr h => ?_)
  · obtain ⟨b, bv, dh, t, s, pa, args, g, rfl, _⟩ := h; rfl
  · obtain ⟨b, bv, dh, t, s, pa, args, g, rfl, sc, hgm, _⟩ := h
    rw [List.take_zero] at hgm
    cases hgm
theorem okLCalledN : ∀ i, ∃ k, k ≤ 1 + 8 * i ∧ Cal P w K mg base k "_law_called" (spLCalled K i) []
  | 0 => ⟨1, by omega, okLCalled0 T⟩
  | i + 1 => by
    obtain ⟨k, hk, hC⟩ := okLCalledN i
    exact ⟨_, by omega, okLCalled T i (k + 1 + 3 + 1) _ (okLRan T i _ (okLWorked T i k hC 3)) (Nat.le_refl _) (by omega)⟩
theorem okLRan2 : ∃ k, k ≤ 24 ∧ Cal P w K mg base k "_law_ran" (spLRan K 2) [] := by
  obtain ⟨k, hk, hC⟩ := okLCalledN (P := P) (w := w) (base := base) T 2
  exact ⟨_, by omega, okLRan T 2 _ (okLWorked T 2 k hC 3)⟩

end
end SC
set_option Elab.async false
set_option linter.all false
set_option maxRecDepth 100000
set_option maxHeartbeats 1000000
/-! L8: the states and the inputs that the law counts. -/
namespace SC
open PySem PySem.Spec PyProof.Rows L2 C8 Evl
theorem op_catAK {X : Cx} {K : PySem.W.Frag} (h : X.K = K) : OpR X (binaryOp .Add) (rCatA K) := by subst h; exact op_catA
theorem evix_listN {K : PySem.W.Frag} {d : Addr} {σ : L2.St} {H : Hp} {te : TE} {xs : List V} {o : HO} (h : EvL te σ H xs) (hd : H d = some o) : EvIX d (iList K te) σ H xs := fun H1 e R q =>
  h H1 e _ fun p H2 hp e2 h2 => ⟨p, rfl, ⟨xs, sq_of h2⟩, q _ _ _ e2 (fun H' e' => sq_of (e' _ _ (fun z => by rw [z, e _ _ hd] at hp; cases hp) h2)) walk_list⟩
def StD (H : Hp) (s : Sta) (v : V) : Prop := ∃ d, v = .ref d ∧ H d = some (.dK (stV s))
theorem StD.mono {H H' : Hp} (e : Ex H H') {s : Sta} {v : V} (h : StD H s v) : StD H' s v := let ⟨d, h1, h2⟩ := h; ⟨d, h1, e _ _ h2⟩
theorem StD.monoX {H H' : Hp} {l : Addr} {ys : List V} (hl : H l = some (.lst ys)) (x : ExX l H H') {s : Sta} {v : V} (h : StD H s v) : StD H' s v := let ⟨d, h1, h2⟩ := h; ⟨d, h1, x _ _ (fun z => by rw [z, hl] at h2; cases h2) h2⟩
def spLStates (K : PySem.W.Frag) : Sp := fun vs H Q _ => ∃ (a : Addr) (cs : List Str), vs = [.ref a] ∧ H a = some (.lst (cs.map V.str)) ∧ cs.length ≤ 3 ∧ cs.Nodup ∧ ∀ p xs H2, H p = none → Ex H H2 → H2 p = some (.lst xs) → Paired (StD H2) (statesL cs) xs → Q (.ref p) H2
theorem grow_app (a b : List Sta) (c : Str) : grow (a ++ b) c = grow a c ++ grow b c := by unfold grow; rw [List.flatMap_append]
theorem grow_len (a : List Sta) (c : Str) : (grow a c).length = a.length * 3 := by
  induction a with
  | nil => rfl
  | cons s r ih =>
    show ([setS s c 0, setS s c 1, setS s c 2] ++ grow r c).length = _
    rw [List.length_append, ih]
    simp only [List.length_cons, List.length_nil]
    omega
theorem states_snoc (l : List Str) (c : Str) : statesL (l ++ [c]) = grow (statesL l) c := by unfold statesL; rw [List.foldl_append]; rfl
theorem states_ok {cs : List Str} (h : cs.length ≤ 3) (hn : cs.Nodup) : (statesL cs).length ≤ 27 ∧ ∀ s ∈ statesL cs, keysS s = cs := by
  rw [states_digs cs.length cs rfl hn]
  refine ⟨?_, fun s hs => ?_⟩
  · rw [List.length_map, List.length_range]
    have h1 : 3 ^ cs.length ≤ 3 ^ 3 := Nat.pow_le_pow_right (by omega) h
    omega
  · obtain ⟨n, _, rfl⟩ := List.mem_map.mp hs
    exact keys_digs cs n
def InpV (H : Hp) (many : Nat) (v : V) : Prop := ∃ q args, v = .ref q ∧ H q = some (.tup (args.map V.int)) ∧ ArgOk many args
def spLInputs (K : PySem.W.Frag) : Sp := fun vs H Q _ => ∃ (many : Nat), vs = [.int (many : Int)] ∧ many ≤ 2 ∧ ∀ p xs H2, H p = none → Ex H H2 → H2 p = some (.lst xs) → xs.length ≤ 9 → (∀ x ∈ xs, InpV H2 many x) → Q (.ref p) H2
theorem InpV.mono {H H' : Hp} (e : Ex H H') {m : Nat} {v : V} (h : InpV H m v) : InpV H' m v := let ⟨q, a, h1, h2, h3⟩ := h; ⟨q, a, h1, e _ _ h2, h3⟩
theorem InpV.monoN {H H' : Hp} (e : ExN H H') {m : Nat} {v : V} (h : InpV H m v) : InpV H' m v := let ⟨q, a, h1, h2, h3⟩ := h; ⟨q, a, h1, e.at h2, h3⟩

section
variable {P : Program} {w : World} {K : PySem.W.Frag} {mg : Str → Option Value} {base : Heap} (T : Tx K mg)
include T

omit T in
theorem scLStates : FnScope ["_law_cells", "_law_found_here", "_law_cell", "_law_later", "_law_state", "_law_value", "_law_more"] ["_law_cells"] (defScope sLStates) := ⟨rfl, rfl, rfl, by decide +kernel, rfl, by decide +kernel, by decide +kernel⟩
theorem okLStates : Cal P w K mg base 1 "_law_states" (spLStates K) [] := by
  obtain ⟨fd, F⟩ := T.DLStates
  refine cal_of T.g_law_states F (F.bindsN fun _ _ _ _ _ _ us hl => match us, hl with | [_], _ => rfl) scLStates (fun vs H Q E h => ?_) (fun cdv A outer s H vs Q E hr h => ?_)
  · obtain ⟨a, cs, rfl, _⟩ := h; rfl
  · refine ⟨_, (pss_cons (ps_set (i := 1) scLStates.nd rfl (by first | exact Or.inl rfl | exact Or.inr rfl) (pe_lst (pa_cons pe_dnewK pa_nil))) (pss_cons (ps_for PassesOwn.never rfl (pi_list (pv 0)) (pg_name (i := 2) scLStates.nd rfl (by first | exact Or.inl rfl | exact Or.inr rfl)) (pss_cons (ps_set (i := 3) scLStates.nd rfl (by first | exact Or.inl rfl | exact Or.inr rfl) (pe_lst pa_nil)) (pss_cons (ps_for PassesOwn.never rfl (pi_list (pe_callTy call_list_of rfl T.f_list (by decide +kernel) (pa_cons (pv 1) pa_nil))) (pg_name (i := 4) scLStates.nd rfl (by first | exact Or.inl rfl | exact Or.inr rfl)) (pss_one (ps_for PassesOwn.never rfl (pi_range1 (by rfl) T.f_range (pa_cons pe_int pa_nil)) (pg_name (i := 5) scLStates.nd rfl (by first | exact Or.inl rfl | exact Or.inr rfl)) (pss_cons (ps_set (i := 6) scLStates.nd rfl (by first | exact Or.inl rfl | exact Or.inr rfl) (pe_callTy call_dictD rfl T.f_dict (by decide +kernel) (pa_cons (pv 4) pa_nil))) (pss_cons (ps_dput (hu_of hr) (pv 6) (pv 2) (pv 5) rfl) (pss_one (ps_expr (pe_bm PySem.F.plainAttrs_list PySem.F.slot_list_append PySem.F.type_list_append mt_append (pv 3) (pa_cons (pv 6) pa_nil))))))))) (pss_one (ps_set (i := 1) scLStates.nd rfl (by first | exact Or.inl rfl | exact Or.inr rfl) (pv 3)))))) (pss_one (ps_ret (pv 1))))), ?_⟩
    obtain ⟨a, cs, rfl, ha, hl, hn, hq⟩ := h
    refine q_asgE (e_lst (e_cons fun d0 hd0 => ⟨show 1 ≤ sizeLine by decide, fun p0 hp0 => ?_⟩))
    have e1 : Ex H (upd (upd H d0 (.dK [])) p0 (.lst [.ref d0])) := (Ex.new hd0).trans (Ex.new hp0)
    have hd1 : (upd (upd H d0 (.dK [])) p0 (.lst [.ref d0])) d0 = some (.dK []) := (Ex.new hp0) _ _ upd_same
    have hp1 : (upd (upd H d0 (.dK [])) p0 (.lst [.ref d0])) p0 = some (.lst [.ref d0]) := upd_same
    show tSeq _ _ _ _ (upd (upd H d0 (.dK [])) p0 (.lst [.ref d0]))
    have hp0H : H p0 = none := fresh_back (Ex.new hd0) hp0
    generalize (upd (upd H d0 (.dK [])) p0 (.lst [.ref d0])) = H1 at e1 hd1 hp1
    refine q_forI (evi_list (ev_var rfl) (sq_of (e1 _ _ ha))) (fun i σ' H' => Ex H H' ∧ ∃ pf xs x2 x3 x4 x5 x6, σ' = [some (.ref a), some (.ref pf), x2, x3, x4, x5, x6] ∧ H pf = none ∧ H' pf = some (.lst xs) ∧ Paired (StD H') (statesL (cs.take i)) xs) (fun H2 e2 => ⟨e1.trans e2, p0, [.ref d0], none, none, none, none, none, rfl, hp0H, e2 _ _ hp1, .cons ⟨d0, rfl, e2 _ _ hd1⟩ .nil⟩) (fun i x σ' H' hx eH hP => ?_) (fun σ' H' eH hP => ?_)
    · obtain ⟨e0, pf, xs, x2, x3, x4, x5, x6, rfl, hpf0, hpf, hxs⟩ := hP
      obtain ⟨c, hc, rfl⟩ : ∃ c, cs[i]? = some c ∧ V.str c = x := by
        rw [List.getElem?_map] at hx
        exact Option.map_eq_some_iff.mp hx
      have hti : (cs.take i).length ≤ 3 := by rw [List.length_take]; omega
      obtain ⟨hS1, hS2⟩ := states_ok hti (hn.sublist (List.take_sublist i cs))
      have tk : cs.take (i + 1) = cs.take i ++ [c] := by rw [List.take_add_one, hc]; rfl
      generalize hSd : statesL (cs.take i) = S at hxs hS1 hS2
      refine q_asgL (el_lst ea_nil (by decide)) fun pl H2 hpl0 e2 hpl => ?_
      have hpl0H : H pl = none := fresh_back e0 hpl0
      refine q_forX (d := pl) (evix_listN (K := K) (el_listL (ev_var rfl) (sq_of (e2 _ _ hpf))) hpl) (fun j σ2 H3 => ∃ ys x4 x5 x6, σ2 = [some (.ref a), some (.ref pf), some (.str c), some (.ref pl), x4, x5, x6] ∧ H3 pl = some (.lst ys) ∧ Paired (StD H3) (grow (S.take j) c) ys) (fun H3 e3 => ⟨[], x4, x5, x6, rfl, e3 _ _ hpl, .nil⟩) (fun j y σ2 H3 hy xX hP => ?_) (fun σ2 H3 xX hP => ?_)
      · obtain ⟨ys, x4, x5, x6, rfl, hys, hpd⟩ := hP
        obtain ⟨s, hs, hsy⟩ := Paired.getR hxs hy
        obtain ⟨ds, rfl, hds⟩ := StD.monoX hpl xX (StD.mono e2 hsy)
        have hsl : s.length ≤ 3 := by
          have h1 := hS2 s (List.mem_of_getElem? hs)
          have h2 : (keysS s).length ≤ 3 := by rw [h1]; exact hti
          unfold keysS at h2
          rw [List.length_map] at h2
          exact h2
        have hgl : (grow (S.take j) c).length ≤ 81 := by rw [grow_len, List.length_take]; omega
        refine s_forX (d := pl) (evix_rng (n := 3) (ea_cons ev_c ea_nil) (by decide)) (fun k σ3 H4 => ∃ ys x5 x6, σ3 = [some (.ref a), some (.ref pf), some (.str c), some (.ref pl), some (.ref ds), x5, x6] ∧ H4 pl = some (.lst ys) ∧ H4 ds = some (.dK (stV s)) ∧ Paired (StD H4) (grow (S.take j) c ++ ([0, 1, 2].take k).map fun v => setS s c v) ys) (fun H4 e4 => ⟨ys, x5, x6, rfl, e4 _ _ hys, e4 _ _ hds, by simpa using Paired.mapP hpd fun _ _ z => StD.mono e4 z⟩) (fun k z σ3 H4 hz xZ hP => ?_) (fun σ3 H4 xZ hP => ?_)
        · obtain ⟨ys, x5, x6, rfl, hys, hds4, hpd⟩ := hP
          obtain ⟨k', hk', rfl⟩ : ∃ k' : Nat, (List.range 3)[k]? = some k' ∧ V.int (k' : Int) = z := by
            rw [List.getElem?_map] at hz
            exact Option.map_eq_some_iff.mp hz
          obtain ⟨hkl, hke⟩ := List.getElem?_eq_some_iff.mp hk'
          rw [List.getElem_range] at hke
          subst hke
          rw [List.length_range] at hkl
          have hysl : ys.length ≤ 100 := by
            rw [← Paired.length hpd, List.length_append, List.length_map, List.length_take]
            have : ([0, 1, 2] : List Int).length = 3 := rfl
            omega
          refine q_asgD (ed_dict (ev_var rfl) hds4) fun dm H5 hdm e5 hdm5 => ?_
          refine q_dput (d := dm) (ev_var rfl) (ev_var rfl) (ev_var rfl) hdm5 (by rw [stV_len]; omega) fun H6 x6' h6 => ?_
          have e46 : Ex H4 H6 := ExX.ex x6' e5 hdm
          refine s_app (l := pl) (e46 _ _ hys) (ev_var rfl) (ev_var rfl) (by omega) fun H7 e7 => ⟨fun b o nb hb => by rw [upd_ne nb]; exact (e46.trans e7) b o hb, ys ++ [.ref dm], _, _, rfl, upd_same, ?_, ?_⟩
          · rw [upd_ne (fun zz => by rw [zz, hys] at hds4; cases hds4)]
            exact (e46.trans e7) _ _ hds4
          · have eN : ExN H7 (upd H7 pl (.lst (ys ++ [.ref dm]))) := ExN.lst ((e46.trans e7) _ _ hys)
            have tk3 : (([0, 1, 2] : List Int).take (k + 1)).map (fun v => setS s c v) = ([0, 1, 2].take k).map (fun v => setS s c v) ++ [setS s c (k : Int)] := by
              match k, hkl with
              | 0, _ => rfl
              | 1, _ => rfl
              | 2, _ => rfl
            rw [tk3, ← List.append_assoc]
            refine Paired.snoc (Paired.mapP hpd fun _ _ z => ?_) ⟨dm, rfl, ?_⟩
            · obtain ⟨d9, h91, h92⟩ := StD.mono (e46.trans e7) z
              exact ⟨d9, h91, eN.at h92⟩
            · refine eN.at (e7 _ _ ?_)
              rw [h6, stV_set]
        · obtain ⟨ys, x5, x6, rfl, hys, hds4, hpd⟩ := hP
          refine ⟨xZ, ys, _, _, _, rfl, hys, ?_⟩
          have tkj : S.take (j + 1) = S.take j ++ [s] := by rw [List.take_add_one, hs]; rfl
          rw [tkj, grow_app]
          exact hpd
      · obtain ⟨ys, x4, x5, x6, rfl, hys, hpd⟩ := hP
        rw [← Paired.length hxs, List.take_length] at hpd
        have e3 : Ex H' H3 := ExX.ex xX e2 hpl0
        refine s_asg (ev_var rfl) fun H4 e4 => ⟨e3.trans e4, (e0.trans e3).trans e4, pl, ys, _, _, _, _, _, rfl, hpl0H, e4 _ _ hys, ?_⟩
        rw [tk, states_snoc, hSd]
        exact Paired.mapP hpd fun _ _ z => StD.mono e4 z
    · obtain ⟨e0, pf, xs, x2, x3, x4, x5, x6, rfl, hpf0, hpf, hxs⟩ := hP
      rw [List.length_map, List.take_length] at hxs
      exact s_ret (ev_var rfl) fun H2 e2 => hq pf xs H2 hpf0 (e0.trans e2) (e2 _ _ hpf) (Paired.mapP hxs fun _ _ z => StD.mono e2 z)

omit T in
theorem scLInputs : FnScope ["_law_many", "_law_found_here", "_law_turn", "_law_later", "_law_row", "_law_value"] ["_law_many"] (defScope sLInputs) := ⟨rfl, rfl, rfl, by decide +kernel, rfl, by decide +kernel, by decide +kernel⟩
theorem okLInputs : Cal P w K mg base 1 "_law_inputs" (spLInputs K) [] := by
  obtain ⟨fd, F⟩ := T.DLInputs
  refine cal_of T.g_law_inputs F (F.bindsN fun _ _ _ _ _ _ us hl => match us, hl with | [_], _ => rfl) scLInputs (fun vs H Q E h => ?_) (fun cdv A outer s H vs Q E hr h => ?_)
  · obtain ⟨m, rfl, _⟩ := h; rfl
  · refine ⟨_, (pss_cons (ps_set (i := 1) scLInputs.nd rfl (by first | exact Or.inl rfl | exact Or.inr rfl) (pe_lst (pa_cons (pe_tup pa_nil) pa_nil))) (pss_cons (ps_for PassesOwn.never rfl (pi_range1 (by rfl) T.f_range (pa_cons (pv 0) pa_nil)) (pg_name (i := 2) scLInputs.nd rfl (by first | exact Or.inl rfl | exact Or.inr rfl)) (pss_cons (ps_set (i := 3) scLInputs.nd rfl (by first | exact Or.inl rfl | exact Or.inr rfl) (pe_lst pa_nil)) (pss_cons (ps_for PassesOwn.never rfl (pi_list (pe_callTy call_list_of rfl T.f_list (by decide +kernel) (pa_cons (pv 1) pa_nil))) (pg_name (i := 4) scLInputs.nd rfl (by first | exact Or.inl rfl | exact Or.inr rfl)) (pss_one (ps_set (i := 3) scLInputs.nd rfl (by first | exact Or.inl rfl | exact Or.inr rfl) (pe_op op_cat (pv 3) (pe_lc  (own := [("_law_value", 5)]) (by rfl) scLInputs.nd (pi_range1 (by rfl) T.f_range (pa_cons pe_int pa_nil)) (blkOk_by (own := [("_law_value", 5)]) (N := ["_law_many", "_law_found_here", "_law_turn", "_law_later", "_law_row", "_law_value"]) (sc := defScope sLInputs) (by decide +kernel)) (fun _ _ _ _ _ => (pg_name (i := 5) scLInputs.nd rfl (by first | exact Or.inl rfl | exact Or.inr rfl))) (fun _ _ _ _ _ => pts_nil) (fun _ _ _ _ _ => (pe_op (op_catAK rfl) (pv 4) (pe_tup (pa_cons (pv 5) pa_nil))))))))) (pss_one (ps_set (i := 1) scLInputs.nd rfl (by first | exact Or.inl rfl | exact Or.inr rfl) (pv 3)))))) (pss_one (ps_ret (pv 1))))), ?_⟩
    obtain ⟨m, rfl, hm, hq⟩ := h
    refine q_asgE (e_lst (e_cons (e_tup ⟨Nat.zero_le _, fun d0 hd0 => ⟨show 1 ≤ sizeLine by decide, fun p0 hp0 => ?_⟩⟩)))
    have e1 : Ex H (upd (upd H d0 (.tup [])) p0 (.lst [.ref d0])) := (Ex.new hd0).trans (Ex.new hp0)
    have hd1 : (upd (upd H d0 (.tup [])) p0 (.lst [.ref d0])) d0 = some (.tup []) := (Ex.new hp0) _ _ upd_same
    have hp1 : (upd (upd H d0 (.tup [])) p0 (.lst [.ref d0])) p0 = some (.lst [.ref d0]) := upd_same
    show tSeq _ _ _ _ (upd (upd H d0 (.tup [])) p0 (.lst [.ref d0]))
    have hp0H : H p0 = none := fresh_back (Ex.new hd0) hp0
    generalize (upd (upd H d0 (.tup [])) p0 (.lst [.ref d0])) = H1 at e1 hd1 hp1
    refine q_forI (evi_rng (n := m) (ea_cons (ev_var rfl) ea_nil) (by omega)) (fun i σ' H' => Ex H H' ∧ ∃ pf xs x2 x3 x4, σ' = [some (.int (m : Int)), some (.ref pf), x2, x3, x4, none] ∧ H pf = none ∧ H' pf = some (.lst xs) ∧ xs.length = 3 ^ i ∧ ∀ x ∈ xs, InpV H' i x) (fun H2 e2 => ⟨e1.trans e2, p0, [.ref d0], none, none, none, rfl, hp0H, e2 _ _ hp1, rfl, fun x hx => by rw [List.mem_singleton.mp hx]; exact ⟨d0, [], rfl, e2 _ _ hd1, rfl, fun a ha => by cases ha⟩⟩) (fun i x σ' H' hx eH hP => ?_) (fun σ' H' eH hP => ?_)
    · obtain ⟨e0, pf, xs, x2, x3, x4, rfl, hpf0, hpf, hxl, hxs⟩ := hP
      have hi : i < m := by
        obtain ⟨h1, _⟩ := List.getElem?_eq_some_iff.mp hx
        rw [List.length_map, List.length_range] at h1
        exact h1
      have h3i : 3 ^ i ≤ 3 := by
        have h1 : 3 ^ i ≤ 3 ^ 1 := Nat.pow_le_pow_right (by omega) (by omega)
        omega
      refine q_asgL (el_lst ea_nil (by decide)) fun pl H2 hpl0 e2 hpl => ?_
      have hpl0H : H pl = none := fresh_back e0 hpl0
      refine q_forI (evi_listN (K := K) (el_listL (ev_var rfl) (sq_of (e2 _ _ hpf)))) (fun j σ2 H3 => Ex H2 H3 ∧ ∃ pl ys x4, σ2 = [some (.int (m : Int)), some (.ref pf), some x, some (.ref pl), x4, none] ∧ H pl = none ∧ H3 pl = some (.lst ys) ∧ ys.length = j * 3 ∧ ∀ y ∈ ys, InpV H3 (i + 1) y) (fun H3 e3 => ⟨e3, pl, [], x4, rfl, hpl0H, e3 _ _ hpl, rfl, fun _ z => by cases z⟩) (fun j y σ2 H3 hy e3 hP => ?_) (fun σ2 H3 e3 hP => ?_)
      · obtain ⟨e3', pl, ys, x4, rfl, hplH, hpl3, hyl, hys⟩ := hP
        have hj : j < xs.length := (List.getElem?_eq_some_iff.mp hy).1
        obtain ⟨q, args, rfl, hq3, hag⟩ := (InpV.mono (e2.trans e3') (hxs y (List.mem_of_getElem? hy)))
        have hlist := lc_gen (tt := tYes) (te := tOp (rCatA K) (tVar 4) (tTup (tCons (tVar 5) tNil))) (vs := [5]) (j := 5) (σ := [some (.int (m : Int)), some (.ref pf), some x, some (.ref pl), some (.ref q), none]) (H := H3) (evi_rng (n := 3) (ta := tCons (tC (.int 3)) tNil) (ea_cons ev_c ea_nil) (by decide)) (fun k acc H' => acc.length = k ∧ ∀ z ∈ acc, InpV H' (i + 1) z) (fun _ _ _ _ e h => ⟨h.1, fun z hz => InpV.monoN e (h.2 z hz)⟩) (fun _ _ => ⟨rfl, fun _ z => by cases z⟩) (by decide) (fun _ => rfl) fun k z acc H4 hz e4 hl4 hi4 => ?_
        rotate_left
        · obtain ⟨k', hk', rfl⟩ : ∃ k' : Nat, (List.range 3)[k]? = some k' ∧ V.int (k' : Int) = z := by
            rw [List.getElem?_map] at hz
            exact Option.map_eq_some_iff.mp hz
          obtain ⟨hkl, hke⟩ := List.getElem?_eq_some_iff.mp hk'
          rw [List.getElem_range] at hke
          subst hke
          rw [List.length_range] at hkl
          refine ⟨true, et_yes, fun _ H5 e5 Q q2 => ?_, fun z => by cases z⟩
          have hq5 := (e4.trans e5) _ _ hq3
          have hal : args.length = i := hag.1
          have good : ArgOk (i + 1) (args ++ [(k : Int)]) := ⟨by rw [List.length_append, hal]; rfl, fun a ha => by
            rcases List.mem_append.mp ha with h | h
            · exact hag.2 a h
            · rw [List.mem_singleton.mp h]; omega⟩
          have fin : ∀ (t : Addr) (H6 : Hp), Ex H5 H6 → H6 t = some (.tup ((args ++ [(k : Int)]).map V.int)) → Q (.ref t) H6 := fun t H6 e6 ht => q2 _ H6 e6 ⟨by rw [List.length_append, hi4.1]; rfl, fun z hz => by
            rcases List.mem_append.mp hz with h | h
            · exact InpV.mono (e5.trans e6) (hi4.2 z h)
            · rw [List.mem_singleton.mp h]; exact ⟨t, _, rfl, ht, good⟩⟩
          refine e_opX (e_vX rfl (e_tup (e_cons (e_vX rfl ⟨show 1 ≤ sizeLine by decide, fun t ht => ⟨q, t, args.map V.int, [.int (k : Int)], rfl, rfl, st_of ((Ex.new ht) _ _ hq5), st_of upd_same, ?_, fun ze => ?_, fun _ ze => (by cases ze), fun _ _ c hc => ?_⟩⟩))))
          · rw [sizeLine_eq, List.length_map, hal]
            show i + 1 ≤ _
            omega
          · have ha0 : args = [] := List.map_eq_nil_iff.mp ze
            refine fin t _ (Ex.new ht) ?_
            rw [ha0]
            exact upd_same
          · refine fin c _ ((Ex.new ht).trans (Ex.new hc)) ?_
            rw [List.map_append]
            exact upd_same
        refine s_asgX (e_opX (e_vX rfl (hlist H3 (Ex.refl _) _ fun p9 zs H4 hp9 e4 hz4 hzs => ⟨pl, p9, ys, zs, rfl, rfl, e4 _ _ hpl3, hz4, ?_, fun pn hpn => ?_⟩)))
        · have h1 : zs.length = 3 := by have := hzs.1; simpa using this
          rw [sizeLine_eq, hyl, h1]
          omega
        · refine ⟨e4.trans (Ex.new hpn), e3'.trans (e4.trans (Ex.new hpn)), pn, ys ++ zs, _, rfl, fresh_back (e0.trans (e2.trans (e3'.trans e4))) hpn, upd_same, ?_, fun z hz => ?_⟩
          · have h1 : zs.length = 3 := by have := hzs.1; simpa using this
            rw [List.length_append, hyl, h1]
            omega
          · rcases List.mem_append.mp hz with h | h
            · exact InpV.mono (e4.trans (Ex.new hpn)) (hys z h)
            · exact InpV.mono (Ex.new hpn) (hzs.2 z h)
      · obtain ⟨e3', pl, ys, x4, rfl, hplH, hpl3, hyl, hys⟩ := hP
        refine s_asg (ev_var rfl) fun H4 e4 => ⟨(e2.trans e3').trans e4, (e0.trans (e2.trans e3')).trans e4, pl, ys, _, _, _, rfl, hplH, e4 _ _ hpl3, ?_, fun z hz => InpV.mono e4 (hys z hz)⟩
        rw [hyl, hxl, Nat.pow_succ]
    · obtain ⟨e0, pf, xs, x2, x3, x4, rfl, hpf0, hpf, hxl, hxs⟩ := hP
      rw [List.length_map, List.length_range] at hxl hxs
      have h9 : 3 ^ m ≤ 9 := by
        have h1 : 3 ^ m ≤ 3 ^ 2 := Nat.pow_le_pow_right (by omega) hm
        omega
      exact s_ret (ev_var rfl) fun H2 e2 => hq pf xs H2 hpf0 (e0.trans e2) (e2 _ _ hpf) (by omega) fun x hx => InpV.mono e2 (hxs x hx)

end
end SC
set_option Elab.async false
set_option linter.all false
set_option maxRecDepth 100000
set_option maxHeartbeats 1000000
/-! L9: the words in a function, as the law finds them. -/
namespace SC
open PySem PySem.Spec PyProof.Rows L2 C8 Evl
inductive WK | call | cell | tick
def WK.name : WK → Str
  | .call => "call"
  | .cell => "cell"
  | .tick => "tick"
def tickW (b : Bool) : List Str := match b with
  | true => [("tick" : Str)]
  | false => []
theorem mem_tickW {b : Bool} {x : Str} : x ∈ tickW b ↔ b = true ∧ x = ("tick" : Str) := by cases b <;> simp [tickW]
def wordsT : WK → Tm → List Str
  | .call, t => callsT t
  | .cell, t => cellsT t
  | .tick, t => tickW (tickT t)
def wordsF (k : WK) (g : Fn) : List Str := g.parts.flatMap (wordsT k)
/-- what the law puts in wait for a term -/
def kidsW : Tm → List Tm
  | .lf (.arg i) => [.lf (.val (i : Int))]
  | .lf _ => []
  | .call _ as => as.map .lf
  | .op _ a b => [a, b]
  | .ite c a b => [c, a, b]
def ownW : WK → Tm → List Str
  | .call, .call f _ => [f]
  | .cell, .lf (.cel c) => [c]
  | .tick, .lf .tick => ["tick"]
  | _, _ => []
def wtL : Lf → Nat
  | .arg _ => 2
  | _ => 1
def wt : Tm → Nat
  | .lf l => wtL l
  | .call _ as => 1 + (as.map wtL).sum
  | .op _ a b => 1 + (wt a + wt b)
  | .ite c a b => 1 + (wt c + (wt a + wt b))
def wts (l : List Tm) : Nat := (l.map wt).sum
theorem wts_app (a b : List Tm) : wts (a ++ b) = wts a + wts b := by unfold wts; simp
theorem wt_kids (t : Tm) : wt t = 1 + wts (kidsW t) := by
  cases t with
  | lf l => cases l <;> rfl
  | call f as =>
    show 1 + (as.map wtL).sum = 1 + ((as.map Tm.lf).map wt).sum
    rw [List.map_map]; rfl
  | op o a b => simp [wt, kidsW, wts]
  | ite c a b => simp [wt, kidsW, wts]
theorem wt_pos (t : Tm) : 1 ≤ wt t := by rw [wt_kids]; omega
theorem wtL_le (l : Lf) : wtL l ≤ 2 := by cases l <;> simp [wtL]
theorem wt_size : ∀ t : Tm, wt t ≤ 2 * t.size
  | .lf l => wtL_le l
  | .call f as => by
    show 1 + (as.map wtL).sum ≤ 2 * (1 + as.length)
    have : (as.map wtL).sum ≤ 2 * as.length := by
      induction as with
      | nil => simp
      | cons a r ih =>
        have := wtL_le a
        simp only [List.map_cons, List.sum_cons, List.length_cons]
        omega
    omega
  | .op o a b => by
    have := wt_size a
    have := wt_size b
    show 1 + (wt a + wt b) ≤ 2 * (1 + (a.size + b.size))
    omega
  | .ite c a b => by
    have := wt_size a
    have := wt_size b
    have := wt_size c
    show 1 + (wt c + (wt a + wt b)) ≤ 2 * (1 + (c.size + (a.size + b.size)))
    omega
theorem words_kids (k : WK) (t : Tm) (x : Str) : x ∈ wordsT k t ↔ x ∈ ownW k t ∨ ∃ u ∈ kidsW t, x ∈ wordsT k u := by
  cases k with
  | call =>
    cases t with
    | lf l => cases l <;> simp [wordsT, ownW, kidsW, callsT]
    | call f as => simp [wordsT, ownW, kidsW, callsT]
    | op o a b => simp [wordsT, ownW, kidsW, callsT]
    | ite c a b => simp [wordsT, ownW, kidsW, callsT]
  | cell =>
    cases t with
    | lf l => cases l <;> simp [wordsT, ownW, kidsW, cellsT, Lf.isCel]
    | call f as =>
      simp only [wordsT, ownW, kidsW, cellsT, List.not_mem_nil, false_or, List.mem_flatMap, List.mem_map]
      constructor
      · rintro ⟨l, hl, hx⟩
        exact ⟨.lf l, ⟨l, hl, rfl⟩, hx⟩
      · rintro ⟨u, ⟨l, hl, rfl⟩, hx⟩
        exact ⟨l, hl, hx⟩
    | op o a b => simp [wordsT, ownW, kidsW, cellsT]
    | ite c a b => simp [wordsT, ownW, kidsW, cellsT]
  | tick =>
    simp only [wordsT, mem_tickW]
    cases t with
    | lf l => cases l <;> simp [ownW, kidsW, tickT, Lf.isTick]
    | call f as =>
      simp only [ownW, kidsW, tickT, List.not_mem_nil, false_or]
      constructor
      · rintro ⟨h, hx⟩
        obtain ⟨l, hl, ht⟩ := List.any_eq_true.mp h
        exact ⟨.lf l, List.mem_map.mpr ⟨l, hl, rfl⟩, ht, hx⟩
      · rintro ⟨u, hu, ht, hx⟩
        obtain ⟨l, hl, rfl⟩ := List.mem_map.mp hu
        exact ⟨List.any_eq_true.mpr ⟨l, hl, ht⟩, hx⟩
    | op o a b =>
      simp only [ownW, kidsW, tickT, List.not_mem_nil, false_or, List.mem_cons, or_false, exists_eq_or_imp, exists_eq_left, Bool.or_eq_true]
      constructor
      · rintro ⟨h | h, hx⟩
        · exact .inl ⟨h, hx⟩
        · exact .inr ⟨h, hx⟩
      · rintro (⟨h, hx⟩ | ⟨h, hx⟩)
        · exact ⟨.inl h, hx⟩
        · exact ⟨.inr h, hx⟩
    | ite c a b =>
      simp only [ownW, kidsW, tickT, List.not_mem_nil, false_or, List.mem_cons, or_false, exists_eq_or_imp, exists_eq_left, Bool.or_eq_true]
      constructor
      · rintro ⟨h | h | h, hx⟩
        · exact .inl ⟨h, hx⟩
        · exact .inr (.inl ⟨h, hx⟩)
        · exact .inr (.inr ⟨h, hx⟩)
      · rintro (⟨h, hx⟩ | ⟨h, hx⟩ | ⟨h, hx⟩)
        · exact ⟨.inl h, hx⟩
        · exact ⟨.inr (.inl h), hx⟩
        · exact ⟨.inr (.inr h), hx⟩
def spLWordsIn (K : PySem.W.Frag) : Sp := fun vs H Q _ => ∃ v g k, vs = [v, .str (WK.name k)] ∧ FunL H g v ∧ (∀ t ∈ g.parts, t.size ≤ 13) ∧ g.wr.length ≤ 1 ∧ ∀ (p : Addr) (ws : List Str) (H2 : Hp), H p = none → Ex H H2 → H2 p = some (.lst (ws.map V.str)) → ws.length ≤ 400 → (∀ x, x ∈ ws ↔ x ∈ wordsF k g) → Q (.ref p) H2
def isStrV : V → Bool
  | .str _ => true
  | _ => false
theorem cutV_1 (x : V) (r : List V) : cutV (x :: r) (some 1) none = r := by
  have h1 : HT.sIx (x :: r).length 0 (some 1) = 1 := by simp [HT.sIx]
  have h2 : HT.sIx (x :: r).length (x :: r).length none = (x :: r).length := by simp [HT.sIx]
  unfold cutV
  rw [h1, h2]
  simp
def IsPart (H : Hp) (x : V) : Prop := (∃ i, x = .int i) ∨ (∃ s, x = .str s) ∨ ∃ p ys, x = .ref p ∧ H p = some (.tup ys)
theorem tm_part {H : Hp} {t : Tm} {v : V} (h : TmAt H t v) : IsPart H v ∧ isStrV v = false := by
  rcases tm_shape h with ⟨n, rfl, rfl⟩ | ⟨p, k, r, rfl, _, hp⟩
  · exact ⟨.inl ⟨n, rfl⟩, rfl⟩
  · exact ⟨.inr (.inr ⟨p, _, rfl, hp⟩), rfl⟩
theorem op_name_ne (o : Op) (k : WK) : opName o ≠ WK.name k ∧ opName o ≠ ("call" : Str) := by
  cases o <;> cases k <;> decide +kernel
theorem kind_own {H : Hp} (k : WK) {tm : Tm} {v : V} (h : TmAt H tm v) : (∃ n, tm = .lf (.val n) ∧ v = .int n) ∨ ∃ q kd r, v = .ref q ∧ H q = some (.tup (.str kd :: r)) ∧
    ((kd = WK.name k ∧ ((WK.name k = ("tick" : Str) ∧ ownW k tm = [("tick" : Str)]) ∨ (WK.name k ≠ ("tick" : Str) ∧ ∃ w r', r = .str w :: r' ∧ ownW k tm = [w]))) ∨ (kd ≠ WK.name k ∧ ownW k tm = [])) ∧
    (kd = ("call" : Str) → ∃ f as qa us, tm = .call f as ∧ r = [.str f, .ref qa] ∧ H qa = some (.tup us) ∧ Paired (LfAt H) as us) ∧
    (kd ≠ ("call" : Str) → Paired (TmAt H) (kidsW tm) (r.filter fun x => !isStrV x) ∧ r.length ≤ 3 ∧ ∀ x ∈ r, IsPart H x) := by
  cases tm with
  | lf l =>
    cases l with
    | val n => exact .inl ⟨n, rfl, h⟩
    | arg i =>
      obtain ⟨q, rfl, hq⟩ := h
      refine .inr ⟨q, _, _, rfl, hq, .inr ⟨by cases k <;> decide +kernel, by cases k <;> rfl⟩, fun z => absurd z (by decide +kernel), fun _ => ⟨.cons (show TmAt H (.lf (.val (i : Int))) _ from rfl) .nil, by simp, fun x hx => ?_⟩⟩
      rw [List.mem_singleton.mp hx]; exact .inl ⟨_, rfl⟩
    | cel c =>
      obtain ⟨q, rfl, hq⟩ := h
      refine .inr ⟨q, _, _, rfl, hq, ?_, fun z => absurd z (by decide +kernel), fun _ => ⟨.nil, by simp, fun x hx => ?_⟩⟩
      · cases k with
        | call => exact .inr ⟨by decide +kernel, rfl⟩
        | cell => exact .inl ⟨rfl, .inr ⟨by decide +kernel, c, [], rfl, rfl⟩⟩
        | tick => exact .inr ⟨by decide +kernel, rfl⟩
      · rw [List.mem_singleton.mp hx]; exact .inr (.inl ⟨_, rfl⟩)
    | tick =>
      obtain ⟨q, rfl, hq⟩ := h
      refine .inr ⟨q, _, _, rfl, hq, ?_, fun z => absurd z (by decide +kernel), fun _ => ⟨.nil, by simp, fun x hx => by cases hx⟩⟩
      cases k with
      | call => exact .inr ⟨by decide +kernel, rfl⟩
      | cell => exact .inr ⟨by decide +kernel, rfl⟩
      | tick => exact .inl ⟨rfl, .inl ⟨rfl, rfl⟩⟩
  | call f as =>
    obtain ⟨q, qa, us, rfl, hq, hqa, hus⟩ := h
    refine .inr ⟨q, _, _, rfl, hq, ?_, fun _ => ⟨f, as, qa, us, rfl, rfl, hqa, hus⟩, fun z => absurd rfl z⟩
    cases k with
    | call => exact .inl ⟨rfl, .inr ⟨by decide +kernel, f, _, rfl, rfl⟩⟩
    | cell => exact .inr ⟨by decide +kernel, rfl⟩
    | tick => exact .inr ⟨by decide +kernel, rfl⟩
  | op o a b =>
    obtain ⟨q, x, y, rfl, hq, ha, hb⟩ := h
    have h1 := tm_part ha
    have h2 := tm_part hb
    refine .inr ⟨q, _, _, rfl, hq, .inr ⟨(op_name_ne o k).1, by cases k <;> rfl⟩, fun z => absurd z (op_name_ne o k).2, fun _ => ⟨?_, by simp, fun z hz => ?_⟩⟩
    · simp only [List.filter_cons, h1.2, h2.2, Bool.not_false, if_true, List.filter_nil]
      exact .cons ha (.cons hb .nil)
    · simp only [List.mem_cons, List.not_mem_nil, or_false] at hz
      rcases hz with rfl | rfl
      · exact h1.1
      · exact h2.1
  | ite c a b =>
    obtain ⟨q, z, x, y, rfl, hq, hc, ha, hb⟩ := h
    have h0 := tm_part hc
    have h1 := tm_part ha
    have h2 := tm_part hb
    refine .inr ⟨q, _, _, rfl, hq, .inr ⟨by cases k <;> decide +kernel, by cases k <;> rfl⟩, fun z => absurd z (by decide +kernel), fun _ => ⟨?_, by simp, fun z hz => ?_⟩⟩
    · simp only [List.filter_cons, h0.2, h1.2, h2.2, Bool.not_false, if_true, List.filter_nil]
      exact .cons hc (.cons ha (.cons hb .nil))
    · simp only [List.mem_cons, List.not_mem_nil, or_false] at hz
      rcases hz with rfl | rfl | rfl
      · exact h0.1
      · exact h1.1
      · exact h2.1
theorem len_wts : ∀ l : List Tm, l.length ≤ wts l
  | [] => Nat.le_refl _
  | t :: r => by
    have := len_wts r
    have := wt_pos t
    show r.length + 1 ≤ wt t + wts r
    omega
section
variable {K : PySem.W.Frag} {σ : L2.St} {H : Hp} {te ta tb : TE} {tz : TS} {D : Ends} {Φ : List V → Hp → Prop}
theorem lp_cat {xs : List V} (ha : EvL ta σ H xs) (hb : EvLP tb σ H Φ) (hm : ∀ ys Ha Hb, Ex Ha Hb → Φ ys Ha → Φ ys Hb) (hz : ∀ ys Ha, Φ ys Ha → xs.length + ys.length ≤ 100000) : EvLP (tOp rCat ta tb) σ H (fun zs H2 => ∃ ys, zs = xs ++ ys ∧ Φ ys H2) := fun H1 e Q q =>
  ha H1 e _ fun a H2 ha0 e2 h2 => hb H2 (e.trans e2) _ fun b ys H3 hb0 e3 h3 hf => ⟨a, b, xs, ys, rfl, rfl, e3 _ _ h2, h3, by rw [sizeLine_eq]; have := hz ys H3 hf; omega, fun p hp => q p _ _ (fresh_back (e2.trans e3) hp) ((e2.trans e3).trans (Ex.new hp)) upd_same ⟨ys, rfl, hm _ _ _ (Ex.new hp) hf⟩⟩
theorem q_parLL {xs : List V} {i j : Nat} (ha : EvL ta σ H xs) (hb : EvLP tb σ H Φ) (k : ∀ p q ys H1, H p = none → H q = none → p ≠ q → Ex H H1 → H1 p = some (.lst xs) → H1 q = some (.lst ys) → Φ ys H1 → tz D ((σ.set i (some (.ref p))).set j (some (.ref q))) H1) : tSeq (tPar i j (tCons ta (tCons tb tNil))) tz D σ H :=
  ha H (Ex.refl _) _ fun p H2 hp e2 h2 => hb H2 e2 _ fun q ys H3 hq e3 h3 hf => ⟨_, _, rfl, k p q ys H3 hp (fresh_back e2 hq) (fun z => by rw [z, hq] at h2; cases h2) (e2.trans e3) (e3 _ _ h2) h3 hf⟩
theorem eu_sl1 {a : Addr} {x : V} {r : List V} (h : Ev te σ H (.ref a)) (hs : H a = some (.tup (x :: r))) : EvU (tSl (rSlT K) te (tPart (tC (.int 1))) tNoPart) σ H r := fun H1 e Q q =>
  h H1 e _ fun H2 e2 => ⟨1, rfl, ⟨a, x :: r, rfl, st_of ((e.trans e2) _ _ hs), fun z => (by
    have h1 : HT.sIx (x :: r).length 0 (some 1) = 1 := by simp [HT.sIx]
    rw [h1] at z
    exact absurd z.1 (by decide)), fun p hp => q p _ (fresh_back e2 hp) (e2.trans (Ex.new hp)) (by rw [cutV_1]; exact upd_same)⟩⟩
end

theorem q_pass {t rest : TS} {D : Ends} {σ : L2.St} {H : Hp} (R : Hp → Prop) (h : ∀ D' : Ends, (∀ Hb, R Hb → D'.nx σ Hb) → t D' σ H) (cont : ∀ Hb, R Hb → rest D σ Hb) : tSeq t rest D σ H := h { D with nx := rest D } cont
theorem all_strs : ∀ ws : List Str, (ws.map V.str).all flatV = true
  | [] => rfl
  | w :: r => by rw [List.map_cons, List.all_cons, all_strs r]; rfl
theorem inV_strs (w : Str) (ws : List Str) : inV (.str w) (ws.map V.str) = decide (w ∈ ws) := by
  induction ws with
  | nil => rfl
  | cons a r ih =>
    unfold inV at ih ⊢
    rw [List.map_cons, List.any_cons, ih]
    show ((a == w) || decide (w ∈ r)) = decide (w ∈ a :: r)
    rw [Bool.eq_iff_iff, Bool.or_eq_true, decide_eq_true_iff, decide_eq_true_iff, List.mem_cons, beq_iff_eq]
    exact ⟨fun h => h.elim (fun z => .inl z.symm) .inr, fun h => h.elim (fun z => .inl z.symm) .inr⟩
theorem lf_paired {H : Hp} : ∀ {ls : List Lf} {ys : List V}, Paired (LfAt H) ls ys → Paired (TmAt H) (ls.map Tm.lf) ys
  | [], _, h => by cases h; exact .nil
  | l :: r, _, h => by
    cases h with
    | cons a t => exact .cons a (lf_paired t)

section
variable {P : Program} {w : World} {K : PySem.W.Frag} {mg : Str → Option Value} {base : Heap} (T : Tx K mg)
include T

omit T in
theorem scLWordsIn : FnScope ["_law_f", "_law_kind", "_law_found_here", "_law_waiting", "_law_row", "_law_turn", "_law_term_here", "_law_part"] ["_law_f", "_law_kind"] (defScope sLWordsIn) := ⟨rfl, rfl, rfl, by decide +kernel, rfl, by decide +kernel, by decide +kernel⟩
theorem okLWordsIn : Cal P w K mg base 1 "_law_words_in" (spLWordsIn K) [] := by
  obtain ⟨fd, F⟩ := T.DLWordsIn
  refine cal_of T.g_law_words_in F (F.bindsN fun _ _ _ _ _ _ us hl => match us, hl with | [_, _], _ => rfl) scLWordsIn (fun vs H Q E h => ?_) (fun cdv A outer s H vs Q E hr h => ?_)
  · obtain ⟨v, g, k, rfl, _⟩ := h; rfl
  · refine ⟨_, (pss_cons (ps_par (i := 2) (j := 3) (by rfl) scLWordsIn.nd rfl rfl (by decide) rfl rfl (pa_cons (pe_lst pa_nil) (pa_cons (pe_op op_cat (pe_lst (pa_cons (pe_dget (hu_of hr) (pv 0) pe_str (fun _ _ => rfl)) pa_nil)) (pe_lc  (own := [("_law_row", 4)]) (by rfl) scLWordsIn.nd (pi_tup (pe_dget (hu_of hr) (pv 0) pe_str (fun _ _ => rfl))) (blkOk_by (own := [("_law_row", 4)]) (N := ["_law_f", "_law_kind", "_law_found_here", "_law_waiting", "_law_row", "_law_turn", "_law_term_here", "_law_part"]) (sc := defScope sLWordsIn) (by decide +kernel)) (fun _ _ _ _ _ => (pg_name (i := 4) scLWordsIn.nd rfl (by first | exact Or.inl rfl | exact Or.inr rfl))) (fun _ _ _ _ _ => pts_nil) (fun _ _ _ _ _ => (pe_ix (ix_tupK (K := K) rfl) (pv 4) pe_int (fun _ _ => rfl))))) pa_nil)) (by rfl)) (pss_cons (ps_for PassesOwn.never rfl (pi_range1 (by rfl) T.f_range (pa_cons pe_int pa_nil)) (pg_name (i := 5) scLWordsIn.nd rfl (by first | exact Or.inl rfl | exact Or.inr rfl)) (pss_one (ps_if (pt_cmpR (op_neNil (Nat.lt_of_succ_lt (hu_of hr))) (pv 3) (pe_lst pa_nil) (nomark _)) (pss_cons (ps_set (i := 6) scLWordsIn.nd rfl (by first | exact Or.inl rfl | exact Or.inr rfl) (pe_bm0 PySem.F.plainAttrs_list PySem.F.slot_list_pop PySem.F.type_list_pop mt_pop (pv 3))) (pss_one (ps_if (pt_val (pe_callB call_isi rfl T.f_isinstance (by decide +kernel) (pa_cons (pv 6) (pa_cons (pe_bltn (v := .ty "tuple") (u := .type "tuple") rfl T.f_tuple (by decide +kernel) rfl) pa_nil)))) (pss_cons (ps_if (PW.pt (pw_and (pt_cmpR op_eq (pe_ix ix_tup (pv 6) pe_int (fun _ _ => rfl)) (pv 1) (nomark _)) (pw_and1 (pt_cmpR op_eq (pv 1) pe_str (nomark _))))) (pss_one (ps_expr (pe_bm PySem.F.plainAttrs_list PySem.F.slot_list_append PySem.F.type_list_append mt_append (pv 2) (pa_cons pe_str pa_nil)))) (pss_one (ps_if (PW.pt (pw_and (pt_cmpR op_eq (pe_ix ix_tup (pv 6) pe_int (fun _ _ => rfl)) (pv 1) (nomark _)) (pw_and1 (pt_cmpR op_notIn_seq (pe_ix ix_tup (pv 6) pe_int (fun _ _ => rfl)) (pv 2) (by rfl))))) (pss_one (ps_expr (pe_bm PySem.F.plainAttrs_list PySem.F.slot_list_append PySem.F.type_list_append mt_append (pv 2) (pa_cons (pe_ix ix_tup (pv 6) pe_int (fun _ _ => rfl)) pa_nil)))) pss_nil))) (pss_one (ps_set (i := 3) scLWordsIn.nd rfl (by first | exact Or.inl rfl | exact Or.inr rfl) (pe_op op_cat (pv 3) (pe_ifExp (pt_cmpR op_eq (pe_ix ix_tup (pv 6) pe_int (fun _ _ => rfl)) pe_str (nomark _)) (pe_callTy call_list_of rfl T.f_list (by decide +kernel) (pa_cons (pe_ix ix_tup (pv 6) pe_int (fun _ _ => rfl)) pa_nil)) (pe_lc  (own := [("_law_part", 7)]) (by rfl) scLWordsIn.nd (pi_tup (pe_slice sl_tup (pv 6) (po_some pe_int) po_none)) (blkOk_by (own := [("_law_part", 7)]) (N := ["_law_f", "_law_kind", "_law_found_here", "_law_waiting", "_law_row", "_law_turn", "_law_term_here", "_law_part"]) (sc := defScope sLWordsIn) (by decide +kernel)) (fun _ _ _ _ _ => (pg_name (i := 7) scLWordsIn.nd rfl (by first | exact Or.inl rfl | exact Or.inr rfl))) (fun _ _ _ _ _ => (pts_one (pt_not (pt_val (pe_callB (call_isiK (K := K) rfl) rfl T.f_isinstance (by decide +kernel) (pa_cons (pv 7) (pa_cons (pe_bltn (v := .ty "str") (u := .type "str") rfl T.f_str (by decide +kernel) rfl) pa_nil))))))) (fun _ _ _ _ _ => (pv 7)))))))) pss_nil))) pss_nil))) (pss_one (ps_ret (pv 2))))), ?_⟩
    obtain ⟨v, g, k, rfl, hg, hsz, hwl, hq⟩ := h
    obtain ⟨q0, x, pw0, ws0, rfl, hq0, hx, hpw0, hws0⟩ := id hg
    have wlen : ws0.length ≤ 1 := by rw [← Paired.length hws0]; exact hwl
    have hrows : EvLP (tLc (iTup K (tDGet (tVar 0) (tC (.str "writes")))) (gName 4) tYes (tOp (rIxT K) (tVar 4) (tC (.int 1))) [4]) (start ["_law_f", "_law_kind", "_law_found_here", "_law_waiting", "_law_row", "_law_turn", "_law_term_here", "_law_part"] [.ref q0, .str (WK.name k)]) H (fun ys H2 => Paired (TmAt H2) (g.wr.map (·.2)) ys) := by
      have h1 := lc_gen (tt := tYes) (te := tOp (rIxT K) (tVar 4) (tC (.int 1))) (vs := [4]) (j := 4) (σ := start ["_law_f", "_law_kind", "_law_found_here", "_law_waiting", "_law_row", "_law_turn", "_law_term_here", "_law_part"] [.ref q0, .str (WK.name k)]) (H := H) (evi_tup (K := K) (te := tDGet (tVar 0) (tC (.str "writes"))) (ev_dget (ev_var rfl) ev_c hq0 rfl) (st_of hpw0)) (fun i acc H2 => Paired (TmAt H2) ((g.wr.take i).map (·.2)) acc) (fun _ _ _ _ e h => Paired.mapP h fun _ _ z => TmAt.monoN e z) (fun _ _ => .nil) (by omega) (fun _ => rfl) fun i x acc H2 hx e hl hi => ?_
      · rw [← Paired.length hws0, List.take_length] at h1
        exact h1
      · obtain ⟨w, hw, hwx⟩ := Paired.getR hws0 hx
        obtain ⟨pz, y, rfl, hpz, hy⟩ := hwx.mono e
        refine ⟨true, et_yes, fun _ H3 e3 Q q => ev_op (ev_var rfl) ev_c (rv_ixT (st_of (e3 _ _ hpz)) at1) H3 (Ex.refl _) Q fun H4 e4 => q _ H4 e4 ?_, fun z => by cases z⟩
        rw [List.take_add_one, hw, List.map_append]
        exact Paired.snoc (Paired.mapP hi fun _ _ z => TmAt.mono (e3.trans e4) z) (hy.mono (e3.trans e4))
    refine q_parLL (el_lst ea_nil (by decide)) (lp_cat (xs := [x]) (el_lst (ea_cons (ev_dget (ev_var rfl) ev_c hq0 rfl) ea_nil) (show 1 ≤ 100000 by decide)) hrows (fun ys Ha Hb e h => Paired.mapP h fun _ _ z => TmAt.mono e z) (fun ys Ha h => by
      have h1 := Paired.length h
      rw [List.length_map] at h1
      show 1 + ys.length ≤ 100000
      omega)) fun pf pw ys H1 hpf0 hpw0 nfw e1 hpf hpw hys => ?_
    obtain ⟨zs, rfl, hzs⟩ := hys
    have hpd : Paired (TmAt H1) g.parts ([x] ++ zs) := .cons (hx.mono e1) hzs
    have hw0 : wts g.parts ≤ 52 := by
      have key : ∀ l : List Tm, (∀ t ∈ l, t.size ≤ 13) → wts l ≤ 26 * l.length := by
        intro l
        induction l with
        | nil => intro _; exact Nat.le_refl _
        | cons t r ih =>
          intro h
          have h1 := ih fun u hu => h u (List.mem_cons_of_mem _ hu)
          have h2 := wt_size t
          have h3 := h t List.mem_cons_self
          show wt t + wts r ≤ 26 * (r.length + 1)
          omega
      have h1 := key g.parts hsz
      have h2 := parts_len hwl
      omega
    refine q_forR1 (n := 400) (ea_cons ev_c ea_nil) (by decide) (fun i σ' H' => ∃ (x5 x6 : Option V) (pf pw : Addr) (ts : List Tm) (ws : List Str) (vs : List V), σ' = [some (.ref q0), some (.str (WK.name k)), some (.ref pf), some (.ref pw), none, x5, x6, none] ∧ Ex H H' ∧ H pf = none ∧ H pw = none ∧ pf ≠ pw ∧ H' pf = some (.lst (ws.map V.str)) ∧ H' pw = some (.lst vs) ∧ Paired (TmAt H') ts vs ∧ ws.length ≤ i ∧ (wts ts + i ≤ 60 ∨ ts = []) ∧ ∀ y, (y ∈ ws ∨ ∃ t ∈ ts, y ∈ wordsT k t) ↔ y ∈ wordsF k g) (fun H2 e2 => ?_) (fun i σ' H' hi hP => ?_) (fun σ' H' hP => ?_)
    · exact ⟨none, none, pf, pw, g.parts, [], _, rfl, e1.trans e2, hpf0, hpw0, nfw, e2 _ _ hpf, e2 _ _ hpw, Paired.mapP hpd fun _ _ z => TmAt.mono e2 z, Nat.le_refl _, .inl (by omega), fun y => by simp [wordsF, List.mem_flatMap]⟩
    · obtain ⟨x5, x6, pf, pw, ts, ws, vs, rfl, eH, hpf0, hpw0, nfw, hpf, hpw, hts, hwl', hwt, hmem⟩ := hP
      have hi4 : i < 400 := by omega
      refine s_when (b := !vs.isEmpty) (et_test (ev_neNil (ev_var rfl) hpw)) (fun hb H2 e2 => ?_) (fun hb H2 e2 => ?_)
      rotate_left
      · have hv0 : vs = [] := by simpa using hb
        subst hv0
        have ht0 : ts = [] := by cases hts; rfl
        subst ht0
        exact ⟨_, _, pf, pw, [], ws, [], rfl, eH.trans e2, hpf0, hpw0, nfw, e2 _ _ hpf, e2 _ _ hpw, .nil, by omega, .inr rfl, hmem⟩
      have hvne : vs ≠ [] := by intro z; rw [z] at hb; simp at hb
      have htne : ts ≠ [] := by
        intro z
        rw [z] at hts
        cases hts
        exact hvne rfl
      have hwt : wts ts + i ≤ 60 := by
        rcases hwt with h | h
        · exact h
        · exact absurd h htne
      obtain ⟨ts0, t, rfl⟩ : ∃ l c, ts = l ++ [c] := ⟨ts.dropLast, ts.getLast htne, (List.dropLast_concat_getLast htne).symm⟩
      obtain ⟨vs0, v, rfl⟩ : ∃ l c, vs = l ++ [c] := ⟨vs.dropLast, vs.getLast hvne, (List.dropLast_concat_getLast hvne).symm⟩
      have hlen : ts0.length = vs0.length := by
        have := Paired.length hts
        simpa using this
      have hts0 : Paired (TmAt H2) ts0 vs0 := by
        have h1 := Paired.take (Paired.mapP hts fun _ _ z => TmAt.mono e2 z) ts0.length
        rw [List.take_left', hlen, List.take_left'] at h1
        · exact h1
        · rfl
        · rfl
      have htv : TmAt H2 t v := by
        obtain ⟨b, hb1, hb2⟩ := Paired.get (Paired.mapP hts fun _ _ z => TmAt.mono e2 z) (i := ts0.length) (a := t) (by simp)
        rw [hlen, List.getElem?_concat_length] at hb1
        cases hb1
        exact hb2
      rw [wts_app] at hwt
      have hwt1 : wts [t] = wt t := by simp [wts]
      have hpw2 := e2 _ _ hpw
      refine q_asgE ⟨.ref pw, rfl, .inl ⟨rfl, _, sq_of hpw2⟩, pw, _, v, rfl, rfl, hpw2, by simp, ?_⟩
      rw [List.dropLast_concat]
      have xa : ExX pw H2 (upd H2 pw (.lst vs0)) := fun a o na ha => by rw [upd_ne na]; exact ha
      have eNa : ExN H2 (upd H2 pw (.lst vs0)) := ExN.lst hpw2
      have eHa : Ex H (upd H2 pw (.lst vs0)) := ExX.ex xa (eH.trans e2) hpw0
      have hpfa : (upd H2 pw (.lst vs0)) pf = some (.lst (ws.map V.str)) := xa _ _ nfw (e2 _ _ hpf)
      have hpwa : (upd H2 pw (.lst vs0)) pw = some (.lst vs0) := upd_same
      have hts0a : Paired (TmAt (upd H2 pw (.lst vs0))) ts0 vs0 := Paired.mapP hts0 fun _ _ z => TmAt.monoN eNa z
      have htva : TmAt (upd H2 pw (.lst vs0)) t v := htv.monoN eNa
      show tIfS _ _ _ _ _ (upd H2 pw (.lst vs0))
      generalize (upd H2 pw (.lst vs0)) = Ha at eHa hpfa hpwa hts0a htva
      clear xa eNa
      rcases kind_own k htva with ⟨n, rfl, rfl⟩ | ⟨q, kd, r, rfl, hq1, hown, hcall, hrest⟩
      · refine s_when (b := false) (et_B (ev_isi false (ev_var rfl) ty_int (kit_ty (by decide +kernel)))) (fun z => by cases z) fun _ H3 e3 => ?_
        refine ⟨_, _, pf, pw, ts0, ws, vs0, rfl, eHa.trans e3, hpf0, hpw0, nfw, e3 _ _ hpfa, e3 _ _ hpwa, Paired.mapP hts0a fun _ _ z => TmAt.mono e3 z, by omega, .inl (by have := wt_pos (.lf (.val n)); omega), fun y => ?_⟩
        rw [← hmem y]
        have hz := words_kids k (.lf (.val n)) y
        have hz2 : ownW k (.lf (.val n)) = [] := by cases k <;> rfl
        rw [hz2] at hz
        constructor
        · rintro (h | ⟨u, hu, h⟩)
          · exact .inl h
          · exact .inr ⟨u, List.mem_append.mpr (.inl hu), h⟩
        · rintro (h | ⟨u, hu, h⟩)
          · exact .inl h
          · rcases List.mem_append.mp hu with hu | hu
            · exact .inr ⟨u, hu, h⟩
            · rw [List.mem_singleton.mp hu] at h
              rcases hz.mp h with h | ⟨u, hu, _⟩
              · cases h
              · cases hu
      · refine s_when (b := true) (et_B (ev_isi true (ev_var rfl) (ty_tup hq1) (kit_ty (by decide +kernel)))) (fun _ H3 e3 => ?_) (fun z => by cases z)
        have hpf3 := e3 _ _ hpfa
        have hpw3 := e3 _ _ hpwa
        have hq3 := e3 _ _ hq1
        refine q_pass (R := fun Hb => ∃ ws' : List Str, ExX pf H3 Hb ∧ Hb pf = some (.lst (ws'.map V.str)) ∧ (∀ y, y ∈ ws' ↔ y ∈ ws ∨ y ∈ ownW k t) ∧ ws'.length ≤ ws.length + 1) (fun D' kk => ?_) (fun Hb hR => ?_)
        · have TK : ∀ {Hc : Hp} (z : Str) (bb : Bool), Ex H3 Hc → decide (kd = z) = bb → EvT (tTest (tOp rEq (tOp (rIxT K) (tVar 6) (tC (.int 0))) (tC (.str z)))) [some (.ref q0), some (.str (WK.name k)), some (.ref pf), some (.ref pw), none, some (.int (i : Int)), some (.ref q), none] Hc bb := fun z bb e hz => et_is (et_test (ev_op (ev_op (ev_var rfl) ev_c (rv_ixT (st_of (e _ _ hq3)) at0)) ev_c (rv_eq rfl))) (by rw [← hz]; simp)
          have TV : ∀ {Hc : Hp} (bb : Bool), Ex H3 Hc → decide (kd = WK.name k) = bb → EvT (tTest (tOp rEq (tOp (rIxT K) (tVar 6) (tC (.int 0))) (tVar 1))) [some (.ref q0), some (.str (WK.name k)), some (.ref pf), some (.ref pw), none, some (.int (i : Int)), some (.ref q), none] Hc bb := fun bb e hz => et_is (et_test (ev_op (ev_op (ev_var rfl) ev_c (rv_ixT (st_of (e _ _ hq3)) at0)) (ev_var rfl) (rv_eq rfl))) (by rw [← hz]; simp)
          have TT' : ∀ {Hc : Hp} (bb : Bool), decide (WK.name k = ("tick" : Str)) = bb → EvT (tTest (tOp rEq (tVar 1) (tC (.str "tick")))) [some (.ref q0), some (.str (WK.name k)), some (.ref pf), some (.ref pw), none, some (.int (i : Int)), some (.ref q), none] Hc bb := fun bb hz => et_is (et_test (ev_op (ev_var rfl) ev_c (rv_eq rfl))) (by rw [← hz]; simp)
          have app : ∀ (w : Str) (Hc : Hp) (te : TE), Ex H3 Hc → Ev te [some (.ref q0), some (.str (WK.name k)), some (.ref pf), some (.ref pw), none, some (.int (i : Int)), some (.ref q), none] Hc (.str w) → ownW k t = [w] → tDrop (tBM K "list" rAppend (tVar 2) (tCons te tNil)) D' [some (.ref q0), some (.str (WK.name k)), some (.ref pf), some (.ref pw), none, some (.int (i : Int)), some (.ref q), none] Hc := fun w Hc te ec hte how => s_app (ec _ _ hpf3) (ev_var rfl) hte (by rw [List.length_map]; omega) fun Hd ed => kk _ ⟨ws ++ [w], fun a o na ha => by rw [upd_ne na]; exact (ec.trans ed) a o ha, by rw [upd_same, List.map_append]; rfl, fun y => by rw [how]; simp, by simp⟩
          rcases hown with ⟨hk1, ⟨hk2, hk3⟩ | ⟨hk2, w, r', hk3, hk4⟩⟩ | ⟨hk1, hk2⟩
          · refine s_if (b := true) (et_is (et_and (a := true) (b := true) (TV _ (Ex.refl _) (decide_eq_true hk1)) fun _ => TT' _ (decide_eq_true hk2)) rfl) (fun _ H4 e4 => app _ H4 _ e4 ev_c hk3) fun z => by cases z
          · refine s_if (b := false) (et_is (et_and (a := true) (b := false) (TV _ (Ex.refl _) (decide_eq_true hk1)) fun _ => TT' _ (decide_eq_false hk2)) rfl) (fun z => by cases z) fun _ H4 e4 => ?_
            subst hk3
            have hw : Ev (tOp (rIxT K) (tVar 6) (tC (.int 1))) [some (.ref q0), some (.str (WK.name k)), some (.ref pf), some (.ref pw), none, some (.int (i : Int)), some (.ref q), none] H4 (.str w) := ev_op (ev_var rfl) ev_c (rv_ixT (st_of (e4 _ _ hq3)) at1)
            refine s_when (b := true && !decide (w ∈ ws)) (et_and (TV _ e4 (decide_eq_true hk1)) fun _ => et_is (et_test (ev_op hw (ev_var rfl) (rv_niL (sq_of (e4 _ _ hpf3)) rfl (all_strs ws)))) (by rw [inV_strs])) (fun hb H5 e5 => app w H5 _ (e4.trans e5) (fun Hx ex => hw Hx (e5.trans ex)) hk4) (fun hb H5 e5 => ?_)
            have hin : w ∈ ws := by simpa using hb
            exact kk _ ⟨ws, ExX.of (e4.trans e5), (e4.trans e5) _ _ hpf3, fun y => by rw [hk4]; simp; intro hy; rw [hy]; exact hin, by omega⟩
          · refine s_if (b := false) (et_is (et_and (a := false) (b := false) (TV _ (Ex.refl _) (decide_eq_false hk1)) fun z => by cases z) rfl) (fun z => by cases z) fun _ H4 e4 => ?_
            refine s_when (b := false) (et_is (et_and (a := false) (b := false) (TV _ e4 (decide_eq_false hk1)) fun z => by cases z) rfl) (fun z => by cases z) fun _ H5 e5 => ?_
            exact kk _ ⟨ws, ExX.of (e4.trans e5), (e4.trans e5) _ _ hpf3, fun y => by rw [hk2]; simp, by omega⟩
        · obtain ⟨ws', xb, hpfb, hmem', hwl2⟩ := hR
          have xbT : ExT H3 Hb := xb.t hpf3
          have hqb := xbT.at hq3
          have hpwb := xb _ _ (Ne.symm nfw) hpw3
          have hts0b : Paired (TmAt Hb) ts0 vs0 := Paired.mapP hts0a fun _ _ z => TmAt.monoT xbT (TmAt.mono e3 z)
          have eHb : Ex H Hb := ExX.ex xb (eHa.trans e3) hpf0
          have hl0 := len_wts ts0
          have hkw := wt_kids t
          have hlk := len_wts (kidsW t)
          have fin : ∀ (b : Addr) (ys : List V) (Hc : Hp), Ex Hb Hc → Hc b = some (.lst ys) → Paired (TmAt Hc) (kidsW t) ys → rCat (.ref pw) (.ref b) Hc fun v H1 => gName 3 v [some (.ref q0), some (.str (WK.name k)), some (.ref pf), some (.ref pw), none, some (.int (i : Int)), some (.ref q), none] H1 fun σ' H' => ∃ (x5 x6 : Option V) (pf pw : Addr) (ts : List Tm) (ws : List Str) (vs : List V), σ' = [some (.ref q0), some (.str (WK.name k)), some (.ref pf), some (.ref pw), none, x5, x6, none] ∧ Ex H H' ∧ H pf = none ∧ H pw = none ∧ pf ≠ pw ∧ H' pf = some (.lst (ws.map V.str)) ∧ H' pw = some (.lst vs) ∧ Paired (TmAt H') ts vs ∧ ws.length ≤ i + 1 ∧ (wts ts + (i + 1) ≤ 60 ∨ ts = []) ∧ ∀ y, (y ∈ ws ∨ ∃ t ∈ ts, y ∈ wordsT k t) ↔ y ∈ wordsF k g := by
            intro b ys Hc ec hb hp
            have hl1 := Paired.length hp
            have hl2 := Paired.length hts0b
            refine ⟨pw, b, vs0, ys, rfl, rfl, ec _ _ hpwb, hb, by rw [sizeLine_eq]; omega, fun pn hpn => ⟨_, _, pf, pn, ts0 ++ kidsW t, ws', vs0 ++ ys, rfl, (eHb.trans ec).trans (Ex.new hpn), hpf0, fresh_back (eHb.trans ec) hpn, fun z => ?_, (Ex.new hpn) _ _ (ec _ _ hpfb), upd_same, ?_, by omega, .inl (by rw [wts_app]; omega), fun y => ?_⟩⟩
            · rw [← z, ec _ _ hpfb] at hpn; cases hpn
            · exact Paired.app (Paired.mapP hts0b fun _ _ z => TmAt.mono (ec.trans (Ex.new hpn)) z) (Paired.mapP hp fun _ _ z => TmAt.mono (Ex.new hpn) z)
            · rw [← hmem y, hmem' y]
              have hz := words_kids k t y
              constructor
              · rintro ((h | h) | ⟨u, hu, h⟩)
                · exact .inl h
                · exact .inr ⟨t, by simp, hz.mpr (.inl h)⟩
                · rcases List.mem_append.mp hu with hu | hu
                  · exact .inr ⟨u, by simp [hu], h⟩
                  · exact .inr ⟨t, by simp, hz.mpr (.inr ⟨u, hu, h⟩)⟩
              · rintro (h | ⟨u, hu, h⟩)
                · exact .inl (.inl h)
                · rcases List.mem_append.mp hu with hu | hu
                  · exact .inr ⟨u, List.mem_append.mpr (.inl hu), h⟩
                  · rw [List.mem_singleton.mp hu] at h
                    rcases hz.mp h with h | ⟨u, hu, h⟩
                    · exact .inl (.inr h)
                    · exact .inr ⟨u, List.mem_append.mpr (.inr hu), h⟩
          have tst : ∀ (bb : Bool), decide (kd = ("call" : Str)) = bb → EvT (tTest (tOp rEq (tOp (rIxT K) (tVar 6) (tC (.int 0))) (tC (.str "call")))) [some (.ref q0), some (.str (WK.name k)), some (.ref pf), some (.ref pw), none, some (.int (i : Int)), some (.ref q), none] Hb bb := fun bb hz => et_is (et_test (ev_op (ev_op (ev_var rfl) ev_c (rv_ixT (st_of hqb) at0)) ev_c (rv_eq rfl))) (by rw [← hz]; simp)
          refine s_asgX (e_opX (e_vX rfl ?_))
          by_cases hkc : kd = ("call" : Str)
          · obtain ⟨f, as, qa, us, rfl, rfl, hqa, hus⟩ := hcall hkc
            refine e_ifY (tst _ (decide_eq_true hkc)) fun Hc ec => ?_
            have hqac := ec _ _ (xbT.at (e3 _ _ hqa))
            refine el_listT (ev_op (ev_var rfl) ev_c (rv_ixT (st_of (ec _ _ hqb)) at2)) (st_of hqac) Hc (Ex.refl _) _ fun b Hd hb0 ed hb => fin b us Hd (ec.trans ed) hb ?_
            exact lf_paired (Paired.mapP hus fun _ _ z => LfAt.mono (ec.trans ed) (LfAt.monoT xbT (LfAt.mono e3 z)))
          · obtain ⟨hr1, hr3, hr2⟩ := hrest hkc
            refine e_ifN (tst _ (decide_eq_false hkc)) fun Hc ec => ?_
            have hlist := el_fm (tt := tNot (tB (tCB (rIsi K) (tCons (tVar 7) (tCons (tC (.ty "str")) tNil))))) (te := tVar 7) (vs := [7]) (j := 7) (σ := [some (.ref q0), some (.str (WK.name k)), some (.ref pf), some (.ref pw), none, some (.int (i : Int)), some (.ref q), none]) (H := Hc) (evi_tupN (K := K) (eu_sl1 (K := K) (te := tVar 6) (ev_var rfl) (ec _ _ hqb))) (fun x => !isStrV x) id (by omega) (fun _ => rfl) (fun x hx => ?_) (fun x hx _ => ev_var rfl)
            · rw [List.map_id] at hlist
              refine hlist Hc (Ex.refl _) _ fun b Hd hb0 ed hb => fin b _ Hd (ec.trans ed) hb ?_
              exact Paired.mapP hr1 fun _ _ z => TmAt.mono (ec.trans ed) (TmAt.monoT xbT (TmAt.mono e3 z))
            · rcases hr2 x hx with ⟨n, rfl⟩ | ⟨z, rfl⟩ | ⟨p', ys', rfl, hp'⟩
              · exact et_not (a := false) (et_B (ev_isi false (ev_var rfl) ty_int (kit_ty (by decide +kernel))))
              · exact et_not (a := true) (et_B (ev_isi true (ev_var rfl) ty_str (kit_ty (by decide +kernel))))
              · exact et_not (a := false) (et_B (ev_isi false (ev_var rfl) (ty_tup (ec _ _ (xbT.at (e3 _ _ hp')))) (kit_ty (by decide +kernel))))
    · obtain ⟨x5, x6, pf, pw, ts, ws, vs, rfl, eH, hpf0, hpw0, nfw, hpf, hpw, hts, hwl', hwt, hmem⟩ := hP
      have ht0 : ts = [] := by
        rcases hwt with h | h
        · have : ((400 : Int).toNat) = 400 := rfl
          omega
        · exact h
      subst ht0
      refine s_ret (ev_var rfl) fun H2 e2 => hq pf ws H2 hpf0 (eH.trans e2) (e2 _ _ hpf) hwl' fun y => ?_
      rw [← hmem y]
      simp

end
end SC
set_option Elab.async false
set_option linter.all false
set_option maxRecDepth 100000
set_option maxHeartbeats 1000000
/-! L10: the cases, as the law finds them. -/
namespace SC
open PySem PySem.Spec PyProof.Rows L2 C8 Evl
section
variable {K : PySem.W.Frag} {σ : L2.St} {H : Hp} {te ta tb : TE} {tz : TS} {D : Ends} {tar : TA}
theorem lp_words {g : Fn} {v : V} (k : WK) (h : EvA tar σ H [v, .str (WK.name k)]) (hg : FunL H g v) (hs : ∀ t ∈ g.parts, t.size ≤ 13) (hw : g.wr.length ≤ 1) : EvLP (tCall (spLWordsIn K) [] C8.E0 tar) σ H (fun xs _ => ∃ ws : List Str, xs = ws.map V.str ∧ ws.length ≤ 400 ∧ ∀ x, x ∈ ws ↔ x ∈ wordsF k g) := fun H1 e Q q =>
  h H1 e _ fun H2 e2 => ⟨v, g, k, rfl, hg.mono (e.trans e2), hs, hw, fun p ws H3 hp e3 h3 hl hm => q p _ H3 (fresh_back e2 hp) (e2.trans e3) h3 ⟨ws, rfl, hl, hm⟩⟩
end
def spLReached (K : PySem.W.Frag) : Sp := fun vs H Q _ => ∃ (b : Bk) (bv : V) (n : Str), vs = [bv, .str n] ∧ BookL H b bv ∧ BOk b ∧ ∀ (p : Addr) (ws : List Str) (H2 : Hp), H p = none → Ex H H2 → H2 p = some (.lst (ws.map V.str)) → ws.length ≤ 2000 → (∀ x, x ∈ ws ↔ x ∈ reachL b.fns n) → Q (.ref p) H2
def spLTouched (K : PySem.W.Frag) : Sp := fun vs H Q _ => ∃ (b : Bk) (bv : V) (n : Str), vs = [bv, .str n] ∧ BookL H b bv ∧ BOk b ∧ n ∈ b.fns.map (·.name) ∧ RetL ((touchL b n).map V.str) H Q
def spLCases (K : PySem.W.Frag) : Sp := fun vs H Q _ => ∃ (b : Bk) (bv : V) (n : Str), vs = [bv, .str n] ∧ BookL H b bv ∧ BOk b ∧ n ∈ b.fns.map (·.name) ∧ ∀ (p : Addr) (ys : List V) (H2 : Hp), H p = none → Ex H H2 → H2 p = some (.lst ys) → Paired (CaseAt H2) (caseL b n) ys → Q (.ref p) H2
section
variable {K : PySem.W.Frag} {σ : L2.St} {H : Hp} {te ta tb : TE} {tz : TS} {D : Ends} {tar : TA}
theorem lp_lreached {b : Bk} {bv : V} {n : Str} (h : EvA tar σ H [bv, .str n]) (hb : BookL H b bv) (hok : BOk b) : EvLP (tCall (spLReached K) [] C8.E0 tar) σ H (fun xs _ => ∃ ws : List Str, xs = ws.map V.str ∧ ws.length ≤ 2000 ∧ ∀ x, x ∈ ws ↔ x ∈ reachL b.fns n) := fun H1 e Q q =>
  h H1 e _ fun H2 e2 => ⟨b, bv, n, rfl, hb.mono (e.trans e2), hok, fun p ws H3 hp e3 h3 hl hm => q p _ H3 (fresh_back e2 hp) (e2.trans e3) h3 ⟨ws, rfl, hl, hm⟩⟩
theorem el_ltouched {b : Bk} {bv : V} {n : Str} (h : EvA tar σ H [bv, .str n]) (hb : BookL H b bv) (hok : BOk b) (hn : n ∈ b.fns.map (·.name)) : EvL (tCall (spLTouched K) [] C8.E0 tar) σ H ((touchL b n).map V.str) := fun H1 e Q q =>
  h H1 e _ fun H2 e2 => ⟨b, bv, n, rfl, hb.mono (e.trans e2), hok, hn, fun p H3 hp e3 h3 => q p H3 (fresh_back e2 hp) (e2.trans e3) h3⟩
theorem lp_lcases {b : Bk} {bv : V} {n : Str} (h : EvA tar σ H [bv, .str n]) (hb : BookL H b bv) (hok : BOk b) (hn : n ∈ b.fns.map (·.name)) : EvLP (tCall (spLCases K) [] C8.E0 tar) σ H (fun ys H2 => Paired (CaseAt H2) (caseL b n) ys) := fun H1 e Q q =>
  h H1 e _ fun H2 e2 => ⟨b, bv, n, rfl, hb.mono (e.trans e2), hok, hn, fun p ys H3 hp e3 h3 hc => q p _ H3 (fresh_back e2 hp) (e2.trans e3) h3 hc⟩
end
/-- who is reached stands in the book -/
theorem calls_known {cs : List Str} {ahead : List Fn} {many : Nat} : ∀ {t : Tm}, TmOk cs ahead many t → ∀ m ∈ callsT t, m ∈ ahead.map (·.name)
  | .lf l, _, m, hm => by cases hm
  | .call f as, ⟨⟨g, hg, e, _⟩, _⟩, m, hm => by
    rw [List.mem_singleton.mp hm]
    exact List.mem_map.mpr ⟨g, hg, e⟩
  | .op o a b, ⟨h1, h2⟩, m, hm => by
    rcases List.mem_append.mp hm with h | h
    · exact calls_known h1 m h
    · exact calls_known h2 m h
  | .ite c a b, ⟨h1, h2, h3⟩, m, hm => by
    rcases List.mem_append.mp hm with h | h
    · exact calls_known h1 m h
    · rcases List.mem_append.mp h with h | h
      · exact calls_known h2 m h
      · exact calls_known h3 m h
theorem reach_known {b : Bk} (h : BOk b) {n : Str} (hn : n ∈ b.fns.map (·.name)) : ∀ m ∈ reachL b.fns n, m ∈ b.fns.map (·.name) := by
  have key : ∀ (l : List Fn), (∀ g ∈ l, g ∈ b.fns) → ∀ acc : List Str, (∀ m ∈ acc, m ∈ b.fns.map (·.name)) → ∀ m ∈ l.foldl rstep acc, m ∈ b.fns.map (·.name) := by
    intro l
    induction l with
    | nil => intro _ acc ha m hm; exact ha m hm
    | cons g r ih =>
      intro hl acc ha m hm
      refine ih (fun g hg => hl g (List.mem_cons_of_mem _ hg)) (rstep acc g) (fun m hm => ?_) m hm
      unfold rstep at hm
      split at hm
      · rcases List.mem_append.mp hm with hm | hm
        · exact ha m hm
        · obtain ⟨t, ht, hmt⟩ := List.mem_flatMap.mp hm
          obtain ⟨ahead, hah, ok⟩ := h.fok (hl g List.mem_cons_self)
          obtain ⟨a, ha1, ha2⟩ := List.mem_map.mp (calls_known (parts_ok ok t ht).1 m hmt)
          exact List.mem_map.mpr ⟨a, hah a ha1, ha2⟩
      · exact ha m hm
  exact key b.fns.reverse (fun g hg => List.mem_reverse.mp hg) [n] fun m hm => by rw [List.mem_singleton.mp hm]; exact hn
/-- state[cell] = some[cell] for each cell -/
theorem merge_take {s t : Sta} (h : ∀ p ∈ s, p.1 ∈ keysS t) (i : Nat) : keysS (mergeS t (s.take i)) = keysS t := keys_mergeS fun p hp => h p (List.mem_of_mem_take hp)
theorem s_mergeFor {D : Ends} {H : Hp} {x0 x1 x2 x3 x4 x5 x6 x9 : Option V} {ds dm : Addr} {s t : Sta} (hds : H ds = some (.dK (stV s))) (hdm : H dm = some (.dK (stV t))) (ne : ds ≠ dm) (hn : (keysS s).Nodup) (hk : ∀ p ∈ s, p.1 ∈ keysS t) (hl : t.length ≤ 100)
    (k : ∀ x6 H', ExX dm H H' → H' dm = some (.dK (stV (mergeS t s))) → D.nx [x0, x1, x2, x3, x4, x5, x6, some (.ref ds), some (.ref dm), x9] H') :
    tLock (tFor (iKeys (tVar 7)) (gName 6) (sDPut (tVar 8) (tVar 6) (tDGet (tVar 7) (tVar 6)))) D [x0, x1, x2, x3, x4, x5, x6, some (.ref ds), some (.ref dm), x9] H := by
  refine ⟨ds, _, hds, True.intro, fun od => ⟨.ref ds, rfl, ds, od, rfl, .inl ⟨stV s, upd_same, ?_⟩⟩⟩
  refine ⟨fun i m σ' H' => m = s.length - i ∧ i ≤ s.length ∧ ∃ x6, σ' = [x0, x1, x2, x3, x4, x5, x6, some (.ref ds), some (.ref dm), x9] ∧ H' ds = some (.frz od (.dK (stV s))) ∧ H' dm = some (.dK (stV (mergeS t (s.take i)))) ∧ ∀ a o, a ≠ ds → a ≠ dm → H a = some o → H' a = some o, ⟨s.length, rfl, Nat.zero_le _, x6, rfl, upd_same, by rw [upd_ne (Ne.symm ne)]; exact hdm, fun a o h1 h2 h3 => by rw [upd_ne h1]; exact h3⟩, ?_⟩
  rintro i m σ' H' ⟨rfl, hi, x6, rfl, hd1, hm1, hrest⟩
  have w := walk_keys (d := ds) (o := od) (kvs := stV s)
  by_cases hlt : i < s.length
  · refine .inr ⟨w.goes i H' (by rw [stV_len]; exact hlt) hd1, fun σ3 H3 => ∃ x6, σ3 = [x0, x1, x2, x3, x4, x5, x6, some (.ref ds), some (.ref dm), x9] ∧ H3 ds = some (.frz od (.dK (stV s))) ∧ H3 dm = some (.dK (stV (mergeS t (s.take (i + 1))))) ∧ ∀ a o, a ≠ ds → a ≠ dm → H a = some o → H3 a = some o, fun σ3 H3 h3 => ⟨_, (by omega : s.length - (i + 1) < s.length - i), rfl, hlt, h3⟩, fun x H'' y => ?_⟩
    obtain ⟨rfl, key, v, hkv, rfl⟩ := w.yields i H' x H'' (by rw [stV_len]; exact hlt) hd1 y
    have hkv' : (stV s)[i]? = some (Sum.inr s[i].1, V.int s[i].2) := by unfold stV; rw [List.getElem?_map, List.getElem?_eq_getElem hlt]; rfl
    rw [hkv'] at hkv
    cases hkv
    have hmem : s[i] ∈ s := List.getElem_mem hlt
    have hval : valV (stV s) (Sum.inr s[i].1 : Key) = some (.int s[i].2) := by
      rw [valV_st, nodup_val (c := s[i].1) (v := s[i].2) hn hmem]; rfl
    have hlen : (stV (mergeS t (s.take i))).length ≤ 100 := by
      rw [stV_len]
      have h1 := congrArg List.length (merge_take hk i)
      unfold keysS at h1
      rw [List.length_map, List.length_map] at h1
      omega
    refine ⟨.ref ds, rfl, .str s[i].1, rfl, ds, .int s[i].2, rfl, .inl ⟨stV s, Sum.inr s[i].1, .inr ⟨od, hd1⟩, rfl, hval.symm⟩, .ref dm, rfl, .str s[i].1, rfl, dm, _, rfl, DPut.k (k := Sum.inr s[i].1) hm1 (sz_lt (by omega)), _, rfl, ?_, ?_, fun a o h1 h2 h3 => ?_⟩
    · rw [upd_ne ne]; exact hd1
    · rw [upd_same, stV_set, List.take_add_one, List.getElem?_eq_getElem hlt]
      unfold mergeS
      rw [List.foldl_append]
      rfl
    · rw [upd_ne h2]; exact hrest a o h1 h2 h3
  · have ei : i = s.length := by omega
    subst ei
    refine .inl ⟨by have := w.stops H' hd1; rwa [stV_len] at this, ?_, ?_⟩
    · exact hd1
    · refine k x6 _ (fun a o ha hao => ?_) ?_
      · by_cases e : a = ds
        · subst e
          rw [hds] at hao
          cases hao
          exact upd_same
        · rw [upd_ne e]; exact hrest a o e ha hao
      · rw [upd_ne (Ne.symm ne), hm1, List.take_length]

section
variable {K : PySem.W.Frag} {σ : L2.St} {H : Hp} {te ta tb : TE} {Φ Ψ : List V → Prop}
theorem lp_catP (ha : EvLP ta σ H fun xs _ => Φ xs) (hb : EvLP tb σ H fun ys _ => Ψ ys) (hz : ∀ xs ys, Φ xs → Ψ ys → xs.length + ys.length ≤ 16000000) : EvLP (tOp rCat ta tb) σ H (fun zs _ => ∃ xs ys, zs = xs ++ ys ∧ Φ xs ∧ Ψ ys) := fun H1 e Q q =>
  ha H1 e _ fun a xs H2 ha0 e2 h2 h3 => hb H2 (e.trans e2) _ fun b ys H3 hb0 e3 h4 h5 => ⟨a, b, xs, ys, rfl, rfl, e3 _ _ h2, h4, by rw [sizeLine_eq]; have := hz xs ys h3 h5; omega, fun p hp => q p _ _ (fresh_back (e2.trans e3) hp) ((e2.trans e3).trans (Ex.new hp)) upd_same ⟨xs, ys, rfl, h3, h5⟩⟩
theorem lp_catV {a : Addr} {xs : List V} (h : Ev ta σ H (.ref a)) (ha : H a = some (.lst xs)) (hb : EvLP tb σ H fun ys _ => Ψ ys) (hz : ∀ ys, Ψ ys → xs.length + ys.length ≤ 16000000) : EvLP (tOp rCat ta tb) σ H (fun zs _ => ∃ ys, zs = xs ++ ys ∧ Ψ ys) := fun H1 e Q q =>
  h H1 e _ fun H2 e2 => hb H2 (e.trans e2) _ fun b ys H3 hb0 e3 h4 h5 => ⟨a, b, xs, ys, rfl, rfl, (e.trans (e2.trans e3)) _ _ ha, h4, by rw [sizeLine_eq]; have := hz ys h5; omega, fun p hp => q p _ _ (fresh_back (e2.trans e3) hp) ((e2.trans e3).trans (Ex.new hp)) upd_same ⟨ys, rfl, h5⟩⟩
end
theorem touched_iff {b : Bk} {n c : Str} : touched b n c = true ↔ ∃ w ∈ reachL b.fns n, ∃ g, findF b.fns w = some g ∧ c ∈ touchF g := by
  unfold touched
  rw [List.any_eq_true]
  constructor
  · rintro ⟨w, hw, h⟩
    cases q : findF b.fns w with
    | none => rw [q] at h; cases h
    | some g => rw [q] at h; exact ⟨w, hw, g, q, of_decide_eq_true h⟩
  · rintro ⟨w, hw, g, q, h⟩
    exact ⟨w, hw, by rw [q]; exact decide_eq_true h⟩
theorem tickM_iff {b : Bk} {n : Str} : tickM b n = true ↔ ∃ w ∈ reachL b.fns n, ∃ g, findF b.fns w = some g ∧ tickF g = true := by
  unfold tickM
  rw [List.any_eq_true]
  constructor
  · rintro ⟨w, hw, h⟩
    cases q : findF b.fns w with
    | none => rw [q] at h; cases h
    | some g => rw [q] at h; exact ⟨w, hw, g, q, h⟩
  · rintro ⟨w, hw, g, q, h⟩
    exact ⟨w, hw, by rw [q]; exact h⟩
theorem tick_words {g : Fn} {ws : List Str} (h : ∀ x, x ∈ ws ↔ x ∈ wordsF .tick g) : (!(ws.map V.str).isEmpty) = tickF g := by
  have h1 : (∃ x, x ∈ ws) ↔ tickF g = true := by
    constructor
    · rintro ⟨x, hx⟩
      obtain ⟨t, ht, hm⟩ := List.mem_flatMap.mp ((h x).mp hx)
      exact List.any_eq_true.mpr ⟨t, ht, (mem_tickW.mp hm).1⟩
    · intro ht
      obtain ⟨t, h1, h2⟩ := List.any_eq_true.mp ht
      exact ⟨_, (h _).mpr (List.mem_flatMap.mpr ⟨t, h1, mem_tickW.mpr ⟨h2, rfl⟩⟩)⟩
  rw [Bool.eq_iff_iff, ← h1]
  cases ws with
  | nil => simp
  | cons a r => simp

section
variable {P : Program} {w : World} {K : PySem.W.Frag} {mg : Str → Option Value} {base : Heap} (T : Tx K mg)
include T

omit T in
theorem scLReached : FnScope ["_law_b", "_law_name", "_law_found_here", "_law_f", "_law_word"] ["_law_b", "_law_name"] (defScope sLReached) := ⟨rfl, rfl, rfl, by decide +kernel, rfl, by decide +kernel, by decide +kernel⟩
theorem okLReached : Cal P w K mg base 2 "_law_reached" (spLReached K) [] := by
  obtain ⟨fd, F⟩ := T.DLReached
  refine cal_of T.g_law_reached F (F.bindsN fun _ _ _ _ _ _ us hl => match us, hl with | [_, _], _ => rfl) scLReached (fun vs H Q E h => ?_) (fun cdv A outer s H vs Q E hr h => ?_)
  · obtain ⟨b, bv, n, rfl, _⟩ := h; rfl
  · refine ⟨_, (pss_cons (ps_set (i := 2) scLReached.nd rfl (by first | exact Or.inl rfl | exact Or.inr rfl) (pe_lst (pa_cons (pv 1) pa_nil))) (pss_cons (ps_for PassesOwn.never rfl (pi_list (pe_revL (pe_dget (hu_of hr) (pv 0) pe_str (fun _ _ => rfl)))) (pg_name (i := 3) scLReached.nd rfl (by first | exact Or.inl rfl | exact Or.inr rfl)) (pss_one (ps_if (pt_cmpR op_in_seq (pe_dget (hu_of hr) (pv 3) pe_str (fun _ _ => rfl)) (pv 2) (by rfl)) (pss_one (ps_for PassesOwn.never rfl (pi_list (pe_c (okLWordsIn T) hr (by decide) rfl (pa_cons (pv 3) (pa_cons pe_str pa_nil)))) (pg_name (i := 4) scLReached.nd rfl (by first | exact Or.inl rfl | exact Or.inr rfl)) (pss_one (ps_if (pt_cmpR op_notIn_seq (pv 4) (pv 2) (by rfl)) (pss_one (ps_expr (pe_bm PySem.F.plainAttrs_list PySem.F.slot_list_append PySem.F.type_list_append mt_append (pv 2) (pa_cons (pv 4) pa_nil)))) pss_nil)))) pss_nil))) (pss_one (ps_ret (pv 2))))), ?_⟩
    obtain ⟨b, bv, n, rfl, hb, hok, hq⟩ := h
    obtain ⟨q0, pc, pf, cs, fs, rfl, hq0, hpc, hcs, hpf, hfs⟩ := id hb
    refine q_asgL (xs := [n].map V.str) (el_lst (ea_cons (ev_var rfl) ea_nil) (show 1 ≤ 100000 by decide)) fun p H1 hp0 e1 hp => ?_
    have hfl : b.fns.length ≤ 3 := hok.lf
    refine q_forX (d := p) (evix_listN (K := K) (el_revL (ev_dget (ev_var rfl) ev_c (e1 _ _ hq0) rfl) (sq_of (e1 _ _ hpf))) hp) (fun i σ' H' => ∃ (x3 x4 : Option V) (ws : List Str), σ' = [some (.ref q0), some (.str n), some (.ref p), x3, x4] ∧ H' p = some (.lst (ws.map V.str)) ∧ ws.length ≤ 1 + 400 * i ∧ ∀ y, y ∈ ws ↔ y ∈ (b.fns.reverse.take i).foldl rstep [n]) (fun H2 e2 => ⟨none, none, [n], rfl, e2 _ _ hp, Nat.le_refl _, fun y => Iff.rfl⟩) (fun i x σ' H' hx xX hP => ?_) (fun σ' H' xX hP => ?_)
    · obtain ⟨x3, x4, ws, rfl, hws, hwl, hmem⟩ := hP
      have hrev : Paired (FunL H) b.fns.reverse fs.reverse := Paired.rev hfs
      obtain ⟨g, hgi, hgx⟩ := Paired.getR hrev hx
      have hgm : g ∈ b.fns := List.mem_reverse.mp (List.mem_of_getElem? hgi)
      have eH : Ex H H' := ExX.ex xX e1 hp0
      have hgx := hgx.mono eH
      obtain ⟨pg, xg, pw, wss, rfl, hpg, _⟩ := id hgx
      have hi3 : i < 3 := by
        obtain ⟨h, _⟩ := List.getElem?_eq_some_iff.mp hgi
        rw [List.length_reverse] at h; omega
      have tk : (b.fns.reverse.take (i + 1)).foldl rstep [n] = rstep ((b.fns.reverse.take i).foldl rstep [n]) g := by
        rw [List.take_add_one, hgi, List.foldl_append]; rfl
      rw [tk]
      generalize (b.fns.reverse.take i).foldl rstep [n] = R at hmem
      refine s_when (b := decide (g.name ∈ ws)) (et_is (et_test (ev_op (ev_dget (ev_var rfl) ev_c hpg rfl) (ev_var rfl) (rv_isL (sq_of hws) rfl (all_strs ws)))) (inV_strs _ _)) (fun hb2 H2 e2 => ?_) (fun hb2 H2 e2 => ?_)
      · have hin := of_decide_eq_true hb2
        have hpg2 := e2 _ _ hpg
        refine tFor_lp (lp_words .call (ea_cons (ev_var rfl) (ea_cons ev_c ea_nil)) (hgx.mono e2) (fun t ht => (hok.parts hgm t ht).2) (hok.wl hgm)) fun pl xs H3 hpl0 e3 hpl hxs => ?_
        obtain ⟨cw, rfl, hcl, hcm⟩ := hxs
        have npl : pl ≠ p := fun z => by rw [z, e2 _ _ hws] at hpl0; cases hpl0
        refine s_forX (d := p) (evix_list ev_c hpl npl) (fun j σ2 H4 => ∃ (x4 : Option V) (ms : List Str), σ2 = [some (.ref q0), some (.str n), some (.ref p), some (.ref pg), x4] ∧ H4 p = some (.lst (ms.map V.str)) ∧ ms.length ≤ ws.length + j ∧ ∀ y, y ∈ ms ↔ y ∈ ws ∨ y ∈ cw.take j) (fun H4 e4 => ⟨_, ws, rfl, e4 _ _ (e3 _ _ (e2 _ _ hws)), Nat.le_refl _, fun y => by simp⟩) (fun j y σ2 H4 hy x4' hP2 => ?_) (fun σ2 H4 x4' hP2 => ?_)
        · obtain ⟨x4, ms, rfl, hms, hml, hmm⟩ := hP2
          obtain ⟨w, hw, rfl⟩ : ∃ w, cw[j]? = some w ∧ V.str w = y := by
            rw [List.getElem?_map] at hy
            exact Option.map_eq_some_iff.mp hy
          have hj : j < cw.length := (List.getElem?_eq_some_iff.mp hw).1
          have tkj : cw.take (j + 1) = cw.take j ++ [w] := by rw [List.take_add_one, hw]; rfl
          rw [tkj]
          refine s_when (b := !decide (w ∈ ms)) (et_is (et_test (ev_op (ev_var rfl) (ev_var rfl) (rv_niL (sq_of hms) rfl (all_strs ms)))) (by rw [inV_strs])) (fun hb3 H5 e5 => ?_) (fun hb3 H5 e5 => ?_)
          · refine s_app (e5 _ _ hms) (ev_var rfl) (ev_var rfl) (by rw [List.length_map]; omega) fun H6 e6 => ⟨fun a o na ha => by rw [upd_ne na]; exact (e5.trans e6) a o ha, _, ms ++ [w], rfl, by rw [upd_same, List.map_append]; rfl, by rw [List.length_append]; simp; omega, fun z => ?_⟩
            rw [List.mem_append, hmm z, List.mem_append, or_assoc]
          · have hin : w ∈ ms := by simpa using hb3
            refine ⟨ExX.of e5, _, ms, rfl, e5 _ _ hms, by omega, fun z => ?_⟩
            rw [List.mem_append, ← or_assoc, ← hmm z]
            exact ⟨.inl, fun h => h.elim id fun h => by rw [List.mem_singleton.mp h]; exact hin⟩
        · obtain ⟨x4, ms, rfl, hms, hml, hmm⟩ := hP2
          rw [List.length_map] at hml hmm
          refine ⟨(ExX.of (e2.trans e3)).trans x4', _, _, ms, rfl, hms, by omega, fun y => ?_⟩
          rw [hmm y, List.take_length, hcm y]
          unfold rstep
          rw [if_pos ((hmem _).mp hin), List.mem_append, hmem y]
          rfl
      · have hin := of_decide_eq_false hb2
        refine ⟨ExX.of e2, _, _, ws, rfl, e2 _ _ hws, by omega, fun y => ?_⟩
        unfold rstep
        rw [if_neg fun z => hin ((hmem _).mpr z)]
        exact hmem y
    · obtain ⟨x3, x4, ws, rfl, hws, hwl, hmem⟩ := hP
      have hlf : fs.reverse.length = b.fns.reverse.length := by rw [List.length_reverse, List.length_reverse]; exact (Paired.length hfs).symm
      rw [hlf] at hwl hmem
      have h3 : b.fns.reverse.length ≤ 3 := by rw [List.length_reverse]; exact hfl
      exact s_ret (ev_var rfl) fun H2 e2 => hq p ws H2 hp0 ((ExX.ex xX e1 hp0).trans e2) (e2 _ _ hws) (by omega) fun y => by rw [hmem y, List.take_length]; rfl

omit T in
theorem scLTouched : FnScope ["_law_b", "_law_name", "_law_found_here", "_law_word", "_law_f", "_law_row", "_law_cell"] ["_law_b", "_law_name"] (defScope sLTouched) := ⟨rfl, rfl, rfl, by decide +kernel, rfl, by decide +kernel, by decide +kernel⟩
theorem okLTouched : Cal P w K mg base 3 "_law_touched" (spLTouched K) [] := by
  obtain ⟨fd, F⟩ := T.DLTouched
  refine cal_of T.g_law_touched F (F.bindsN fun _ _ _ _ _ _ us hl => match us, hl with | [_, _], _ => rfl) scLTouched (fun vs H Q E h => ?_) (fun cdv A outer s H vs Q E hr h => ?_)
  · obtain ⟨b, bv, n, rfl, _⟩ := h; rfl
  · refine ⟨_, (pss_cons (ps_set (i := 2) scLTouched.nd rfl (by first | exact Or.inl rfl | exact Or.inr rfl) (pe_lst pa_nil)) (pss_cons (ps_for PassesOwn.never rfl (pi_list (pe_c (okLReached T) hr (by decide) rfl (pa_cons (pv 0) (pa_cons (pv 1) pa_nil)))) (pg_name (i := 3) scLTouched.nd rfl (by first | exact Or.inl rfl | exact Or.inr rfl)) (pss_cons (ps_set (i := 4) scLTouched.nd rfl (by first | exact Or.inl rfl | exact Or.inr rfl) (pe_c (okLFound T) hr (by decide) rfl (pa_cons (pv 0) (pa_cons (pv 3) pa_nil)))) (pss_one (ps_set (i := 2) scLTouched.nd rfl (by first | exact Or.inl rfl | exact Or.inr rfl) (pe_op op_cat (pe_op op_cat (pv 2) (pe_c (okLWordsIn T) hr (by decide) rfl (pa_cons (pv 4) (pa_cons pe_str pa_nil)))) (pe_lc  (own := [("_law_row", 5)]) (by rfl) scLTouched.nd (pi_tup (pe_dget (hu_of hr) (pv 4) pe_str (fun _ _ => rfl))) (blkOk_by (own := [("_law_row", 5)]) (N := ["_law_b", "_law_name", "_law_found_here", "_law_word", "_law_f", "_law_row", "_law_cell"]) (sc := defScope sLTouched) (by decide +kernel)) (fun _ _ _ _ _ => (pg_name (i := 5) scLTouched.nd rfl (by first | exact Or.inl rfl | exact Or.inr rfl))) (fun _ _ _ _ _ => pts_nil) (fun _ _ _ _ _ => (pe_ix (ix_tupK (K := K) rfl) (pv 5) pe_int (fun _ _ => rfl))))))))) (pss_one (ps_ret (pe_lc  (own := [("_law_cell", 6)]) (by rfl) scLTouched.nd (pi_list (pe_dget (hu_of hr) (pv 0) pe_str (fun _ _ => rfl))) (blkOk_by (own := [("_law_cell", 6)]) (N := ["_law_b", "_law_name", "_law_found_here", "_law_word", "_law_f", "_law_row", "_law_cell"]) (sc := defScope sLTouched) (by decide +kernel)) (fun _ _ _ _ _ => (pg_name (i := 6) scLTouched.nd rfl (by first | exact Or.inl rfl | exact Or.inr rfl))) (fun _ _ _ _ _ => (pts_one (pt_cmpR (op_in_seqK (K := K) rfl) (pe_ix (ix_tupK (K := K) rfl) (pv 6) pe_int (fun _ _ => rfl)) (pv 2) (by rfl)))) (fun _ _ _ _ _ => (pe_ix (ix_tupK (K := K) rfl) (pv 6) pe_int (fun _ _ => rfl)))))))), ?_⟩
    obtain ⟨b, bv, n, rfl, hb, hok, hn, hq⟩ := h
    obtain ⟨q0, pc, pf, cs, fs, rfl, hq0, hpc, hcs, hpf, hfs⟩ := id hb
    refine q_asgL (xs := ([] : List Str).map V.str) (el_lst ea_nil (by decide)) fun p H1 hp0 e1 hp => ?_
    have hb1 := hb.mono e1
    refine tFor_lpq (lp_lreached (ea_cons (ev_var rfl) (ea_cons (ev_var rfl) ea_nil)) hb1 hok) fun pr xs H2 hpr0 e2 hpr hxs => ?_
    obtain ⟨R, rfl, hRl, hRm⟩ := hxs
    have hb2 := hb1.mono e2
    refine q_forI (evi_list ev_c (sq_of hpr)) (fun i σ' H' => Ex H2 H' ∧ ∃ (p : Addr) (x3 x4 : Option V) (ws : List Str), σ' = [some (.ref q0), some (.str n), some (.ref p), x3, x4, none, none] ∧ H' p = some (.lst (ws.map V.str)) ∧ ws.length ≤ 401 * i ∧ ∀ y, y ∈ ws ↔ ∃ w ∈ R.take i, ∃ g, findF b.fns w = some g ∧ y ∈ touchF g) (fun H3 e3 => ⟨e3, p, none, none, [], rfl, e3 _ _ (e2 _ _ hp), Nat.le_refl _, fun y => by simp⟩) (fun i x σ' H' hx eH hP => ?_) (fun σ' H' eH hP => ?_)
    · obtain ⟨e3, p, x3, x4, ws, rfl, hws, hwl, hmem⟩ := hP
      obtain ⟨w, hw, rfl⟩ : ∃ w, R[i]? = some w ∧ V.str w = x := by
        rw [List.getElem?_map] at hx
        exact Option.map_eq_some_iff.mp hx
      have hi : i < R.length := (List.getElem?_eq_some_iff.mp hw).1
      obtain ⟨g, hg, hgn, hgm⟩ := find_some (reach_known hok hn w ((hRm w).mp (List.mem_of_getElem? hw)))
      refine q_asgP (ep_lfound (ea_cons (ev_var rfl) (ea_cons (ev_var rfl) ea_nil)) (hb2.mono e3) hok.lf hg) fun v H3 e4 hv => ?_
      have hv : FunL H3 g v := hv
      obtain ⟨pg, xg, pw, wss, rfl, hpg, _, hpw, hwss⟩ := id hv
      have hrow : EvL (tLc (iTup K (tDGet (tVar 4) (tC (.str "writes")))) (gName 5) tYes (tOp (rIxT K) (tVar 5) (tC (.int 0))) [5]) [some (.ref q0), some (.str n), some (.ref p), some (.str w), some (.ref pg), none, none] H3 (g.wr.map fun w => V.str w.1) := el_pair (σ := [some (.ref q0), some (.str n), some (.ref p), some (.str w), some (.ref pg), none, none]) (vs := [5]) (j := 5) (te := tOp (rIxT K) (tVar 5) (tC (.int 0))) (evi_tup (K := K) (te := tDGet (tVar 4) (tC (.str "writes"))) (ev_dget (ev_var rfl) ev_c hpg rfl) (st_of hpw)) hwss (fun w => V.str w.1) (by rw [← Paired.length hwss]; have := hok.wl hgm; omega) (fun _ => rfl) fun a x _ hax => by
        obtain ⟨pz, y, rfl, hpz, _⟩ := hax
        exact ev_op (ev_var rfl) ev_c (rv_ixT (st_of hpz) at0)
      refine s_asgX (lp_catP (lp_catV (xs := ws.map V.str) (ev_var rfl) (e4 _ _ hws) (lp_words .cell (ea_cons (ev_var rfl) (ea_cons ev_c ea_nil)) hv (fun t ht => (hok.parts hgm t ht).2) (hok.wl hgm)) (fun ys hy => ?_)) (EvL.lp hrow) (fun xs ys h1 h2 => ?_) H3 (Ex.refl _) _ fun pn zs H4 hpn0 e5 hpn hzs => ?_)
      · obtain ⟨cw, rfl, hcl, _⟩ := hy
        rw [List.length_map, List.length_map]
        omega
      · obtain ⟨ys1, rfl, cw, rfl, hcl, _⟩ := h1
        subst h2
        rw [List.length_append, List.length_map, List.length_map, List.length_map]
        have := hok.wl hgm
        omega
      · obtain ⟨xs1, ys1, rfl, ⟨ys2, rfl, cw, rfl, hcl, hcm⟩, rfl⟩ := hzs
        have hwm : (g.wr.map fun w => V.str w.1) = (g.wr.map (·.1)).map V.str := by rw [List.map_map]; rfl
        rw [hwm, ← List.map_append, ← List.map_append] at hpn
        refine ⟨e4.trans e5, e3.trans (e4.trans e5), pn, _, _, ws ++ cw ++ g.wr.map (·.1), rfl, hpn, ?_, fun y => ?_⟩
        · rw [List.length_append, List.length_append, List.length_map]
          have := hok.wl hgm
          omega
        · have tk : R.take (i + 1) = R.take i ++ [w] := by rw [List.take_add_one, hw]; rfl
          rw [List.mem_append, List.mem_append, hmem y, hcm y, tk]
          constructor
          · rintro ((⟨w', hw', h⟩ | h) | h)
            · exact ⟨w', List.mem_append.mpr (.inl hw'), h⟩
            · exact ⟨w, by simp, g, hg, List.mem_append.mpr (.inr h)⟩
            · exact ⟨w, by simp, g, hg, List.mem_append.mpr (.inl h)⟩
          · rintro ⟨w', hw', g', hg', h⟩
            rcases List.mem_append.mp hw' with hw' | hw'
            · exact .inl (.inl ⟨w', hw', g', hg', h⟩)
            · rw [List.mem_singleton.mp hw', hg] at hg'
              cases hg'
              rcases List.mem_append.mp h with h | h
              · exact .inr h
              · exact .inl (.inr h)
    · obtain ⟨e3, p, x3, x4, ws, rfl, hws, hwl, hmem⟩ := hP
      rw [List.length_map, List.take_length] at hmem
      have e13 := e1.trans (e2.trans e3)
      have hcs' : Paired (CelL H') b.cells cs := Paired.mapP hcs fun _ _ z => CelL.mono e13 z
      have hin : ∀ c : Str × Str, decide (c.1 ∈ ws) = touched b n c.1 := fun c => by
        rw [Bool.eq_iff_iff, decide_eq_true_iff, hmem, touched_iff]
        constructor
        · rintro ⟨w, hw, h⟩; exact ⟨w, (hRm w).mp hw, h⟩
        · rintro ⟨w, hw, h⟩; exact ⟨w, (hRm w).mpr hw, h⟩
      have hres : (b.cells.filter fun c => decide (c.1 ∈ ws)).map (fun c => V.str c.1) = (touchL b n).map V.str := by
        unfold touchL
        rw [List.filter_map, List.map_map]
        have : (fun c : Str × Str => decide (c.1 ∈ ws)) = (touched b n ∘ fun x => x.1) := funext hin
        rw [this]
        rfl
      have hl := el_pairF (tt := tTest (tOp (rIn K false) (tOp (rIxT K) (tVar 6) (tC (.int 0))) (tVar 2))) (te := tOp (rIxT K) (tVar 6) (tC (.int 0))) (σ := [some (.ref q0), some (.str n), some (.ref p), x3, x4, none, none]) (vs := [6]) (j := 6) (evi_list (K := K) (te := tDGet (tVar 0) (tC (.str "cells"))) (ev_dget (ev_var rfl) ev_c (e13 _ _ hq0) rfl) (sq_of (e13 _ _ hpc))) hcs' (fun c => decide (c.1 ∈ ws)) (fun c => V.str c.1) (by rw [← Paired.length hcs]; have := hok.lc; omega) (fun _ => rfl) (fun c x _ hx => ?_) (fun c x _ hx => ?_)
      · rw [hres] at hl
        exact s_retL hl fun pn H3 hpn0 e4 hpn => hq pn H3 (fresh_back e13 hpn0) (e13.trans e4) hpn
      · obtain ⟨pz, rfl, hpz⟩ := hx
        exact et_is (et_test (ev_op (ev_op (ev_var rfl) ev_c (rv_ixT (st_of hpz) at0)) (ev_var rfl) (rv_isL (sq_of hws) rfl (all_strs ws)))) (inV_strs _ _)
      · obtain ⟨pz, rfl, hpz⟩ := hx
        exact ev_op (ev_var rfl) ev_c (rv_ixT (st_of hpz) at0)

end
end SC
set_option Elab.async false
set_option linter.all false
set_option maxRecDepth 100000
set_option maxHeartbeats 1000000
/-! L11: the cases, as the law counts them. -/
namespace SC
open PySem PySem.Spec PyProof.Rows L2 C8 Evl
theorem CaseAt.monoN {H H' : Hp} (e : ExN H H') {c : Sta × Int} {v : V} (h : CaseAt H c v) : CaseAt H' c v := let ⟨p, d, h1, h2, h3, h4⟩ := h; ⟨p, d, h1, e.at h2, e.at h3, h4⟩
section
variable {K : PySem.W.Frag} {σ : L2.St} {H : Hp} {te ta tb : TE} {tz : TS} {D : Ends} {tar : TA} {Φ : List V → Prop}
theorem lp_wordsF {g : Fn} (k : WK) (hf : EvP ta σ H (fun u H2 => FunL H2 g u)) (hs : ∀ t ∈ g.parts, t.size ≤ 13) (hw : g.wr.length ≤ 1) : EvLP (tCall (spLWordsIn K) [] C8.E0 (tCons ta (tCons (tC (.str (WK.name k))) tNil))) σ H (fun xs _ => ∃ ws : List Str, xs = ws.map V.str ∧ ws.length ≤ 400 ∧ ∀ x, x ∈ ws ↔ x ∈ wordsF k g) := fun H1 e Q q =>
  hf H1 e _ fun v H2 e2 hv => ⟨v, g, k, rfl, hv, hs, hw, fun p ws H3 hp e3 h3 hl hm => q p _ H3 (fresh_back e2 hp) (e2.trans e3) h3 ⟨ws, rfl, hl, hm⟩⟩
theorem et_neNilP {bb : Bool} (h : EvLP ta σ H fun xs _ => Φ xs) (hb : ∀ xs, Φ xs → (!xs.isEmpty) = bb) : EvT (tTest (tOp (rNeNil K) ta (tLst tNil))) σ H bb := fun H1 e Q q =>
  h H1 e _ fun p xs H2 hp e2 h2 hx => el_lst ea_nil (by decide) H2 (Ex.refl _) _ fun p2 H3 hp2 e3 h3 => ⟨p, p2, xs, rfl, rfl, sq_of (e3 _ _ h2), sq_of h3, _, rfl, by rw [hb xs hx]; exact q H3 (e2.trans e3)⟩
theorem lp_lstates {cs : List Str} (h : EvL ta σ H (cs.map V.str)) (hl : cs.length ≤ 3) (hn : cs.Nodup) : EvLP (tCall (spLStates K) [] C8.E0 (tCons ta tNil)) σ H (fun xs H2 => Paired (StD H2) (statesL cs) xs) := fun H1 e Q q =>
  h H1 e _ fun a H2 ha0 e2 h2 => ⟨a, cs, rfl, h2, hl, hn, fun p xs H3 hp e3 h3 h4 => q p xs H3 (fresh_back e2 hp) (e2.trans e3) h3 h4⟩
/-- dict of a new list of pairs -/
theorem ed_pairs {kvs : List (Key × V)} (h : EvLP ta σ H fun xs H2 => ∃ ps : List Addr, xs = ps.map V.ref ∧ Paired (fun p (kv : Key × V) => H2 p = some (.tup [kV kv.1, kv.2])) ps kvs) : EvD (tCB (fun xs H Q => ∃ (a : Addr) (ps : List Addr) (kvs : List (Key × V)), xs = [.ref a] ∧ SqL K H a (ps.map V.ref) ∧ Paired (fun p kv => SqT K H p [kV kv.1, kv.2]) ps kvs ∧
    ∀ p, H p = none → Q (.ref p) (upd H p (.dK (mergeK [] kvs)))) (tCons ta tNil)) σ H (mergeK [] kvs) := fun H1 e Q q =>
  h H1 e _ fun a xs H2 ha0 e2 h2 hx => by
    obtain ⟨ps, rfl, hp⟩ := hx
    exact ⟨a, ps, kvs, rfl, sq_of h2, Paired.mapP hp fun _ _ z => st_of z, fun p hp0 => q p _ (fresh_back e2 hp0) (e2.trans (Ex.new hp0)) upd_same⟩
theorem q_parDL {kvs : List (Key × V)} {xs : List V} {i j : Nat} (ha : EvD ta σ H kvs) (hb : EvL tb σ H xs) (k : ∀ p q H1, H q = none → Ex H H1 → H1 p = some (.dK kvs) → H1 q = some (.lst xs) → tz D ((σ.set i (some (.ref p))).set j (some (.ref q))) H1) : tSeq (tPar i j (tCons ta (tCons tb tNil))) tz D σ H :=
  ha H (Ex.refl _) _ fun p H2 hp e2 h2 => hb H2 e2 _ fun q H3 hq e3 h3 => ⟨_, _, rfl, k p q H3 (fresh_back e2 hq) (e2.trans e3) (e3 _ _ h2) h3⟩
theorem q_seqT {t : TS} (h : t { D with nx := tz D } σ H) : tSeq t tz D σ H := h
end

section
variable {P : Program} {w : World} {K : PySem.W.Frag} {mg : Str → Option Value} {base : Heap} (T : Tx K mg)
include T

omit T in
theorem scLCases : FnScope ["_law_b", "_law_name", "_law_ticks", "_law_word", "_law_blank", "_law_found_here", "_law_cell", "_law_some", "_law_state", "_law_tick"] ["_law_b", "_law_name"] (defScope sLCases) := ⟨rfl, rfl, rfl, by decide +kernel, rfl, by decide +kernel, by decide +kernel⟩
theorem okLCases : Cal P w K mg base 4 "_law_cases" (spLCases K) [] := by
  obtain ⟨fd, F⟩ := T.DLCases
  refine cal_of T.g_law_cases F (F.bindsN fun _ _ _ _ _ _ us hl => match us, hl with | [_, _], _ => rfl) scLCases (fun vs H Q E h => ?_) (fun cdv A outer s H vs Q E hr h => ?_)
  · obtain ⟨b, bv, n, rfl, _⟩ := h; rfl
  · refine ⟨_, (pss_cons (ps_set (i := 2) scLCases.nd rfl (by first | exact Or.inl rfl | exact Or.inr rfl) (pe_lst (pa_cons pe_int pa_nil))) (pss_cons (ps_for PassesOwn.never rfl (pi_list (pe_c (okLReached T) hr (by decide) rfl (pa_cons (pv 0) (pa_cons (pv 1) pa_nil)))) (pg_name (i := 3) scLCases.nd rfl (by first | exact Or.inl rfl | exact Or.inr rfl)) (pss_one (ps_if (pt_cmpR (op_neNil (Nat.lt_of_succ_lt (hu_of hr))) (pe_c (okLWordsIn T) hr (by decide) rfl (pa_cons (pe_c (okLFound T) hr (by decide) rfl (pa_cons (pv 0) (pa_cons (pv 3) pa_nil))) (pa_cons pe_str pa_nil))) (pe_lst pa_nil) (nomark _)) (pss_one (ps_set (i := 2) scLCases.nd rfl (by first | exact Or.inl rfl | exact Or.inr rfl) (pe_lst (pa_cons pe_int (pa_cons pe_int (pa_cons pe_int pa_nil)))))) pss_nil))) (pss_cons (ps_par (i := 4) (j := 5) (by rfl) scLCases.nd rfl rfl (by decide) rfl rfl (pa_cons (pe_callTy (call_dictP (by rfl)) rfl T.f_dict (by decide +kernel) (pa_cons (pe_lc  (own := [("_law_cell", 6)]) (by rfl) scLCases.nd (pi_list (pe_dget (hu_of hr) (pv 0) pe_str (fun _ _ => rfl))) (blkOk_by (own := [("_law_cell", 6)]) (N := ["_law_b", "_law_name", "_law_ticks", "_law_word", "_law_blank", "_law_found_here", "_law_cell", "_law_some", "_law_state", "_law_tick"]) (sc := defScope sLCases) (by decide +kernel)) (fun _ _ _ _ _ => (pg_name (i := 6) scLCases.nd rfl (by first | exact Or.inl rfl | exact Or.inr rfl))) (fun _ _ _ _ _ => pts_nil) (fun _ _ _ _ _ => (pe_tup (pa_cons (pe_ix (ix_tupK (K := K) rfl) (pv 6) pe_int (fun _ _ => rfl)) (pa_cons pe_int pa_nil))))) pa_nil)) (pa_cons (pe_lst pa_nil) pa_nil)) (by rfl)) (pss_cons (ps_for PassesOwn.never rfl (pi_list (pe_c (okLStates T) hr (by decide) rfl (pa_cons (pe_c (okLTouched T) hr (by decide) rfl (pa_cons (pv 0) (pa_cons (pv 1) pa_nil))) pa_nil))) (pg_name (i := 7) scLCases.nd rfl (by first | exact Or.inl rfl | exact Or.inr rfl)) (pss_cons (ps_set (i := 8) scLCases.nd rfl (by first | exact Or.inl rfl | exact Or.inr rfl) (pe_callTy call_dictD rfl T.f_dict (by decide +kernel) (pa_cons (pv 4) pa_nil))) (pss_cons (ps_lock (ps_for PassesOwn.never rfl (pi_keys (pv 7)) (pg_name (i := 6) scLCases.nd rfl (by first | exact Or.inl rfl | exact Or.inr rfl)) (pss_one (ps_dput (hu_of hr) (pv 8) (pv 6) (pe_dget (hu_of hr) (pv 7) (pv 6) (fun _ _ => rfl)) rfl)))) (pss_one (ps_set (i := 5) scLCases.nd rfl (by first | exact Or.inl rfl | exact Or.inr rfl) (pe_op op_cat (pv 5) (pe_lc  (own := [("_law_tick", 9)]) (by rfl) scLCases.nd (pi_list (pv 2)) (blkOk_by (own := [("_law_tick", 9)]) (N := ["_law_b", "_law_name", "_law_ticks", "_law_word", "_law_blank", "_law_found_here", "_law_cell", "_law_some", "_law_state", "_law_tick"]) (sc := defScope sLCases) (by decide +kernel)) (fun _ _ _ _ _ => (pg_name (i := 9) scLCases.nd rfl (by first | exact Or.inl rfl | exact Or.inr rfl))) (fun _ _ _ _ _ => pts_nil) (fun _ _ _ _ _ => (pe_tup (pa_cons (pv 8) (pa_cons (pv 9) pa_nil))))))))))) (pss_one (ps_ret (pv 5))))))), ?_⟩
    obtain ⟨b, bv, n, rfl, hb, hok, hn, hq⟩ := h
    obtain ⟨q0, pc, pf, cs, fs, rfl, hq0, hpc, hcs, hpf, hfs⟩ := id hb
    have htl : (touchL b n).length ≤ 3 := by
      have h1 := List.length_filter_le (touched b n) (b.cells.map (·.1))
      rw [List.length_map] at h1
      exact Nat.le_trans h1 hok.lc
    have htn : (touchL b n).Nodup := List.Nodup.sublist List.filter_sublist hok.ndc
    have hbk : keysS (blankS b) = b.cells.map (·.1) := by unfold keysS blankS; rw [List.map_map]; rfl
    have hbn : (keysS (blankS b)).Nodup := by rw [hbk]; exact hok.ndc
    have hbl : (blankS b).length ≤ 3 := by unfold blankS; rw [List.length_map]; exact hok.lc
    have hm0 : mergeK [] (stV (blankS b)) = stV (blankS b) := by
      have h1 := stV_merge (blankS b) []
      rw [merge_fresh (blankS b) [] (by simpa [keysS] using hbn)] at h1
      exact h1
    refine q_asgL (xs := (ticksL false).map V.int) (el_lst (ea_cons ev_c ea_nil) (show 1 ≤ 100000 by decide)) fun pt H1 hpt0 e1 hpt => ?_
    have hb1 := hb.mono e1
    refine tFor_lpq (lp_lreached (ea_cons (ev_var rfl) (ea_cons (ev_var rfl) ea_nil)) hb1 hok) fun pr xs H2 hpr0 e2 hpr hxs => ?_
    obtain ⟨R, rfl, hRl, hRm⟩ := hxs
    have hb2 := hb1.mono e2
    refine q_forI (evi_list ev_c (sq_of hpr)) (fun i σ' H' => Ex H2 H' ∧ ∃ (p : Addr) (x3 : Option V) (fl : Bool), σ' = [some (.ref q0), some (.str n), some (.ref p), x3, none, none, none, none, none, none] ∧ H' p = some (.lst ((ticksL fl).map V.int)) ∧ (fl = true ↔ ∃ w ∈ R.take i, ∃ g, findF b.fns w = some g ∧ tickF g = true)) (fun H3 e3 => ⟨e3, pt, none, false, rfl, e3 _ _ (e2 _ _ hpt), by simp⟩) (fun i x σ' H' hx eH hP => ?_) (fun σ' H' eH hP => ?_)
    · obtain ⟨e3, p, x3, fl, rfl, hp, hfl⟩ := hP
      obtain ⟨w, hw, rfl⟩ : ∃ w, R[i]? = some w ∧ V.str w = x := by
        rw [List.getElem?_map] at hx
        exact Option.map_eq_some_iff.mp hx
      have hi : i < R.length := (List.getElem?_eq_some_iff.mp hw).1
      obtain ⟨g, hg, hgn, hgm⟩ := find_some (reach_known hok hn w ((hRm w).mp (List.mem_of_getElem? hw)))
      have tk : R.take (i + 1) = R.take i ++ [w] := by rw [List.take_add_one, hw]; rfl
      have hor : ∀ fl', fl' = (fl || tickF g) → (fl' = true ↔ ∃ w ∈ R.take (i + 1), ∃ g, findF b.fns w = some g ∧ tickF g = true) := by
        rintro fl' rfl
        rw [tk, Bool.or_eq_true, hfl]
        constructor
        · rintro (⟨w', hw', h⟩ | h)
          · exact ⟨w', List.mem_append.mpr (.inl hw'), h⟩
          · exact ⟨w, by simp, g, hg, h⟩
        · rintro ⟨w', hw', g', hg', h⟩
          rcases List.mem_append.mp hw' with hw' | hw'
          · exact .inl ⟨w', hw', g', hg', h⟩
          · rw [List.mem_singleton.mp hw', hg] at hg'
            cases hg'
            exact .inr h
      refine s_when (b := tickF g) (et_neNilP (lp_wordsF .tick (ep_lfound (ea_cons (ev_var rfl) (ea_cons (ev_var rfl) ea_nil)) (hb2.mono e3) hok.lf hg) (fun t ht => (hok.parts hgm t ht).2) (hok.wl hgm)) fun xs hx => ?_) (fun ht H3 e4 => ?_) (fun ht H3 e4 => ?_)
      · obtain ⟨ws, rfl, _, hm⟩ := hx
        exact tick_words hm
      · exact s_asgL (xs := (ticksL true).map V.int) (el_lst (ea_cons ev_c (ea_cons ev_c (ea_cons ev_c ea_nil))) (show 3 ≤ 100000 by decide)) fun p2 H4 hp2 e5 h5 => ⟨e4.trans e5, e3.trans (e4.trans e5), p2, _, true, rfl, h5, hor true (by rw [ht]; simp)⟩
      · exact ⟨e4, e3.trans e4, p, _, fl, rfl, e4 _ _ hp, hor fl (by rw [ht]; simp)⟩
    · obtain ⟨e3, p, x3, fl, rfl, hp, hfl⟩ := hP
      rw [List.length_map, List.take_length] at hfl
      have hfl2 : fl = tickM b n := by
        rw [Bool.eq_iff_iff, hfl, tickM_iff]
        constructor
        · rintro ⟨w, hw, h⟩; exact ⟨w, (hRm w).mp hw, h⟩
        · rintro ⟨w, hw, h⟩; exact ⟨w, (hRm w).mpr hw, h⟩
      subst hfl2
      have htk : (ticksL (tickM b n)).length ≤ 3 := by unfold ticksL; split <;> decide
      have e13 := e1.trans (e2.trans e3)
      have hb3 := hb.mono e13
      have hcs3 : Paired (CelL H') b.cells cs := Paired.mapP hcs fun _ _ z => CelL.mono e13 z
      have hpairs := lc_gen (tt := tYes) (te := tTup (tCons (tOp (rIxT K) (tVar 6) (tC (.int 0))) (tCons (tC (.int 0)) tNil))) (vs := [6]) (j := 6) (σ := [some (.ref q0), some (.str n), some (.ref p), x3, none, none, none, none, none, none]) (H := H') (evi_list (K := K) (te := tDGet (tVar 0) (tC (.str "cells"))) (ev_dget (ev_var rfl) ev_c (e13 _ _ hq0) rfl) (sq_of (e13 _ _ hpc))) (fun i acc H2 => ∃ ps : List Addr, acc = ps.map V.ref ∧ Paired (fun p (kv : Key × V) => H2 p = some (.tup [kV kv.1, kv.2])) ps (stV ((b.cells.take i).map fun c => (c.1, 0)))) (fun _ _ _ _ e ⟨ps, h1, h2⟩ => ⟨ps, h1, Paired.mapP h2 fun _ _ z => e.at z⟩) (fun _ _ => ⟨[], rfl, .nil⟩) (by rw [← Paired.length hcs]; have := hok.lc; omega) (fun _ => rfl) fun i x acc H2 hx e hl hi => ?_
      rotate_left
      · obtain ⟨c, hc, hcx⟩ := Paired.getR hcs3 hx
        obtain ⟨ps, rfl, hps⟩ := hi
        obtain ⟨pz, rfl, hpz⟩ := hcx.mono e
        refine ⟨true, et_yes, fun _ H3 e4 Q q2 => e_tup (e_cons ((ev_op (ev_var rfl) ev_c (rv_ixT (st_of (e4 _ _ hpz)) at0)) H3 (Ex.refl _) _ fun H4 e5 => e_cons (e_cX ⟨show 2 ≤ sizeLine by decide, fun t ht => q2 _ _ (e5.trans (Ex.new ht)) ⟨ps ++ [t], by rw [List.map_append]; rfl, ?_⟩⟩))), fun z => by cases z⟩
        have hst : stV ((b.cells.take (i + 1)).map fun c => (c.1, 0)) = stV ((b.cells.take i).map fun c => (c.1, 0)) ++ [(Sum.inr c.1, .int 0)] := by
          rw [List.take_add_one, hc]
          unfold stV
          simp
        rw [hst]
        exact Paired.snoc (Paired.mapP hps fun _ _ z => (e4.trans (e5.trans (Ex.new ht))) _ _ z) upd_same
      rw [← Paired.length hcs, List.take_length] at hpairs
      refine q_parDL (ed_pairs (kvs := stV (blankS b)) hpairs) (el_lst ea_nil (by decide)) fun pb pl H3 hpl0 e4 hpb hpl => ?_
      rw [hm0] at hpb
      have hb4 := hb3.mono e4
      refine tFor_lpq (lp_lstates (el_ltouched (ea_cons (ev_var rfl) (ea_cons (ev_var rfl) ea_nil)) hb4 hok hn) htl htn) fun ps xs H4 hps0 e5 hps hxs => ?_
      have hxs : Paired (StD H4) (statesL (touchL b n)) xs := hxs
      obtain ⟨hS1, hS2⟩ := states_ok htl htn
      have hpt4 : H4 p = some (.lst ((ticksL (tickM b n)).map V.int)) := (e4.trans e5) _ _ hp
      have hpb4 := e5 _ _ hpb
      generalize hTT : ticksL (tickM b n) = TT at htk hpt4
      generalize hSS : statesL (touchL b n) = SS at hxs hS1 hS2
      refine q_forI (evi_list ev_c (sq_of hps)) (fun i σ' H' => Ex H4 H' ∧ ∃ (pl : Addr) (x6 x7 x8 : Option V) (ys : List V), σ' = [some (.ref q0), some (.str n), some (.ref p), x3, some (.ref pb), some (.ref pl), x6, x7, x8, none] ∧ H' pl = some (.lst ys) ∧ H pl = none ∧ Paired (CaseAt H') ((SS.take i).flatMap fun s => TT.map fun t => (mergeS (blankS b) s, t)) ys) (fun H5 e6 => ⟨e6, pl, none, none, none, [], rfl, e6 _ _ (e5 _ _ hpl), fresh_back e13 hpl0, .nil⟩) (fun i x σ' H5 hx eH hP => ?_) (fun σ' H5 eH hP => ?_)
      · obtain ⟨e6, pl, x6, x7, x8, ys, rfl, hys, hpl0, hpd⟩ := hP
        obtain ⟨s, hs, hsx⟩ := Paired.getR hxs hx
        obtain ⟨ds, rfl, hds⟩ := StD.mono e6 hsx
        have hks := hS2 s (List.mem_of_getElem? hs)
        have hsm : ∀ z ∈ s, z.1 ∈ keysS (blankS b) := fun z hz => by
          rw [hbk]
          have h1 : z.1 ∈ keysS s := List.mem_map.mpr ⟨z, hz, rfl⟩
          rw [hks] at h1
          exact touch_cells h1
        have hi : i < SS.length := (List.getElem?_eq_some_iff.mp hs).1
        have hlen : ys.length ≤ 81 := by
          rw [← Paired.length hpd]
          have key : ∀ l : List Sta, (l.flatMap fun s => TT.map fun t => (mergeS (blankS b) s, t)).length = l.length * TT.length := by
            intro l
            induction l with
            | nil => simp
            | cons a r ih => rw [List.flatMap_cons, List.length_append, ih, List.length_map, List.length_cons, Nat.succ_mul]; omega
          rw [key, List.length_take]
          have h1 : min i SS.length * TT.length ≤ 27 * 3 := Nat.mul_le_mul (by omega) htk
          omega
        refine q_asgD (ed_dict (ev_var rfl) (e6 _ _ hpb4)) fun dm H6 hdm e7 hdm6 => ?_
        have nds : ds ≠ dm := fun z => by rw [z, hdm] at hds; cases hds
        refine q_seqT (s_mergeFor (e7 _ _ hds) hdm6 nds (by rw [hks]; exact htn) hsm (by omega) fun x6' H7 x7' h7 => ?_)
        have e57 : Ex H5 H7 := ExX.ex x7' e7 hdm
        have hys7 := e57 _ _ hys
        have hnd : (keysS (mergeS (blankS b) s)).Nodup := by rw [keys_mergeS hsm]; exact hbn
        have hlist := lc_gen (tt := tYes) (te := tTup (tCons (tVar 8) (tCons (tVar 9) tNil))) (vs := [9]) (j := 9) (σ := [some (.ref q0), some (.str n), some (.ref p), x3, some (.ref pb), some (.ref pl), x6', some (.ref ds), some (.ref dm), none]) (H := H7) (evi_list (K := K) (te := tVar 2) (ev_var rfl) (sq_of (e57 _ _ (e6 _ _ hpt4)))) (fun k acc H2 => Paired (CaseAt H2) ((TT.take k).map fun t => (mergeS (blankS b) s, t)) acc) (fun _ _ _ _ e h => Paired.mapP h fun _ _ z => CaseAt.monoN e z) (fun _ _ => .nil) (by rw [List.length_map]; omega) (fun _ => rfl) fun k z acc H8 hz e8 hl hi => ?_
        rotate_left
        · obtain ⟨t, ht, rfl⟩ : ∃ t, TT[k]? = some t ∧ V.int t = z := by
            rw [List.getElem?_map] at hz
            exact Option.map_eq_some_iff.mp hz
          refine ⟨true, et_yes, fun _ H9 e9 Q q2 => e_tup (e_cons (e_vX rfl (e_cons (e_vX rfl ⟨show 2 ≤ sizeLine by decide, fun a ha => q2 _ _ (Ex.new ha) ?_⟩)))), fun z => by cases z⟩
          rw [List.take_add_one, ht, List.map_append]
          exact Paired.snoc (Paired.mapP hi fun _ _ z => CaseAt.mono (e9.trans (Ex.new ha)) z) ⟨a, dm, rfl, upd_same, (e8.trans (e9.trans (Ex.new ha))) _ _ h7, hnd⟩
        refine s_asgX (e_opX (e_vX rfl (hlist H7 (Ex.refl _) _ fun p9 zs H8 hp9 e8 hz8 hzs => ⟨pl, p9, ys, zs, rfl, rfl, e8 _ _ hys7, hz8, ?_, fun pn hpn => ?_⟩)))
        · have h1 := Paired.length hzs
          rw [List.length_map, List.length_take] at h1
          rw [sizeLine_eq]
          omega
        · rw [List.length_map, List.take_length] at hzs
          have e59 := e57.trans (e8.trans (Ex.new (o := .lst (ys ++ zs)) hpn))
          refine ⟨e59, e6.trans e59, pn, _, _, _, ys ++ zs, rfl, upd_same, fresh_back (e13.trans (e4.trans (e5.trans (e6.trans (e57.trans e8))))) hpn, ?_⟩
          have tk : SS.take (i + 1) = SS.take i ++ [s] := by rw [List.take_add_one, hs]; rfl
          rw [tk, List.flatMap_append, List.flatMap_singleton]
          exact Paired.app (Paired.mapP hpd fun _ _ z => CaseAt.mono e59 z) (Paired.mapP hzs fun _ _ z => CaseAt.mono (Ex.new hpn) z)
      · obtain ⟨e6, pl, x6, x7, x8, ys, rfl, hys, hpl0, hpd⟩ := hP
        rw [← Paired.length hxs, List.take_length] at hpd
        refine s_ret (ev_var rfl) fun H6 e7 => hq pl ys H6 hpl0 (e13.trans (e4.trans (e5.trans (e6.trans e7)))) (e7 _ _ hys) (Paired.mapP ?_ fun _ _ z => CaseAt.mono e7 z)
        unfold caseL
        rw [hSS, hTT]
        exact hpd

end
end SC
set_option Elab.async false
set_option linter.all false
set_option maxRecDepth 100000
set_option maxHeartbeats 1000000
/-! L12: the law. -/
namespace SC
open PySem PySem.Spec PyProof.Rows L2 C8 Evl
def LAskAt (b : Bk) (n : Str) (g : Fn) (args : List Int) (s : Sta) (t : Int) (vs : List V) (H : Hp) : Prop := ∃ bv pa cv, vs = [bv, .str n, .ref pa, cv] ∧ BookL H b bv ∧ BOk b ∧ findF b.fns n = some g ∧ H pa = some (.tup (args.map V.int)) ∧ ArgOk g.many args ∧ CaseOk H s t cv ∧ StOk (b.cells.map (·.1)) s
def spLRunAt (K : PySem.W.Frag) : Sp := fun vs H Q _ => ∃ b n g args s t, LAskAt b n g args s t vs H ∧ ∀ (p d : Addr) (H2 : Hp), Ex H H2 → H2 p = some (.lst [.int (ran b.fns t 2 g args s).1, .ref d]) → H2 d = some (.dK (stV (ran b.fns t 2 g args s).2)) → Q (.ref p) H2
theorem digs_vals (cs : List Str) (n : Nat) : ∀ p ∈ digs cs n, 0 ≤ p.2 ∧ p.2 ≤ 2 := by
  have key : ∀ (l : List Str) (q : Sta × Nat), (∀ p ∈ q.1, 0 ≤ p.2 ∧ p.2 ≤ 2) → ∀ p ∈ (l.foldl digStep q).1, 0 ≤ p.2 ∧ p.2 ≤ 2 := by
    intro l
    induction l with
    | nil => intro q h; exact h
    | cons c r ih =>
      intro q h
      refine ih (digStep q c) fun p hp => ?_
      rcases List.mem_cons.mp hp with e | hp
      · rw [e]
        show (0 : Int) ≤ ((q.2 % 3 : Nat) : Int) ∧ ((q.2 % 3 : Nat) : Int) ≤ 2
        omega
      · exact h p hp
  exact key _ _ fun p hp => by cases hp
theorem case_ok {b : Bk} (hok : BOk b) {n : Str} {c : Sta × Int} (hc : c ∈ caseL b n) : StOk (b.cells.map (·.1)) c.1 ∧ 0 ≤ c.2 := by
  have htl : (touchL b n).length ≤ 3 := by
    have h1 := List.length_filter_le (touched b n) (b.cells.map (·.1))
    rw [List.length_map] at h1
    exact Nat.le_trans h1 hok.lc
  have htn : (touchL b n).Nodup := List.Nodup.sublist List.filter_sublist hok.ndc
  have hbk : keysS (blankS b) = b.cells.map (·.1) := by unfold keysS blankS; rw [List.map_map]; rfl
  unfold caseL at hc
  rw [states_digs _ _ rfl htn] at hc
  obtain ⟨s, hs, hc⟩ := List.mem_flatMap.mp hc
  obtain ⟨i, _, rfl⟩ := List.mem_map.mp hs
  obtain ⟨t, ht, rfl⟩ := List.mem_map.mp hc
  refine ⟨⟨?_, ?_⟩, ?_⟩
  · show keysS (mergeS (blankS b) (digs (touchL b n) i)) = _
    rw [keys_mergeS fun z hz => ?_, hbk]
    rw [hbk]
    have h1 : z.1 ∈ keysS (digs (touchL b n) i) := List.mem_map.mpr ⟨z, hz, rfl⟩
    rw [keys_digs] at h1
    exact touch_cells h1
  · refine vals_mergeS (P := fun v => 0 ≤ v ∧ v ≤ 2) (fun p hp => ?_) (digs_vals _ _)
    unfold blankS at hp
    obtain ⟨c, _, rfl⟩ := List.mem_map.mp hp
    exact ⟨(show (0 : Int) ≤ 0 by decide), (show (0 : Int) ≤ 2 by decide)⟩
  · show 0 ≤ t
    unfold ticksL at ht
    split at ht
    · simp only [List.mem_cons, List.not_mem_nil, or_false] at ht
      rcases ht with rfl | rfl | rfl <;> decide
    · rw [List.mem_singleton.mp ht]; decide
section
variable {K : PySem.W.Frag} {σ : L2.St} {H : Hp} {te ta tb : TE} {tz : TS} {D : Ends} {tar : TA}
theorem ep_lmade {b : Bk} {bv : V} (h : Ev ta σ H bv) (hb : BookL H b bv) (hok : BOk b) : EvP (tCall (spLMadeBook K) [] C8.E0 (tCons ta tNil)) σ H (fun v H2 => BookP K H2 b v) := fun H1 e Q q =>
  h H1 e _ fun H2 e2 => ⟨b, bv, rfl, hb.mono (e.trans e2), hok, fun v H3 e3 hv => q v H3 (e2.trans e3) hv⟩
theorem ev_min2 {i j : Int} (ha : Ev ta σ H (.int i)) (hb : Ev tb σ H (.int j)) : Ev (tCB (fun xs H Q => ∃ i j, xs = [V.int i, .int j] ∧ Q (.int (if j < i then j else i)) H) (tCons ta (tCons tb tNil))) σ H (.int (if j < i then j else i)) := fun H1 e Q q =>
  ha H1 e _ fun H2 e2 => hb H2 (e.trans e2) _ fun H3 e3 => ⟨i, j, rfl, q H3 (e2.trans e3)⟩
theorem lp_linputs {m : Nat} (h : Ev ta σ H (.int (m : Int))) (hm : m ≤ 2) : EvLP (tCall (spLInputs K) [] C8.E0 (tCons ta tNil)) σ H (fun xs H2 => xs.length ≤ 9 ∧ ∀ x ∈ xs, InpV H2 m x) := fun H1 e Q q =>
  h H1 e _ fun H2 e2 => ⟨m, rfl, hm, fun p xs H3 hp e3 h3 h4 h5 => q p xs H3 (fresh_back e2 hp) (e2.trans e3) h3 ⟨h4, h5⟩⟩
theorem lp_sl5 {m : Nat} (h : EvLP ta σ H (fun xs H2 => xs.length ≤ 9 ∧ ∀ x ∈ xs, InpV H2 m x)) : EvLP (tSl (rSlL K) ta tNoPart (tPart (tC (.int 5)))) σ H (fun zs H2 => ∀ z ∈ zs, InpV H2 m z) := fun H1 e Q q =>
  h H1 e _ fun p xs H2 hp e2 h2 h3 => ⟨5, rfl, p, xs, rfl, sq_of h2, fun p2 hp2 => q p2 _ _ (fresh_back e2 hp2) (e2.trans (Ex.new hp2)) upd_same fun z hz => by
    unfold cutV at hz
    exact InpV.mono (Ex.new hp2) (h3.2 z (List.mem_of_mem_drop (List.mem_of_mem_take hz)))⟩
theorem lp_every {a : Addr} {xs : List V} {k : Int} (h : Ev ta σ H (.ref a)) (ha : H a = some (.lst xs)) (hk : Ev tb σ H (.int k)) (h0 : 0 < k) : EvLP (tEvery K ta tb) σ H (fun zs _ => ∀ z ∈ zs, z ∈ xs) := fun H1 e Q q =>
  h H1 e _ fun H2 e2 => ⟨a, xs, rfl, sq_of ((e.trans e2) _ _ ha), hk H2 (e.trans e2) _ fun H3 e3 => ⟨k, rfl, h0, sq_of ((e.trans (e2.trans e3)) _ _ ha), fun p zs hp hz _ => q p zs _ (fresh_back (e2.trans e3) hp) ((e2.trans e3).trans (Ex.new hp)) upd_same hz⟩⟩
theorem g_pairL {a : Addr} {y z : V} {i j : Nat} {σ : L2.St} {Q : L2.St → Hp → Prop} (h : H a = some (.lst [y, z])) (q : Q ((σ.set i (some y)).set j (some z)) H) : gUnl K 2 (gCons (gName i) (gCons (gName j) gNil)) (.ref a) σ H Q := ⟨a, _, rfl, sq_of h, rfl, _, _, rfl, _, _, rfl, rfl, q⟩
theorem evi_ex {wi : TI} {xs : List V} {H' : Hp} (h : EvI wi σ H xs) (e : Ex H H') : EvI wi σ H' xs := fun H1 e1 R q => h H1 (e.trans e1) R q
end
def spLaw (K : PySem.W.Frag) : Sp := fun vs H Q _ => ∃ (a : Addr) (ns : List Int), vs = [.ref a] ∧ SqL K H a (ns.map V.int) ∧ ns.length ≤ 63 ∧ ∀ H', Q (.bl true) H'

section
variable {P : Program} {w : World} {K : PySem.W.Frag} {mg : Str → Option Value} {base : Heap} (T : Tx K mg)
include T

omit T in
theorem scLRunAt : FnScope ["_law_b", "_law_name", "_law_values", "_law_case", "_law_held", "_law_value"] ["_law_b", "_law_name", "_law_values", "_law_case"] (defScope sLRunAt) := ⟨rfl, rfl, rfl, by decide +kernel, rfl, by decide +kernel, by decide +kernel⟩
theorem okLRunAt : Cal P w K mg base 25 "_law_run_at" (spLRunAt K) [] := by
  obtain ⟨rk, hk, hR⟩ := okLRan2 (P := P) (w := w) (base := base) T
  obtain ⟨fd, F⟩ := T.DLRunAt
  refine cal_of T.g_law_run_at F (F.bindsN fun _ _ _ _ _ _ us hl => match us, hl with | [_, _, _, _], _ => rfl) scLRunAt (fun vs H Q E h => ?_) (fun cdv A outer s H vs Q E hr h => ?_)
  · obtain ⟨b, n, g, args, s, t, ⟨bv, pa, cv, rfl, _⟩, _⟩ := h; rfl
  · refine ⟨_, (pss_cons (ps_set (i := 4) scLRunAt.nd rfl (by first | exact Or.inl rfl | exact Or.inr rfl) (pe_callTy call_dictD rfl T.f_dict (by decide +kernel) (pa_cons (pe_ix ix_tup (pv 3) pe_int (fun _ _ => rfl)) pa_nil))) (pss_cons (ps_set (i := 5) scLRunAt.nd rfl (by first | exact Or.inl rfl | exact Or.inr rfl) (pe_c hR hr (Nat.le_trans hk (by decide)) rfl (pa_cons (pv 0) (pa_cons (pe_c (okLFound T) hr (by decide) rfl (pa_cons (pv 0) (pa_cons (pv 1) pa_nil))) (pa_cons (pe_callTy call_list_of rfl T.f_list (by decide +kernel) (pa_cons (pv 2) pa_nil)) (pa_cons (pv 4) (pa_cons (pe_ix ix_tup (pv 3) pe_int (fun _ _ => rfl)) (pa_cons pe_non pa_nil)))))))) (pss_one (ps_ret (pe_lst (pa_cons (pv 5) (pa_cons (pv 4) pa_nil))))))), ?_⟩
    obtain ⟨b, n, g, args, s, t, ⟨bv, pa, cv, rfl, hb, hok, hf, hpa, hag, ⟨p, ps, rfl, hp, hps⟩, hst⟩, hq⟩ := h
    have hgm := (find_mem hf).1
    have hl3 := hok.lf
    refine q_asgD (ed_dict (ev_op (ev_var rfl) ev_c (rv_ixT (st_of hp) at0)) hps) fun dh H1 hdh e1 hd1 => ?_
    have hb1 := hb.mono e1
    refine q_asgE (e_cons (e_vX rfl (e_cons (ep_lfound (ea_cons (ev_var rfl) (ea_cons (ev_var rfl) ea_nil)) hb1 hl3 hf H1 (Ex.refl _) _ fun w H2 e2 hu => e_cons (el_listT (ev_var rfl) (st_of ((e1.trans e2) _ _ hpa)) H2 (Ex.refl _) _ fun pl H3 hpl0 e3 hpl => e_cons (e_vX rfl (e_cons ((ev_op (ev_var rfl) ev_c (rv_ixT (st_of ((e1.trans (e2.trans e3)) _ _ hp)) at1)) H3 (Ex.refl _) _ fun H4 e4 => e_cons (e_cX ?_)))))))))
    have e14 := e2.trans (e3.trans e4)
    have hu : FunL H2 g w := hu
    refine ⟨b, bv, dh, t, s, w, pl, args, g, rfl, ⟨hb1.mono e14, e14 _ _ hd1, hok, hst⟩, hu.mono (e3.trans e4), by rw [List.take_of_length_le (by omega)]; exact hgm, e4 _ _ hpl, hag, fun H5 x5 h5 => ?_⟩
    have e05 : Ex H H5 := ExX.ex x5 (e1.trans e14) hdh
    exact s_retL (el_lst (ea_cons (ev_var rfl) (ea_cons (ev_var rfl) ea_nil)) (show 2 ≤ 100000 by decide)) fun pr H6 hpr0 e6 hpr => hq pr dh H6 (e05.trans e6) hpr (e6 _ _ h5)

end
end SC
set_option Elab.async false
set_option linter.all false
set_option maxRecDepth 100000
set_option maxHeartbeats 1000000
/-! L13: the law. -/
namespace SC
open PySem PySem.Spec PyProof.Rows L2 C8 Evl


section
variable {K : PySem.W.Frag}
theorem e_listG2 {sp : SpG2} {tar : TA} {σ : L2.St} {H : Hp} {Q : VK} (h : tar σ H fun vs H1 => sp vs H1 fun out H2 => ∀ p, H2 p = none → Q (.ref p) (upd H2 p (.lst out))) : tListG2 sp tar σ H Q := h
theorem AskAt.mono {b : Bk} {n : Str} {g : Fn} {args : List Int} {s : Sta} {t : Int} {vs : List V} {H H' : Hp} (e : Ex H H') (h : AskAt K b n g args s t vs H) : AskAt K b n g args s t vs H' :=
  let ⟨bv, pa, cv, h1, h2, h3, h4, h5, h6, ⟨p, ps, h7, h8, h9⟩, h10, h11⟩ := h
  ⟨bv, pa, cv, h1, h2.mono e, h3, h4, e _ _ h5, h6, ⟨p, ps, h7, e _ _ h8, e _ _ h9⟩, h10, h11⟩
theorem spv_valueAt {b : Bk} {n : Str} {g : Fn} {args : List Int} {s : Sta} {t : Int} {vs : List V} {H : Hp} (h : AskAt K b n g args s t vs H) : SpV (spValueAt K) vs H (.int (ran b.fns t 2 g args s).1) := fun H1 e Q q E => ⟨b, n, g, args, s, t, h.mono e, q⟩
theorem spv_writesAt {b : Bk} {n : Str} {g : Fn} {args : List Int} {s : Sta} {t : Int} {vs : List V} {H : Hp} (h : AskAt K b n g args s t vs H) : SpV (spWritesAt K) vs H (.bl (neS (ran b.fns t 2 g args s).2 s)) := fun H1 e Q q E => ⟨b, n, g, args, s, t, h.mono e, q⟩
end

section
variable {P : Program} {w : World} {K : PySem.W.Frag} {mg : Str → Option Value} {base : Heap} (T : Tx K mg)
include T

omit T in
theorem scLaw : FnScope ["_law_script", "_law_k", "_law_pool_here", "_law_b", "_law_book_here", "_law_f", "_law_due", "_law_values", "_law_case", "_law_value", "_law_held"] ["_law_script"] (defScope sLaw) := ⟨rfl, rfl, rfl, by decide +kernel, rfl, by decide +kernel, by decide +kernel⟩
theorem okLaw {fd : FuncData} (F : FunD K "law" "law" (defArgs sLaw) (defBody sLaw) (defScope sLaw) [] [] (He.ga K "law") fd) : FnOk P w K mg base C8.CX0 30 (He.ga K "law") fd ["_law_script"] (spLaw K) := by
  obtain ⟨cfd, cps, FG, FGb, FGk⟩ := okCases (P := P) (w := w) (base := base) T
  refine F.ok scLaw (fun vs H Q E h => ?_) fun cdv A outer s H vs Q E hr h => ?_
  · obtain ⟨a, ns, rfl, _⟩ := h; rfl
  · suffices hh : ∃ t, PSs (cxOf C8.CX0 P w K mg base _ "law" (defScope sLaw) _ cdv A outer s H E).nox (defBody sLaw) t ∧ t { nx := fun _ H' => Q .non H', rt := Q } (start _ vs) H by
      obtain ⟨t, p, q⟩ := hh
      exact ⟨t, p.nox, q⟩
    refine ⟨_, (pss_cons (ps_for PassesOwn.never rfl (pi_range1 (by rfl) T.f_range (pa_cons (pe_callB (call_max2 rfl) rfl T.f_max (by decide +kernel) (pa_cons pe_int (pa_cons (pe_callB (call_min2 rfl) rfl T.f_min (by decide +kernel) (pa_cons (pe_callB call_len rfl T.f_len (by decide +kernel) (pa_cons (pv 0) pa_nil)) (pa_cons pe_int pa_nil))) pa_nil))) pa_nil)) (pg_name (i := 1) scLaw.nd rfl (by first | exact Or.inl rfl | exact Or.inr rfl)) (pss_cons (ps_set (i := 2) scLaw.nd rfl (by first | exact Or.inl rfl | exact Or.inr rfl) (pe_c (okLPool T) hr (by decide) rfl (pa_cons (pv 0) (pa_cons (pv 1) pa_nil)))) (pss_cons (ps_set (i := 3) scLaw.nd rfl (by first | exact Or.inl rfl | exact Or.inr rfl) (pe_c (okLBook T) hr (by decide) rfl (pa_cons (pv 2) (pa_cons pe_int (pa_cons pe_int pa_nil))))) (pss_cons (ps_set (i := 4) scLaw.nd rfl (by first | exact Or.inl rfl | exact Or.inr rfl) (pe_c (okLMadeBook T) hr (by decide) rfl (pa_cons (pv 3) pa_nil))) (pss_one (ps_for PassesOwn.never rfl (pi_list (pe_dget (hu_of hr) (pv 3) pe_str (fun _ _ => rfl))) (pg_name (i := 5) scLaw.nd rfl (by first | exact Or.inl rfl | exact Or.inr rfl)) (pss_cons (ps_set (i := 6) scLaw.nd rfl (by first | exact Or.inl rfl | exact Or.inr rfl) (pe_c (okLCases T) hr (by decide) rfl (pa_cons (pv 3) (pa_cons (pe_dget (hu_of hr) (pv 5) pe_str (fun _ _ => rfl)) pa_nil)))) (pss_cons (ps_if (pt_cmpR (op_neCases hr.units) (pe_listG2 FG (hr.mono (by decide)) rfl T.g_cases FGk FGb (pa_cons (pv 4) (pa_cons (pe_dget (hu_of hr) (pv 5) pe_str (fun _ _ => rfl)) pa_nil)) rfl T.f_list (by decide +kernel)) (pv 6) (nomark _)) (pss_one (ps_ret pe_bl)) pss_nil) (pss_one (ps_for PassesOwn.never rfl (pi_list (pe_slice sl_list (pe_c (okLInputs T) hr (by decide) rfl (pa_cons (pe_dget (hu_of hr) (pv 5) pe_str (fun _ _ => rfl)) pa_nil)) po_none (po_some pe_int))) (pg_name (i := 7) scLaw.nd rfl (by first | exact Or.inl rfl | exact Or.inr rfl)) (pss_one (ps_for PassesOwn.never rfl (pi_list (pe_every (pv 6) (pe_op op_add pe_int (pe_op op_fdiv (pe_callTy call_int1 rfl T.f_int (by decide +kernel) (pa_cons (pe_callB call_len rfl T.f_len (by decide +kernel) (pa_cons (pv 6) pa_nil)) pa_nil)) pe_int)))) (pg_name (i := 8) scLaw.nd rfl (by first | exact Or.inl rfl | exact Or.inr rfl)) (pss_cons (ps_asg (pe_c (okLRunAt T) hr (by decide) rfl (pa_cons (pv 3) (pa_cons (pe_dget (hu_of hr) (pv 5) pe_str (fun _ _ => rfl)) (pa_cons (pv 7) (pa_cons (pv 8) pa_nil))))) (pg_unl (by rfl) (pgs_cons (pg_name (i := 9) scLaw.nd rfl (by first | exact Or.inl rfl | exact Or.inr rfl)) (pgs_cons (pg_name (i := 10) scLaw.nd rfl (by first | exact Or.inl rfl | exact Or.inr rfl)) pgs_nil)))) (pss_cons (ps_if (pt_cmpR op_ne (pe_c (okValueAt T) hr (by decide) rfl (pa_cons (pv 4) (pa_cons (pe_dget (hu_of hr) (pv 5) pe_str (fun _ _ => rfl)) (pa_cons (pv 7) (pa_cons (pv 8) pa_nil))))) (pv 9) (nomark _)) (pss_one (ps_ret pe_bl)) pss_nil) (pss_one (ps_if (pt_cmpR op_ne (pe_c (okWritesAt T) hr (by decide) rfl (pa_cons (pv 4) (pa_cons (pe_dget (hu_of hr) (pv 5) pe_str (fun _ _ => rfl)) (pa_cons (pv 7) (pa_cons (pv 8) pa_nil))))) (pe_cmpR (op_neSt hr.units0) (pv 10) (pe_ix ix_tup (pv 8) pe_int (fun _ _ => rfl)) (nomark _)) (nomark _)) (pss_one (ps_ret pe_bl)) pss_nil)))))))))))))))) (pss_one (ps_ret pe_bl))), ?_⟩
    obtain ⟨a, ns, rfl, ha, hl, hq⟩ := h
    refine q_forR1 (n := if (if (2 : Int) < ((ns.map V.int).length : Int) then (2 : Int) else ((ns.map V.int).length : Int)) > 1 then (if (2 : Int) < ((ns.map V.int).length : Int) then (2 : Int) else ((ns.map V.int).length : Int)) else 1) (ea_cons (ev_max2 ev_c (ev_min2 (ev_lenL (ev_var rfl) ha) ev_c)) ea_nil) (by split <;> split <;> omega) (fun i σ' H' => Ex H H' ∧ ∃ x1 x2 x3 x4 x5 x6 x7 x8 x9 x10, σ' = [some (.ref a), x1, x2, x3, x4, x5, x6, x7, x8, x9, x10]) (fun H1 e1 => ⟨e1, none, none, none, none, none, none, none, none, none, none, rfl⟩) (fun i σ' H' hi hP => ?_) (fun σ' H' hP => ?_)
    rotate_left
    · exact s_ret ev_c fun H2 e2 => hq H2
    obtain ⟨e0, x1, x2, x3, x4, x5, x6, x7, x8, x9, x10, rfl⟩ := hP
    have hi64 : i < 64 := by
      have : (if (if (2 : Int) < ((ns.map V.int).length : Int) then (2 : Int) else ((ns.map V.int).length : Int)) > 1 then (if (2 : Int) < ((ns.map V.int).length : Int) then (2 : Int) else ((ns.map V.int).length : Int)) else 1) ≤ 2 := by split <;> split <;> omega
      omega
    refine q_asgE ((ea_cons (ev_var rfl) (ea_cons (ev_var rfl) ea_nil)) H' (Ex.refl _) _ fun Ha ea => ⟨a, ns, i, rfl, ex_l (e0.trans ea) ha, hl, hi64, fun p H1 hp0 e1 hp => ?_⟩)
    refine q_asgE ((ea_cons (ev_var rfl) (ea_cons ev_c (ea_cons ev_c ea_nil))) H1 (Ex.refl _) _ fun Hb eb => ⟨p, rfl, hp.mono eb, fun bv H2 x2' hp2 hv => ?_⟩)
    obtain ⟨b, hb, hok⟩ := hv
    have e02 : Ex H H2 := e0.trans (ExX.ex x2' ((ea.trans e1).trans eb) (fresh_back ea hp0))
    refine q_asgP (ep_lmade (ev_var rfl) hb hok) fun bp H3 e3 hbp => ?_
    have hbp : BookP K H3 b bp := hbp
    have hb3 := hb.mono e3
    obtain ⟨q0, pc, pf, cs, fs, rfl, hq0, hpc, hcs, hpf, hfs⟩ := id hb3
    refine s_forI (evi_list (ev_dget (ev_var rfl) ev_c hq0 rfl) (sq_of hpf)) (fun j σ' H' => Ex H3 H' ∧ ∃ x5 x6 x7 x8 x9 x10, σ' = [some (.ref a), some (.int (i : Int)), some (.ref p), some (.ref q0), some bp, x5, x6, x7, x8, x9, x10]) (fun H4 e4 => ⟨e4, _, _, _, _, _, _, rfl⟩) (fun j x σ' H4 hx eH hP => ?_) (fun σ' H4 eH hP => ?_)
    rotate_left
    · obtain ⟨e4, x5, x6, x7, x8, x9, x10, rfl⟩ := hP
      exact ⟨e02.trans (e3.trans e4), _, _, _, _, _, _, _, _, _, _, rfl⟩
    obtain ⟨e4, x5, x6, x7, x8, x9, x10, rfl⟩ := hP
    obtain ⟨g, hg, hgx⟩ := Paired.getR hfs hx
    have hgm := List.mem_of_getElem? hg
    have hgn : g.name ∈ b.fns.map (·.name) := List.mem_map.mpr ⟨g, hgm, rfl⟩
    have hgf := find_name hok.ndf hgm
    have hmany : g.many ≤ 2 := by
      obtain ⟨_, _, ok⟩ := hok.fok hgm
      exact ok.many
    obtain ⟨pg, xg, pw, wss, rfl, hpg, _⟩ := id (hgx.mono e4)
    have hb4 := hb3.mono e4
    have hbp4 := hbp.mono e4
    refine q_asgLP (lp_lcases (ea_cons (ev_var rfl) (ea_cons (ev_dget (ev_var rfl) ev_c hpg rfl) ea_nil)) hb4 hok hgn) fun pd ys H5 hpd0 e5 hpd hys => ?_
    have hys : Paired (CaseAt H5) (caseL b g.name) ys := hys
    refine q_when (b := false) (fun Hc ec Q q => ?_) (fun z => by cases z) fun _ H6 e6 => ?_
    · refine t_tst (e_opX (e_listG2 ((ea_cons (ev_var rfl) (ea_cons (ev_dget (ev_var rfl) ev_c ((e5.trans ec) _ _ hpg) rfl) ea_nil)) Hc (Ex.refl _) _ fun Hd ed => ⟨b, bp, g.name, rfl, hbp4.mono (e5.trans (ec.trans ed)), hok, hgn, fun ys2 H6 e6 hys2 p2 hp2 => ?_⟩)))
      have en : Ex H6 (upd H6 p2 (.lst ys2)) := Ex.new hp2
      exact ⟨_, rfl, p2, pd, ys2, ys, caseL b g.name, rfl, rfl, sq_of upd_same, sq_of ((ec.trans (ed.trans (e6.trans en))) _ _ hpd), Paired.mapP hys2 fun _ _ z => CaseAt.mono en z, Paired.mapP hys fun _ _ z => CaseAt.mono (ec.trans (ed.trans (e6.trans en))) z, _, rfl, q _ (ed.trans (e6.trans en))⟩
    have e46 := e5.trans e6
    refine tFor_lp (lp_sl5 (lp_linputs (ev_dget (ev_var rfl) ev_c (e46 _ _ hpg) rfl) hmany)) fun pz zs H7 hpz0 e7 hpz hzs => ?_
    have hzs : ∀ z ∈ zs, InpV H7 g.many z := hzs
    have e47 := e46.trans e7
    have hpd7 := (e6.trans e7) _ _ hpd
    refine s_forI (evi_list ev_c (sq_of hpz)) (fun k σ' H' => Ex H7 H' ∧ ∃ x7 x8 x9 x10, σ' = [some (.ref a), some (.int (i : Int)), some (.ref p), some (.ref q0), some bp, some (.ref pg), some (.ref pd), x7, x8, x9, x10]) (fun H8 e8 => ⟨e8, _, _, _, _, rfl⟩) (fun k z σ' H8 hz eH hP => ?_) (fun σ' H8 eH hP => ?_)
    rotate_left
    · obtain ⟨e8, x7, x8, x9, x10, rfl⟩ := hP
      exact ⟨e47.trans e8, e4.trans (e47.trans e8), _, _, _, _, _, _, rfl⟩
    obtain ⟨e8, x7, x8, x9, x10, rfl⟩ := hP
    obtain ⟨pv, args, rfl, hpv, hag⟩ := InpV.mono e8 (hzs z (List.mem_of_getElem? hz))
    have hpd8 := e8 _ _ hpd7
    refine tFor_lp (lp_every (k := 1 + (ys.length : Int) / 40) (ev_var rfl) hpd8 (ev_op ev_c (ev_op (ev_int1 (ev_lenL (ev_var rfl) (sq_of hpd8))) ev_c (rv_I ⟨by decide, by decide⟩)) rv_I0) (by have := Int.ediv_nonneg (show (0 : Int) ≤ (ys.length : Int) by omega) (show (0 : Int) ≤ 40 by decide); omega)) fun pe es H9 hpe0 e9 hpe hes => ?_
    have hes : ∀ z ∈ es, z ∈ ys := hes
    refine s_forI (evi_list ev_c (sq_of hpe)) (fun k σ' H' => Ex H9 H' ∧ ∃ x8 x9 x10, σ' = [some (.ref a), some (.int (i : Int)), some (.ref p), some (.ref q0), some bp, some (.ref pg), some (.ref pd), some (.ref pv), x8, x9, x10]) (fun H10 e10 => ⟨e10, _, _, _, rfl⟩) (fun m y σ' H10 hy eH hP => ?_) (fun σ' H10 eH hP => ?_)
    rotate_left
    · obtain ⟨e10, x8, x9, x10, rfl⟩ := hP
      exact ⟨e9.trans e10, e8.trans (e9.trans e10), _, _, _, _, rfl⟩
    obtain ⟨e10, x8, x9, x10, rfl⟩ := hP
    obtain ⟨iy, hiy⟩ := List.getElem?_of_mem (hes y (List.mem_of_getElem? hy))
    obtain ⟨c, hc, hcy⟩ := Paired.getR hys hiy
    obtain ⟨hst, ht0⟩ := case_ok hok (List.mem_of_getElem? hc)
    have e5t : Ex H5 H10 := e6.trans (e7.trans (e8.trans (e9.trans e10)))
    have e4t : Ex H4 H10 := e5.trans e5t
    obtain ⟨pcs, ds, rfl, hpcs, hds, _⟩ := hcy.mono e5t
    have hpg10 := e4t _ _ hpg
    have hpv10 := (e9.trans e10) _ _ hpv
    have ask : AskAt K b g.name g args c.1 c.2 [bp, .str g.name, .ref pv, .ref pcs] H10 := ⟨bp, pv, .ref pcs, rfl, hbp4.mono e4t, hok, hgf, hpv10, hag, ⟨pcs, ds, rfl, hpcs, hds⟩, hst, ht0⟩
    refine q_asgX ((ea_cons (ev_var rfl) (ea_cons (ev_dget (ev_var rfl) ev_c hpg10 rfl) (ea_cons (ev_var rfl) (ea_cons (ev_var rfl) ea_nil)))) H10 (Ex.refl _) _ fun Hc ec => ⟨b, g.name, g, args, c.1, c.2, ⟨.ref q0, pv, .ref pcs, rfl, hb4.mono (e4t.trans ec), hok, hgf, ec _ _ hpv10, hag, ⟨pcs, ds, rfl, ec _ _ hpcs, ec _ _ hds⟩, hst⟩, fun pr d H11 e11 hpr hd => g_pairL hpr ?_⟩)
    have e1011 := ec.trans e11
    have ask11 := ask.mono e1011
    have hpg11 := e1011 _ _ hpg10
    refine q_when (b := false) (et_is (et_test (ev_op (ev_call (ea_cons (ev_var rfl) (ea_cons (ev_dget (ev_var rfl) ev_c hpg11 rfl) (ea_cons (ev_var rfl) (ea_cons (ev_var rfl) ea_nil)))) (spv_valueAt ask11)) (ev_var rfl) (rv_ne rfl))) (by simp)) (fun z => by cases z) fun _ H12 e12 => ?_
    have ask12 := ask11.mono e12
    have hpg12 := e12 _ _ hpg11
    refine s_when (b := false) (et_is (et_test (ev_op (ev_call (ea_cons (ev_var rfl) (ea_cons (ev_dget (ev_var rfl) ev_c hpg12 rfl) (ea_cons (ev_var rfl) (ea_cons (ev_var rfl) ea_nil)))) (spv_writesAt ask12)) (ev_op (z := .bl (neS (ran b.fns c.2 2 g args c.1).2 c.1)) (ev_var rfl) (ev_op (ev_var rfl) ev_c (rv_ixT (st_of ((e1011.trans e12) _ _ hpcs)) at0)) (rv_val fun H13 e13 Q q => ⟨d, ds, _, _, rfl, rfl, (e12.trans e13) _ _ hd, (e1011.trans (e12.trans e13)) _ _ hds, q⟩)) (rv_ne rfl))) (by simp)) (fun z => by cases z) fun _ H13 e13 => ?_
    exact ⟨e1011.trans (e12.trans e13), e10.trans (e1011.trans (e12.trans e13)), _, _, _, rfl⟩

end
end SC
set_option Elab.async false
set_option linter.all false
set_option maxRecDepth 100000
set_option maxHeartbeats 0
/-! HF: the head's end. -/
namespace SC
open PySem PySem.Spec PyProof.Rows L2 C8
theorem factsD {P : Program} {w : World} {K : PySem.W.Frag} {h : Heap} {mg : Str → Option Value} {f : Addr} (X : K.In h) (G : h.Ns mainGlobals mg) (hfa : mg ("law" : Str) = some (.ref f)) (c : He.SaysX faD fnD [] [] exD w h K) :
    ∃ fd : FuncData, (∀ (s : Shared) (v : Value), BindsTo s fd ⟨[v], []⟩ [("_law_script", v)]) ∧ ∀ base : Heap, K.In base → base.Ns mainGlobals mg → FnOk P w K mg base C8.CX0 30 f fd ["_law_script"] (spLaw K) := by
  have T : Tx K mg := ⟨c.t.d, c.more, fun _ e => He.glo_ok X G e, fun _ e => He.free_ok X G e, fun _ _ e => He.int_ok X G e, fun _ _ e => He.str_ok X G e⟩
  obtain ⟨fd, F⟩ := T.DLaw
  have e := hfa.symm.trans T.g_law
  cases e
  have b := FunD.bindsA (ps := ["_law_script"]) F fun _ _ _ _ _ _ us hl => match us, hl with | [_], _ => rfl
  exact ⟨fd, fun s v => b s [v] rfl, fun base _ _ => okLaw T F⟩
end SC
open PySem PySem.W PySem.Calls PyProof.Rows
theorem PySem.Challenge.cw_steadycalls_k13_whole_cases_holds : PySem.Challenge.rw_steadycalls_k13_whole_cases.Holds := by
  w_on; o_law
  refine HandSHeadRun.head_any (r := OpenLaw.row PySem.Challenge.rw_steadycalls_k13_whole_cases) (q := view (OpenLaw.row PySem.Challenge.rw_steadycalls_k13_whole_cases).prog [87]) (H := SC.hkD) (ob := SC.obD) (M := 60000) (loose := SC.looseD) (d := HandSHeadRun.topDef (OpenLaw.row PySem.Challenge.rw_steadycalls_k13_whole_cases).prog 87) (kwd := []) SC.obD_eq
    (by kernel_rfl) (fun s => by kernel_rfl) SC.runD (by kernel_rfl) (by kernel_rfl) (by kernel_rfl) (by rfl) (by first | assumption | decide +kernel) (by decide +kernel) ⟨rfl, rfl, rfl, rfl, rfl, by decide +kernel⟩ ?hw ?hc
  case hw => w_witness2
  case hc =>
    refine L2.walk_ofE (l := PySem.Challenge.rw_steadycalls_k13_whole_cases) (n := 63) (k := 30) (x := "_law_script") (CX := C8.CX0) rfl (by decide) (by kernel_rfl) ⟨rfl, by decide, by decide⟩ ?F (fun _ _ _ _ z => z)
    intro w mg fa h Y G hmg0
    obtain ⟨K, KX, c⟩ := Y
    have hmg : mg ("law" : PySem.Str) = some (.ref fa) := by
      have e : (HandSHeadRun.topDef (OpenLaw.row PySem.Challenge.rw_steadycalls_k13_whole_cases).prog 87).name = ("law" : PySem.Str) := by kernel_rfl
      rw [← e]
      exact hmg0
    obtain ⟨fd, hb, hF⟩ := SC.factsD (P := (PySem.Challenge.rw_steadycalls_k13_whole_cases).prog) (w := w) KX G hmg c
    exact ⟨K, fd, SC.spLaw K, KX, hb, fun H a ns hl _ hS => ⟨a, ns, rfl, hS, hl, fun _ => rfl⟩, hF⟩
