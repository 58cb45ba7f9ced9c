import PyProof.Rows.All
import Wide.All
import OpenK.AllK
import Wide.FinOn
import HandS.ForMost
import HandS.Exc
import HandS.ExcOwn
import HandS.WordsExc
import HandS.TryOnly
import HandS.Flow
import HandS.Deep
import HandS.Conv
import HandS.DictTup
import HandS.DictComp
import HandS.More
import HandS.IsInst
import HandS.Remove
import HandS.TupSets
import HandS.TupAny
import HandS.Defaults
import KE.SortData
import KE.KExcSuper
import KE.DataMinMax
import PyProof.ReprReads
import PySem.Challenge.RW_latebound_k10_whole_calls_leave_the_rest
import PyProof.ReprRoads
import PyProof.ReprLen
import HandS.HeadEnd
import HandS.HeadHook4
import HandS.Head4
import HandS.HeadWalk
set_option Elab.async false
set_option linter.all false
set_option maxRecDepth 100000
section
set_option maxHeartbeats 4000000
/-! K0: the text by places; heaps; data. -/
namespace K10
open PySem PySem.Spec PyProof.Rows L2
/-! ### the text -/
def top (i : Nat) : Stmt := PySem.Challenge.pw_latebound_k10_whole_calls_leave_the_rest.main.body.getD i (.Pass ⟨0, 0, 0, 0⟩)
abbrev sPr (j : Nat) : Stmt := inClass (top 32) j
/-! ### heaps -/
theorem same_new {H : Hp} {p : Addr} {o : HO} (h : H p = none) : Same H (upd H p o) := fun b u e => by
  rw [upd_ne (ne_of_none e h)]
  exact e
theorem same_at {H0 H : Hp} {l : Addr} {o : HO} (s : Same H0 H) (n : H0 l = none) : Same H0 (upd H l o) := fun b u e => by
  rw [upd_ne (ne_of_none e n)]
  exact s b u e
theorem same_sqT {K : PySem.W.Frag} {H H' : Hp} {a : Addr} {xs : List V} (e : Same H H') (h : SqT K H a xs) : SqT K H' a xs := by
  rcases h with (h | ⟨o, h⟩) | h
  · exact .inl (.inl (e _ _ h))
  · exact .inl (.inr ⟨o, e _ _ h⟩)
  · exact .inr h
/-- all is kept but what F names; tuples and what is locked are kept -/
structure Kp (F : Addr → Prop) (H H' : Hp) : Prop where
  keep : ∀ b o, ¬ F b → H b = some o → H' b = some o
  tup : ∀ b xs, H b = some (.tup xs) → H' b = some (.tup xs)
  frz : ∀ b o u, H b = some (.frz o u) → H' b = some (.frz o u)
theorem Kp.same {F : Addr → Prop} {H H' : Hp} (s : Same H H') : Kp F H H' := ⟨fun b o _ e => s b o e, fun b xs e => s b _ e, fun b o u e => s b _ e⟩
theorem Kp.refl (F : Addr → Prop) (H : Hp) : Kp F H H := Kp.same (Same.refl H)
theorem Kp.trans {F F' : Addr → Prop} {H H1 H2 : Hp} (a : Kp F H H1) (b : Kp F' H1 H2) (s : ∀ c, F' c → F c ∨ H c = none) : Kp F H H2 :=
  ⟨fun c o n e => b.keep c o (fun f => (s c f).elim n fun z => by rw [z] at e; cases e) (a.keep c o n e), fun c xs e => b.tup c xs (a.tup c xs e), fun c o u e => b.frz c o u (a.frz c o u e)⟩
theorem Kp.mono {F F' : Addr → Prop} {H H' : Hp} (a : Kp F H H') (s : ∀ c, F c → F' c) : Kp F' H H' := ⟨fun c o n e => a.keep c o (fun f => n (s c f)) e, a.tup, a.frz⟩
theorem Kp.sqT {K : PySem.W.Frag} {F : Addr → Prop} {H H' : Hp} {a : Addr} {xs : List V} (e : Kp F H H') (h : SqT K H a xs) : SqT K H' a xs := by
  rcases h with (h | ⟨o, h⟩) | h
  · exact .inl (.inl (e.tup _ _ h))
  · exact .inl (.inr ⟨o, e.frz _ _ _ h⟩)
  · exact .inr h
theorem Kp.sqL {K : PySem.W.Frag} {F : Addr → Prop} {H H' : Hp} {a : Addr} {xs : List V} (e : Kp F H H') (n : ¬ F a) (h : SqL K H a xs) : SqL K H' a xs := by
  rcases h with (h | ⟨o, h⟩) | h
  · exact .inl (.inl (e.keep _ _ n h))
  · exact .inl (.inr ⟨o, e.frz _ _ _ h⟩)
  · exact .inr h
/-- one object is written, of a kind that may be -/
theorem kp_at {H : Hp} {l : Addr} {o : HO} (m : Mut (H l)) : Kp (fun b => b = l) H (upd H l o) := by
  have ne : ∀ b u, H b = some u → ¬ Mut (some u) → b ≠ l := fun b u e nm z => by
    rw [z] at e
    rw [e] at m
    exact nm m
  refine ⟨fun b u n e => by rw [upd_ne n]; exact e, fun b xs e => ?_, fun b v u e => ?_⟩
  · rw [upd_ne (ne b _ e fun z => z)]
    exact e
  · rw [upd_ne (ne b _ e fun z => z)]
    exact e
/-! ### data -/
/-- data without lists and dicts, tuples nested n deep at most, of 1000 items at most -/
def td : Nat → PyData → Prop
  | _, .none => True
  | _, .bool _ => True
  | _, .int _ => True
  | _, .str _ => True
  | n + 1, .tuple ds => ds.length ≤ 1000 ∧ ∀ d ∈ ds, td n d
  | _, _ => False
theorem dpa_length {K : PySem.W.Frag} {H : Hp} : ∀ {vs : List V} {ds : List PyData}, DpAll K H vs ds → vs.length = ds.length
  | _, _, .nil => rfl
  | _, _, .cons _ t => congrArg Nat.succ (dpa_length t)
theorem dpa_get {K : PySem.W.Frag} {H : Hp} : ∀ {vs : List V} {ds : List PyData} {i : Nat} {d : PyData}, DpAll K H vs ds → ds[i]? = some d → ∃ v, vs[i]? = some v ∧ Dp K H v d
  | _, _, _, _, .nil, e => by simp at e
  | _, _, 0, _, .cons h _, e => by
    simp at e
    subst e
    exact ⟨_, rfl, h⟩
  | _, _, i + 1, d, .cons _ t, e => by
    obtain ⟨v, h1, h2⟩ := dpa_get (i := i) (d := d) t (by simpa using e)
    exact ⟨v, by simpa using h1, h2⟩
theorem dpa_at {K : PySem.W.Frag} {H : Hp} : ∀ {vs : List V} {ds : List PyData} {i : Nat} {v : V}, DpAll K H vs ds → vs[i]? = some v → ∃ d, ds[i]? = some d ∧ Dp K H v d
  | _, _, _, _, .nil, e => by simp at e
  | _, _, 0, _, .cons h _, e => by
    simp at e
    subst e
    exact ⟨_, rfl, h⟩
  | _, _, i + 1, d, .cons _ t, e => by
    obtain ⟨v, h1, h2⟩ := dpa_at (i := i) (v := d) t (by simpa using e)
    exact ⟨v, by simpa using h1, h2⟩
theorem dpa_snoc {K : PySem.W.Frag} {H : Hp} : ∀ {vs : List V} {ds : List PyData} {v : V} {d : PyData}, DpAll K H vs ds → Dp K H v d → DpAll K H (vs ++ [v]) (ds ++ [d])
  | _, _, _, _, .nil, h => .cons h .nil
  | _, _, _, _, .cons h t, h2 => .cons h (dpa_snoc t h2)
theorem dpa_app {K : PySem.W.Frag} {H : Hp} : ∀ {vs ws : List V} {ds es : List PyData}, DpAll K H vs ds → DpAll K H ws es → DpAll K H (vs ++ ws) (ds ++ es)
  | _, _, _, _, .nil, h => h
  | _, _, _, _, .cons h t, h2 => .cons h (dpa_app t h2)
theorem dpa_strs {K : PySem.W.Frag} {H : Hp} : ∀ xs : List Str, DpAll K H (xs.map V.str) (xs.map PyData.str)
  | [] => .nil
  | x :: xs => .cons (.str x) (dpa_strs xs)
theorem dpa_strs_eq {K : PySem.W.Frag} {H : Hp} : ∀ {xs : List Str} {vs : List V}, DpAll K H vs (xs.map PyData.str) → vs = xs.map V.str
  | [], _, .nil => rfl
  | x :: xs, _, .cons h t => by
    cases h
    rw [dpa_strs_eq t] <;> rfl
theorem dpa_ints {K : PySem.W.Frag} {H : Hp} : ∀ xs : List Int, DpAll K H (xs.map V.int) (xs.map PyData.int)
  | [] => .nil
  | x :: xs => .cons (.int x) (dpa_ints xs)
/-- data stays -/
theorem dp_keeps {K : PySem.W.Frag} {H H' : Hp} (k : ∀ a xs, SqT K H a xs → SqT K H' a xs) : ∀ (n : Nat) {v : V} {d : PyData}, td n d → Dp K H v d → Dp K H' v d := by
  intro n
  induction n with
  | zero =>
    intro v d ht h
    cases h with
    | non => exact .non
    | bl b => exact .bl b
    | int i => exact .int i
    | str x => exact .str x
    | lst _ _ => exact ht.elim
    | tup _ _ => exact ht.elim
  | succ n ih =>
    intro v d ht h
    cases h with
    | non => exact .non
    | bl b => exact .bl b
    | int i => exact .int i
    | str x => exact .str x
    | lst _ _ => exact ht.elim
    | tup hs ha =>
      have ht2 : _ ∧ _ := ht
      refine .tup (k _ _ hs) ?_
      have go : ∀ {vs : List V} {ds : List PyData}, (∀ d ∈ ds, td n d) → DpAll K H vs ds → DpAll K H' vs ds := by
        intro vs ds
        induction ds generalizing vs with
        | nil =>
          intro _ h
          cases h
          exact .nil
        | cons d ds ihs =>
          intro hall h
          cases h with
          | cons h1 h2 => exact .cons (ih (hall d List.mem_cons_self) h1) (ihs (fun e he => hall e (List.mem_cons_of_mem _ he)) h2)
      exact go ht2.2 ha
theorem dp_kp {K : PySem.W.Frag} {F : Addr → Prop} {H H' : Hp} (k : Kp F H H') {n : Nat} {v : V} {d : PyData} (t : td n d) (h : Dp K H v d) : Dp K H' v d := dp_keeps (fun _ _ z => k.sqT z) n t h
mutual
theorem dp_same {K : PySem.W.Frag} {H H' : Hp} (s : Same H H') : ∀ {v : V} {d : PyData}, Dp K H v d → Dp K H' v d
  | _, _, .non => .non
  | _, _, .bl b => .bl b
  | _, _, .int i => .int i
  | _, _, .str x => .str x
  | _, _, .lst h a => .lst (s.seq h) (dpa_same s a)
  | _, _, .tup h a => .tup (same_sqT s h) (dpa_same s a)
theorem dpa_same {K : PySem.W.Frag} {H H' : Hp} (s : Same H H') : ∀ {vs : List V} {ds : List PyData}, DpAll K H vs ds → DpAll K H' vs ds
  | _, _, .nil => .nil
  | _, _, .cons h t => .cons (dp_same s h) (dpa_same s t)
end
theorem dpa_kp {K : PySem.W.Frag} {F : Addr → Prop} {H H' : Hp} (k : Kp F H H') {n : Nat} : ∀ {vs : List V} {ds : List PyData}, (∀ d ∈ ds, td n d) → DpAll K H vs ds → DpAll K H' vs ds
  | _, _, _, .nil => .nil
  | _, _, t, .cons h r => .cons (dp_kp k (t _ List.mem_cons_self) h) (dpa_kp k (fun d hd => t d (List.mem_cons_of_mem _ hd)) r)
theorem td_mono : ∀ {n m : Nat} {d : PyData}, n ≤ m → td n d → td m d
  | _, _, .none, _, _ => by unfold td; trivial
  | _, _, .bool _, _, _ => by unfold td; trivial
  | _, _, .int _, _, _ => by unfold td; trivial
  | _, _, .str _, _, _ => by unfold td; trivial
  | 0, _, .tuple _, _, h => h.elim
  | n + 1, 0, .tuple _, h, _ => absurd h (Nat.not_succ_le_zero n)
  | n + 1, m + 1, .tuple ds, h, t => ⟨t.1, fun d hd => td_mono (Nat.le_of_succ_le_succ h) (t.2 d hd)⟩
  | 0, _, .list _, _, h => h.elim
  | _ + 1, _, .list _, _, h => h.elim
  | 0, _, .dict _, _, h => h.elim
  | _ + 1, _, .dict _, _, h => h.elim
/-- an item of a tuple, by a place -/
theorem ixTn {K : PySem.W.Frag} {H : Hp} {v : V} {ds : List PyData} {i : Nat} {d : PyData} {Q : VK} (h : Dp K H v (.tuple ds)) (e : ds[i]? = some d) (k : ∀ u, Dp K H u d → Q u H) : rIxT K v (.int (i : Int)) H Q := by
  cases h with
  | tup hs ha =>
    obtain ⟨u, h1, h2⟩ := dpa_get ha e
    exact ⟨_, _, _, u, rfl, rfl, hs, atI_nat h1, k u h2⟩
theorem ixT0 {K : PySem.W.Frag} {σ : L2.St} {H : Hp} {v : V} {d : PyData} {ds : List PyData} {Q : VK} (h : Dp K H v (.tuple (d :: ds))) (k : ∀ u, Dp K H u d → Q u H) : tC (.int 0) σ H (fun y H2 => rIxT K v y H2 Q) := ixTn (i := 0) h rfl k
theorem ixT1 {K : PySem.W.Frag} {σ : L2.St} {H : Hp} {v : V} {d d0 : PyData} {ds : List PyData} {Q : VK} (h : Dp K H v (.tuple (d0 :: d :: ds))) (k : ∀ u, Dp K H u d → Q u H) : tC (.int 1) σ H (fun y H2 => rIxT K v y H2 Q) := ixTn (i := 1) h rfl k
theorem ixT2 {K : PySem.W.Frag} {σ : L2.St} {H : Hp} {v : V} {d d0 d1 : PyData} {ds : List PyData} {Q : VK} (h : Dp K H v (.tuple (d0 :: d1 :: d :: ds))) (k : ∀ u, Dp K H u d → Q u H) : tC (.int 2) σ H (fun y H2 => rIxT K v y H2 Q) := ixTn (i := 2) h rfl k
theorem ixT3 {K : PySem.W.Frag} {σ : L2.St} {H : Hp} {v : V} {d d0 d1 d2 : PyData} {ds : List PyData} {Q : VK} (h : Dp K H v (.tuple (d0 :: d1 :: d2 :: d :: ds))) (k : ∀ u, Dp K H u d → Q u H) : tC (.int 3) σ H (fun y H2 => rIxT K v y H2 Q) := ixTn (i := 3) h rfl k
theorem dp_tupE {K : PySem.W.Frag} {H : Hp} {v : V} {ds : List PyData} (h : Dp K H v (.tuple ds)) : ∃ a xs, v = .ref a ∧ SqT K H a xs ∧ DpAll K H xs ds := by
  cases h with
  | tup hs ha => exact ⟨_, _, rfl, hs, ha⟩
theorem dp_strE {K : PySem.W.Frag} {H : Hp} {v : V} {x : Str} (h : Dp K H v (.str x)) : v = .str x := by
  cases h
  rfl
theorem dp_intE {K : PySem.W.Frag} {H : Hp} {v : V} {x : Int} (h : Dp K H v (.int x)) : v = .int x := by
  cases h
  rfl
theorem dp_blE {K : PySem.W.Frag} {H : Hp} {v : V} {x : Bool} (h : Dp K H v (.bool x)) : v = .bl x := by
  cases h
  rfl
theorem sz1000 {n : Nat} (h : n ≤ 1000) : n < sizeLine := small1000 h
/-- an expression that is never reached -/
theorem pe_never {X : Cx} {e : Expr} : PE X e (fun _ _ _ => False) := ⟨fun _ _ _ _ _ _ h => h.elim⟩
end K10
end
section
/-! M0: the mirror: programs, rows, what is given, a process's states and steps, as plain functions. -/
namespace K10
open PySem L2
structure Lib where
  name : Str
  needs : List Str
  defs : List (Str × Str)
  uses : List (Str × Str × Bool)
structure Prg where
  libs : List Lib
  early : List Str
  doors : List (Str × Str)
def dfD (d : Str × Str) : PyData := .tuple [.str d.1, .str d.2]
def usD (u : Str × Str × Bool) : PyData := .tuple [.str u.1, .str u.2.1, .bool u.2.2]
def lbD (l : Lib) : PyData := .tuple [.str l.name, .tuple (l.needs.map .str), .tuple (l.defs.map dfD), .tuple (l.uses.map usD)]
def prD (p : Prg) : PyData := .tuple [.tuple (p.libs.map lbD), .tuple (p.early.map .str), .tuple (p.doors.map dfD)]
def Prg.libOf (p : Prg) (x : Str) : Option Lib := p.libs.find? fun l => decide (l.name = x)
def Prg.names (p : Prg) : List Str := p.libs.map (·.name)
/-- a name is put behind, once -/
def addN (acc : List Str) (x : Str) : List Str := if x ∈ acc then acc else acc ++ [x]
def addAll (acc xs : List Str) : List Str := xs.foldl addN acc
def needsOf (p : Prg) (x : Str) : List Str := match p.libOf x with
  | some l => l.needs
  | none => []
def rowGo (p : Prg) : Nat → List Str → Nat → List Str
  | 0, found, _ => found
  | f + 1, found, k => match found[k]? with
    | none => found
    | some x => rowGo p f (addAll found (needsOf p x)) (k + 1)
def rowM (p : Prg) (names : List Str) : List Str := rowGo p p.libs.length (addAll [] names) 0
def mainM (p : Prg) : Str := match p.libs with
  | [] => ""
  | l :: _ => l.name
def firstM (p : Prg) : List Str := rowM p (mainM p :: p.early)
def doorRow (p : Prg) (k : Nat) : List Str := match p.doors[k]? with
  | some d => rowM p [d.1]
  | none => []
def rowsM (p : Prg) : List (List Str) := p.doors.map fun d => rowM p [d.1]
/-- which definitions serve, what is given -/
def servesM (d : Str × Str) (u : Str × Str × Bool) : Bool := decide (d.1 = u.1) && (decide (d.2 = u.2.1) || (decide (d.2 = "") || decide (u.2.1 = "")))
def minS : List Str → Str
  | [] => ""
  | x :: r => r.foldl (fun a y => if PySem.W.dataLt (.str y) (.str a) = true then y else a) x
def versM (l : Lib) (u : Str × Str × Bool) : Option Str :=
  let some_ := (l.defs.filter fun d => servesM d u).map (·.2)
  if some_ = [] then none else if u.2.1 ∈ some_ then some u.2.1 else some (minS some_)
/-- answers -/
inductive Ans where
  | opened | closed | full | shut | away | bound (n v : Str) | nobody | lost | torn
  deriving DecidableEq
def ansD : Ans → PyData
  | .opened => .tuple [.str "opened"]
  | .closed => .tuple [.str "closed"]
  | .full => .tuple [.str "full"]
  | .shut => .tuple [.str "shut"]
  | .away => .tuple [.str "away"]
  | .bound n v => .tuple [.str "bound", .str n, .str v]
  | .nobody => .tuple [.str "nobody"]
  | .lost => .tuple [.str "lost"]
  | .torn => .tuple [.str "torn"]
/-- steps -/
inductive Stp where
  | opn (k : Nat) | cls (k : Nat) | call (n : Str) (i : Nat)
  deriving DecidableEq
def stpD : Stp → PyData
  | .opn k => .tuple [.str "open", .int k]
  | .cls k => .tuple [.str "close", .int k]
  | .call n i => .tuple [.str "call", .str n, .int i]
/-- states -/
structure St where
  counts : List Int
  opened : List Nat
  pub : List Str
  deep : List Str
  slots : List ((Str × Nat) × Ans)
def rowAt (p : Prg) (k : Nat) : List Str := (rowsM p).getD k []
def thereM (p : Prg) (opened : List Nat) (x : Str) : Bool := decide (x ∈ firstM p) || opened.any fun k => decide (x ∈ rowAt p k)
def modeAt (p : Prg) (k : Nat) : Str := match p.doors[k]? with
  | some d => d.2
  | none => ""
def St.begin (p : Prg) : St := ⟨p.doors.map fun _ => 0, [], firstM p, [], []⟩
def nearM (p : Prg) (s : St) (x : Str) : List Str := (s.opened.filter fun k => decide (x ∈ rowAt p k)).flatMap fun k => rowAt p k
def looksM (p : Prg) (s : St) (x : Str) : List Str :=
  if x ∈ firstM p then s.pub else addAll [] (if x ∈ s.deep then nearM p s x ++ s.pub else s.pub ++ nearM p s x)
def useAt (p : Prg) (x : Str) (i : Nat) : Option (Str × Str × Bool) := (p.libOf x).bind fun l => l.uses[i]?
def meantM (p : Prg) (u : Str × Str × Bool) (o : Str) : Option Ans := (p.libOf o).bind fun l => (versM l u).map fun v => .bound o v
def foundM (p : Prg) (s : St) (x : Str) (i : Nat) : Ans := match useAt p x i with
  | none => .lost
  | some u => match (looksM p s x).findSome? (meantM p u) with
    | some a => a
    | none => if u.2.2 then .nobody else .lost
def slotM (s : St) (x : Str) (i : Nat) : Option Ans := (s.slots.find? fun q => decide (q.1 = (x, i))).map (·.2)
def callM (p : Prg) (s : St) (x : Str) (i : Nat) : St × Ans := match slotM s x i with
  | some a => (s, a)
  | none => (if foundM p s x i = .lost then s else { s with slots := s.slots ++ [((x, i), foundM p s x i)] }, foundM p s x i)
def cntAt (s : St) (k : Nat) : Int := s.counts.getD k 0
def comeM (p : Prg) (s : St) (k : Nat) : St :=
  { s with
    deep := if modeAt p k = "deep" then s.deep ++ (rowAt p k).filter (fun x => !thereM p s.opened x) else s.deep
    opened := s.opened ++ [k]
    pub := if modeAt p k = "global" then s.pub ++ (rowAt p k).filter (fun x => !decide (x ∈ s.pub)) else s.pub }
def openM (p : Prg) (s : St) (k : Nat) : St × Ans :=
  if cntAt s k = 2 then (s, .full)
  else
    let s1 : St := { s with counts := s.counts.set k (cntAt s k + 1) }
    (if cntAt s k + 1 = 1 then comeM p s1 k else s1, .opened)
def leftM (p : Prg) (opened : List Nat) : Ans → Ans
  | .bound n v => if thereM p opened n then .bound n v else .torn
  | a => a
def goM (p : Prg) (s : St) : St :=
  { s with
    pub := s.pub.filter fun x => thereM p s.opened x
    deep := s.deep.filter fun x => thereM p s.opened x
    slots := (s.slots.filter fun q => thereM p s.opened q.1.1).map fun q => (q.1, leftM p s.opened q.2) }
def closeM (p : Prg) (s : St) (k : Nat) : St × Ans :=
  if cntAt s k = 0 then (s, .shut)
  else
    let s1 : St := { s with counts := s.counts.set k (cntAt s k - 1) }
    (if cntAt s k - 1 = 0 then goM p { s1 with opened := s1.opened.erase k } else s1, .closed)
/-- a step of a run: a call of a library that is not there is away -/
def stepM (p : Prg) (s : St) : Stp → St × Ans
  | .opn k => openM p s k
  | .cls k => closeM p s k
  | .call x i => if thereM p s.opened x then callM p s x i else (s, .away)
def runM (p : Prg) (s : St) : List Stp → List Ans
  | [] => []
  | t :: r => (stepM p s t).2 :: runM p (stepM p s t).1 r
def behindM (p : Prg) (s : St) (ts : List Stp) : St := ts.foldl (fun s t => (stepM p s t).1) s
def Stp.isCall : Stp → Bool
  | .call _ _ => true
  | _ => false
end K10
end
section
set_option maxHeartbeats 4000000
/-! K1: as_tuples. -/
namespace K10
open PySem PySem.Spec PyProof.Rows L2
/-- the built-in names are free -/
structure Bl (mg : Str → Option Value) : Prop where
  isinstance : mg "isinstance" = none
  tuple : mg "tuple" = none
  list : mg "list" = none
  len : mg "len" = none
  range : mg "range" = none
  min : mg "min" = none
  sorted : mg "sorted" = none
  set : mg "set" = none
  abs : mg "abs" = none
  int : mg "int" = none
  all : mg "all" = none
  zip : mg "zip" = none
  repr : mg "repr" = none
theorem bt_isinstance : bootBuiltins "isinstance" = some (.builtin "isinstance") := by decide +kernel
theorem bt_tuple : bootBuiltins "tuple" = some (.type "tuple") := by decide +kernel
theorem bt_list : bootBuiltins "list" = some (.type "list") := by decide +kernel
theorem bt_len : bootBuiltins "len" = some (.builtin "len") := by decide +kernel
theorem bt_min : bootBuiltins "min" = some (.builtin "min") := by decide +kernel
theorem bt_sorted : bootBuiltins "sorted" = some (.builtin "sorted") := by decide +kernel
theorem bt_set : bootBuiltins "set" = some (.type "set") := by decide +kernel
theorem bt_abs : bootBuiltins "abs" = some (.builtin "abs") := by decide +kernel
theorem bt_int : bootBuiltins "int" = some (.type "int") := by decide +kernel
theorem bt_all : bootBuiltins "all" = some (.builtin "all") := by decide +kernel
theorem bt_repr : bootBuiltins "repr" = some (.builtin "repr") := by decide +kernel
/-- a def of the text -/
abbrev DefAt (K : PySem.W.Frag) (x qual : Str) (st : Stmt) (f : Addr) (fd : FuncData) : Prop := FunD K x qual (defArgs st) (defBody st) (defScope st) [] [] f fd
/-- a def that keeps its promise, by its name -/
structure Glb (P : Program) (w : World) (K : PySem.W.Frag) (mg : Str → Option Value) (base : Heap) (CX : CXT) (k : Nat) (x : Str) (ps : List Str) (sp : Sp) : Prop where
  ex : ∃ f fd, FnOk P w K mg base CX k f fd ps sp ∧ mg x = some (.ref f) ∧ PySem.W.keepIn K (.ref f) = true ∧ Binds K fd ps []
section
variable {P : Program} {w : World} {K : PySem.W.Frag} {mg : Str → Option Value} {base : Heap}
theorem kit_lt {t : Value} {b : Bool} (h : PySem.W.kitAny K t [.type "list", .type "tuple"] = some b) : PySem.W.kitAny K t [.type "list", .type "tuple"] = some b := h
theorem ty_seq {H : Hp} {a : Addr} {xs : List V} (h : SqT K H a xs) : TyX K H (.ref a) (.type "tuple") := by
  rcases h with (h | ⟨o, h⟩) | ⟨o, its, n, h1, h2, _⟩
  · exact .base (.tup h)
  · exact .fTuple h
  · exact .kTuple h1 h2
/-- what isinstance(thing, (list, tuple)) answers of data -/
def isTupD : PyData → Bool
  | .tuple _ => true
  | _ => false
theorem isi_data {H : Hp} {v : V} {d : PyData} {n : Nat} (h : Dp K H v d) (t : td n d) : ∃ ty, TyX K H v ty ∧ PySem.W.kitAny K ty [.type "list", .type "tuple"] = some (isTupD d) := by
  cases h with
  | non => exact ⟨_, .base .non, kitAny_cons (kit_ty (r := false) (by decide +kernel)) (fun _ => kitAny_cons (kit_ty (r := false) (by decide +kernel)) (fun _ => kitAny_nil) (fun z => nomatch z)) (fun z => nomatch z)⟩
  | bl b => exact ⟨_, .base (.bl b), kitAny_cons (kit_ty (r := false) (by decide +kernel)) (fun _ => kitAny_cons (kit_ty (r := false) (by decide +kernel)) (fun _ => kitAny_nil) (fun z => nomatch z)) (fun z => nomatch z)⟩
  | int i => exact ⟨_, .base (.int i), kitAny_cons (kit_ty (r := false) (by decide +kernel)) (fun _ => kitAny_cons (kit_ty (r := false) (by decide +kernel)) (fun _ => kitAny_nil) (fun z => nomatch z)) (fun z => nomatch z)⟩
  | str x => exact ⟨_, .base (.str x), kitAny_cons (kit_ty (r := false) (by decide +kernel)) (fun _ => kitAny_cons (kit_ty (r := false) (by decide +kernel)) (fun _ => kitAny_nil) (fun z => nomatch z)) (fun z => nomatch z)⟩
  | lst _ _ => cases n <;> exact t.elim
  | tup hs _ => exact ⟨_, ty_seq hs, kitAny_cons (kit_ty (r := false) (by decide +kernel)) (fun _ => kitAny_cons (kit_ty (r := true) (by decide +kernel)) (fun z => nomatch z) (fun _ => rfl)) (fun z => nomatch z)⟩

abbrev sAsT : Stmt := top 11
theorem scAsT : FnScope ["thing", "part"] ["thing"] (defScope sAsT) := ⟨rfl, rfl, rfl, by decide +kernel, rfl, by decide +kernel, by decide +kernel⟩
/-- as_tuples: a copy of the data -/
def spAsT (K : PySem.W.Frag) (n : Nat) : Sp := fun vs H Q _ => ∃ v d, vs = [v] ∧ Dp K H v d ∧ td n d ∧ ∀ H' v', Same H H' → Dp K H' v' d → Q v' H'
theorem ok_asT0 {f : Addr} {fd : FuncData} (B : Bl mg) (F : DefAt K "as_tuples" "as_tuples" sAsT f fd) : FnOk P w K mg base CX0 1 f fd ["thing"] (spAsT K 0) := by
  refine F.ok scAsT (fun vs H Q E h => ?_) (fun cdv A outer s H vs Q E hr h => ?_)
  · obtain ⟨v, d, rfl, _⟩ := h
    rfl
  · obtain ⟨v, d, rfl, hv, ht, k⟩ := h
    refine ⟨_, PSs.nox (pss_one (ps_ret (pe_ifExp (pt_val (pe_callB call_isiT (by rfl) B.isinstance bt_isinstance (pa_cons (pv 0) (pa_cons (pe_tup (pa_cons (pe_bltn (v := .ty "list") (by rfl) B.list bt_list rfl) (pa_cons (pe_bltn (v := .ty "tuple") (by rfl) B.tuple bt_tuple rfl) pa_nil))) pa_nil))))
      pe_never (pv 0)))), ?_⟩
    refine ⟨_, rfl, (by show 2 ≤ sizeLine; decide), fun T hT => ?_⟩
    have s0 : Same H (upd H T (.tup [.ty "list", .ty "tuple"])) := same_new hT
    obtain ⟨ty, hty, hk⟩ := isi_data (dp_same s0 hv) ht
    have e : isTupD d = false := by
      cases d <;> first | rfl | exact ht.elim
    rw [e] at hk
    exact ⟨_, T, _, ty, _, _, rfl, upd_same, .cons (.ty _) (.cons (.ty _) .nil), hty, hk, _, rfl, _, rfl, k _ _ s0 (dp_same s0 hv)⟩
theorem ok_asT1 {f : Addr} {fd : FuncData} {n : Nat} (B : Bl mg) (F : DefAt K "as_tuples" "as_tuples" sAsT f fd) (g : mg "as_tuples" = some (.ref f)) (G : FnOk P w K mg base CX0 (n + 1) f fd ["thing"] (spAsT K n)) : FnOk P w K mg base CX0 (n + 2) f fd ["thing"] (spAsT K (n + 1)) := by
  have b : Binds K fd ["thing"] [] := F.bindsN fun _ _ _ _ _ _ us hl => match us, hl with | [_], _ => rfl
  refine F.ok scAsT (fun vs H Q E h => ?_) (fun cdv A outer s H vs Q E hr h => ?_)
  · obtain ⟨v, d, rfl, _⟩ := h
    rfl
  · obtain ⟨v, d, rfl, hv, ht, k⟩ := h
    refine ⟨_, PSs.nox (pss_one (ps_ret (pe_ifExp (pt_val (pe_callB call_isiT (by rfl) B.isinstance bt_isinstance (pa_cons (pv 0) (pa_cons (pe_tup (pa_cons (pe_bltn (v := .ty "list") (by rfl) B.list bt_list rfl) (pa_cons (pe_bltn (v := .ty "tuple") (by rfl) B.tuple bt_tuple rfl) pa_nil))) pa_nil))))
      (pe_callTy call_tuple_of (by rfl) B.tuple bt_tuple (pa_cons (pe_lc (own := [("part", 1)]) (g := gName 1) (tt := tYes) rfl scAsT.nd (pi_tup (pv 0)) (blkOk_by (N := ["thing", "part"]) (sc := defScope sAsT) (by decide +kernel))
        (fun _ _ _ _ _ => pg_name (i := 1) scAsT.nd rfl (Or.inl rfl)) (fun _ _ _ _ _ => pts_nil) (fun _ _ _ _ _ => pe_call G hr rfl g F.kp b .nil pass0 (pa_cons (pv 1) pa_nil))) pa_nil)) (pv 0)))), ?_⟩
    refine ⟨_, rfl, (by show 2 ≤ sizeLine; decide), fun T hT => ?_⟩
    have s0 : Same H (upd H T (.tup [.ty "list", .ty "tuple"])) := same_new hT
    obtain ⟨ty, hty, hk⟩ := isi_data (dp_same s0 hv) ht
    refine ⟨_, T, _, ty, _, _, rfl, upd_same, .cons (.ty _) (.cons (.ty _) .nil), hty, hk, _, rfl, ?_⟩
    cases e : isTupD d with
    | false =>
      refine iteF ⟨_, rfl, k _ _ s0 (dp_same s0 hv)⟩
    | true =>
      refine iteT ?_
      cases d with
      | tuple ds =>
        obtain ⟨a, xs, rfl, hs, ha⟩ := dp_tupE hv
        obtain ⟨hl, hall⟩ : ds.length ≤ 1000 ∧ ∀ d ∈ ds, td n d := ht
        refine ⟨_, rfl, a, rfl, ⟨_, same_sqT s0 hs⟩, fun D hD => ?_⟩
        have hD0 : H D = none := s0.free hD
        refine lc_tup (K := K) (a := a) (xs := xs) (fun i H' => Same H H' ∧ ∃ acc, H' D = some (.lst acc) ∧ DpAll K H' acc (ds.take i)) ⟨same_at s0 hD0, [], upd_same, .nil⟩ (fun i H' _ h => same_sqT h.1 hs) ?_ ?_
        · rintro i x H' hi ⟨s1, acc, hacc, hda⟩
          obtain ⟨dx, hd1, hd2⟩ := dpa_at ha hi
          refine ⟨rfl, _, rfl, x, dx, rfl, dp_same s1 hd2, hall dx (List.mem_of_getElem? hd1), fun H2 v2 s2 hv2 => ?_⟩
          refine ⟨acc, s2 _ _ hacc, sz1000 ?_, same_at (s1.trans s2) hD0, acc ++ [v2], upd_same, ?_⟩
          · rw [dpa_length hda, List.length_take]
            omega
          · rw [List.take_succ, hd1]
            have ne : ∀ b u, H2 b = some u → ¬ Mut (some u) → b ≠ D := fun b u e nm z => by
              rw [z, s2 _ _ hacc] at e
              cases e
              exact nm trivial
            have kp := kp_at (H := H2) (l := D) (o := .lst (acc ++ [v2])) (by rw [s2 _ _ hacc]; trivial)
            exact dpa_kp kp (n := n) (fun d hd => by
              rcases List.mem_append.mp hd with z | z
              · exact hall d (List.mem_of_mem_take z)
              · rw [List.mem_singleton.mp z]
                exact hall dx (List.mem_of_getElem? hd1)) (dpa_snoc (dpa_same s2 hda) hv2)
        · rintro H' ⟨s1, acc, hacc, hda⟩
          have e1 : ds.take xs.length = ds := by rw [dpa_length ha, List.take_length]
          rw [e1] at hda
          refine ⟨D, acc, rfl, .inl ⟨SqL.of hacc, fun t htn => ?_⟩⟩
          have s2 : Same H' (upd H' t (.tup acc)) := same_new htn
          exact k _ _ (s1.trans s2) (.tup (SqT.of upd_same) (dpa_same s2 hda))
      | _ => cases e
theorem ok_asT {f : Addr} {fd : FuncData} (B : Bl mg) (F : DefAt K "as_tuples" "as_tuples" sAsT f fd) (g : mg "as_tuples" = some (.ref f)) : ∀ n, FnOk P w K mg base CX0 (n + 1) f fd ["thing"] (spAsT K n)
  | 0 => ok_asT0 B F
  | n + 1 => ok_asT1 B F g (ok_asT B F g n)
end
end K10
end
section
set_option maxHeartbeats 4000000
/-! K2: lib_of, lib_at, use_at, serves, version_of. -/
namespace K10
open PySem PySem.Spec PyProof.Rows L2
/-- a program as the law draws it (sizes; names that are there) -/
def okS (x : Str) : Bool := decide (x.length ≤ 8) && (PyData.canLay0 (.str x) && x.cps.toList.all fun c => decide (c < 128))
structure Prg.Ok (p : Prg) : Prop where
  n1 : p.libs ≠ []
  n8 : p.libs.length ≤ 8
  nd : p.names.Nodup
  needs : ∀ l ∈ p.libs, ∀ x ∈ l.needs, x ∈ p.names
  early : ∀ x ∈ p.early, x ∈ p.names
  doors : ∀ d ∈ p.doors, d.1 ∈ p.names
  e8 : p.early.length ≤ 8
  d8 : p.doors.length ≤ 8
  l8 : ∀ l ∈ p.libs, l.needs.length ≤ 8 ∧ l.defs.length ≤ 8 ∧ l.uses.length ≤ 8
  sn : ∀ l ∈ p.libs, okS l.name = true ∧ (∀ d ∈ l.defs, okS d.1 = true ∧ okS d.2 = true) ∧ ∀ u ∈ l.uses, okS u.1 = true ∧ okS u.2.1 = true
theorem td_strs {n : Nat} {xs : List Str} (h : xs.length ≤ 1000) : td (n + 1) (.tuple (xs.map .str)) := ⟨by rw [List.length_map]; exact h, fun d hd => by
  obtain ⟨x, _, rfl⟩ := List.mem_map.mp hd
  cases n <;> trivial⟩
theorem td_df {n : Nat} (d : Str × Str) : td (n + 1) (dfD d) := ⟨by show 2 ≤ 1000; decide, fun e he => by
  rcases List.mem_cons.mp he with rfl | he
  · cases n <;> trivial
  · rw [List.mem_singleton.mp he]
    cases n <;> trivial⟩
theorem td_us {n : Nat} (u : Str × Str × Bool) : td (n + 1) (usD u) := ⟨by show 3 ≤ 1000; decide, fun e he => by
  rcases List.mem_cons.mp he with rfl | he
  · cases n <;> trivial
  · rcases List.mem_cons.mp he with rfl | he
    · cases n <;> trivial
    · rw [List.mem_singleton.mp he]
      cases n <;> trivial⟩
theorem td_map {α : Type} {n : Nat} {f : α → PyData} {xs : List α} (h : xs.length ≤ 1000) (t : ∀ x ∈ xs, td n (f x)) : td (n + 1) (.tuple (xs.map f)) := ⟨by rw [List.length_map]; exact h, fun d hd => by
  obtain ⟨x, hx, rfl⟩ := List.mem_map.mp hd
  exact t x hx⟩
theorem td_lb {l : Lib} (h : l.needs.length ≤ 8 ∧ l.defs.length ≤ 8 ∧ l.uses.length ≤ 8) : td 3 (lbD l) := ⟨by show 4 ≤ 1000; decide, fun e he => by
  rcases List.mem_cons.mp he with rfl | he
  · trivial
  · rcases List.mem_cons.mp he with rfl | he
    · exact td_strs (by omega)
    · rcases List.mem_cons.mp he with rfl | he
      · exact td_map (by omega) fun d _ => td_df d
      · rw [List.mem_singleton.mp he]
        exact td_map (by omega) fun d _ => td_us d⟩
theorem td_pr {p : Prg} (h : p.Ok) : td 5 (prD p) := ⟨by show 3 ≤ 1000; decide, fun e he => by
  rcases List.mem_cons.mp he with rfl | he
  · exact td_map (by have := h.n8; omega) fun l hl => td_lb (h.l8 l hl)
  · rcases List.mem_cons.mp he with rfl | he
    · exact td_strs (by have := h.e8; omega)
    · rw [List.mem_singleton.mp he]
      exact td_map (by have := h.d8; omega) fun d _ => td_df d⟩
/-- the list at D has grown: data that was read stays -/
theorem dpa_grow {K : PySem.W.Frag} {H : Hp} {D : Addr} {acc acc' : List V} {n : Nat} {vs : List V} {ds : List PyData} (h : H D = some (.lst acc)) (t : ∀ d ∈ ds, td n d) (a : DpAll K H vs ds) : DpAll K (upd H D (.lst acc')) vs ds :=
  dpa_kp (kp_at (H := H) (l := D) (o := .lst acc') (by rw [h]; trivial)) t a
/-! ### rules with the written part said (for blocks) -/
theorem ixtK {X : Cx} {K : PySem.W.Frag} (h : X.K = K := by rfl) : IxR X (rIxT K) := h ▸ ix_tup
theorem pi_tupK {X : Cx} {K : PySem.W.Frag} {tg l : Expr} {tl : TE} (hl : PE X l tl) (h : X.K = K := by rfl) : PI X tg l (iTup K tl) := h ▸ pi_tup hl
theorem pi_listK {X : Cx} {K : PySem.W.Frag} {tg l : Expr} {tl : TE} (hl : PE X l tl) (h : X.K = K := by rfl) : PI X tg l (iList K tl) := h ▸ pi_list hl
def rLenS (K : PySem.W.Frag) : List V → Hp → VK → Prop := fun xs H Q => ∃ p ys, xs = [.ref p] ∧ (SqL K H p ys ∨ SqT K H p ys) ∧ Q (.int ys.length) H
theorem lenK {X : Cx} {K : PySem.W.Frag} (h : X.K = K := by rfl) : CallR X (.builtin "len") (rLenS K) := h ▸ call_len_seq
def rTupO (K : PySem.W.Frag) : List V → Hp → VK → Prop := fun xs H Q => ∃ p ys, xs = [.ref p] ∧ ((SqL K H p ys ∧ ∀ l, H l = none → Q (.ref l) (upd H l (.tup ys))) ∨ (SqT K H p ys ∧ Q (.ref p) H))
theorem tupK {X : Cx} {K : PySem.W.Frag} (h : X.K = K := by rfl) : CallR X (.type "tuple") (rTupO K) := h ▸ call_tuple_of
def rLstO (K : PySem.W.Frag) : List V → Hp → VK → Prop := fun xs H Q => ∃ p ys, xs = [.ref p] ∧ (SqL K H p ys ∨ SqT K H p ys) ∧ ∀ l, H l = none → Q (.ref l) (upd H l (.lst ys))
theorem lstK {X : Cx} {K : PySem.W.Frag} (h : X.K = K := by rfl) : CallR X (.type "list") (rLstO K) := h ▸ call_list_of
theorem inK {X : Cx} {K : PySem.W.Frag} (h : X.K = K := by rfl) : OpR X (compareOp .In) (rIn K false) := h ▸ op_in_seq
theorem ninK {X : Cx} {K : PySem.W.Frag} (h : X.K = K := by rfl) : OpR X (compareOp .NotIn) (rIn K true) := h ▸ op_notIn_seq
theorem eqDK {X : Cx} {K : PySem.W.Frag} (hu : X.A.units + 64 < cLine) (h : X.K = K := by rfl) : OpR X (compareOp .Eq) (rEqD K) := h ▸ op_eqD hu
theorem neDK {X : Cx} {K : PySem.W.Frag} (hu : X.A.units + 64 < cLine) (h : X.K = K := by rfl) : OpR X (compareOp .NotEq) (rNeD K) := h ▸ op_neD hu
theorem pe_fldK {X : Cx} {K : PySem.W.Frag} {e : Expr} {f : Str} {pos : Pos} {ta : TE} (he : PE X e ta) (hb : attributeBase e f X.env (eval e X.env) = eval e X.env := by rfl) (h : X.K = K := by rfl) : PE X (.Attribute e f pos) (tFld K ta f) := h ▸ pe_fld he hb
theorem ixlK {X : Cx} {K : PySem.W.Frag} (h : X.K = K := by rfl) : IxR X (rIxL K) := h ▸ ix_list
section
variable {P : Program} {w : World} {K : PySem.W.Frag} {mg : Str → Option Value} {base : Heap}
/-! ### lib_of -/
abbrev sLibOf : Stmt := top 12
theorem scLibOf : FnScope ["program", "name", "some", "lib"] ["program", "name"] (defScope sLibOf) := ⟨rfl, rfl, rfl, by decide +kernel, rfl, by decide +kernel, by decide +kernel⟩
def LibIs (K : PySem.W.Frag) (H : Hp) (v : V) : Option Lib → Prop
  | some l => Dp K H v (lbD l)
  | none => v = .non
def spLibOf (K : PySem.W.Frag) : Sp := fun vs H Q _ => ∃ vp p x, vs = [vp, .str x] ∧ Dp K H vp (prD p) ∧ p.Ok ∧ ∀ H' v, Same H H' → LibIs K H' v (p.libOf x) → Q v H'
theorem ok_libOf {f : Addr} {fd : FuncData} (B : Bl mg) (F : DefAt K "lib_of" "lib_of" sLibOf f fd) : FnOk P w K mg base CX0 1 f fd ["program", "name"] (spLibOf K) := by
  refine F.ok scLibOf (fun vs H Q E h => ?_) (fun cdv A outer s H vs Q E hr h => ?_)
  · obtain ⟨vp, p, x, rfl, _⟩ := h
    rfl
  · obtain ⟨vp, p, x, rfl, hp, ok, k⟩ := h
    refine ⟨_, PSs.nox (pss_cons (ps_setLc (i := 2) (own := [("lib", 3)]) (g := gName 3) rfl scLibOf.nd rfl rfl (sw_true rfl rfl rfl (by decide +kernel)) (pi_tupK (K := K) (pe_ix (ixtK (K := K)) (pv 0) pe_int (fun _ _ => rfl)))
        (blkOk_by (N := ["program", "name", "some", "lib"]) (sc := defScope sLibOf) (by decide +kernel)) (fun _ _ _ _ _ => pg_name (i := 3) scLibOf.nd rfl (Or.inl rfl))
        (fun _ _ _ _ _ => pts_one (pt_cmpR op_eq (pe_ix (ixtK (K := K)) (pv 3) pe_int (fun _ _ => rfl)) (pv 1) (nomark _))) (fun _ _ _ _ _ => pv 3))
      (pss_one (ps_ret (pe_ifExp (pt_cmpR op_gt (pe_callB (lenK (K := K)) (by rfl) B.len bt_len (pa_cons (pv 2) pa_nil)) pe_int (nomark _)) (pe_ix (ixlK (K := K)) (pv 2) pe_int (fun _ _ => rfl)) pe_non)))), ?_⟩
    refine ⟨_, rfl, ixT0 hp fun vl hl => ?_⟩
    obtain ⟨a, xs, rfl, hs, ha⟩ := dp_tupE hl
    refine ⟨a, rfl, ⟨_, hs⟩, fun D hD => ?_⟩
    refine lc_tup (K := K) (a := a) (xs := xs) (fun i H' => Same H H' ∧ ∃ acc, H' D = some (.lst acc) ∧ DpAll K H' acc (((p.libs.take i).filter fun l => decide (l.name = x)).map lbD)) ⟨same_new hD, [], upd_same, .nil⟩ (fun i H' _ h => same_sqT h.1 hs) ?_ ?_
    · rintro i y H' hi ⟨s1, acc, hacc, hda⟩
      obtain ⟨dx, hd1, hd2⟩ := dpa_at ha hi
      rw [List.getElem?_map] at hd1
      obtain ⟨l, hl1, rfl⟩ := Option.map_eq_some_iff.mp hd1
      have tl : ∀ d ∈ ((p.libs.take i).filter fun l => decide (l.name = x)).map lbD, td 3 d := fun d hd => by
        obtain ⟨z, hz, rfl⟩ := List.mem_map.mp hd
        exact td_lb (ok.l8 z (List.mem_of_mem_take (List.mem_filter.mp hz).1))
      have hy := dp_same s1 hd2
      refine ⟨rfl, _, rfl, ixT0 hy fun vn hn => ?_⟩
      have e1 := dp_strE hn
      subst e1
      refine ⟨_, rfl, rfl, _, rfl, ?_⟩
      have step : p.libs.take (i + 1) = p.libs.take i ++ [l] := by rw [List.take_succ, hl1] <;> rfl
      by_cases c : l.name = x
      · have e2 : decide (V.str l.name = V.str x) = true := decide_eq_true (by rw [c])
        rw [e2]
        refine iteT ⟨_, rfl, acc, hacc, sz1000 ?_, same_at s1 hD, acc ++ [y], upd_same, ?_⟩
        · rw [dpa_length hda, List.length_map]
          exact Nat.le_trans (List.length_filter_le _ _) (Nat.le_trans (by rw [List.length_take]; exact Nat.min_le_right _ _) (by have := ok.n8; omega))
        · rw [step, List.filter_append, List.map_append, List.filter_cons_of_pos (by simp [c])]
          exact dpa_grow (n := 3) hacc (fun d hd => by
            rcases List.mem_append.mp hd with z | z
            · exact tl d z
            · have z : d = lbD l := by simpa using z
              rw [z]
              exact td_lb (ok.l8 l (List.mem_of_getElem? hl1))) (dpa_snoc hda hy)
      · have e2 : decide (V.str l.name = V.str x) = false := decide_eq_false (fun z => c (by injection z))
        rw [e2]
        refine iteF ⟨s1, acc, hacc, ?_⟩
        rw [step, List.filter_append, List.filter_cons_of_neg (by simp [c]), List.filter_nil, List.append_nil]
        exact hda
    · rintro H' ⟨s1, acc, hacc, hda⟩
      have e1 : p.libs.take xs.length = p.libs := by
        have q := dpa_length ha
        rw [List.length_map] at q
        rw [q, List.take_length]
      rw [e1] at hda
      have fe : p.libOf x = ((p.libs.filter fun l => decide (l.name = x))).head? := (List.head?_filter ..).symm
      rw [fe] at k
      generalize (p.libs.filter fun l => decide (l.name = x)) = ls at hda k
      refine ⟨_, rfl, D, acc, rfl, .inl (SqL.of hacc), _, _, rfl, rfl, _, rfl, ?_⟩
      have hl := dpa_length hda
      rw [List.length_map] at hl
      cases ls with
      | nil =>
        rw [decide_eq_false (by rw [hl]; show ¬ ((0 : Nat) : Int) > 0; decide)]
        exact iteF (k _ _ s1 rfl)
      | cons l ls =>
        rw [decide_eq_true (by rw [hl, List.length_cons]; omega)]
        obtain ⟨v, hv1, hv2⟩ := dpa_get hda (i := 0) (d := lbD l) rfl
        exact iteT ⟨_, rfl, D, acc, _, v, rfl, rfl, SqL.of hacc, atI_nat (j := 0) hv1, k _ _ s1 hv2⟩
/-! ### lib_at, use_at -/
abbrev sLibAt : Stmt := top 14
theorem scLibAt : FnScope ["program", "name", "lib"] ["program", "name"] (defScope sLibAt) := ⟨rfl, rfl, rfl, by decide +kernel, rfl, by decide +kernel, by decide +kernel⟩
def spLibAt (K : PySem.W.Frag) : Sp := fun vs H Q _ => ∃ vp p x l, vs = [vp, .str x] ∧ Dp K H vp (prD p) ∧ p.Ok ∧ p.libOf x = some l ∧ ∀ H' v, Same H H' → Dp K H' v (lbD l) → Q v H'
theorem ref_not {K : PySem.W.Frag} {H : Hp} {v : V} {ds : List PyData} (h : Dp K H v (.tuple ds)) : decide (v = V.non) = false := by
  obtain ⟨a, xs, rfl, _⟩ := dp_tupE h
  exact decide_eq_false fun z => nomatch z
theorem ok_libAt {f : Addr} {fd : FuncData} (F : DefAt K "lib_at" "lib_at" sLibAt f fd) (GL : Glb P w K mg base CX0 1 "lib_of" ["program", "name"] (spLibOf K)) : FnOk P w K mg base CX0 2 f fd ["program", "name"] (spLibAt K) := by
  obtain ⟨fL, fdL, GL, gL, kL, bL⟩ := GL.ex
  refine F.ok scLibAt (fun vs H Q E h => ?_) (fun cdv A outer s H vs Q E hr h => ?_)
  · obtain ⟨vp, p, x, l, rfl, _⟩ := h
    rfl
  · obtain ⟨vp, p, x, l, rfl, hp, ok, el, k⟩ := h
    refine ⟨_, PSs.nox (pss_cons (ps_set (i := 2) scLibAt.nd rfl (Or.inl rfl) (pe_call GL hr rfl gL kL bL .nil pass0 (pa_cons (pv 0) (pa_cons (pv 1) pa_nil))))
      (pss_cons (ps_if (pt_cmpR op_isN (pv 2) pe_non (nomark _)) (pss_one ps_never) pss_nil) (pss_one (ps_ret (pv 2))))), ?_⟩
    refine ⟨_, rfl, _, rfl, vp, p, x, rfl, hp, ok, fun H1 v s1 hl => ?_⟩
    rw [el] at hl
    have hl : Dp K H1 v (lbD l) := hl
    refine ⟨_, rfl, rfl, _, rfl, ?_⟩
    rw [ref_not hl]
    exact iteF ⟨_, rfl, k _ _ s1 hl⟩
abbrev sUseAt : Stmt := top 15
theorem scUseAt : FnScope ["program", "name", "number", "lib"] ["program", "name", "number"] (defScope sUseAt) := ⟨rfl, rfl, rfl, by decide +kernel, rfl, by decide +kernel, by decide +kernel⟩
def spUseAt (K : PySem.W.Frag) : Sp := fun vs H Q _ => ∃ (vp : V) (p : Prg) (x : Str) (i : Nat) (u : Str × Str × Bool), vs = [vp, .str x, .int (i : Int)] ∧ Dp K H vp (prD p) ∧ p.Ok ∧ useAt p x i = some u ∧ ∀ H' v, Same H H' → Dp K H' v (usD u) → Q v H'
theorem ok_useAt {f : Addr} {fd : FuncData} (B : Bl mg) (F : DefAt K "use_at" "use_at" sUseAt f fd) (GL : Glb P w K mg base CX0 2 "lib_at" ["program", "name"] (spLibAt K)) : FnOk P w K mg base CX0 3 f fd ["program", "name", "number"] (spUseAt K) := by
  obtain ⟨fL, fdL, GL, gL, kL, bL⟩ := GL.ex
  refine F.ok scUseAt (fun vs H Q E h => ?_) (fun cdv A outer s H vs Q E hr h => ?_)
  · obtain ⟨vp, p, x, i, u, rfl, _⟩ := h
    rfl
  · obtain ⟨vp, p, x, i, u, rfl, hp, ok, eu, k⟩ := h
    obtain ⟨l, el, eu⟩ := Option.bind_eq_some_iff.mp eu
    refine ⟨_, PSs.nox (pss_cons (ps_set (i := 3) scUseAt.nd rfl (Or.inl rfl) (pe_call GL hr rfl gL kL bL .nil pass0 (pa_cons (pv 0) (pa_cons (pv 1) pa_nil))))
      (pss_cons (ps_if (pt_not (pt_chain op_le op_lt pe_int (pv 2) (pe_callB (lenK (K := K)) (by rfl) B.len bt_len (pa_cons (pe_ix (ixtK (K := K)) (pv 3) pe_int (fun _ _ => rfl)) pa_nil)))) (pss_one ps_never) pss_nil)
      (pss_one (ps_ret (pe_ix (ixtK (K := K)) (pe_ix (ixtK (K := K)) (pv 3) pe_int (fun _ _ => rfl)) (pv 2) (fun _ _ => rfl)))))), ?_⟩
    refine ⟨_, rfl, _, rfl, vp, p, x, l, rfl, hp, ok, el, fun H1 v s1 hl => ?_⟩
    have hi : i < l.uses.length := (List.getElem?_eq_some_iff.mp eu).1
    refine ⟨_, rfl, _, _, rfl, rfl, _, rfl, ?_⟩
    rw [decide_eq_true (by omega)]
    refine iteT ⟨_, rfl, ixT3 hl fun vu hu => ?_⟩
    obtain ⟨a, xs, rfl, hs, ha⟩ := dp_tupE hu
    refine ⟨a, xs, rfl, .inr hs, _, _, rfl, rfl, _, rfl, ?_⟩
    rw [decide_eq_true (by rw [dpa_length ha, List.length_map]; omega)]
    refine iteF ⟨_, rfl, ixT3 hl fun vu hu => ⟨_, rfl, ?_⟩⟩
    exact ixTn hu (by rw [List.getElem?_map, eu] <;> rfl) fun v hv => k _ _ s1 hv
/-! ### serves -/
abbrev sServes : Stmt := top 19
theorem scServes : FnScope ["definition", "use"] ["definition", "use"] (defScope sServes) := ⟨rfl, rfl, rfl, by decide +kernel, rfl, by decide +kernel, by decide +kernel⟩
def spServes (K : PySem.W.Frag) : Sp := fun vs H Q _ => ∃ v1 v2 d u, vs = [v1, v2] ∧ Dp K H v1 (dfD d) ∧ Dp K H v2 (usD u) ∧ ∀ H', Same H H' → Q (.bl (servesM d u)) H'
theorem dec_str (a b : Str) : decide (V.str a = V.str b) = decide (a = b) := by
  by_cases e : a = b
  · rw [e, decide_eq_true rfl, decide_eq_true rfl]
  · rw [decide_eq_false e, decide_eq_false fun z => e (by injection z)]
theorem eqV_str (a b : Str) : eqV (V.str a) (V.str b) = decide (a = b) := by
  show (a == b) = _
  by_cases e : a = b
  · subst e
    simp
  · rw [decide_eq_false e]
    simpa using e
theorem ok_serves {f : Addr} {fd : FuncData} (F : DefAt K "serves" "serves" sServes f fd) : FnOk P w K mg base CX0 1 f fd ["definition", "use"] (spServes K) := by
  refine F.ok scServes (fun vs H Q E h => ?_) (fun cdv A outer s H vs Q E hr h => ?_)
  · obtain ⟨v1, v2, d, u, rfl, _⟩ := h
    rfl
  · obtain ⟨v1, v2, d, u, rfl, h1, h2, k⟩ := h
    refine ⟨_, PSs.nox (pss_one (ps_ret (pe_and (pe_cmpR op_eq (pe_ix (ixtK (K := K)) (pv 0) pe_int (fun _ _ => rfl)) (pe_ix (ixtK (K := K)) (pv 1) pe_int (fun _ _ => rfl)) (nomark _))
      (pe_one (pe_or (pe_cmpR op_eq (pe_ix (ixtK (K := K)) (pv 0) pe_int (fun _ _ => rfl)) (pe_ix (ixtK (K := K)) (pv 1) pe_int (fun _ _ => rfl)) (nomark _))
        (pe_one (pe_cmpR (inK (K := K)) pe_str (pe_tup (pa_cons (pe_ix (ixtK (K := K)) (pv 0) pe_int (fun _ _ => rfl)) (pa_cons (pe_ix (ixtK (K := K)) (pv 1) pe_int (fun _ _ => rfl)) pa_nil))) (by rfl)))))))), ?_⟩
    refine ⟨_, rfl, ixT0 h1 fun a0 e0 => ?_⟩
    obtain rfl := dp_strE e0
    refine ⟨_, rfl, ixT0 h2 fun b0 f0 => ?_⟩
    obtain rfl := dp_strE f0
    refine ⟨rfl, _, rfl, ?_⟩
    rw [dec_str]
    by_cases c : d.1 = u.1
    · rw [decide_eq_true c]
      refine iteT ⟨_, rfl, ixT1 h1 fun a1 e1 => ?_⟩
      obtain rfl := dp_strE e1
      refine ⟨_, rfl, ixT1 h2 fun b1 f1 => ?_⟩
      obtain rfl := dp_strE f1
      refine ⟨rfl, _, rfl, ?_⟩
      rw [dec_str]
      by_cases c2 : d.2 = u.2.1
      · rw [decide_eq_true c2]
        refine iteT ?_
        have e : servesM d u = true := by simp [servesM, c, c2]
        rw [← e]
        exact k _ (Same.refl _)
      · rw [decide_eq_false c2]
        refine iteF ⟨_, rfl, ixT1 h1 fun a2 e2 => ?_⟩
        obtain rfl := dp_strE e2
        refine ⟨_, rfl, ixT1 h2 fun b2 f2 => ?_⟩
        obtain rfl := dp_strE f2
        refine ⟨(by show 2 ≤ sizeLine; decide), fun T hT => ?_⟩
        refine ⟨T, _, rfl, .inr (SqT.of upd_same), rfl, rfl, ?_⟩
        have e : inV (V.str "") [V.str d.2, V.str u.2.1] = servesM d u := by
          show (eqV (V.str d.2) (V.str "") || (eqV (V.str u.2.1) (V.str "") || false)) = _
          rw [eqV_str, eqV_str]
          simp [servesM, c, c2]
        show Q (.bl (inV (V.str "") [V.str d.2, V.str u.2.1])) _
        rw [e]
        exact k _ (same_new hT)
    · rw [decide_eq_false c]
      refine iteF ?_
      have e : servesM d u = false := by simp [servesM, c]
      rw [← e]
      exact k _ (Same.refl _)
end
end K10
end
section
set_option maxHeartbeats 4000000
/-! K3: min of texts; version_of; row, first_row, door_row. -/
namespace K10
open PySem PySem.Spec PyProof.Rows L2
/-! ### min of a list of texts -/
theorem minD_str : ∀ (r : List Str) (x : Str), PySem.W.minD (.str x) (r.map .str) = .str (minS (x :: r))
  | [], _ => rfl
  | y :: r, x => by
    have ih := minD_str r (if PySem.W.dataLt (.str y) (.str x) = true then y else x)
    have e1 : PySem.W.minD (.str x) ((y :: r).map .str) = PySem.W.minD (.str (if PySem.W.dataLt (.str y) (.str x) = true then y else x)) (r.map .str) := by
      unfold PySem.W.minD
      rw [List.map_cons, List.foldl_cons]
      by_cases c : PySem.W.dataLt (.str y) (.str x) = true
      · rw [if_pos c, if_pos c]
      · rw [if_neg c, if_neg c]
    have e2 : minS (x :: y :: r) = minS ((if PySem.W.dataLt (.str y) (.str x) = true then y else x) :: r) := rfl
    rw [e1, e2]
    exact ih
theorem depthAll_strs : ∀ xs : List Str, PyData.depthAll (xs.map PyData.str) = 0
  | [] => by simp only [List.map_nil, PyData.depthAll]
  | x :: xs => by simp only [List.map_cons, PyData.depthAll, PyData.depth, depthAll_strs xs]; rfl
theorem alike_strs (xs : List Str) : PySem.W.AlikeAll (xs.map PyData.str) := by
  refine ⟨fun a ha b hb => ?_, fun a ha => ?_⟩
  · obtain ⟨x, _, rfl⟩ := List.mem_map.mp ha
    obtain ⟨y, _, rfl⟩ := List.mem_map.mp hb
    simp only [PySem.W.alike]
  · obtain ⟨x, _, rfl⟩ := List.mem_map.mp ha
    exact fun z => nomatch z
def rMinS (K : PySem.W.Frag) : List V → Hp → VK → Prop := fun vs H Q => ∃ (a : Addr) (xs : List Str), vs = [V.ref a] ∧ SqL K H a (xs.map V.str) ∧ xs ≠ [] ∧ Q (.str (minS xs)) H
theorem cr_minS {X : Cx} (hc : X.calm = true) (hu : X.A.units + 64 < cLine) : CallR X (.builtin "min") (rMinS X.K) := by
  intro pins s σ H vs us Q I r h
  obtain ⟨a, xs, rfl, hs, hne, q⟩ := h
  rw [Vals.ref1 r]
  obtain ⟨its, rv, hl, _⟩ := I.list hs
  cases xs with
  | nil => exact absurd rfl hne
  | cons x xs =>
    obtain ⟨as, hra⟩ := Dp.readsAll I ((x :: xs).map PyData.str) _ its (dpa_strs _) rv
    refine PySem.W.min_list_data (x := .str x) (xs := xs.map .str) (I.ok.hd hc) hl.isList (by simpa using hra) (alike_strs (x :: xs)) (by have := depthAll_strs (x :: xs); simp only [List.map_cons] at this; omega) fun i v h' tk bs hv rd k => ?_
    rw [minD_str] at rd
    cases rd with
    | str y t => exact ⟨.str (minS (x :: xs)), H, I.kept k, ⟨t, rfl⟩, q⟩
theorem minK {X : Cx} {K : PySem.W.Frag} (hc : X.calm = true) (hu : X.A.units + 64 < cLine) (h : X.K = K := by rfl) : CallR X (.builtin "min") (rMinS K) := h ▸ cr_minS hc hu
section
variable {P : Program} {w : World} {K : PySem.W.Frag} {mg : Str → Option Value} {base : Heap}
/-! ### version_of -/
abbrev sVersOf : Stmt := top 20
theorem scVersOf : FnScope ["lib", "use", "some", "definition"] ["lib", "use"] (defScope sVersOf) := ⟨rfl, rfl, rfl, by decide +kernel, rfl, by decide +kernel, by decide +kernel⟩
def optS : Option Str → V
  | some x => .str x
  | none => .non
def spVersOf (K : PySem.W.Frag) : Sp := fun vs H Q _ => ∃ (v1 v2 : V) (l : Lib) (u : Str × Str × Bool), vs = [v1, v2] ∧ Dp K H v1 (lbD l) ∧ Dp K H v2 (usD u) ∧ l.defs.length ≤ 8 ∧ ∀ H', Same H H' → Q (optS (versM l u)) H'
theorem ok_versOf {f : Addr} {fd : FuncData} (B : Bl mg) (F : DefAt K "version_of" "version_of" sVersOf f fd) (GS : Glb P w K mg base CX0 1 "serves" ["definition", "use"] (spServes K)) : FnOk P w K mg base CX0 2 f fd ["lib", "use"] (spVersOf K) := by
  obtain ⟨fS, fdS, GS, gS, kS, bS⟩ := GS.ex
  refine F.ok scVersOf (fun vs H Q E h => ?_) (fun cdv A outer s H vs Q E hr h => ?_)
  · obtain ⟨v1, v2, l, u, rfl, _⟩ := h
    rfl
  · obtain ⟨v1, v2, l, u, rfl, h1, h2, h8, k⟩ := h
    refine ⟨_, PSs.nox (pss_cons (ps_setLc (i := 2) (own := [("definition", 3)]) (g := gName 3) rfl scVersOf.nd rfl rfl (sw_true rfl rfl rfl (by decide +kernel)) (pi_tupK (K := K) (pe_ix (ixtK (K := K)) (pv 0) pe_int (fun _ _ => rfl)))
        (blkOk_by (N := ["lib", "use", "some", "definition"]) (sc := defScope sVersOf) (by decide +kernel)) (fun _ _ _ _ _ => pg_name (i := 3) scVersOf.nd rfl (Or.inl rfl))
        (fun _ _ _ _ _ => pts_one (pt_val (pe_call GS hr rfl gS kS bS .nil pass0 (pa_cons (pv 3) (pa_cons (pv 1) pa_nil))))) (fun _ _ _ _ _ => pe_ix (ixtK (K := K)) (pv 3) pe_int (fun _ _ => rfl)))
      (pss_cons (ps_if (pt_cmpR op_eq (pe_callB (lenK (K := K)) (by rfl) B.len bt_len (pa_cons (pv 2) pa_nil)) pe_int (nomark _)) (pss_one (ps_ret pe_non)) pss_nil)
      (pss_one (ps_ret (pe_ifExp (pt_cmpR (inK (K := K)) (pe_ix (ixtK (K := K)) (pv 1) pe_int (fun _ _ => rfl)) (pv 2) (by rfl)) (pe_ix (ixtK (K := K)) (pv 1) pe_int (fun _ _ => rfl))
        (pe_callB (minK (K := K) rfl hr.units) (by rfl) B.min bt_min (pa_cons (pv 2) pa_nil))))))), ?_⟩
    refine ⟨_, rfl, ixT2 h1 fun vl hl => ?_⟩
    obtain ⟨a, xs, rfl, hs, ha⟩ := dp_tupE hl
    refine ⟨a, rfl, ⟨_, hs⟩, fun D hD => ?_⟩
    refine lc_tup (K := K) (a := a) (xs := xs) (fun i H' => Same H H' ∧ H' D = some (.lst ((((l.defs.take i).filter fun d => servesM d u).map (·.2)).map V.str))) ⟨same_new hD, upd_same⟩ (fun i H' _ h => same_sqT h.1 hs) ?_ ?_
    · rintro i y H' hi ⟨s1, hacc⟩
      obtain ⟨dx, hd1, hd2⟩ := dpa_at ha hi
      rw [List.getElem?_map] at hd1
      obtain ⟨d, hl1, rfl⟩ := Option.map_eq_some_iff.mp hd1
      have hy := dp_same s1 hd2
      have step : l.defs.take (i + 1) = l.defs.take i ++ [d] := by rw [List.take_succ, hl1] <;> rfl
      refine ⟨rfl, _, rfl, _, rfl, _, _, d, u, rfl, hy, dp_same s1 h2, fun H2 s2 => ⟨_, rfl, ?_⟩⟩
      cases c : servesM d u with
      | true =>
        refine iteT ⟨_, rfl, ixT1 (dp_same s2 hy) fun v hv => ?_⟩
        obtain rfl := dp_strE hv
        refine ⟨_, s2 _ _ hacc, sz1000 ?_, same_at (s1.trans s2) hD, ?_⟩
        · rw [List.length_map, List.length_map]
          exact Nat.le_trans (List.length_filter_le _ _) (Nat.le_trans (by rw [List.length_take]; exact Nat.min_le_right _ _) (by omega))
        · rw [upd_same, step, List.filter_append, List.filter_cons_of_pos (by simp [c]), List.map_append, List.map_append] <;> rfl
      | false =>
        refine iteF ⟨s1.trans s2, ?_⟩
        rw [step, List.filter_append, List.filter_cons_of_neg (by simp [c]), List.filter_nil, List.append_nil]
        exact s2 _ _ hacc
    · rintro H' ⟨s1, hacc⟩
      have e1 : l.defs.take xs.length = l.defs := by
        have q := dpa_length ha
        rw [List.length_map] at q
        rw [q, List.take_length]
      rw [e1] at hacc
      unfold versM at k
      generalize ((l.defs.filter fun d => servesM d u).map (·.2)) = ss at hacc k
      have hu := dp_same s1 h2
      refine ⟨_, rfl, D, _, rfl, .inl (SqL.of hacc), rfl, _, rfl, ?_⟩
      cases ss with
      | nil =>
        rw [decide_eq_true (by rfl)]
        exact iteT (k _ s1)
      | cons z zs =>
        rw [decide_eq_false (by
          intro q
          injection q with q
          rw [List.length_map, List.length_cons] at q
          omega)]
        refine iteF ⟨_, rfl, ixT1 hu fun v hv => ?_⟩
        obtain rfl := dp_strE hv
        have fl : ((z :: zs).map V.str).all flatV = true := by
          rw [List.all_eq_true]
          intro q hq
          obtain ⟨t, _, rfl⟩ := List.mem_map.mp hq
          rfl
        refine ⟨_, rfl, D, _, rfl, .inl (SqL.of hacc), rfl, fl, _, rfl, ?_⟩
        have e : inV (V.str u.2.1) ((z :: zs).map V.str) = decide (u.2.1 ∈ z :: zs) := by
          unfold inV
          rw [List.any_map, Bool.eq_iff_iff, List.any_eq_true, decide_eq_true_eq]
          constructor
          · rintro ⟨q, hq, e⟩
            have e2 : decide (q = u.2.1) = true := by rw [← eqV_str]; exact e
            rw [← of_decide_eq_true e2]
            exact hq
          · intro hq
            exact ⟨_, hq, by show eqV (V.str u.2.1) (V.str u.2.1) = true; rw [eqV_str]; exact decide_eq_true rfl⟩
        show (if inV (V.str u.2.1) ((z :: zs).map V.str) = true then _ else _)
        rw [e]
        have k2 := k _ s1
        rw [if_neg (List.cons_ne_nil z zs)] at k2
        by_cases c : u.2.1 ∈ z :: zs
        · rw [decide_eq_true c]
          rw [if_pos c] at k2
          refine iteT ⟨_, rfl, ixT1 hu fun v hv => ?_⟩
          obtain rfl := dp_strE hv
          exact k2
        · rw [decide_eq_false c]
          rw [if_neg c] at k2
          exact iteF ⟨_, rfl, D, _, rfl, SqL.of hacc, List.cons_ne_nil z zs, k2⟩
end
end K10
end
section
set_option maxHeartbeats 4000000
/-! K4: row, first_row, door_row. -/
namespace K10
open PySem PySem.Spec PyProof.Rows L2
/-! ### rows, plainly -/
theorem nodup_le {α : Type} [DecidableEq α] : ∀ (xs ys : List α), xs.Nodup → (∀ x ∈ xs, x ∈ ys) → xs.length ≤ ys.length
  | [], _, _, _ => Nat.zero_le _
  | x :: xs, ys, hn, hs => by
    obtain ⟨h1, h2⟩ := List.nodup_cons.mp hn
    have hx := hs x List.mem_cons_self
    have ih := nodup_le xs (ys.erase x) h2 fun y hy => (List.mem_erase_of_ne (fun e => h1 (by rw [← e]; exact hy))).mpr (hs y (List.mem_cons_of_mem _ hy))
    rw [List.length_erase_of_mem hx] at ih
    have : 0 < ys.length := List.length_pos_of_mem hx
    rw [List.length_cons]
    omega
/-- different names that are there -/
structure RowOk (p : Prg) (xs : List Str) : Prop where
  nd : xs.Nodup
  sub : ∀ x ∈ xs, x ∈ p.names
theorem RowOk.len {p : Prg} {xs : List Str} (h : RowOk p xs) : xs.length ≤ p.libs.length := by
  have q := nodup_le xs p.names h.nd h.sub
  unfold Prg.names at q
  rw [List.length_map] at q
  exact q
theorem RowOk.nil (p : Prg) : RowOk p [] := ⟨List.nodup_nil, fun _ h => by cases h⟩
theorem RowOk.add {p : Prg} {xs : List Str} {x : Str} (h : RowOk p xs) (hx : x ∈ p.names) : RowOk p (addN xs x) := by
  unfold addN
  by_cases c : x ∈ xs
  · rw [if_pos c]
    exact h
  · rw [if_neg c]
    refine ⟨?_, fun y hy => ?_⟩
    · rw [List.nodup_append]
      refine ⟨h.nd, by simp, fun a ha b hb e => ?_⟩
      rw [List.mem_singleton.mp hb] at e
      exact c (by rw [← e]; exact ha)
    · rcases List.mem_append.mp hy with z | z
      · exact h.sub y z
      · rw [List.mem_singleton.mp z]
        exact hx
theorem RowOk.addAll {p : Prg} : ∀ {ys xs : List Str}, RowOk p xs → (∀ y ∈ ys, y ∈ p.names) → RowOk p (addAll xs ys)
  | [], _, h, _ => h
  | y :: ys, xs, h, hs => RowOk.addAll (ys := ys) (xs := addN xs y) (h.add (hs y List.mem_cons_self)) fun z hz => hs z (List.mem_cons_of_mem _ hz)
theorem libOf_mem {p : Prg} {x : Str} (h : x ∈ p.names) : ∃ l, p.libOf x = some l ∧ l ∈ p.libs ∧ l.name = x := by
  obtain ⟨l, hl, e⟩ := List.mem_map.mp h
  cases q : p.libOf x with
  | none =>
    have z := List.find?_eq_none.mp q l hl
    simp [e] at z
  | some l2 => exact ⟨l2, rfl, List.mem_of_find?_eq_some q, by simpa using List.find?_some q⟩
theorem libOf_in {p : Prg} {x : Str} {l : Lib} (h : p.libOf x = some l) : l ∈ p.libs ∧ l.name = x := ⟨List.mem_of_find?_eq_some h, by simpa using List.find?_some h⟩
theorem needs_sub {p : Prg} (ok : p.Ok) {x : Str} : ∀ y ∈ needsOf p x, y ∈ p.names := by
  unfold needsOf
  cases q : p.libOf x with
  | none => intro y h; cases h
  | some l => exact ok.needs l (libOf_in q).1
theorem rowGo_ok {p : Prg} (ok : p.Ok) : ∀ (f k : Nat) (xs : List Str), RowOk p xs → RowOk p (rowGo p f xs k)
  | 0, _, _, h => h
  | f + 1, k, xs, h => by
    unfold rowGo
    cases xs[k]? with
    | none => exact h
    | some x => exact rowGo_ok ok f (k + 1) _ (h.addAll (needs_sub ok))
theorem rowM_ok {p : Prg} (ok : p.Ok) {xs : List Str} (h : ∀ x ∈ xs, x ∈ p.names) : RowOk p (rowM p xs) := rowGo_ok ok _ _ _ ((RowOk.nil p).addAll h)
theorem addAll_snoc (acc xs : List Str) (x : Str) : addAll acc (xs ++ [x]) = addN (addAll acc xs) x := by
  unfold addAll
  rw [List.foldl_append] <;> rfl
theorem rowGo_end {p : Prg} {f k : Nat} {xs : List Str} (h : xs.length ≤ k) : rowGo p f xs k = xs := by
  cases f with
  | zero => rfl
  | succ f =>
    unfold rowGo
    rw [List.getElem?_eq_none h]
theorem rowGo_next {p : Prg} {f k : Nat} {xs : List Str} {x : Str} (h : xs[k]? = some x) : rowGo p (f + 1) xs k = rowGo p f (addAll xs (needsOf p x)) (k + 1) := by
  rw [rowGo, h]
/-- x in a list of texts -/
theorem inV_strs (x : Str) (xs : List Str) : inV (V.str x) (xs.map V.str) = decide (x ∈ xs) := by
  unfold inV
  rw [List.any_map, Bool.eq_iff_iff, List.any_eq_true, decide_eq_true_eq]
  constructor
  · rintro ⟨q, hq, e⟩
    have e2 : decide (q = x) = true := by rw [← eqV_str]; exact e
    rw [← of_decide_eq_true e2]
    exact hq
  · intro hq
    exact ⟨_, hq, by show eqV (V.str x) (V.str x) = true; rw [eqV_str]; exact decide_eq_true rfl⟩
theorem flat_strs (xs : List Str) : (xs.map V.str).all flatV = true := by
  rw [List.all_eq_true]
  intro q hq
  obtain ⟨t, _, rfl⟩ := List.mem_map.mp hq
  rfl
theorem rIn_strs {K : PySem.W.Frag} {H : Hp} {x : Str} {a : Addr} {xs : List Str} {Q : VK} (h : SqL K H a (xs.map V.str)) (k : Q (.bl (decide (x ∈ xs))) H) : rIn K false (.str x) (.ref a) H Q :=
  ⟨a, _, rfl, .inl h, rfl, flat_strs xs, by show Q (.bl (inV _ _)) H; rw [inV_strs]; exact k⟩
theorem rNin_strs {K : PySem.W.Frag} {H : Hp} {x : Str} {a : Addr} {xs : List Str} {Q : VK} (h : SqL K H a (xs.map V.str)) (k : Q (.bl (!decide (x ∈ xs))) H) : rIn K true (.str x) (.ref a) H Q :=
  ⟨a, _, rfl, .inl h, rfl, flat_strs xs, by show Q (.bl (!inV _ _)) H; rw [inV_strs]; exact k⟩
section
variable {P : Program} {w : World} {K : PySem.W.Frag} {mg : Str → Option Value} {base : Heap}
abbrev sRow : Stmt := top 16
theorem scRow : FnScope ["program", "names", "found", "name", "at"] ["program", "names"] (defScope sRow) := ⟨rfl, rfl, rfl, by decide +kernel, rfl, by decide +kernel, by decide +kernel⟩
def spRow (K : PySem.W.Frag) : Sp := fun vs H Q _ => ∃ (vp vn : V) (p : Prg) (names : List Str), vs = [vp, vn] ∧ Dp K H vp (prD p) ∧ p.Ok ∧ Dp K H vn (.tuple (names.map .str)) ∧ (∀ x ∈ names, x ∈ p.names) ∧
  ∀ H' l, Same H H' → H l = none → H' l = some (.lst ((rowM p names).map V.str)) → Q (.ref l) H'
theorem ok_row {f : Addr} {fd : FuncData} (B : Bl mg) (F : DefAt K "row" "row" sRow f fd) (GA : Glb P w K mg base CX0 6 "as_tuples" ["thing"] (spAsT K 5)) (GL : Glb P w K mg base CX0 1 "lib_of" ["program", "name"] (spLibOf K))
    (GT : Glb P w K mg base CX0 2 "lib_at" ["program", "name"] (spLibAt K)) : FnOk P w K mg base CX0 10 f fd ["program", "names"] (spRow K) := by
  obtain ⟨fA, fdA, GA, gA, kA, bA⟩ := GA.ex
  obtain ⟨fL, fdL, GL, gL, kL, bL⟩ := GL.ex
  obtain ⟨fT, fdT, GT, gT, kT, bT⟩ := GT.ex
  refine F.ok scRow (fun vs H Q E h => ?_) (fun cdv A outer s H vs Q E hr h => ?_)
  · obtain ⟨vp, vn, p, names, rfl, _⟩ := h
    rfl
  · obtain ⟨vp, vn, p, names, rfl, hp, ok, hn, hsub, k⟩ := h
    have hrA : Room 6 _ := hr.mono (by decide)
    have hrL : Room 1 _ := hr.mono (by decide)
    have hrT : Room 2 _ := hr.mono (by decide)
    refine ⟨_, PSs.nox (pss_cons (ps_set (i := 0) scRow.nd rfl (Or.inl rfl) (pe_call GA hrA rfl gA kA bA .nil pass0 (pa_cons (pv 0) pa_nil)))
      (pss_cons (ps_set (i := 2) scRow.nd rfl (Or.inl rfl) (pe_lst pa_nil))
      (pss_cons (ps_for PassesOwn.never rfl (pi_tupK (K := K) (pv 1)) (pg_name (i := 3) scRow.nd rfl (Or.inl rfl))
        (pss_cons (ps_expr (pe_call GT hrT rfl gT kT bT .nil pass0 (pa_cons (pv 0) (pa_cons (pv 3) pa_nil))))
          (pss_one (ps_set (i := 2) scRow.nd rfl (Or.inl rfl) (pe_ifExp (pt_cmpR (inK (K := K)) (pv 3) (pv 2) (by rfl)) (pv 2) (pe_op op_cat (pv 2) (pe_lst (pa_cons (pv 3) pa_nil))))))))
      (pss_cons (ps_set (i := 4) scRow.nd rfl (Or.inl rfl) pe_int)
      (pss_cons (ps_while PassesOwn.never (pt_cmpR op_lt (pv 4) (pe_callB (lenK (K := K)) (by rfl) B.len bt_len (pa_cons (pv 2) pa_nil)) (nomark _))
        (pss_cons (ps_for PassesOwn.never rfl (pi_tupK (K := K) (pe_ix (ixtK (K := K)) (pe_call GL hrL rfl gL kL bL .nil pass0 (pa_cons (pv 0) (pa_cons (pe_ix (ixlK (K := K)) (pv 2) (pv 4) (fun _ _ => rfl)) pa_nil))) pe_int (fun _ _ => rfl))) (pg_name (i := 3) scRow.nd rfl (Or.inl rfl))
          (pss_one (ps_if (pt_cmpR (ninK (K := K)) (pv 3) (pv 2) (by rfl)) (pss_one (ps_expr (pe_bm PySem.F.plainAttrs_list PySem.F.slot_list_append PySem.F.type_list_append mt_append (pv 2) (pa_cons (pv 3) pa_nil)))) pss_nil)))
          (pss_one (ps_aug (i := 4) scRow.nd rfl (Or.inl rfl) pe_int ip_add))))
      (pss_one (ps_ret (pv 2)))))))), ?_⟩
    refine ⟨_, rfl, vp, prD p, rfl, hp, td_pr ok, fun H1 vq s1 hq => ?_⟩
    refine ⟨Nat.zero_le _, fun l0 hl0 => ?_⟩
    have n0 : H l0 = none := s1.free hl0
    obtain ⟨a, xs, rfl, hs, ha⟩ := dp_tupE hn
    have sA : Same H (upd H1 l0 (.lst [])) := same_at s1 n0
    have pk : ∀ {H2 : Hp} {l : Addr} {acc acc' : List V}, H2 l = some (.lst acc) → Dp K H2 vq (prD p) → Dp K (upd H2 l (.lst acc')) vq (prD p) := fun {H2 l acc acc'} e h =>
      dp_kp (kp_at (H := H2) (l := l) (o := .lst acc') (by rw [e]; trivial)) (td_pr ok) h
    refine ⟨_, rfl, a, rfl, ⟨_, same_sqT sA hs⟩, for_tup (K := K) (a := a) (xs := xs) (fun i σ H' => ∃ (l : Addr) (v : Option V), σ = [some vq, some (.ref a), some (.ref l), v, none] ∧ Same H H' ∧ H l = none ∧ H' l = some (.lst ((addAll [] (names.take i)).map V.str)) ∧ Dp K H' vq (prD p))
      ⟨l0, none, rfl, sA, n0, upd_same, dp_same (same_new hl0) hq⟩ (fun i σ H' _ ⟨l, v, _, s2, _⟩ => same_sqT s2 hs) ?_ ?_⟩
    · -- a name of names
      rintro i y σ H' hi ⟨l, v, rfl, s2, nl, hl, hv⟩
      obtain ⟨dx, hd1, hd2⟩ := dpa_at ha hi
      rw [List.getElem?_map] at hd1
      obtain ⟨x, hx1, rfl⟩ := Option.map_eq_some_iff.mp hd1
      obtain rfl := dp_strE hd2
      have hxn := hsub x (List.mem_of_getElem? hx1)
      obtain ⟨lb, el, _, _⟩ := libOf_mem hxn
      have step : addAll [] (names.take (i + 1)) = addN (addAll [] (names.take i)) x := by rw [List.take_succ, hx1, ← addAll_snoc] <;> rfl
      have rok : RowOk p (addAll [] (names.take i)) := (RowOk.nil p).addAll fun y hy => hsub y (List.mem_of_mem_take hy)
      refine ⟨_, rfl, _, rfl, vq, p, x, lb, rfl, hv, ok, el, fun H2 vl s3 _ => ?_⟩
      have hl2 := s3 _ _ hl
      refine ⟨_, rfl, _, rfl, rIn_strs (SqL.of hl2) ⟨_, rfl, ?_⟩⟩
      by_cases c : x ∈ addAll [] (names.take i)
      · rw [decide_eq_true c]
        refine iteT ⟨_, rfl, l, _, rfl, s2.trans s3, nl, ?_, dp_same s3 hv⟩
        rw [step, addN, if_pos c]
        exact hl2
      · rw [decide_eq_false c]
        refine iteF ⟨_, rfl, _, rfl, (by show 1 ≤ sizeLine; decide), fun b hb => ?_⟩
        have s4 : Same H2 (upd H2 b (.lst [V.str x])) := same_new hb
        refine ⟨l, b, _, _, rfl, rfl, s4 _ _ hl2, upd_same, ?_, fun c2 hc2 => ?_⟩
        · rw [List.length_map]
          have := rok.len
          have := ok.n8
          rw [sizeLine_eq]
          simp only [List.length_cons, List.length_nil]
          omega
        · have s5 := same_new (o := .lst (((addAll [] (names.take i)).map V.str) ++ [V.str x])) hc2
          refine ⟨c2, _, rfl, ((s2.trans s3).trans s4).trans s5, ((s2.trans s3).trans s4).free hc2, ?_, dp_same ((s3.trans s4).trans s5) hv⟩
          rw [upd_same, step, addN, if_neg c, List.map_append] <;> rfl
    · rintro σ H' ⟨l, v, rfl, s2, nl, hl, hv⟩
      have e1 : names.take xs.length = names := by
        have q := dpa_length ha
        rw [List.length_map] at q
        rw [q, List.take_length]
      rw [e1] at hl
      -- the while
      refine ⟨fun m σ H3 => ∃ (at_ : Nat) (found : List Str) (v : Option V), m = p.libs.length - at_ ∧ σ = [some vq, some (.ref a), some (.ref l), v, some (.int (at_ : Int))] ∧ Same H H3 ∧ H3 l = some (.lst (found.map V.str)) ∧ Dp K H3 vq (prD p) ∧ RowOk p found ∧
          rowGo p (p.libs.length - at_) found at_ = rowM p names, ⟨_, 0, _, v, rfl, rfl, s2, hl, hv, (RowOk.nil p).addAll hsub, rfl⟩, ?_⟩
      rintro m σ H3 ⟨at_, found, v, rfl, rfl, s3, hl3, hv3, rok, go⟩
      have hlen := rok.len
      refine ⟨_, rfl, _, rfl, l, _, rfl, .inl (SqL.of hl3), _, _, rfl, rfl, _, rfl, ?_⟩
      rw [List.length_map]
      by_cases c : at_ < found.length
      · rw [decide_eq_true (by omega)]
        refine iteT ?_
        have hx : found[at_]? = some found[at_] := List.getElem?_eq_getElem c
        generalize found[at_] = x at hx
        have hxn := rok.sub x (List.mem_of_getElem? hx)
        obtain ⟨lb, el, hlb, _⟩ := libOf_mem hxn
        have en : needsOf p x = lb.needs := by unfold needsOf; rw [el]
        refine ⟨fun σ' H' => ∃ (found' : List Str) (v : Option V), found' = addAll found lb.needs ∧ σ' = [some vq, some (.ref a), some (.ref l), v, some (.int ((at_ + 1 : Nat) : Int))] ∧ Same H H' ∧ H' l = some (.lst (found'.map V.str)) ∧ Dp K H' vq (prD p),
          ?_, ?_⟩
        · rintro σ' H' ⟨found', v', rfl, rfl, t1, t2, t3⟩
          refine ⟨p.libs.length - (at_ + 1), by omega, at_ + 1, _, v', rfl, rfl, t1, t2, t3, rok.addAll (ok.needs lb hlb), ?_⟩
          rw [← go, show p.libs.length - at_ = (p.libs.length - (at_ + 1)) + 1 by omega, rowGo_next hx, en]
        · refine ⟨_, rfl, _, rfl, _, rfl, l, _, _, V.str x, rfl, rfl, SqL.of hl3, ?_, vq, p, x, rfl, hv3, ok, fun H4 vl s4 hvl => ?_⟩
          · exact atI_nat (by rw [List.getElem?_map, hx] <;> rfl)
          · rw [el] at hvl
            have hvl : Dp K H4 vl (lbD lb) := hvl
            refine ixT1 hvl fun vn hvn => ?_
            obtain ⟨an, xn, rfl, hsn, han⟩ := dp_tupE hvn
            refine ⟨an, rfl, ⟨_, hsn⟩, for_tup (K := K) (a := an) (xs := xn) (fun i σ H' => ∃ v : Option V, σ = [some vq, some (.ref a), some (.ref l), v, some (.int (at_ : Int))] ∧ Same H H' ∧ H' l = some (.lst ((addAll found (lb.needs.take i)).map V.str)) ∧ Dp K H' vq (prD p) ∧ SqT K H' an xn)
              ⟨v, rfl, s3.trans s4, s4 _ _ hl3, dp_same s4 hv3, hsn⟩ (fun i σ H' _ ⟨v, _, _, _, _, h⟩ => h) ?_ ?_⟩
            · rintro i y σ H' hi ⟨v, rfl, t1, t2, t3, t4⟩
              obtain ⟨dx, hd1, hd2⟩ := dpa_at han hi
              rw [List.getElem?_map] at hd1
              obtain ⟨z, hz1, rfl⟩ := Option.map_eq_some_iff.mp hd1
              obtain rfl := dp_strE hd2
              have step : addAll found (lb.needs.take (i + 1)) = addN (addAll found (lb.needs.take i)) z := by rw [List.take_succ, hz1, ← addAll_snoc] <;> rfl
              have rok2 : RowOk p (addAll found (lb.needs.take i)) := rok.addAll fun y hy => ok.needs lb hlb y (List.mem_of_mem_take hy)
              refine ⟨_, rfl, _, rfl, rNin_strs (SqL.of t2) ⟨_, rfl, ?_⟩⟩
              by_cases c : z ∈ addAll found (lb.needs.take i)
              · rw [decide_eq_true c]
                refine iteF ⟨_, rfl, t1, ?_, t3, t4⟩
                rw [step, addN, if_pos c]
                exact t2
              · rw [decide_eq_false c]
                refine iteT ⟨_, rfl, .inl ⟨rfl, _, SqL.of t2⟩, _, rfl, l, _, _, rfl, rfl, t2, ?_, ?_⟩
                · rw [List.length_map]
                  exact sz1000 (by have := rok2.len; have := ok.n8; omega)
                · refine ⟨_, rfl, same_at t1 nl, ?_, pk t2 t3, (kp_at (H := H') (l := l) (by rw [t2]; trivial)).sqT t4⟩
                  rw [upd_same, step, addN, if_neg c, List.map_append] <;> rfl
            · rintro σ H' ⟨v, rfl, t1, t2, t3, t4⟩
              have e1 : lb.needs.take xn.length = lb.needs := by
                have q := dpa_length han
                rw [List.length_map] at q
                rw [q, List.take_length]
              rw [e1] at t2
              exact ⟨_, rfl, _, _, rfl, rfl, _, _, rfl, rfl, t1, t2, t3⟩
      · rw [decide_eq_false (by omega)]
        refine iteF ⟨_, rfl, k _ l s3 nl ?_⟩
        rw [← go, rowGo_end (by omega)]
        exact hl3
end
end K10
end
section
set_option maxHeartbeats 4000000
/-! K5: first_row, door_row; fields; Ground. -/
namespace K10
open PySem PySem.Spec PyProof.Rows L2
section
variable {P : Program} {w : World} {K : PySem.W.Frag} {mg : Str → Option Value} {base : Heap}
abbrev sFirst : Stmt := top 17
theorem scFirst : FnScope ["program"] ["program"] (defScope sFirst) := ⟨rfl, rfl, rfl, by decide +kernel, rfl, by decide +kernel, by decide +kernel⟩
def spFirst (K : PySem.W.Frag) : Sp := fun vs H Q _ => ∃ (vp : V) (p : Prg), vs = [vp] ∧ Dp K H vp (prD p) ∧ p.Ok ∧ ∀ H' l, Same H H' → H l = none → H' l = some (.lst ((firstM p).map V.str)) → Q (.ref l) H'
theorem ok_first {f : Addr} {fd : FuncData} (F : DefAt K "first_row" "first_row" sFirst f fd) (GA : Glb P w K mg base CX0 6 "as_tuples" ["thing"] (spAsT K 5)) (GR : Glb P w K mg base CX0 10 "row" ["program", "names"] (spRow K)) : FnOk P w K mg base CX0 11 f fd ["program"] (spFirst K) := by
  obtain ⟨fA, fdA, GA, gA, kA, bA⟩ := GA.ex
  obtain ⟨fR, fdR, GR, gR, kR, bR⟩ := GR.ex
  refine F.ok scFirst (fun vs H Q E h => ?_) (fun cdv A outer s H vs Q E hr h => ?_)
  · obtain ⟨vp, p, rfl, _⟩ := h
    rfl
  · obtain ⟨vp, p, rfl, hp, ok, k⟩ := h
    have hrA : Room 6 _ := hr.mono (by decide)
    have hrR : Room 10 _ := hr.mono (by decide)
    refine ⟨_, PSs.nox (pss_cons (ps_set (i := 0) scFirst.nd rfl (Or.inl rfl) (pe_call GA hrA rfl gA kA bA .nil pass0 (pa_cons (pv 0) pa_nil)))
      (pss_one (ps_ret (pe_call GR hrR rfl gR kR bR .nil pass0 (pa_cons (pv 0) (pa_cons (pe_op op_catT (pe_tup (pa_cons (pe_ix (ixtK (K := K)) (pe_ix (ixtK (K := K)) (pe_ix (ixtK (K := K)) (pv 0) pe_int (fun _ _ => rfl)) pe_int (fun _ _ => rfl)) pe_int (fun _ _ => rfl)) pa_nil))
        (pe_ix (ixtK (K := K)) (pv 0) pe_int (fun _ _ => rfl))) pa_nil)))))), ?_⟩
    refine ⟨_, rfl, vp, prD p, rfl, hp, td_pr ok, fun H1 vq s1 hq => ?_⟩
    obtain ⟨l, r, el⟩ : ∃ l r, p.libs = l :: r := by
      cases e : p.libs with
      | nil => exact absurd e ok.n1
      | cons l r => exact ⟨l, r, rfl⟩
    have em : mainM p = l.name := by unfold mainM; rw [el]
    refine ⟨_, rfl, _, rfl, ixT0 hq fun v0 h0 => ?_⟩
    rw [el] at h0
    refine ixT0 h0 fun v1 h1 => ixT0 h1 fun v2 h2 => ?_
    obtain rfl := dp_strE h2
    refine ⟨(by show 1 ≤ sizeLine; decide), fun T hT => ?_⟩
    have s2 : Same H1 (upd H1 T (.tup [V.str l.name])) := same_new hT
    refine ⟨_, rfl, ixT1 (dp_same s2 hq) fun ve he => ?_⟩
    obtain ⟨a, xs, rfl, hs, ha⟩ := dp_tupE he
    have hlen := dpa_length ha
    rw [List.length_map] at hlen
    have sub : ∀ x ∈ mainM p :: p.early, x ∈ p.names := fun x hx => by
      rcases List.mem_cons.mp hx with e | hx
      · rw [e, em]
        exact List.mem_map.mpr ⟨l, by rw [el]; exact List.mem_cons_self, rfl⟩
      · exact ok.early x hx
    have hd1 : DpAll K (upd H1 T (.tup [V.str l.name])) (V.str l.name :: xs) ((mainM p :: p.early).map .str) := by
      rw [List.map_cons, em]
      exact .cons (.str _) ha
    refine ⟨T, a, [V.str l.name], xs, rfl, rfl, SqT.of upd_same, hs, List.cons_ne_nil _ _, ?_, fun e => ?_, fun _ b hb => ?_⟩
    · rw [hlen, sizeLine_eq]
      simp only [List.length_cons, List.length_nil]
      have := ok.e8
      omega
    · subst e
      refine ⟨vq, _, p, _, rfl, dp_same s2 hq, ok, .tup (SqT.of upd_same) hd1, sub, fun H3 b s3 nb hb => k H3 b ((s1.trans s2).trans s3) ((s1.trans s2).free nb) hb⟩
    · have s3 : Same _ (upd (upd H1 T (.tup [V.str l.name])) b (.tup ([V.str l.name] ++ xs))) := same_new hb
      refine ⟨vq, _, p, _, rfl, dp_same (s2.trans s3) hq, ok, .tup (SqT.of upd_same) (dpa_same s3 hd1), sub, fun H4 c s4 nc hc => k H4 c (((s1.trans s2).trans s3).trans s4) (((s1.trans s2).trans s3).free nc) hc⟩
abbrev sDoorRow : Stmt := top 18
theorem scDoorRow : FnScope ["program", "number"] ["program", "number"] (defScope sDoorRow) := ⟨rfl, rfl, rfl, by decide +kernel, rfl, by decide +kernel, by decide +kernel⟩
def spDoorRow (K : PySem.W.Frag) : Sp := fun vs H Q _ => ∃ (vp : V) (p : Prg) (i : Nat) (d : Str × Str), vs = [vp, .int (i : Int)] ∧ Dp K H vp (prD p) ∧ p.Ok ∧ p.doors[i]? = some d ∧ ∀ H' l, Same H H' → H l = none → H' l = some (.lst ((rowM p [d.1]).map V.str)) → Q (.ref l) H'
theorem ok_doorRow {f : Addr} {fd : FuncData} (F : DefAt K "door_row" "door_row" sDoorRow f fd) (GR : Glb P w K mg base CX0 10 "row" ["program", "names"] (spRow K)) : FnOk P w K mg base CX0 11 f fd ["program", "number"] (spDoorRow K) := by
  obtain ⟨fR, fdR, GR, gR, kR, bR⟩ := GR.ex
  refine F.ok scDoorRow (fun vs H Q E h => ?_) (fun cdv A outer s H vs Q E hr h => ?_)
  · obtain ⟨vp, p, i, d, rfl, _⟩ := h
    rfl
  · obtain ⟨vp, p, i, d, rfl, hp, ok, ed, k⟩ := h
    refine ⟨_, PSs.nox (pss_one (ps_ret (pe_call GR hr rfl gR kR bR .nil pass0 (pa_cons (pv 0) (pa_cons (pe_tup (pa_cons (pe_ix (ixtK (K := K)) (pe_ix (ixtK (K := K)) (pe_ix (ixtK (K := K)) (pv 0) pe_int (fun _ _ => rfl)) (pv 1) (fun _ _ => rfl)) pe_int (fun _ _ => rfl)) pa_nil)) pa_nil))))), ?_⟩
    refine ⟨_, rfl, _, rfl, ixT2 hp fun v0 h0 => ⟨_, rfl, ixTn h0 (by rw [List.getElem?_map, ed] <;> rfl) fun v1 h1 => ixT0 h1 fun v2 h2 => ?_⟩⟩
    obtain rfl := dp_strE h2
    refine ⟨(by show 1 ≤ sizeLine; decide), fun T hT => ?_⟩
    have s2 : Same H (upd H T (.tup [V.str d.1])) := same_new hT
    refine ⟨vp, _, p, [d.1], rfl, dp_same s2 hp, ok, .tup (SqT.of upd_same) (.cons (.str _) .nil), fun x hx => ?_, fun H3 b s3 nb hb => k H3 b (s2.trans s3) (s2.free nb) hb⟩
    rw [List.mem_singleton.mp hx]
    exact ok.doors d (List.mem_of_getElem? ed)
/-! ### fields -/
theorem lookup_zip {x : Str} : ∀ {ks : List Str} {vs : List V} {i : Nat}, ks.findIdx? (fun y => decide (y = x)) = some i → (ks.zip vs).lookup x = vs[i]?
  | [], _, _, h => by simp at h
  | k :: ks, [], i, h => by simp
  | k :: ks, v :: vs, i, h => by
    rw [List.findIdx?_cons] at h
    rw [List.zip_cons_cons, List.lookup_cons]
    by_cases c : k = x
    · rw [if_pos (decide_eq_true c)] at h
      cases h
      have e : (x == k) = true := by simp [c]
      rw [e] <;> rfl
    · rw [if_neg (by simp [c])] at h
      obtain ⟨j, hj, rfl⟩ := Option.map_eq_some_iff.mp h
      have e : (x == k) = false := by
        have : ¬ x = k := fun z => c z.symm
        simpa using this
      rw [e]
      exact lookup_zip hj
theorem put_zip {x : Str} {v : V} : ∀ {ks : List Str} {vs : List V} {i : Nat}, ks.findIdx? (fun y => decide (y = x)) = some i → i < vs.length → putF x v (ks.zip vs) = ks.zip (vs.set i v)
  | [], _, _, h, _ => by simp at h
  | k :: ks, [], i, h, hi => absurd hi (Nat.not_lt_zero _)
  | k :: ks, u :: vs, i, h, hi => by
    rw [List.findIdx?_cons] at h
    rw [List.zip_cons_cons]
    by_cases c : k = x
    · rw [if_pos (decide_eq_true c)] at h
      cases h
      subst c
      show (if k = k then _ else _) = _
      rw [if_pos rfl] <;> rfl
    · rw [if_neg (by simp [c])] at h
      obtain ⟨j, hj, rfl⟩ := Option.map_eq_some_iff.mp h
      show (if k = x then _ else _) = _
      rw [if_neg c, put_zip hj (Nat.lt_of_succ_lt_succ hi)] <;> rfl
theorem put_zip_new {x : Str} {v : V} : ∀ {ks : List Str} {vs : List V} {n : Nat}, ks.findIdx? (fun y => decide (y = x)) = some n → vs.length = n → putF x v (ks.zip vs) = ks.zip (vs ++ [v])
  | [], _, _, h, _ => by simp at h
  | k :: ks, [], n, h, hn => by
    rw [List.findIdx?_cons] at h
    by_cases c : k = x
    · subst c
      show [(k, v)] = (k :: ks).zip [v]
      rw [List.zip_cons_cons, List.zip_nil_right]
    · rw [if_neg (by simp [c])] at h
      obtain ⟨j, hj, e⟩ := Option.map_eq_some_iff.mp h
      rw [← hn] at e
      exact absurd e (Nat.succ_ne_zero _)
  | k :: ks, u :: vs, n, h, hn => by
    rw [List.findIdx?_cons] at h
    rw [List.zip_cons_cons]
    by_cases c : k = x
    · rw [if_pos (decide_eq_true c)] at h
      cases h
      exact absurd hn (Nat.succ_ne_zero _)
    · rw [if_neg (by simp [c])] at h
      obtain ⟨j, hj, e⟩ := Option.map_eq_some_iff.mp h
      rw [← hn] at e
      have e : j = vs.length := Nat.succ.inj e
      subst e
      show (if k = x then _ else _) = _
      rw [if_neg c, put_zip_new hj rfl] <;> rfl
theorem zip_few {ks : List Str} {vs : List V} (h : ks.length < 1000) : (ks.zip vs).length < 1000 := by
  rw [List.length_zip]
  omega
/-- a class whose instances have these fields, each their own -/
structure ClsF (K : PySem.W.Frag) (C : Addr) (ks : List Str) : Prop where
  cl : Cls K C
  no : ∀ f ∈ ks, NoAttr K C f
/-- lists of texts at addresses -/
abbrev RowsAt (Z : Addr → Prop) (H : Hp) (as : List Addr) (rs : List (List Str)) : Prop := Paired (fun a r => Z a ∧ H a = some (.lst (r.map V.str))) as rs
theorem paired_snoc {α β : Type} {R : α → β → Prop} : ∀ {xs : List α} {ys : List β} {x : α} {y : β}, Paired R xs ys → R x y → Paired R (xs ++ [x]) (ys ++ [y])
  | _, _, _, _, .nil, h => .cons h .nil
  | _, _, _, _, .cons h t, h2 => .cons h (paired_snoc t h2)
theorem paired_get {α β : Type} {R : α → β → Prop} : ∀ {xs : List α} {ys : List β} {i : Nat} {y : β}, Paired R xs ys → ys[i]? = some y → ∃ x, xs[i]? = some x ∧ R x y
  | _, _, _, _, .nil, e => by simp at e
  | _, _, 0, _, .cons h _, e => by
    simp at e
    subst e
    exact ⟨_, rfl, h⟩
  | _, _, i + 1, y, .cons _ t, e => by
    obtain ⟨x, h1, h2⟩ := paired_get (i := i) (y := y) t (by simpa using e)
    exact ⟨x, by simpa using h1, h2⟩
theorem paired_imp {α β : Type} {R R' : α → β → Prop} (f : ∀ a b, R a b → R' a b) {xs : List α} {ys : List β} (h : Paired R xs ys) : Paired R' xs ys := Paired.mapP h f
/-! ### Ground -/
def gK : List Str := ["own_program", "own_first", "own_rows"]
abbrev sGInit : Stmt := inClass (top 31) 0
theorem scGInit : FnScope ["self", "program", "number"] ["self", "program"] (defScope sGInit) := ⟨rfl, rfl, rfl, by decide +kernel, rfl, by decide +kernel, by decide +kernel⟩
/-- behind Ground(p): what stands at g -/
structure GrAt (K : PySem.W.Frag) (C : Addr) (Z : Addr → Prop) (H : Hp) (g dx a1 a2 a3 : Addr) (as : List Addr) (p : Prg) : Prop where
  ins : H g = some (.ins C dx (gK.zip [.ref a1, .ref a2, .ref a3]))
  prog : Dp K H (.ref a1) (prD p)
  first : H a2 = some (.lst ((firstM p).map V.str))
  rows : H a3 = some (.lst (as.map V.ref))
  each : RowsAt Z H as (rowsM p)
  z2 : Z a2
  z3 : Z a3
def spGInit (K : PySem.W.Frag) (C : Addr) : Sp := fun vs H Q _ => ∃ (g dx : Addr) (vp : V) (p : Prg), vs = [.ref g, vp] ∧ H g = some (.ins C dx []) ∧ Dp K H vp (prD p) ∧ p.Ok ∧
  ∀ H' a1 a2 a3 as, (∀ b o, b ≠ g → H b = some o → H' b = some o) → GrAt K C (fun a => H a = none) H' g dx a1 a2 a3 as p → Q .non H'
theorem ok_gInit {f C : Addr} {fd : FuncData} (B : Bl mg) (T : ClsF K C gK) (F : DefAt K "__init__" "Ground.__init__" sGInit f fd) (GA : Glb P w K mg base CX0 6 "as_tuples" ["thing"] (spAsT K 5))
    (GF : Glb P w K mg base CX0 11 "first_row" ["program"] (spFirst K)) (GD : Glb P w K mg base CX0 11 "door_row" ["program", "number"] (spDoorRow K)) : FnOk P w K mg base CX0 12 f fd ["self", "program"] (spGInit K C) := by
  obtain ⟨fA, fdA, GA, gA, kA, bA⟩ := GA.ex
  obtain ⟨fF, fdF, GF, gF, kF, bF⟩ := GF.ex
  obtain ⟨fD, fdD, GD, gD, kD, bD⟩ := GD.ex
  refine F.ok scGInit (fun vs H Q E h => ?_) (fun cdv A outer s H vs Q E hr h => ?_)
  · obtain ⟨g, dx, vp, p, rfl, _⟩ := h
    rfl
  · obtain ⟨g, dx, vp, p, rfl, hg, hp, ok, k⟩ := h
    have hrA : Room 6 _ := hr.mono (by decide)
    have n1 := T.no "own_program" (by decide +kernel)
    have n2 := T.no "own_first" (by decide +kernel)
    have n3 := T.no "own_rows" (by decide +kernel)
    refine ⟨_, PSs.nox (pss_cons (ps_fld (pv 0) (pe_call GA hrA rfl gA kA bA .nil pass0 (pa_cons (pv 1) pa_nil)) rfl)
      (pss_cons (ps_fld (pv 0) (pe_call GF hr rfl gF kF bF .nil pass0 (pa_cons (pe_fldK (K := K) (pv 0)) pa_nil)) rfl)
      (pss_one (ps_fld (pv 0) (pe_lc (own := [("number", 2)]) (g := gName 2) (tt := tYes) rfl scGInit.nd (pi_range1 rfl B.range (pa_cons (pe_callB (lenK (K := K)) (by rfl) B.len bt_len (pa_cons (pe_ix (ixtK (K := K)) (pe_fldK (K := K) (pv 0)) pe_int (fun _ _ => rfl)) pa_nil)) pa_nil))
        (blkOk_by (N := ["self", "program", "number"]) (sc := defScope sGInit) (by decide +kernel)) (fun _ _ _ _ _ => pg_name (i := 2) scGInit.nd rfl (Or.inl rfl)) (fun _ _ _ _ _ => pts_nil)
        (fun _ _ _ _ _ => pe_call GD hr rfl gD kD bD .nil pass0 (pa_cons (pe_fldK (K := K) (pv 0)) (pa_cons (pv 2) pa_nil)))) rfl)))), ?_⟩
    -- self.own_program
    refine ⟨_, rfl, vp, prD p, rfl, hp, td_pr ok, fun H1 vq s1 hq => ?_⟩
    obtain ⟨a1, xs1, rfl, hs1, ha1⟩ := dp_tupE hq
    refine ⟨_, rfl, g, C, dx, [], rfl, s1 _ _ hg, T.cl, n1, (by show 0 < 1000; decide), ?_⟩
    have e1 : putF "own_program" (V.ref a1) [] = gK.zip [V.ref a1] := put_zip_new (ks := gK) (vs := []) (n := 0) (by decide +kernel) rfl
    rw [e1]
    have kp1 := kp_at (H := H1) (l := g) (o := .ins C dx (gK.zip [V.ref a1])) (by rw [s1 _ _ hg]; trivial)
    have hq1 : Dp K (upd H1 g (.ins C dx (gK.zip [V.ref a1]))) (.ref a1) (prD p) := dp_kp kp1 (td_pr ok) hq
    -- self.own_first
    refine ⟨_, rfl, g, C, dx, _, _, rfl, upd_same, T.cl, n1, lookup_zip (i := 0) (by decide +kernel), _, p, rfl, hq1, ok, fun H2 a2 s2 na2 h2 => ?_⟩
    have hg2 := s2 _ _ upd_same
    refine ⟨_, rfl, g, C, dx, _, rfl, hg2, T.cl, n2, zip_few (by decide +kernel), ?_⟩
    have e2 : putF "own_first" (V.ref a2) (gK.zip [V.ref a1]) = gK.zip [V.ref a1, V.ref a2] := put_zip_new (ks := gK) (vs := [V.ref a1]) (n := 1) (by decide +kernel) rfl
    rw [e2]
    have ng2 : a2 ≠ g := fun z => by
      rw [z, upd_same] at na2
      cases na2
    have kp2 := kp_at (H := H2) (l := g) (o := .ins C dx (gK.zip [V.ref a1, V.ref a2])) (by rw [hg2]; trivial)
    have hq2 := dp_kp kp2 (td_pr ok) (dp_same s2 hq1)
    have k02 : ∀ b o, b ≠ g → H b = some o → upd H2 g (.ins C dx (gK.zip [V.ref a1, V.ref a2])) b = some o := fun b o nb e => by
      rw [upd_ne nb]
      refine s2 _ _ ?_
      rw [upd_ne nb]
      exact s1 _ _ e
    have h22 : upd H2 g (.ins C dx (gK.zip [V.ref a1, V.ref a2])) a2 = some (.lst ((firstM p).map V.str)) := by
      rw [upd_ne ng2]
      exact h2
    have hg3 : upd H2 g (.ins C dx (gK.zip [V.ref a1, V.ref a2])) g = some (.ins C dx (gK.zip [V.ref a1, V.ref a2])) := upd_same
    have na2' : H a2 = none := by
      cases q : H a2 with
      | none => rfl
      | some o =>
        rw [upd_ne ng2, s1 _ _ q] at na2
        cases na2
    generalize upd H2 g (.ins C dx (gK.zip [V.ref a1, V.ref a2])) = H3 at hq2 k02 h22 hg3 ⊢
    -- self.own_rows
    refine ⟨_, rfl, g, C, dx, _, _, rfl, hg3, T.cl, n1, lookup_zip (i := 0) (by decide +kernel), ixT2 hq2 fun vd hd => ?_⟩
    obtain ⟨ad, xd, rfl, hsd, had⟩ := dp_tupE hd
    have hlen := dpa_length had
    rw [List.length_map] at hlen
    have h8 := ok.d8
    refine ⟨ad, xd, rfl, .inr hsd, _, rfl, by omega, by omega, fun D hD => ?_⟩
    refine lc_range (lo := 0) (n := ((xd.length : Nat) : Int).toNat) (fun i H' => Same H3 H' ∧ ∃ as, H' D = some (.lst (as.map V.ref)) ∧ RowsAt (fun a => H3 a = none ∧ a ≠ D) H' as ((rowsM p).take i)) ⟨same_new hD, [], upd_same, .nil⟩ ?_ ?_
    · rintro i H' hi ⟨s3, as, hacc, hrw⟩
      have hi' : i < p.doors.length := by omega
      have ed := List.getElem?_eq_getElem hi'
      generalize p.doors[i] = d at ed
      refine ⟨rfl, _, rfl, g, C, dx, _, _, rfl, s3 _ _ hg3, T.cl, n1, lookup_zip (i := 0) (by decide +kernel), _, rfl, _, p, i, d, ?_, dp_same s3 hq2, ok, ed, fun H4 l s4 nl hl => ?_⟩
      · show [V.ref a1, V.int (0 + (i : Int))] = _
        rw [Int.zero_add]
      have nlD : l ≠ D := fun z => by
        rw [z, hacc] at nl
        cases nl
      have n4 : H3 l = none := s3.free nl
      refine ⟨_, s4 _ _ hacc, ?_, same_at (s3.trans s4) hD, as ++ [l], ?_, ?_⟩
      · rw [List.length_map]
        have q := Paired.length hrw
        rw [List.length_take] at q
        exact sz1000 (by omega)
      · rw [upd_same, List.map_append] <;> rfl
      · have er : (rowsM p)[i]? = some (rowM p [d.1]) := by unfold rowsM; rw [List.getElem?_map, ed] <;> rfl
        rw [List.take_succ, er]
        refine paired_snoc (paired_imp (fun a r z => ⟨z.1, ?_⟩) hrw) ⟨⟨n4, nlD⟩, ?_⟩
        · rw [upd_ne nlD]
          exact hl
        · rw [upd_ne z.1.2]
          exact s4 _ _ z.2
    · rintro H' ⟨s3, as, hacc, hrw⟩
      have e3 : (rowsM p).take (((xd.length : Nat) : Int).toNat) = rowsM p := by
        refine List.take_of_length_le ?_
        unfold rowsM
        rw [List.length_map]
        omega
      rw [e3] at hrw
      have hg4 := s3 _ _ hg3
      have ngD : D ≠ g := fun z => by
        rw [z, hg3] at hD
        cases hD
      refine ⟨_, rfl, g, C, dx, _, rfl, hg4, T.cl, n3, zip_few (by decide +kernel), ?_⟩
      have e4 : putF "own_rows" (V.ref D) (gK.zip [V.ref a1, V.ref a2]) = gK.zip [V.ref a1, V.ref a2, V.ref D] := put_zip_new (ks := gK) (vs := [V.ref a1, V.ref a2]) (n := 2) (by decide +kernel) rfl
      rw [e4]
      have kp4 := kp_at (H := H') (l := g) (o := .ins C dx (gK.zip [V.ref a1, V.ref a2, V.ref D])) (by rw [hg4]; trivial)
      have nz : ∀ a, H3 a = none → a ≠ g ∧ H a = none := fun a na => by
        have ng : a ≠ g := fun z => by
          rw [z, hg3] at na
          cases na
        refine ⟨ng, ?_⟩
        cases q : H a with
        | none => rfl
        | some o =>
          rw [k02 _ _ ng q] at na
          cases na
      refine k _ a1 a2 D as (fun b o nb e => ?_) ⟨upd_same, dp_kp kp4 (td_pr ok) (dp_same s3 hq2), ?_, ?_, ?_, na2', (nz D hD).2⟩
      · rw [upd_ne nb]
        exact s3 _ _ (k02 _ _ nb e)
      · rw [upd_ne ng2]
        exact s3 _ _ h22
      · rw [upd_ne ngD]
        exact hacc
      · refine paired_imp (fun a r z => ⟨(nz a z.1.1).2, ?_⟩) hrw
        rw [upd_ne (nz a z.1.1).1]
        exact z.2
end
end K10
end
section
set_option maxHeartbeats 4000000
/-! R1: rules that the hand layer lacks: xs[i] += n; d.update(e); items of a dict with tuple keys; dict comprehensions with tuple keys. -/
namespace K10
open PySem PySem.Spec PyProof.Rows L2
section
variable {X : Cx}
/-! ### xs[i] += n -/
def gtL : V → V → Hp → VK → Prop := fun o i H Q => ∃ (p : Addr) (xs : List V) (k : Nat) (v : V), o = .ref p ∧ i = .int (k : Int) ∧ H p = some (.lst xs) ∧ xs[k]? = some v ∧ Q v H
theorem get_lst : PGet X gtL := by
  intro pins s σ H o i ov iv Q I ro ri h
  obtain ⟨p, xs, k, v, rfl, rfl, hp, hv, q⟩ := h
  cases ro
  obtain ⟨t, rfl⟩ := ri
  obtain ⟨its, n, r, ho, hz⟩ := I.lst hp
  obtain ⟨u, hu, ru⟩ := r.get hv
  have hk : k < its.length := (List.getElem?_eq_some_iff.mp hu).1
  have hl := line63
  have hlen := r.length
  refine wpAny_getItem_list (x := u) (show s.heap.IsList p its.toArray from ⟨_, ho, rfl, n, rfl⟩) (by omega) (by omega) (by simpa using hu) ⟨v, H, I, ru, q⟩
/-! ### d.update(e) -/
def rUpdK : V → List V → Hp → VK → Prop := fun x xs H Q => ∃ (d o : Addr) (kvs more : List (Key × V)), x = .ref d ∧ xs = [.ref o] ∧ d ≠ o ∧ H d = some (.dK kvs) ∧ H o = some (.dK more) ∧ kvs.length + more.length ≤ sizeLine ∧ Q .non (upd H d (.dK (mergeK kvs more)))
theorem mt_updK : MtR X "dict.update" rUpdK := by
  intro pins s σ H x xs v us Q I rx rxs h
  obtain ⟨d, o, kvs, more, rfl, rfl, ne, hd, ho, hz, q⟩ := h
  cases rx
  obtain ⟨u, rfl, ru⟩ := vals1 rxs
  cases ru
  obtain ⟨zd, sd, vs, rd, dd⟩ := dk_of I.hok hd
  obtain ⟨zo, so, ws, ro, dq⟩ := dk_of I.hok ho
  have l1 := rd.length
  have l2 := ro.length
  refine call_meetsIn PySem.F.slot_dict_update dd.typeIs PySem.F.entry_dict_update (PySem.F.args_dict_update_2 _ _) (meets_dict_update (mixKind X.prog X.w) d o ne so) ⟨vs, ws, dd, dq, by omega, fun h' d1 d2 hs => ?_⟩
  have he : ∃ z, h'.get? d = some z := let ⟨z, _, _, hq, _⟩ := d1; ⟨z, hq⟩
  have hl := length_mergeK more kvs
  exact ⟨.non, _, d_write (t' := s.toks) I (by rw [hd]; exact True.intro) hs he (dk_new (by omega) sd (KV.merge ro rd) d1), rfl, q⟩
/-! ### the items of a dict with tuple keys, locked -/
theorem frzTV {pins : List (Addr × Obj)} {σ : L2.St} {H : Hp} {s : Shared} {d : Addr} {o : Obj} {kvs : List (List Key × V)} (I : Inv X pins σ H s) (h : H d = some (.frz o (.dT kvs))) :
    (d == sysModules) = false ∧ s.heap.get? d = some o ∧ o.ExactDict ∧ ∃ (es : Array DictEntry) (ep : Nat), o.data = .dict es ep ∧ es.size = kvs.length ∧
      ∀ (i : Nat) (k : List Key) (v : V), kvs[i]? = some (k, v) → ∃ (en : DictEntry) (q : Addr), es[i]? = some en ∧ en.key = .ref q ∧ RelV v en.val ∧ H q = some (.tup (k.map kV)) := by
  obtain ⟨hd, z, hs, xs, pr, o', es, ep, ho, hx, hdt, he, _⟩ := I.hok d _ h
  obtain rfl : o = o' := Option.some.inj (hd.symm.trans ho)
  have l1 : es.size = xs.length := size_of_entries he
  have l2 : kvs.length = xs.length := Paired.length pr
  refine ⟨hs, hd, hx, es, ep, hdt, by omega, fun i k v e => ?_⟩
  obtain ⟨b, hb, e1, e2, e3⟩ := L2.paired_get pr e
  have q := entry_at he i
  rw [hb] at q
  exact ⟨_, b.2.1, q, rfl, e3, e2⟩
/-- each pair a new tuple: the key's own tuple, the value -/
def Itp (d : Addr) (o : Obj) (kvs : List (List Key × V)) : It :=
  ⟨fun i H => H d = some (.frz o (.dT kvs)) ∧ i < kvs.length,
   fun i H x H' => ∃ (T q : Addr) (k : List Key) (v : V), kvs[i]? = some (k, v) ∧ x = .ref T ∧ H T = none ∧ H q = some (.tup (k.map kV)) ∧ H' = upd H T (.tup [.ref q, v]),
   fun i H => H d = some (.frz o (.dT kvs)) ∧ kvs.length ≤ i⟩
theorem turn_pairs {P : Program} {w : World} {K : PySem.W.Frag} {d : Addr} {o : Obj} {es : Array DictEntry} {ep : Nat} {kvs : List (List Key × V)} {elts : List Expr} {kk : Nat} {tpos : Pos} (it : Addr) (hod : o.data = .dict es ep) (hn : es.size = kvs.length) :
    Turn P w K (.Tuple elts kk tpos) (Itp d o kvs) [it] it (fun i h => ∃ ok ov, IsItemIter h it d i es.size ep ok ov) where
  mem := by simp
  obj := fun i h st b hb => by
    rw [List.mem_singleton.mp hb]
    obtain ⟨ok, ov, e⟩ := st
    exact ⟨_, e, fun v z => nomatch z⟩
  keep := fun i h h' st k => let ⟨ok, ov, e⟩ := st; ⟨ok, ov, k it (by simp) _ e⟩
  item := by
    intro X hP hw hK hc i pins s σ H E I hf st hg
    subst hP hw hK
    obtain ⟨hd, hi⟩ := hg
    obtain ⟨hs, hgd, hx, es', ep', hdt, hsz, ent⟩ := frzTV I hd
    obtain ⟨rfl, rfl⟩ := dict_ep hod hdt
    obtain ⟨⟨k, v⟩, hkv⟩ : ∃ p, kvs[i]? = some p := ⟨kvs[i], List.getElem?_eq_getElem hi⟩
    obtain ⟨en, q, hen, ek, ev, hq⟩ := ent i k v hkv
    obtain ⟨ok, ov, he⟩ := st
    have hlt : it < s.heap.objs.size := Heap.lt_size he
    have hie : i < es'.size := by omega
    have ee : es'[i] = en := by
      rw [Array.getElem?_eq_getElem hie] at hen
      exact Option.some.inj hen
    refine DT.nextI he ⟨o, hgd, hx, hdt⟩ hie fun h' ho hT hz hk => ?_
    rw [ee] at ho hT
    refine ⟨_, rfl, wpAny_letOwnedTupleGo_items (s := { s with heap := h' }) ho fun h'' he' sb => ?_⟩
    have hT2 : h''.get? s.heap.objs.size = some { cls := .type "tuple", data := .seq #[en.key, en.val] } := (sb.2 _ (Nat.ne_of_gt hlt)).trans hT
    have new : ObjOk X.prog X.w (upd H s.heap.objs.size (.tup [.ref q, v])) h'' s.heap.objs.size (.tup [.ref q, v]) :=
      ⟨by show 2 ≤ sizeLine; decide, [en.key, en.val], .cons ek (.cons ev .nil), ⟨_, hT2, rfl, _, rfl⟩⟩
    have I1 : Inv X pins σ (upd H s.heap.objs.size (.tup [.ref q, v])) { s with heap := h'' } :=
      I.turnedNew (t' := s.toks) (ch := [it]) (fun b ob hb e => (sb.2 b (by simpa using hb)).trans (hk b ob (by simpa using hb) e)) hf (Nat.le_refl _) new
    refine ⟨.ref s.heap.objs.size, _, I1, rfl, ⟨_, q, k, v, hkv, rfl, I.hok.fresh (Nat.le_refl _), hq, rfl⟩, ⟨en.key, en.val, he'⟩, fun b hb => ?_⟩
    rw [List.mem_singleton.mp hb, upd_ne (Nat.ne_of_lt hlt)]
    exact (hf it (by simp)).1
  done := by
    intro X hP hw hK hc i pins s σ H E I hf st hg
    subst hP hw hK
    obtain ⟨hd, hi⟩ := hg
    obtain ⟨f0, f1, f2, f3, f4, f5⟩ := hf it (by simp)
    obtain ⟨hs, hgd, hx, es', ep', hdt, hsz, ent⟩ := frzTV I hd
    obtain ⟨rfl, rfl⟩ := dict_ep hod hdt
    obtain ⟨ok, ov, he⟩ := st
    exact DT.endI (I.ok.hd hc) he ⟨o, hgd, hx, hdt⟩ (by omega) fun h' eb => ⟨rfl, I.turned (t' := s.toks) (fun b ob hb e => eb b ob hb e) f0 f1 f3 f4 f5⟩
  self := fun A i s Q E st h => let ⟨_, _, e⟩ := st; PySem.W.kcp_self e h
def iItemsT (td : TE) : TI := fun σ H R => td σ H fun x H1 => ∃ (d : Addr) (o : Obj) (kvs : List (List Key × V)), x = .ref d ∧ H1 d = some (.frz o (.dT kvs)) ∧ R (Itp d o kvs) H1
theorem pi_itemsT {e : Expr} {td : TE} {apos cpos : Pos} {elts : List Expr} {kk : Nat} {tpos : Pos} (he : PE X e td) (hbase : attributeBase e "items" X.env (eval e X.env) = eval e X.env := by rfl) (hline : (apos.endLine == cpos.line) = true := by rfl) :
    PI X (.Tuple elts kk tpos) (.Call (.Attribute e "items" apos) [] [] cpos) (iItemsT td) := by
  refine ⟨fun pins s σ H R I h => ?_⟩
  refine wpAny_Call_method (T := "dict") (id := "dict.items") hbase rfl hline PySem.F.plainAttrs_dict PySem.F.slot_dict_items PySem.F.type_dict_items (thn (he.run pins s σ H _ I h) fun u s1 ⟨x, H1, I1, rx, d, o, kvs, ex, hd, q⟩ => ?_)
  subst ex
  obtain rfl : u = Value.ref d := rx
  obtain ⟨hs, hgd, hx, es, ep, hdt, hsz, ent⟩ := frzTV I1 hd
  have raw : DT.Raw s1.heap d es ep := ⟨o, hgd, hx, hdt⟩
  refine ⟨raw.typeIs, fun a ea => ?_, ?_⟩
  · cases ea
    exact ⟨o, hgd, hx.2.1⟩
  have I2 : Inv X pins σ H1 { s1 with heap := s1.heap.push { cls := .type "dict_items", data := .fields #[.ref d] } } := I1.kept (t' := s1.toks) fun b ob q => Heap.get?_push_of_some _ q
  show wpAny _ _ (callWith cpos (.builtin "dict.items") [.ref d] [] []) _ X.xe s1
  refine Calls.callWith_builtin rfl (PySem.evalArgs_none ?_)
  refine DT.callItems hs raw ?_
  refine DT.iterI (d := d) (es := es) (ep := ep) ⟨_, Heap.get?_push_size _ rfl, rfl, rfl⟩ (raw.push _) (pi_one (tk := s1.toks) I2 _ (turn_pairs _ hdt hsz) ⟨.none, .none, ?_⟩ q)
  exact Heap.get?_push_size _ rfl
end
end K10
end
section
set_option maxHeartbeats 4000000
/-! R2: dict comprehensions, by whatever way an item is stored: keys ints and texts, or tuples of them; as a value, or given to a local name. -/
namespace K10
open PySem PySem.Spec PyProof.Rows L2
/-- one item is stored into the dict at D -/
abbrev Sto := Addr → V → V → Hp → (Hp → Prop) → Prop
def StoR (X : Cx) (S : Sto) : Prop := ∀ (pins : List (Addr × Obj)) (σ : L2.St) (H : Hp) (s : Shared) (D : Addr) (y z : V) (u r : Value) (Nx : Hp → Prop) (E : Value → Shared → Prop), Inv X pins σ H s → RelV y u → RelV z r → S D y z H Nx →
  wpAny (model X.prog X.w) X.A (dictSet D u r) (fun _ s' => ∃ H', Inv X pins σ H' s' ∧ Nx H') E s
def stoK : Sto := fun D y z H Nx => ∃ (kvs : List (Key × V)) (k : Key), y = kV k ∧ H D = some (.dK kvs) ∧ kvs.length < sizeLine ∧ Nx (upd H D (.dK (putK kvs k z)))
def stoT : Sto := fun D y z H Nx => ∃ (kvs : List (List Key × V)) (k : List Key) (b : Addr), y = .ref b ∧ H b = some (.tup (k.map kV)) ∧ H D = some (.dT kvs) ∧ kvs.length < sizeLine ∧ Nx (upd H D (.dT (putK kvs k z)))
theorem stoK_ok {X : Cx} : StoR X stoK := by
  intro pins σ H s D y z u r Nx E I ry rz h
  obtain ⟨kvs, k, rfl, hD, hz, q⟩ := h
  exact d_dictSet I hD hz ry rz fun s' I' => ⟨_, I', q⟩
theorem stoT_ok {X : Cx} (hu : X.A.units < cLine) : StoR X stoT := by
  intro pins σ H s D y z u r Nx E I ry rz h
  obtain ⟨kvs, k, b, rfl, hb, hD, hz, q⟩ := h
  obtain rfl : u = Value.ref b := ry
  obtain ⟨zl, sd, xs, rel, dd⟩ := dt_of I.hok hD
  have hx : xs.length ≤ sizeLine := by rw [← Paired.length rel]; exact zl
  have hl : (putK kvs k z).length ≤ sizeLine := by have := length_putK kvs k z; omega
  refine wpAny_dictSet_heap (hsz := hx) (knd := tupleKind (mixKind X.prog X.w)) (k := k) hu (key_of I.hok hb) dd fun h' d2 hs => ?_
  obtain ⟨o, es, ep, ho, h2, h3, h4, _, h5⟩ := d2
  refine ⟨upd H D (.dT (putK kvs k z)), d_write I (by rw [hD]; exact True.intro) hs ⟨o, ho⟩ ⟨hl, sd, _, (rel.put k hb rz).keeps fun c ys ec => ?_, o, es, ep, ho, h2, h3, h4, h5⟩, q⟩
  rw [upd_ne (ne_of ec hD (fun z => nomatch z))]
  exact ec
section
variable {X : Cx}
/-- {k: v for target in iter if ..}: D is the new dict, o0 its start, S its way to store -/
def tDg (o0 : HO) (S : Sto) (wi : TI) (g : TG) (tt : TT) (tk tv : TE) (vs : List Nat) : TE := fun σ H Q => wi σ H fun J H1 => ∀ D, H1 D = none → ∃ W : Nat → Nat → Hp → Prop, (∃ m, W 0 m (upd H1 D o0)) ∧ ∀ i m H, W i m H →
  (J.stop i H ∧ Q (.ref D) H) ∨ (J.go i H ∧ ∃ Nx : Hp → Prop, (∀ H', Nx H' → ∃ m', m' < m ∧ W (i + 1) m' H') ∧ ∀ x H', J.yld i H x H' → g x (wipe σ vs) H' fun σ2 H2 => wipe σ2 vs = wipe σ vs ∧ tt σ2 H2 fun b H3 =>
    if b = true then tk σ2 H3 fun y H4 => tv σ2 H4 fun z H5 => S D y z H5 Nx else Nx H3)
theorem dg_core {o0 : HO} {S : Sto} {pins : List (Addr × Obj)} {s : Shared} {σ : L2.St} {H : Hp} {Q : VK} {kx vx tg iter : Expr} {ifs : List Expr} {scope : Scope} {own : List (Str × Nat)} {pos pos' : Pos} {wi : TI} {g : TG} {tt : TT} {tk tv : TE} {use : Option (Value → Sem Unit)} {Qf : Value → Shared → Prop}
    (h0 : ∀ (H : Hp) (h : Heap), sysModules < h.objs.size → ObjOk X.prog X.w H (h.push { cls := .type "dict", data := .dict #[] }) h.objs.size o0)
    (hst : ∀ (s : Shared) (H : Hp) (env : Env) (fp : List Addr), StoR (X.blk s H scope env fp) S)
    (hc : X.calm = true) (hN : X.N.Nodup) (I : Inv X pins σ H s) (hi : PI X tg iter wi) (ok : BlkOk X.N X.env.scope scope own)
    (hg : ∀ (s : Shared) (H : Hp) (C : Addr) (cl : List (Str × Addr)) (fp : List Addr), PG (X.blk s H scope (compEnvC scope cl C X.env) fp) tg g) (ht : ∀ (s : Shared) (H : Hp) (C : Addr) (cl : List (Str × Addr)) (fp : List Addr), PTs (X.blk s H scope (compEnvC scope cl C X.env) fp) ifs tt)
    (hk : ∀ (s : Shared) (H : Hp) (C : Addr) (cl : List (Str × Addr)) (fp : List Addr), PE (X.blk s H scope (compEnvC scope cl C X.env) fp) kx tk)
    (he : ∀ (s : Shared) (H : Hp) (C : Addr) (cl : List (Str × Addr)) (fp : List Addr), PE (X.blk s H scope (compEnvC scope cl C X.env) fp) vx tv) (hs : ∀ x, foldedSetIterable iter X.env x = pure x)
    (h : tDg o0 S wi g tt tk tv (own.map (·.2)) σ H Q)
    (fin : ∀ D C s' m H', Inv X pins σ H' s' → Q (.ref D) H' → s'.heap.Ns C m → FpOk X pins H' C → compPost (model X.prog X.w) X.A X.xe use Qf (.ref D) C (.ok .next) s') :
    wpAny (model X.prog X.w) X.A (comprehension (.DictComp kx vx [⟨tg, iter, ifs, 0⟩] scope pos) scope X.env pos' newDict false (eval iter X.env) use) Qf X.xe s := by
  have frees : ∀ y ∈ scope.names, y.2 = .free → ∃ c, X.env.cells.lookup y.1 = some c := fun y hy e => (ok.free y hy e).elim (fun k => I.ok.has _ (.inl k)) fun k => I.ok.has _ (.inr k)
  refine wpAny_comprehension_free (use := use) rfl hs (closure_ok frees) ok.kind (fun y hy e => by rw [ok.uniq y hy, e])
    (thn (hi.run pins s σ H _ I h) fun xv sA ha => thn ha fun itv sB hb => ?_)
  obtain ⟨it, fp, tn, J, HB, rfl, IB, T, stB, fB, q⟩ := hb
  refine wpAny_newObj_type (newEnv_comp ?_)
  obtain ⟨D, hD⟩ : ∃ D, D = sB.heap.objs.size := ⟨_, rfl⟩
  rw [← hD]
  have nD : HB D = none := IB.hok.fresh (Nat.le_of_eq hD.symm)
  obtain ⟨W, ⟨m0, w0⟩, turn⟩ := q D nD
  obtain ⟨sC, hsC⟩ : ∃ sC : Shared, sC = { sB with heap := sB.heap.push { cls := .type "dict", data := .dict #[] } } := ⟨_, rfl⟩
  rw [← hsC]
  have hC : sC.heap = sB.heap.push { cls := .type "dict", data := .dict #[] } := by rw [hsC]
  have IC : Inv X pins σ (upd HB D o0) sC := by
    rw [hsC]
    refine IB.laid (t' := sB.toks) (fun b o e => Heap.get?_push_of_some _ e) (Nat.le_of_eq hD.symm) ?_
    rw [hD]
    exact h0 _ sB.heap IB.big
  have fC : ∀ b ∈ fp, FpOk X pins (upd HB D o0) b ∧ b < sC.heap.objs.size := fun b hb => by
    obtain ⟨o, e, _⟩ := T.obj _ _ stB b hb
    have lt := Heap.lt_size e
    refine ⟨⟨?_, (fB b hb).2⟩, by rw [hC, Heap.size_push]; exact Nat.lt_succ_of_lt lt⟩
    rw [upd_ne (by rw [hD]; exact Nat.ne_of_lt lt)]
    exact (fB b hb).1
  have stC : tn 0 sC.heap := T.keep _ _ _ stB fun b _ o e => by rw [hC]; exact Heap.get?_push_of_some _ e
  have I0 := block_start IC ok hN fC
  obtain ⟨ce, hce⟩ : ∃ ce, ce = compEnvC scope (cellsFrom (sC.heap.objs.size + 1) scope.names (cloFrom X.env.cells scope.names [])) sC.heap.objs.size X.env := ⟨_, rfl⟩
  have pg := hg sC (upd HB D o0) sC.heap.objs.size (cellsFrom (sC.heap.objs.size + 1) scope.names (cloFrom X.env.cells scope.names [])) fp
  have pt := ht sC (upd HB D o0) sC.heap.objs.size (cellsFrom (sC.heap.objs.size + 1) scope.names (cloFrom X.env.cells scope.names [])) fp
  have pk := hk sC (upd HB D o0) sC.heap.objs.size (cellsFrom (sC.heap.objs.size + 1) scope.names (cloFrom X.env.cells scope.names [])) fp
  have pe := he sC (upd HB D o0) sC.heap.objs.size (cellsFrom (sC.heap.objs.size + 1) scope.names (cloFrom X.env.cells scope.names [])) fp
  have ps := hst sC (upd HB D o0) ce fp
  obtain ⟨s0, hs0⟩ : ∃ s0 : Shared, s0 = { sC with heap := pushCells (sC.heap.push { cls := .type "dict", data := .dict #[] }) scope.names } := ⟨_, rfl⟩
  show codeAny _ _ (.compStart (.DictComp kx vx [⟨tg, iter, ifs, 0⟩] scope pos) 0 (.ref it) (.ref D) (compEnvC scope (cellsFrom (sC.heap.objs.size + 1) scope.names (cloFrom X.env.cells scope.names [])) sC.heap.objs.size X.env)) (compPost (model X.prog X.w) X.A X.xe use Qf (.ref D) sC.heap.objs.size) { sC with heap := pushCells (sC.heap.push { cls := .type "dict", data := .dict #[] }) scope.names }
  rw [← hs0, ← hce]
  rw [← hs0, ← hce] at I0
  rw [← hce] at pg pt pk pe
  have cL : ce.locals = sC.heap.objs.size := by rw [hce]; rfl
  have nfp : ∀ b ∈ fp, (upd HB D o0) b = none := fun b hb => (fC b hb).1.1
  generalize upd HB D o0 = HC at IC I0 pg pt pk pe ps w0 nfp fC
  have st0 : tn 0 s0.heap := T.keep _ _ _ stC fun b _ o e => by rw [hs0]; exact pushCells_keeps _ _ _ _ (Heap.get?_push_of_some _ e)
  have stat : ∀ {σ' : L2.St} {H' : Hp} {s' : Shared}, Inv (X.blk sC HC scope ce fp) [] σ' H' s' → (∀ b ∈ fp, H' b = none) → ∀ b ∈ fp, FpOk (X.blk sC HC scope ce fp) [] H' b := fun {σ' H' s'} I' hn b hb =>
    ⟨hn b hb, (I'.ok.exf b hb).1, I'.ok.exfs b hb, .inl hb, fun x c e => (I'.ok.exf b hb).2 x c e, fun p hp => absurd (show p ∈ ([] : List (Addr × Obj)) ++ [] from hp) (by simp)⟩
  have loop : codeAny (model X.prog X.w) X.A (.compLoop (.DictComp kx vx [⟨tg, iter, ifs, 0⟩] scope pos) 0 (.ref it) (.ref D) ce) (compPost (model X.prog X.w) X.A X.xe use Qf (.ref D) sC.heap.objs.size) s0 := by
    refine compLoop_anyD (fun n s' => ∃ i H', Inv (X.blk sC HC scope ce fp) [] (wipe σ (own.map (·.2))) H' s' ∧ tn i s'.heap ∧ (∀ b ∈ fp, H' b = none) ∧ W i n H') ?_ m0 ⟨0, HC, I0, st0, nfp, w0⟩
    rintro n s1 ⟨i, H1, I1, st1, n1, w1⟩
    rcases turn i n H1 w1 with ⟨stop, qq⟩ | ⟨go, Nx, hNx, step⟩
    · have td := T.done (X.blk sC HC scope ce fp) rfl rfl rfl hc i [] s1 _ H1 (fun _ _ => False) I1 (stat I1 n1) st1 stop
      refine thnF td fun r s2 ⟨hr, I2⟩ => ?_
      subst hr
      have I3 : Inv X pins σ H1 s2 := IC.call' (ch := fp) I2.os I2.base I2.hok I2.bare fun b hb => ⟨(fC b hb).1.2.2.2.1, (fC b hb).1.2.1, (fC b hb).1.2.2.2.2.1, (fC b hb).1.2.2.2.2.2⟩
      have nC : H1 sC.heap.objs.size = none := by
        have z : H1 ce.locals = none := I2.free
        rw [cL] at z
        exact z
      obtain ⟨m, hn, _⟩ := I2.loc
      have hn : s2.heap.Ns ce.locals m := hn
      rw [cL] at hn
      exact fin D sC.heap.objs.size s2 m H1 I3 qq hn (IC.fpOk (Nat.le_refl _) nC)
    · have ti := T.item (X.blk sC HC scope ce fp) rfl rfl rfl hc i [] s1 _ H1 (fun _ _ => False) I1 (stat I1 n1) st1 go
      refine thnF ti fun r s2 ⟨u, hr, h2⟩ => ?_
      subst hr
      refine thnF h2 fun _ s3 ⟨x, H3, I3, r3, y3, st3, n3⟩ => ?_
      have I3' := I3.pinned (stat I3 n3) (T.obj _ _ st3)
      refine thnF (pg.run _ s3 _ H3 x u _ I3' r3 (step x H3 y3)) fun _ s4 ⟨σ4, H4, I4, hw4, q4⟩ => ?_
      refine thnF (pt.run _ s4 σ4 H4 _ I4 q4) fun b s5 ⟨H5, I5, q5⟩ => ?_
      have next : ∀ {s' : Shared} {H' : Hp}, Inv (X.blk sC HC scope ce fp) ([] ++ pinsAt fp s3.heap) σ4 H' s' → Nx H' → ∃ m, m < n ∧ ∃ i H', Inv (X.blk sC HC scope ce fp) [] (wipe σ (own.map (·.2))) H' s' ∧ tn i s'.heap ∧ (∀ b ∈ fp, H' b = none) ∧ W i m H' := fun {s' H'} I' nx => by
        obtain ⟨m', hm, w'⟩ := hNx H' nx
        have pin' : ∀ b ∈ fp, ∀ o, s3.heap.get? b = some o → s'.heap.get? b = some o ∧ H' b = none := fun b hb o e =>
          let z := I'.pin (b, o) (List.mem_append_right _ (List.mem_append_right _ (mem_pinsAt hb e)))
          ⟨z.1, z.2.1⟩
        have hl : (wipe σ (own.map (·.2))).length = σ4.length := by rw [← hw4, wipe_length]
        refine ⟨m', hm, i + 1, H', (I'.unpinned (pins := [])).weak hl (fun j v e => ?_), T.keep _ _ _ st3 fun b hb o e => (pin' b hb o e).1, fun b hb => ?_, w'⟩
        · rw [← hw4] at e
          exact (wipe_some e).1
        · obtain ⟨o, e, _⟩ := T.obj _ _ st3 b hb
          exact (pin' b hb o e).2
      cases b with
      | false =>
        simp only [Bool.false_eq_true, if_false] at q5 ⊢
        exact next I5 q5
      | true =>
        simp only [if_true] at q5 ⊢
        refine thnF (pk.run _ s5 σ4 H5 _ I5 q5) fun kv s6 ⟨yk, H6, I6, r6, q6⟩ => ?_
        refine thnF (pe.run _ s6 σ4 H6 _ I6 q6) fun vv s7 ⟨yv, H7, I7, r7, q7⟩ => ?_
        exact thn (ps _ σ4 H7 s7 D yk yv kv vv Nx _ I7 r6 r7 q7) fun _ s8 ⟨H8, I8, nx⟩ => next I8 nx
  exact codeAny_compStart_dict loop (T.self X.A 0 _ _ _ st0 loop)
variable {kx vx tg iter : Expr} {ifs : List Expr} {scope : Scope} {own : List (Str × Nat)} {pos : Pos} {wi : TI} {g : TG} {tt : TT} {tk tv : TE}
/-- as a value -/
theorem pe_dcG {o0 : HO} {S : Sto} (h0 : ∀ (H : Hp) (h : Heap), sysModules < h.objs.size → ObjOk X.prog X.w H (h.push { cls := .type "dict", data := .dict #[] }) h.objs.size o0)
    (hst : ∀ (s : Shared) (H : Hp) (env : Env) (fp : List Addr), StoR (X.blk s H scope env fp) S) (hc : X.calm = true) (hN : X.N.Nodup) (hi : PI X tg iter wi) (ok : BlkOk X.N X.env.scope scope own)
    (hg : ∀ (s : Shared) (H : Hp) (C : Addr) (cl : List (Str × Addr)) (fp : List Addr), PG (X.blk s H scope (compEnvC scope cl C X.env) fp) tg g) (ht : ∀ (s : Shared) (H : Hp) (C : Addr) (cl : List (Str × Addr)) (fp : List Addr), PTs (X.blk s H scope (compEnvC scope cl C X.env) fp) ifs tt)
    (hk : ∀ (s : Shared) (H : Hp) (C : Addr) (cl : List (Str × Addr)) (fp : List Addr), PE (X.blk s H scope (compEnvC scope cl C X.env) fp) kx tk)
    (he : ∀ (s : Shared) (H : Hp) (C : Addr) (cl : List (Str × Addr)) (fp : List Addr), PE (X.blk s H scope (compEnvC scope cl C X.env) fp) vx tv) (hs : ∀ x, foldedSetIterable iter X.env x = pure x := by intro _; rfl) :
    PE X (.DictComp kx vx [⟨tg, iter, ifs, 0⟩] scope pos) (tDg o0 S wi g tt tk tv (own.map (·.2))) := by
  refine ⟨fun pins s σ H Q I h => ?_⟩
  rw [arm_eval_DictComp]
  refine dg_core h0 hst hc hN I hi ok hg ht hk he hs h fun D C s' m H' I' q hn f => ⟨m, hn, fun h'' sb => ?_⟩
  obtain ⟨f0, f1, f2, f3, f4, f5⟩ := f
  exact ⟨.ref D, H', I'.turned (t' := s'.toks) (fun b o hb e => (sb.2 b hb).trans e) f0 f1 f3 f4 f5, rfl, q⟩
/-- keys are tuples: as a value -/
theorem pe_dcT (hu : X.A.units < cLine) (hc : X.calm = true) (hN : X.N.Nodup) (hi : PI X tg iter wi) (ok : BlkOk X.N X.env.scope scope own)
    (hg : ∀ (s : Shared) (H : Hp) (C : Addr) (cl : List (Str × Addr)) (fp : List Addr), PG (X.blk s H scope (compEnvC scope cl C X.env) fp) tg g) (ht : ∀ (s : Shared) (H : Hp) (C : Addr) (cl : List (Str × Addr)) (fp : List Addr), PTs (X.blk s H scope (compEnvC scope cl C X.env) fp) ifs tt)
    (hk : ∀ (s : Shared) (H : Hp) (C : Addr) (cl : List (Str × Addr)) (fp : List Addr), PE (X.blk s H scope (compEnvC scope cl C X.env) fp) kx tk)
    (he : ∀ (s : Shared) (H : Hp) (C : Addr) (cl : List (Str × Addr)) (fp : List Addr), PE (X.blk s H scope (compEnvC scope cl C X.env) fp) vx tv) (hs : ∀ x, foldedSetIterable iter X.env x = pure x := by intro _; rfl) :
    PE X (.DictComp kx vx [⟨tg, iter, ifs, 0⟩] scope pos) (tDg (.dT []) stoT wi g tt tk tv (own.map (·.2))) := pe_dcG (fun _ h hb => dt_empty h hb) (fun _ _ _ _ => stoT_ok hu) hc hN hi ok hg ht hk he hs
/-- given to a local name on its line -/
theorem ps_setDg {o0 : HO} {S : Sto} {i : Nat} {y : Str} {py spos : Pos} (h0 : ∀ (H : Hp) (h : Heap), sysModules < h.objs.size → ObjOk X.prog X.w H (h.push { cls := .type "dict", data := .dict #[] }) h.objs.size o0)
    (hst : ∀ (s : Shared) (H : Hp) (env : Env) (fp : List Addr), StoR (X.blk s H scope env fp) S) (hc : X.calm = true) (hN : X.N.Nodup) (hy : X.N[i]? = some y) (hyl : X.env.scope.names.lookup y = some .local)
    (hsw : swapsWith (.DictComp kx vx [⟨tg, iter, ifs, 0⟩] scope pos) (some (.Name y py)) spos.line X.env = pure true) (hi : PI X tg iter wi) (ok : BlkOk X.N X.env.scope scope own)
    (hg : ∀ (s : Shared) (H : Hp) (C : Addr) (cl : List (Str × Addr)) (fp : List Addr), PG (X.blk s H scope (compEnvC scope cl C X.env) fp) tg g) (ht : ∀ (s : Shared) (H : Hp) (C : Addr) (cl : List (Str × Addr)) (fp : List Addr), PTs (X.blk s H scope (compEnvC scope cl C X.env) fp) ifs tt)
    (hk : ∀ (s : Shared) (H : Hp) (C : Addr) (cl : List (Str × Addr)) (fp : List Addr), PE (X.blk s H scope (compEnvC scope cl C X.env) fp) kx tk)
    (he : ∀ (s : Shared) (H : Hp) (C : Addr) (cl : List (Str × Addr)) (fp : List Addr), PE (X.blk s H scope (compEnvC scope cl C X.env) fp) vx tv) (hs : ∀ x, foldedSetIterable iter X.env x = pure x := by intro _; rfl) :
    PS X (.Assign [.Name y py] (.DictComp kx vx [⟨tg, iter, ifs, 0⟩] scope pos) spos) (tAsg (tDg o0 S wi g tt tk tv (own.map (·.2))) (gName i)) := by
  refine ⟨fun pins s σ H D I h => ?_⟩
  rw [exec_Assign_Name_used _ _ _ _ hsw]
  refine wpAny_bind (wpAny_standAt (wpAny_bind ?_))
  show wpAny _ X.A (do let _ ← comprehension (.DictComp kx vx [⟨tg, iter, ifs, 0⟩] scope pos) scope X.env (firstIterPos [⟨tg, iter, ifs, 0⟩] pos) newDict false (eval iter X.env) (some (assign (.Name y py) X.env))) _ _ s
  have h : tDg o0 S wi g tt tk tv (own.map (·.2)) σ H (fun x H1 => gName i x σ H1 D.nx) := h
  refine wpAny_bind (thn (dg_core (Qf := fun _ s' => SP X pins D .next s') h0 hst hc hN I hi ok hg ht hk he hs h fun L C s' m H' I' q hn f => ?_) fun _ s' hq => wpAny_pure (wpAny_pure hq))
  show wpAny _ _ (assign (.Name y py) X.env (.ref L)) _ _ _
  refine wpAny_assign_Name (store_ok2 (v := V.ref L) I' hN hy (.inl hyl) rfl (fun s2 I2 ⟨a, sb, ha⟩ => ?_) (.inr hyl))
  obtain ⟨f0, f1, f2, f3, f4, f5⟩ := f
  have haC : C ≠ a := ha.elim (fun z => by rw [z]; exact f1) fun z e => f4 y a z e.symm
  exact ⟨m, hn.sameBut sb haC, fun h3 sb3 => ⟨_, H', I2.turned (t' := s2.toks) (fun b o hb e => (sb3.2 b hb).trans e) f0 f1 f3 f4 f5, q⟩⟩
theorem swD_true {gs : List Comprehension} {py : Pos} {y : Str} {l : Nat} {env : Env} (hk : env.scope.kind = .function) (hy : env.scope.names.lookup y = some .local) (hl : (py.line == pos.line) = true)
    (ha : (scope.names.any fun (n, k) => n == y && (k == .local || k == .cell)) = false) : swapsWith (.DictComp kx vx gs scope pos) (some (.Name y py)) l env = pure true := by
  have ky : env.kindOf y = some .local := hy
  have hb : env.blockKind = .function := by unfold Env.blockKind; rw [hk]; rfl
  unfold swapsWith
  simp only [hb, ky, ha, Expr.pos, hl]
  rfl
end
/-! ### the forms one uses -/
/-- over a list that stays -/
theorem dg_list {K : PySem.W.Frag} {o0 : HO} {S : Sto} {a : Addr} {xs : List V} {g : TG} {tt : TT} {tk tv : TE} {vs : List Nat} {σ : L2.St} {H1 : Hp} {D : Addr} {Qd : Hp → Prop} (Pv : Nat → Hp → Prop) (h0 : Pv 0 (upd H1 D o0)) (hl : ∀ i H, i ≤ xs.length → Pv i H → SqL K H a xs)
    (hs : ∀ i x H, xs[i]? = some x → Pv i H → g x (wipe σ vs) H fun σ2 H2 => wipe σ2 vs = wipe σ vs ∧ tt σ2 H2 fun b H3 =>
      if b = true then tk σ2 H3 fun y H4 => tv σ2 H4 fun z H5 => S D y z H5 (Pv (i + 1)) else Pv (i + 1) H3) (hd : ∀ H, Pv xs.length H → Qd H) :
    ∃ W : Nat → Nat → Hp → Prop, (∃ m, W 0 m (upd H1 D o0)) ∧ ∀ i m H, W i m H →
      ((Itl K a).stop i H ∧ Qd H) ∨ ((Itl K a).go i H ∧ ∃ Nx : Hp → Prop, (∀ H', Nx H' → ∃ m', m' < m ∧ W (i + 1) m' H') ∧ ∀ x H', (Itl K a).yld i H x H' → g x (wipe σ vs) H' fun σ2 H2 => wipe σ2 vs = wipe σ vs ∧ tt σ2 H2 fun b H3 =>
        if b = true then tk σ2 H3 fun y H4 => tv σ2 H4 fun z H5 => S D y z H5 Nx else Nx H3) := by
  refine ⟨fun i m H => m = xs.length - i ∧ i ≤ xs.length ∧ Pv i H, ⟨xs.length, by simp, Nat.zero_le _, h0⟩, ?_⟩
  rintro i m H ⟨rfl, hi, p⟩
  have q := hl i H hi p
  by_cases hlt : i < xs.length
  · refine .inr ⟨⟨xs, xs[i], q, by simp [hlt]⟩, Pv (i + 1), fun H' p' => ⟨xs.length - (i + 1), by omega, rfl, hlt, p'⟩, fun x H' y => ?_⟩
    obtain ⟨e, y⟩ := y
    subst e
    exact hs i x _ (y xs q) p
  · have e : i = xs.length := by omega
    subst e
    exact .inl ⟨⟨xs, q, Nat.le_refl _⟩, hd H p⟩
/-- over the items of a locked dict with tuple keys -/
theorem dg_pairs {o0 : HO} {S : Sto} {d : Addr} {o : Obj} {kvs : List (List Key × V)} {g : TG} {tt : TT} {tk tv : TE} {vs : List Nat} {σ : L2.St} {H1 : Hp} {D : Addr} {Qd : Hp → Prop} (Pv : Nat → Hp → Prop) (h0 : Pv 0 (upd H1 D o0)) (hl : ∀ i H, Pv i H → H d = some (.frz o (.dT kvs)))
    (hs : ∀ i k v T q H, kvs[i]? = some (k, v) → Pv i H → H T = none → H q = some (.tup (k.map kV)) → g (.ref T) (wipe σ vs) (upd H T (.tup [.ref q, v])) fun σ2 H2 => wipe σ2 vs = wipe σ vs ∧ tt σ2 H2 fun b H3 =>
      if b = true then tk σ2 H3 fun y H4 => tv σ2 H4 fun z H5 => S D y z H5 (Pv (i + 1)) else Pv (i + 1) H3) (hd : ∀ H, Pv kvs.length H → Qd H) :
    ∃ W : Nat → Nat → Hp → Prop, (∃ m, W 0 m (upd H1 D o0)) ∧ ∀ i m H, W i m H →
      ((Itp d o kvs).stop i H ∧ Qd H) ∨ ((Itp d o kvs).go i H ∧ ∃ Nx : Hp → Prop, (∀ H', Nx H' → ∃ m', m' < m ∧ W (i + 1) m' H') ∧ ∀ x H', (Itp d o kvs).yld i H x H' → g x (wipe σ vs) H' fun σ2 H2 => wipe σ2 vs = wipe σ vs ∧ tt σ2 H2 fun b H3 =>
        if b = true then tk σ2 H3 fun y H4 => tv σ2 H4 fun z H5 => S D y z H5 Nx else Nx H3) := by
  refine ⟨fun i m H => m = kvs.length - i ∧ i ≤ kvs.length ∧ Pv i H, ⟨kvs.length, by simp, Nat.zero_le _, h0⟩, ?_⟩
  rintro i m H ⟨rfl, hi, p⟩
  by_cases hlt : i < kvs.length
  · refine .inr ⟨⟨hl i H p, hlt⟩, Pv (i + 1), fun H' p' => ⟨kvs.length - (i + 1), by omega, rfl, hlt, p'⟩, fun x H' y => ?_⟩
    obtain ⟨T, q, k, v, e1, rfl, nT, hq, rfl⟩ := y
    exact hs i k v T q H e1 p nT hq
  · have e : i = kvs.length := by omega
    subst e
    exact .inl ⟨⟨hl _ H p, Nat.le_refl _⟩, hd H p⟩
end K10
end
section
set_option maxHeartbeats 4000000
/-! K6: a process in the heap; its reading methods: all_here, is_there, there, deep. -/
namespace K10
open PySem PySem.Spec PyProof.Rows L2
/-! ### a set of names as a dict -/
def hk (ns : List Str) : List (Key × V) := ns.map fun x => (Sum.inr x, V.bl true)
theorem hk_val (x : Str) : ∀ ns : List Str, valV (hk ns) (Sum.inr x) = if x ∈ ns then some (V.bl true) else none
  | [] => rfl
  | y :: ns => by
    have ih := hk_val x ns
    show valV ((Sum.inr y, V.bl true) :: hk ns) _ = _
    by_cases c : y = x
    · rw [valV_pos (by rw [c]), if_pos (by rw [c]; exact List.mem_cons_self)]
    · rw [valV_neg (fun z => c (by injection z)), ih]
      by_cases m : x ∈ ns
      · rw [if_pos m, if_pos (List.mem_cons_of_mem _ m)]
      · rw [if_neg m, if_neg fun z => (List.mem_cons.mp z).elim (fun e => c e.symm) m]
theorem hk_put (x : Str) (ns : List Str) : putK (hk ns) (Sum.inr x) (V.bl true) = hk (addN ns x) := by
  unfold addN
  by_cases m : x ∈ ns
  · rw [if_pos m]
    unfold putK
    have a : ((hk ns).any fun kv => decide (kv.1 = (Sum.inr x : Key))) = true := by
      rw [valV_any, hk_val, if_pos m] <;> rfl
    rw [if_pos a]
    unfold hk
    rw [List.map_map]
    refine List.map_congr_left fun y hy => ?_
    show (if (Sum.inr y : Key) = Sum.inr x then _ else _) = _
    split <;> rfl
  · rw [if_neg m, putK_new _ (by rw [hk_val, if_neg m])]
    unfold hk
    rw [List.map_append] <;> rfl
theorem hk_merge (ms : List Str) : ∀ ns : List Str, mergeK (hk ns) (hk ms) = hk (addAll ns ms) := by
  induction ms with
  | nil => intro ns; rfl
  | cons m ms ih =>
    intro ns
    show mergeK (putK (hk ns) (Sum.inr m) (V.bl true)) (hk ms) = hk (addAll (addN ns m) ms)
    rw [hk_put, ih]
theorem hk_len (ns : List Str) : (hk ns).length = ns.length := List.length_map ..
theorem addN_mem {acc : List Str} {x y : Str} : y ∈ addN acc x ↔ y ∈ acc ∨ y = x := by
  unfold addN
  by_cases m : x ∈ acc
  · rw [if_pos m]
    exact ⟨.inl, fun h => h.elim id fun e => by rw [e]; exact m⟩
  · rw [if_neg m, List.mem_append, List.mem_singleton]
theorem addAll_mem {y : Str} : ∀ {xs acc : List Str}, y ∈ addAll acc xs ↔ y ∈ acc ∨ y ∈ xs
  | [], acc => by simp [addAll]
  | x :: xs, acc => by
    show y ∈ addAll (addN acc x) xs ↔ _
    rw [addAll_mem, addN_mem, List.mem_cons, or_assoc]
theorem addN_nd {acc : List Str} {x : Str} (h : acc.Nodup) : (addN acc x).Nodup := by
  unfold addN
  by_cases m : x ∈ acc
  · rw [if_pos m]
    exact h
  · rw [if_neg m, List.nodup_append]
    exact ⟨h, by simp, fun a ha b hb e => m (by rw [List.mem_singleton] at hb; rw [← hb, ← e]; exact ha)⟩
theorem addAll_nd : ∀ {xs acc : List Str}, acc.Nodup → (addAll acc xs).Nodup
  | [], _, h => h
  | x :: xs, acc, h => addAll_nd (xs := xs) (addN_nd h)
theorem addN_len (acc : List Str) (x : Str) : (addN acc x).length ≤ acc.length + 1 := by
  unfold addN
  split
  · exact Nat.le_succ _
  · rw [List.length_append] <;> exact Nat.le_refl _
theorem addAll_len : ∀ (xs acc : List Str), (addAll acc xs).length ≤ acc.length + xs.length
  | [], acc => Nat.le_refl _
  | x :: xs, acc => by
    have h1 := addAll_len xs (addN acc x)
    have h2 := addN_len acc x
    show (addAll (addN acc x) xs).length ≤ _
    rw [List.length_cons]
    omega
/-- all_here, plainly -/
def hereGo (rs : List (List Str)) (acc : List Str) (ks : List Nat) : List Str := ks.foldl (fun acc k => addAll acc (addAll [] (rs.getD k []))) acc
def hereM (first : List Str) (rs : List (List Str)) (opened : List Nat) : List Str := hereGo rs (addAll [] first) opened
theorem hereGo_mem {rs : List (List Str)} {y : Str} : ∀ {ks : List Nat} {acc : List Str}, y ∈ hereGo rs acc ks ↔ y ∈ acc ∨ ∃ k ∈ ks, y ∈ rs.getD k []
  | [], acc => by simp [hereGo]
  | k :: ks, acc => by
    show y ∈ hereGo rs (addAll acc (addAll [] (rs.getD k []))) ks ↔ _
    rw [hereGo_mem, addAll_mem, addAll_mem]
    constructor
    · rintro ((h | h | h) | ⟨j, hj, h⟩)
      · exact .inl h
      · cases h
      · exact .inr ⟨k, List.mem_cons_self, h⟩
      · exact .inr ⟨j, List.mem_cons_of_mem _ hj, h⟩
    · rintro (h | ⟨j, hj, h⟩)
      · exact .inl (.inl h)
      · rcases List.mem_cons.mp hj with e | hj
        · rw [e] at h
          exact .inl (.inr (.inr h))
        · exact .inr ⟨j, hj, h⟩
theorem hereGo_nd {rs : List (List Str)} : ∀ {ks : List Nat} {acc : List Str}, acc.Nodup → (hereGo rs acc ks).Nodup
  | [], _, h => h
  | k :: ks, acc, h => hereGo_nd (ks := ks) (addAll_nd h)
theorem hereGo_snoc (rs : List (List Str)) (acc : List Str) (ks : List Nat) (k : Nat) : hereGo rs acc (ks ++ [k]) = addAll (hereGo rs acc ks) (addAll [] (rs.getD k [])) := by
  unfold hereGo
  rw [List.foldl_append] <;> rfl
theorem hereM_mem {p : Prg} {opened : List Nat} {x : Str} : x ∈ hereM (firstM p) (rowsM p) opened ↔ thereM p opened x = true := by
  unfold hereM thereM
  rw [hereGo_mem, addAll_mem, Bool.or_eq_true, decide_eq_true_eq, List.any_eq_true]
  constructor
  · rintro ((h | h) | ⟨k, hk, h⟩)
    · cases h
    · exact .inl h
    · exact .inr ⟨k, hk, decide_eq_true h⟩
  · rintro (h | ⟨k, hk, h⟩)
    · exact .inl (.inr h)
    · exact .inr ⟨k, hk, of_decide_eq_true h⟩
theorem hereM_nd {first : List Str} {rs : List (List Str)} {opened : List Nat} : (hereM first rs opened).Nodup := hereGo_nd (addAll_nd List.nodup_nil)
theorem hereGo_len {rs : List (List Str)} (h : ∀ r ∈ rs, r.length ≤ 8) : ∀ (ks : List Nat) (acc : List Str), (hereGo rs acc ks).length ≤ acc.length + 8 * ks.length
  | [], acc => Nat.le_refl _
  | k :: ks, acc => by
    have h1 := hereGo_len h ks (addAll acc (addAll [] (rs.getD k [])))
    have h2 := addAll_len (addAll [] (rs.getD k [])) acc
    have h3 := addAll_len (rs.getD k []) []
    have h4 : (rs.getD k []).length ≤ 8 := by
      rw [List.getD_eq_getElem?_getD]
      cases e : rs[k]? with
      | none => exact Nat.zero_le _
      | some r => exact h r (List.mem_of_getElem? e)
    rw [List.length_cons]
    show (hereGo rs (addAll acc (addAll [] (rs.getD k []))) ks).length ≤ _
    simp only [List.length_nil] at h3
    omega
/-! ### a process in the heap -/
def pK : List Str := ["own_ground", "own_program", "own_first", "own_rows", "own_counts", "own_opened", "own_public", "own_deep", "own_slots", "own_here"]
structure Adr where
  p : Addr
  dx : Addr
  g : Addr
  pr : Addr
  fi : Addr
  ro : Addr
  cn : Addr
  op : Addr
  pu : Addr
  de : Addr
  sl : Addr
  he : Addr
  rs : List Addr
def Adr.vals (A : Adr) : List V := [.ref A.g, .ref A.pr, .ref A.fi, .ref A.ro, .ref A.cn, .ref A.op, .ref A.pu, .ref A.de, .ref A.sl, .ref A.he]
def slotK (q : Str × Nat) : List Key := [.inr q.1, .inl (q.2 : Int)]
abbrev SlAre (K : PySem.W.Frag) (H : Hp) : List (List Key × V) → List ((Str × Nat) × Ans) → Prop := Paired fun e q => e.1 = slotK q.1 ∧ Dp K H e.2 (ansD q.2)
abbrev SlAt (K : PySem.W.Frag) (H : Hp) (sl : Addr) (ss : List ((Str × Nat) × Ans)) : Prop := ∃ kvs, H sl = some (.dT kvs) ∧ SlAre K H kvs ss
/-- what may be written -/
def Adr.F (A : Adr) (c : Addr) : Prop := c = A.p ∨ c = A.cn ∨ c = A.op ∨ c = A.pu ∨ c = A.de ∨ c = A.sl
/-- what it reads beside -/
def Adr.R (A : Adr) (c : Addr) : Prop := c = A.fi ∨ c = A.ro ∨ c = A.he ∨ c ∈ A.rs
/-- all but the instance itself and own_here -/
structure Rst (K : PySem.W.Frag) (H : Hp) (A : Adr) (p : Prg) (st : St) : Prop where
  prog : Dp K H (.ref A.pr) (prD p)
  first : H A.fi = some (.lst ((firstM p).map V.str))
  rows : H A.ro = some (.lst (A.rs.map V.ref))
  each : RowsAt (fun _ => True) H A.rs (rowsM p)
  cnts : H A.cn = some (.lst (st.counts.map V.int))
  opn : H A.op = some (.lst (st.opened.map fun k : Nat => V.int (k : Int)))
  pub : H A.pu = some (.lst (st.pub.map V.str))
  deep : H A.de = some (.lst (st.deep.map V.str))
  slots : SlAt K H A.sl st.slots
  nd : [A.cn, A.op, A.pu, A.de].Nodup
  ap : ∀ c, c = A.fi ∨ c = A.ro ∨ c ∈ A.rs → c ∉ [A.cn, A.op, A.pu, A.de]
structure PAt0 (K : PySem.W.Frag) (C : Addr) (H : Hp) (A : Adr) (p : Prg) (st : St) : Prop extends Rst K H A p st where
  ins : H A.p = some (.ins C A.dx (pK.zip A.vals))
structure PAt (K : PySem.W.Frag) (C : Addr) (H : Hp) (A : Adr) (p : Prg) (st : St) : Prop extends PAt0 K C H A p st where
  here : ∃ ns, H A.he = some (.dK (hk ns)) ∧ ns.Nodup ∧ ns.length < 64 ∧ ∀ x, x ∈ ns ↔ thereM p st.opened x = true
theorem paired_memL {α β : Type} {R R' : α → β → Prop} {xs : List α} {ys : List β} (h : Paired R xs ys) (f : ∀ a b, a ∈ xs → R a b → R' a b) : Paired R' xs ys := by
  induction h with
  | nil => exact .nil
  | cons r t ih => exact .cons (f _ _ List.mem_cons_self r) (ih fun a b ha => f a b (List.mem_cons_of_mem _ ha))
theorem td_ans (a : Ans) : td 1 (ansD a) := by
  cases a <;> exact ⟨by first | (show 1 ≤ 1000; decide) | (show 3 ≤ 1000; decide), fun d hd => by
    first
      | (rw [List.mem_singleton.mp hd]; trivial)
      | (rcases List.mem_cons.mp hd with rfl | hd
         · trivial
         · rcases List.mem_cons.mp hd with rfl | hd
           · trivial
           · rw [List.mem_singleton.mp hd]; trivial)⟩
theorem slAre_keep {K : PySem.W.Frag} {H H' : Hp} (k : ∀ a xs, SqT K H a xs → SqT K H' a xs) {kvs : List (List Key × V)} {ss : List ((Str × Nat) × Ans)} (h : SlAre K H kvs ss) : SlAre K H' kvs ss :=
  paired_imp (fun e q z => ⟨z.1, dp_keeps k 1 (td_ans _) z.2⟩) h
/-- it stays while nothing of it is written -/
theorem Rst.kp {K : PySem.W.Frag} {H H' : Hp} {A : Adr} {p : Prg} {st : St} {F : Addr → Prop} (h : Rst K H A p st) (ok : p.Ok) (k : Kp F H H') (n1 : ∀ c, (c = A.cn ∨ c = A.op ∨ c = A.pu ∨ c = A.de ∨ c = A.sl) → ¬ F c) (n2 : ∀ c, (c = A.fi ∨ c = A.ro ∨ c ∈ A.rs) → ¬ F c) : Rst K H' A p st := by
  obtain ⟨kvs, hs, hr⟩ := h.slots
  exact ⟨dp_kp k (td_pr ok) h.prog, k.keep _ _ (n2 _ (.inl rfl)) h.first, k.keep _ _ (n2 _ (.inr (.inl rfl))) h.rows,
    paired_memL h.each (fun a r ha z => ⟨trivial, k.keep _ _ (n2 _ (.inr (.inr ha))) z.2⟩), k.keep _ _ (n1 _ (.inl rfl)) h.cnts, k.keep _ _ (n1 _ (.inr (.inl rfl))) h.opn, k.keep _ _ (n1 _ (.inr (.inr (.inl rfl)))) h.pub,
    k.keep _ _ (n1 _ (.inr (.inr (.inr (.inl rfl))))) h.deep, ⟨kvs, k.keep _ _ (n1 _ (.inr (.inr (.inr (.inr rfl))))) hs, slAre_keep (fun _ _ z => k.sqT z) hr⟩, h.nd, h.ap⟩
theorem PAt.kp {K : PySem.W.Frag} {C : Addr} {H H' : Hp} {A : Adr} {p : Prg} {st : St} {F : Addr → Prop} (h : PAt K C H A p st) (ok : p.Ok) (k : Kp F H H') (n1 : ∀ c, A.F c → ¬ F c) (n2 : ∀ c, A.R c → ¬ F c) : PAt K C H' A p st := by
  obtain ⟨ns, hh, r⟩ := h.here
  refine ⟨⟨h.toRst.kp ok k (fun c hc => n1 c (.inr hc)) (fun c hc => n2 c ?_), k.keep _ _ (n1 _ (.inl rfl)) h.ins⟩, ns, k.keep _ _ (n2 _ (.inr (.inr (.inl rfl)))) hh, r⟩
  rcases hc with e | e | e
  · exact .inl e
  · exact .inr (.inl e)
  · exact .inr (.inr (.inr e))
theorem PAt0.same {K : PySem.W.Frag} {C : Addr} {H H' : Hp} {A : Adr} {p : Prg} {st : St} (h : PAt0 K C H A p st) (ok : p.Ok) (s : Same H H') : PAt0 K C H' A p st :=
  ⟨h.toRst.kp (F := fun _ => False) ok (Kp.same s) (fun _ _ z => z) (fun _ _ z => z), s _ _ h.ins⟩
theorem PAt.same {K : PySem.W.Frag} {C : Addr} {H H' : Hp} {A : Adr} {p : Prg} {st : St} (h : PAt K C H A p st) (ok : p.Ok) (s : Same H H') : PAt K C H' A p st := h.kp (F := fun _ => False) ok (Kp.same s) (fun _ _ z => z) (fun _ _ z => z)
/-! ### something of it is written -/
section
variable {K : PySem.W.Frag} {C : Addr} {H : Hp} {A : Adr} {p : Prg} {st : St}
theorem Rst.ne (h : Rst K H A p st) : A.cn ≠ A.op ∧ A.cn ≠ A.pu ∧ A.cn ≠ A.de ∧ A.op ≠ A.pu ∧ A.op ≠ A.de ∧ A.pu ≠ A.de := by
  have q := h.nd
  simp only [List.nodup_cons, List.mem_cons, List.mem_singleton, List.not_mem_nil, or_false, not_or, List.nodup_nil, and_true, not_false_eq_true] at q
  obtain ⟨⟨a, b, c⟩, ⟨d, e⟩, f⟩ := q
  exact ⟨a, b, c, d, e, f⟩
theorem Rst.nsl (h : Rst K H A p st) {c : Addr} {xs : List V} (e : H c = some (.lst xs)) : c ≠ A.sl := by
  obtain ⟨kvs, hs, _⟩ := h.slots
  exact ne_of e hs fun z => nomatch z
theorem Rst.nls (h : Rst K H A p st) {c : Addr} (e : c = A.fi ∨ c = A.ro ∨ c ∈ A.rs) : c ≠ A.cn ∧ c ≠ A.op ∧ c ≠ A.pu ∧ c ≠ A.de := by
  have q := h.ap c e
  simp only [List.mem_cons, List.mem_singleton, List.not_mem_nil, or_false, not_or] at q
  exact q
theorem Rst.lsl (h : Rst K H A p st) {c : Addr} (e : c = A.fi ∨ c = A.ro ∨ c ∈ A.rs) : c ≠ A.sl := by
  rcases e with e | e | e
  · rw [e]; exact h.nsl h.first
  · rw [e]; exact h.nsl h.rows
  · obtain ⟨r, hr⟩ : ∃ r, H c = some (.lst r) := by
      have go : ∀ {as : List Addr} {rs : List (List Str)}, RowsAt (fun _ => True) H as rs → c ∈ as → ∃ r, H c = some (.lst r) := by
        intro as rs q
        induction q with
        | nil => intro hc; cases hc
        | cons r t ih =>
          intro hc
          rcases List.mem_cons.mp hc with e | hc
          · rw [e]; exact ⟨_, r.2⟩
          · exact ih hc
      exact go h.each e
    exact h.nsl hr
theorem wr_tup {c : Addr} {o : HO} (m : Mut (H c)) {ss : List ((Str × Nat) × Ans)} {kvs : List (List Key × V)} (h : SlAre K H kvs ss) : SlAre K (upd H c o) kvs ss := slAre_keep (fun _ _ z => (kp_at m).sqT z) h
theorem mut_lst {c : Addr} {xs : List V} (e : H c = some (.lst xs)) : Mut (H c) := by rw [e]; trivial
theorem Rst.eachU (h : Rst K H A p st) {c : Addr} {o : HO} (n : c ∉ A.rs) : RowsAt (fun _ => True) (upd H c o) A.rs (rowsM p) := paired_memL h.each fun a r ha z => ⟨trivial, by rw [upd_ne (fun e => n (by rw [← e]; exact ha))]; exact z.2⟩
theorem Rst.setCn (h : Rst K H A p st) (ok : p.Ok) (cs : List Int) : Rst K (upd H A.cn (.lst (cs.map V.int))) A p { st with counts := cs } := by
  obtain ⟨n1, n2, n3, n4, n5, n6⟩ := h.ne
  obtain ⟨kvs, hs, hr⟩ := h.slots
  have m := mut_lst h.cnts
  exact ⟨dp_kp (kp_at m) (td_pr ok) h.prog, by rw [upd_ne (h.nls (.inl rfl)).1]; exact h.first, by rw [upd_ne (h.nls (.inr (.inl rfl))).1]; exact h.rows, h.eachU fun z => (h.nls (.inr (.inr z))).1 rfl, upd_same,
    by rw [upd_ne (Ne.symm n1)]; exact h.opn, by rw [upd_ne (Ne.symm n2)]; exact h.pub, by rw [upd_ne (Ne.symm n3)]; exact h.deep, ⟨kvs, by rw [upd_ne (Ne.symm (h.nsl h.cnts))]; exact hs, wr_tup m hr⟩, h.nd, h.ap⟩
theorem Rst.setOp (h : Rst K H A p st) (ok : p.Ok) (os : List Nat) : Rst K (upd H A.op (.lst (os.map fun k : Nat => V.int (k : Int)))) A p { st with opened := os } := by
  obtain ⟨n1, n2, n3, n4, n5, n6⟩ := h.ne
  obtain ⟨kvs, hs, hr⟩ := h.slots
  have m := mut_lst h.opn
  exact ⟨dp_kp (kp_at m) (td_pr ok) h.prog, by rw [upd_ne (h.nls (.inl rfl)).2.1]; exact h.first, by rw [upd_ne (h.nls (.inr (.inl rfl))).2.1]; exact h.rows, h.eachU fun z => (h.nls (.inr (.inr z))).2.1 rfl,
    by rw [upd_ne n1]; exact h.cnts, upd_same, by rw [upd_ne (Ne.symm n4)]; exact h.pub, by rw [upd_ne (Ne.symm n5)]; exact h.deep, ⟨kvs, by rw [upd_ne (Ne.symm (h.nsl h.opn))]; exact hs, wr_tup m hr⟩, h.nd, h.ap⟩
theorem Rst.setPu (h : Rst K H A p st) (ok : p.Ok) (xs : List Str) : Rst K (upd H A.pu (.lst (xs.map V.str))) A p { st with pub := xs } := by
  obtain ⟨n1, n2, n3, n4, n5, n6⟩ := h.ne
  obtain ⟨kvs, hs, hr⟩ := h.slots
  have m := mut_lst h.pub
  exact ⟨dp_kp (kp_at m) (td_pr ok) h.prog, by rw [upd_ne (h.nls (.inl rfl)).2.2.1]; exact h.first, by rw [upd_ne (h.nls (.inr (.inl rfl))).2.2.1]; exact h.rows, h.eachU fun z => (h.nls (.inr (.inr z))).2.2.1 rfl,
    by rw [upd_ne n2]; exact h.cnts, by rw [upd_ne n4]; exact h.opn, upd_same, by rw [upd_ne (Ne.symm n6)]; exact h.deep, ⟨kvs, by rw [upd_ne (Ne.symm (h.nsl h.pub))]; exact hs, wr_tup m hr⟩, h.nd, h.ap⟩
theorem Rst.setDe (h : Rst K H A p st) (ok : p.Ok) (xs : List Str) : Rst K (upd H A.de (.lst (xs.map V.str))) A p { st with deep := xs } := by
  obtain ⟨n1, n2, n3, n4, n5, n6⟩ := h.ne
  obtain ⟨kvs, hs, hr⟩ := h.slots
  have m := mut_lst h.deep
  exact ⟨dp_kp (kp_at m) (td_pr ok) h.prog, by rw [upd_ne (h.nls (.inl rfl)).2.2.2]; exact h.first, by rw [upd_ne (h.nls (.inr (.inl rfl))).2.2.2]; exact h.rows, h.eachU fun z => (h.nls (.inr (.inr z))).2.2.2 rfl,
    by rw [upd_ne n3]; exact h.cnts, by rw [upd_ne n5]; exact h.opn, by rw [upd_ne n6]; exact h.pub, upd_same, ⟨kvs, by rw [upd_ne (Ne.symm (h.nsl h.deep))]; exact hs, wr_tup m hr⟩, h.nd, h.ap⟩
theorem Rst.setSl (h : Rst K H A p st) (ok : p.Ok) {kvs : List (List Key × V)} {ss : List ((Str × Nat) × Ans)} (hr : SlAre K H kvs ss) : Rst K (upd H A.sl (.dT kvs)) A p { st with slots := ss } := by
  obtain ⟨kvs0, hs, _⟩ := h.slots
  have m : Mut (H A.sl) := by rw [hs]; trivial
  exact ⟨dp_kp (kp_at m) (td_pr ok) h.prog, by rw [upd_ne (h.lsl (.inl rfl))]; exact h.first, by rw [upd_ne (h.lsl (.inr (.inl rfl)))]; exact h.rows, h.eachU fun z => h.lsl (.inr (.inr z)) rfl,
    by rw [upd_ne (h.nsl h.cnts)]; exact h.cnts, by rw [upd_ne (h.nsl h.opn)]; exact h.opn, by rw [upd_ne (h.nsl h.pub)]; exact h.pub, by rw [upd_ne (h.nsl h.deep)]; exact h.deep, ⟨kvs, upd_same, wr_tup m hr⟩, h.nd, h.ap⟩
/-- the instance is written: its fields now as A' says -/
theorem Rst.putF {A' : Adr} {st' : St} {a dx : Addr} {fs : List (Str × V)} {o : List (Str × V)} (h : Rst K H A' p st') (ok : p.Ok) (hi : H a = some (.ins C dx fs)) : Rst K (upd H a (.ins C dx o)) A' p st' := by
  have m : Mut (H a) := by rw [hi]; trivial
  obtain ⟨kvs, hs, _⟩ := h.slots
  refine h.kp ok (kp_at m) (fun c hc e => ?_) (fun c hc e => ?_)
  · rw [e] at hc
    rcases hc with z | z | z | z | z
    · rw [z, h.cnts] at hi; cases hi
    · rw [z, h.opn] at hi; cases hi
    · rw [z, h.pub] at hi; cases hi
    · rw [z, h.deep] at hi; cases hi
    · rw [z, hs] at hi; cases hi
  · rw [e] at hc
    rcases hc with z | z | z
    · rw [z, h.first] at hi; cases hi
    · rw [z, h.rows] at hi; cases hi
    · have go : ∀ {as : List Addr} {rs : List (List Str)}, RowsAt (fun _ => True) H as rs → a ∈ as → ∃ r, H a = some (.lst r) := by
        intro as rs q
        induction q with
        | nil => intro hc; cases hc
        | cons r t ih =>
          intro hc
          rcases List.mem_cons.mp hc with e | hc
          · rw [e]; exact ⟨_, r.2⟩
          · exact ih hc
      obtain ⟨r, hr⟩ := go h.each z
      rw [hr] at hi
      cases hi
/-- the next addresses: the old ones, or fresh -/
structure Nxt (A A' : Adr) (H : Hp) : Prop where
  p : A'.p = A.p
  F : ∀ c, A'.F c → A.F c ∨ H c = none
  R : ∀ c, A'.R c → A.R c ∨ H c = none
theorem Nxt.refl (A : Adr) (H : Hp) : Nxt A A H := ⟨rfl, fun _ h => .inl h, fun _ h => .inl h⟩
end
end K10
end
section
set_option maxHeartbeats 4000000
/-! K7: all_here, is_there, there, deep. -/
namespace K10
open PySem PySem.Spec PyProof.Rows L2
/-- a field is read -/
theorem fdn {K : PySem.W.Frag} {C : Addr} {f : Str} (T : ClsF K C pK) (m : f ∈ pK := by decide +kernel) : NoAttr K C f := T.no f m
theorem fdl {us : List V} {f : Str} {i : Nat} {v : V} (ev : us[i]? = some v) (e : pK.findIdx? (fun y => decide (y = f)) = some i := by decide +kernel) : (pK.zip us).lookup f = some v := (lookup_zip e).trans ev
theorem lookup_zip_none {x : Str} : ∀ {ks : List Str} {vs : List V}, x ∉ ks → (ks.zip vs).lookup x = none
  | [], _, _ => rfl
  | k :: ks, [], _ => rfl
  | k :: ks, v :: vs, h => by
    rw [List.zip_cons_cons, List.lookup_cons]
    have e : (x == k) = false := by
      have : ¬ x = k := fun z => h (by rw [z]; exact List.mem_cons_self)
      simpa using this
    rw [e]
    exact lookup_zip_none fun z => h (List.mem_cons_of_mem _ z)
/-- {name: True for name in a list} -/
theorem dg_names {K : PySem.W.Frag} {i : Nat} {σ : L2.St} {H1 : Hp} {a : Addr} {ns : List Str} {Qd : Addr → Hp → Prop} (ha : H1 a = some (.lst (ns.map V.str))) (h8 : ns.length ≤ 8)
    (k : ∀ H' D, Same H1 H' → H1 D = none → H' D = some (.dK (hk (addAll [] ns))) → Qd D H') (hi : i < σ.length) :
    ∀ D, H1 D = none → ∃ W : Nat → Nat → Hp → Prop, (∃ m, W 0 m (upd H1 D (.dK []))) ∧ ∀ j m H, W j m H →
      ((Itl K a).stop j H ∧ Qd D H) ∨ ((Itl K a).go j H ∧ ∃ Nx : Hp → Prop, (∀ H', Nx H' → ∃ m', m' < m ∧ W (j + 1) m' H') ∧ ∀ x H', (Itl K a).yld j H x H' → gName i x (wipe σ [i]) H' fun σ2 H2 => wipe σ2 [i] = wipe σ [i] ∧ tYes σ2 H2 fun b H3 =>
        if b = true then tVar i σ2 H3 fun y H4 => tC (.bl true) σ2 H4 fun z H5 => stoK D y z H5 Nx else Nx H3) := by
  intro D hD
  refine dg_list (K := K) (a := a) (xs := ns.map V.str) (fun j H' => Same H1 H' ∧ H' D = some (.dK (hk (addAll [] (ns.take j))))) ⟨same_new hD, upd_same⟩ (fun j H' _ h => SqL.of (h.1 _ _ ha)) ?_ ?_
  · rintro j x H' hj ⟨s1, hd⟩
    rw [List.getElem?_map] at hj
    obtain ⟨y, hy, rfl⟩ := Option.map_eq_some_iff.mp hj
    have step : addAll [] (ns.take (j + 1)) = addN (addAll [] (ns.take j)) y := by rw [List.take_succ, hy, ← addAll_snoc] <;> rfl
    have hl := addAll_len (ns.take j) []
    rw [List.length_take] at hl
    simp only [List.length_nil] at hl
    refine ⟨?_, V.str y, ?_, hk (addAll [] (ns.take j)), Sum.inr y, rfl, hd, ?_, same_at s1 hD, ?_⟩
    · show ((σ.set i none).set i (some (V.str y))).set i none = σ.set i none
      rw [List.set_set, List.set_set]
    · show ((σ.set i none).set i (some (V.str y)))[i]? = _
      rw [List.getElem?_set_self (by rw [List.length_set]; exact hi)]
    · rw [hk_len, sizeLine_eq]
      omega
    · rw [upd_same, hk_put, step]
  · rintro H' ⟨s1, hd⟩
    rw [List.length_map, List.take_length] at hd
    exact k H' D s1 hD hd
/-! ### sorted texts -/
abbrev leS (a b : Str) : Prop := a.cps.toList ≤ b.cps.toList
theorem rising_pw : ∀ (r : List Str) (p : Str), risingS p r = true → (p :: r).Pairwise leS
  | [], p, _ => List.pairwise_singleton _ _
  | x :: r, p, h => by
    have h : (!ltCps x.cps.toList p.cps.toList && risingS x r) = true := h
    rw [Bool.and_eq_true, ltCps_eq, Bool.not_eq_true', decide_eq_false_iff_not] at h
    have ih := rising_pw r x h.2
    have h1 : leS p x := List.not_lt.mp h.1
    refine List.pairwise_cons.mpr ⟨fun y hy => ?_, ih⟩
    rcases List.mem_cons.mp hy with rfl | hy
    · exact h1
    · exact List.le_trans h1 ((List.pairwise_cons.mp ih).1 y hy)
theorem sorted_pw {r : List Str} (h : sortedS r = true) : r.Pairwise leS := by
  cases r with
  | nil => exact List.Pairwise.nil
  | cons x r => exact rising_pw r x h
theorem leS_anti {a b : Str} (h1 : leS a b) (h2 : leS b a) : a = b := by
  have e : a.cps.toList = b.cps.toList := List.le_antisymm h1 h2
  cases a
  cases b
  congr
  exact Array.toList_inj.mp e
/-- the list in order -/
def srt (xs : List Str) : List Str := xs.mergeSort fun a b => decide (leS a b)
theorem srt_eq {ys xs : List Str} (p : ys.Perm xs) (h : sortedS ys = true) : ys = srt xs := by
  have h2 : (srt xs).Pairwise leS := by
    have q := List.pairwise_mergeSort (le := fun a b : Str => decide (leS a b)) (fun a b c h1 h2 => decide_eq_true (List.le_trans (of_decide_eq_true h1) (of_decide_eq_true h2))) (fun a b => by
      rcases List.le_total a.cps.toList b.cps.toList with h | h
      · simp [leS, h]
      · simp [leS, h]) xs
    exact q.imp fun h => of_decide_eq_true h
  exact List.Perm.eq_of_pairwise (le := leS) (fun a b _ _ h1 h2 => leS_anti h1 h2) (sorted_pw h) h2 (p.trans (List.mergeSort_perm xs _).symm)
theorem srt_mem {xs : List Str} {x : Str} : x ∈ srt xs ↔ x ∈ xs := (List.mergeSort_perm xs _).mem_iff
theorem srt_len (xs : List Str) : (srt xs).length = xs.length := (List.mergeSort_perm xs _).length_eq
/-- a method with its promise -/
structure Mth (P : Program) (w : World) (K : PySem.W.Frag) (mg : Str → Option Value) (base : Heap) (CX : CXT) (k : Nat) (C : Addr) (m : Str) (ps : List Str) (sp : Sp) : Prop where
  ex : ∃ f fd, FnOk P w K mg base CX k f fd ps sp ∧ Meth K C m f ∧ Binds K fd ps []
section
variable {P : Program} {w : World} {K : PySem.W.Frag} {mg : Str → Option Value} {base : Heap}
/-! ### all_here -/
abbrev sAllHere : Stmt := sPr 1
theorem scAllHere : FnScope ["self", "found", "number", "name"] ["self"] (defScope sAllHere) := ⟨rfl, rfl, rfl, by decide +kernel, rfl, by decide +kernel, by decide +kernel⟩
def spAllHere (K : PySem.W.Frag) (C : Addr) : Sp := fun vs H Q _ => ∃ (a dx : Addr) (us : List V) (fi ro op : Addr) (rs : List Addr) (first : List Str) (rows : List (List Str)) (opened : List Nat), vs = [.ref a] ∧ H a = some (.ins C dx (pK.zip us)) ∧
  us[2]? = some (.ref fi) ∧ us[3]? = some (.ref ro) ∧ us[5]? = some (.ref op) ∧ H fi = some (.lst (first.map V.str)) ∧ H ro = some (.lst (rs.map V.ref)) ∧ RowsAt (fun _ => True) H rs rows ∧ H op = some (.lst (opened.map fun k : Nat => V.int (k : Int))) ∧
  (∀ k ∈ opened, k < rows.length) ∧ first.length ≤ 8 ∧ (∀ r ∈ rows, r.length ≤ 8) ∧ opened.length ≤ 8 ∧
  ∀ H' b, Same H H' → H b = none → H' b = some (.dK (hk (hereM first rows opened))) → Q (.ref b) H'
theorem ok_allHere {f C : Addr} {fd : FuncData} (T : ClsF K C pK) (F : DefAt K "all_here" "Process.all_here" sAllHere f fd) : FnOk P w K mg base CX0 1 f fd ["self"] (spAllHere K C) := by
  refine F.ok scAllHere (fun vs H Q E h => ?_) (fun cdv A outer s H vs Q E hr h => ?_)
  · obtain ⟨a, dx, us, fi, ro, op, rs, first, rows, opened, rfl, _⟩ := h
    rfl
  · obtain ⟨a, dx, us, fi, ro, op, rs, first, rows, opened, rfl, hi, l1, l2, l3, hf, hro, hrs, hop, hlt, f8, r8, o8, k⟩ := h
    refine ⟨_, PSs.nox (pss_cons (ps_setDg (i := 1) (own := [("name", 3)]) (o0 := .dK []) (S := stoK) (g := gName 3) (tt := tYes) (tk := tVar 3) (tv := tC (.bl true)) (fun _ h hb => dk_empty h hb) (fun _ _ _ _ => stoK_ok) rfl scAllHere.nd rfl rfl (swD_true rfl rfl rfl (by decide +kernel)) (pi_listK (K := K) (pe_fldK (K := K) (pv 0)))
        (blkOk_by (N := ["self", "found", "number", "name"]) (sc := defScope sAllHere) (by decide +kernel)) (fun _ _ _ _ _ => pg_name (i := 3) scAllHere.nd rfl (Or.inl rfl)) (fun _ _ _ _ _ => pts_nil) (fun _ _ _ _ _ => pv 3) (fun _ _ _ _ _ => pe_bl))
      (pss_cons (ps_for PassesOwn.never rfl (pi_listK (K := K) (pe_fldK (K := K) (pv 0))) (pg_name (i := 2) scAllHere.nd rfl (Or.inl rfl))
        (pss_one (ps_expr (pe_bm PySem.F.plainAttrs_dict PySem.F.slot_dict_update PySem.F.type_dict_update mt_updK (pv 1) (pa_cons
          (pe_dcG (own := [("name", 3)]) (o0 := .dK []) (S := stoK) (g := gName 3) (tt := tYes) (tk := tVar 3) (tv := tC (.bl true)) (fun _ h hb => dk_empty h hb) (fun _ _ _ _ => stoK_ok) rfl scAllHere.nd (pi_listK (K := K) (pe_ix (ixlK (K := K)) (pe_fldK (K := K) (pv 0)) (pv 2) (fun _ _ => rfl))) (blkOk_by (N := ["self", "found", "number", "name"]) (sc := defScope sAllHere) (by decide +kernel))
            (fun _ _ _ _ _ => pg_name (i := 3) scAllHere.nd rfl (Or.inl rfl)) (fun _ _ _ _ _ => pts_nil) (fun _ _ _ _ _ => pv 3) (fun _ _ _ _ _ => pe_bl)) pa_nil)))))
      (pss_one (ps_ret (pv 1))))), ?_⟩
    refine ⟨_, rfl, a, C, dx, _, _, rfl, hi, T.cl, fdn T, fdl l1, ?_⟩
    refine ⟨fi, rfl, ⟨_, SqL.of hf⟩, ?_⟩
    refine dg_names hf f8 (fun H1 D s1 nD hD => ?_) (Nat.le_of_ble_eq_true rfl)
    refine ⟨_, rfl, a, C, dx, _, _, rfl, (s1 _ _ hi), T.cl, fdn T, fdl l3, ?_⟩
    refine ⟨op, rfl, ⟨_, SqL.of (s1 _ _ hop)⟩, ?_⟩
    refine for_list (K := K) (a := op) (xs := opened.map fun k : Nat => V.int (k : Int)) (fun i σ H' => (∃ v, σ = [some (.ref a), some (.ref D), v, none]) ∧ Same H H' ∧ H' D = some (.dK (hk (hereGo rows (addAll [] first) (opened.take i))))) ⟨⟨none, rfl⟩, s1, hD⟩ (fun i σ H' _ h => SqL.of (h.2.1 _ _ hop)) ?_ ?_
    · rintro i x σ H' hx ⟨⟨v, rfl⟩, s2, hD2⟩
      rw [List.getElem?_map] at hx
      obtain ⟨j, hj, rfl⟩ := Option.map_eq_some_iff.mp hx
      have jlt := hlt j (List.mem_of_getElem? hj)
      have ej := List.getElem?_eq_getElem jlt
      have er : rows.getD j [] = rows[j] := by rw [List.getD_eq_getElem?_getD, ej] <;> rfl
      obtain ⟨rj, hrj, _, hrow⟩ := paired_get hrs ej
      have step : hereGo rows (addAll [] first) (opened.take (i + 1)) = addAll (hereGo rows (addAll [] first) (opened.take i)) (addAll [] rows[j]) := by
        rw [List.take_succ, hj, ← er, ← hereGo_snoc] <;> rfl
      have rl : rows[j].length ≤ 8 := r8 _ (List.getElem_mem jlt)
      refine ⟨_, rfl, .inr (.inr (.inl ⟨rfl, .inl ⟨_, hD2⟩⟩)), ?_⟩
      refine ⟨_, rfl, a, C, dx, _, _, rfl, (s2 _ _ hi), T.cl, fdn T, fdl l2, ?_⟩
      refine ⟨_, rfl, ro, _, _, V.ref rj, rfl, rfl, SqL.of (s2 _ _ hro), atI_nat (j := j) (by rw [List.getElem?_map, hrj] <;> rfl), rj, rfl, ⟨_, SqL.of (s2 _ _ hrow)⟩, ?_⟩
      refine dg_names (s2 _ _ hrow) rl (fun H3 D2 s3 nD2 hD3 => ?_) (Nat.le_of_ble_eq_true rfl)
      have hD4 := s3 _ _ hD2
      have ne : D ≠ D2 := fun z => by
        rw [← z, hD2] at nD2
        cases nD2
      refine ⟨D, D2, _, _, rfl, rfl, ne, hD4, hD3, ?_, ⟨_, rfl⟩, ?_, ?_⟩
      · rw [hk_len, hk_len]
        have q1 := hereGo_len r8 (opened.take i) (addAll [] first)
        have q2 := addAll_len first []
        have q3 := addAll_len rows[j] []
        rw [List.length_take] at q1
        rw [sizeLine_eq]
        simp only [List.length_nil] at q2 q3
        omega
      · refine same_at (s2.trans s3) ?_
        exact nD
      · rw [upd_same, hk_merge, step]
    · rintro σ H' ⟨⟨v, rfl⟩, s2, hD2⟩
      refine ⟨_, rfl, k _ _ s2 nD ?_⟩
      rw [hD2]
      have : opened.take (opened.map fun k : Nat => V.int (k : Int)).length = opened := by rw [List.length_map, List.take_length]
      rw [this] <;> rfl
/-! ### is_there, there, deep -/
theorem un1 {k : Nat} {A : Around} (r : Room k A) : A.units + 1 < cLine := by
  have := r.units
  omega
abbrev sIsThere : Stmt := sPr 5
theorem scIsThere : FnScope ["self", "name"] ["self", "name"] (defScope sIsThere) := ⟨rfl, rfl, rfl, by decide +kernel, rfl, by decide +kernel, by decide +kernel⟩
def spIsThere (K : PySem.W.Frag) (C : Addr) : Sp := fun vs H Q _ => ∃ (a dx he : Addr) (us : List V) (ns : List Str) (x : Str), vs = [.ref a, .str x] ∧ H a = some (.ins C dx (pK.zip us)) ∧ us[9]? = some (.ref he) ∧ H he = some (.dK (hk ns)) ∧ ∀ H', Same H H' → Q (.bl (decide (x ∈ ns))) H'
theorem PAt.hr {C : Addr} {H : Hp} {A : Adr} {p : Prg} {st : St} (h : PAt K C H A p st) : ∃ ns, H A.he = some (.dK (hk ns)) ∧ ∀ x, decide (x ∈ ns) = thereM p st.opened x := by
  obtain ⟨ns, hh, _, _, hm⟩ := h.here
  exact ⟨ns, hh, fun x => by rw [Bool.eq_iff_iff, decide_eq_true_eq]; exact hm x⟩
theorem ok_isThere {f C : Addr} {fd : FuncData} (T : ClsF K C pK) (F : DefAt K "is_there" "Process.is_there" sIsThere f fd) : FnOk P w K mg base CX0 1 f fd ["self", "name"] (spIsThere K C) := by
  refine F.ok scIsThere (fun vs H Q E h => ?_) (fun cdv A outer s H vs Q E hr h => ?_)
  · obtain ⟨a, dx, he, us, ns, x, rfl, _⟩ := h
    rfl
  · obtain ⟨a, dx, he, us, ns, x, rfl, hi, hu, hh, k⟩ := h
    refine ⟨_, PSs.nox (pss_one (ps_ret (pe_cmp (pc_din (un1 hr) (pv 1) (pe_fldK (K := K) (pv 0))) (by rfl)))), ?_⟩
    refine ⟨_, rfl, _, rfl, a, C, dx, _, _, rfl, hi, T.cl, fdn T, fdl hu, he, _, rfl, .k (k := .inr x) hh, ?_⟩
    have e : (valV (hk ns) (Sum.inr x)).isSome = decide (x ∈ ns) := by
      rw [hk_val]
      by_cases c : x ∈ ns
      · rw [if_pos c, decide_eq_true c] <;> rfl
      · rw [if_neg c, decide_eq_false c] <;> rfl
    rw [e]
    exact k _ (Same.refl _)
abbrev sThere : Stmt := sPr 6
theorem scThere : FnScope ["self"] ["self"] (defScope sThere) := ⟨rfl, rfl, rfl, by decide +kernel, rfl, by decide +kernel, by decide +kernel⟩
def spThere (K : PySem.W.Frag) (C : Addr) : Sp := fun vs H Q _ => ∃ (A : Adr) (p : Prg) (st : St), vs = [.ref A.p] ∧ PAt K C H A p st ∧ ∀ (H' : Hp) (l : Addr) (ys : List Str), Same H H' → H l = none → H' l = some (.lst (ys.map V.str)) → (∀ x, x ∈ ys ↔ thereM p st.opened x = true) → Q (.ref l) H'
theorem ok_there {f C : Addr} {fd : FuncData} (B : Bl mg) (T : ClsF K C pK) (F : DefAt K "there" "Process.there" sThere f fd) : FnOk P w K mg base CX0 1 f fd ["self"] (spThere K C) := by
  refine F.ok scThere (fun vs H Q E h => ?_) (fun cdv A outer s H vs Q E hr h => ?_)
  · obtain ⟨A, p, st, rfl, _⟩ := h
    rfl
  · obtain ⟨A, p, st, rfl, h, k⟩ := h
    obtain ⟨ns, hh, _, hl, hm⟩ := h.here
    refine ⟨_, PSs.nox (pss_one (ps_ret (pe_callB (call_sortedD rfl) (by rfl) B.sorted bt_sorted (pa_cons (pe_fldK (K := K) (pv 0)) pa_nil)))), ?_⟩
    refine ⟨_, rfl, A.p, C, A.dx, _, _, rfl, h.ins, T.cl, fdn T, fdl (i := 9) rfl, A.he, _, ns, rfl, .inl hh, ?_, hl, fun ys q hp _ nq => ?_⟩
    · unfold hk
      rw [List.map_map]
      exact List.map_congr_left fun _ _ => rfl
    · exact k _ q ys (same_new nq) nq upd_same fun x => (hp.mem_iff).trans (hm x)
abbrev sDeep : Stmt := sPr 8
theorem scDeep : FnScope ["self"] ["self"] (defScope sDeep) := ⟨rfl, rfl, rfl, by decide +kernel, rfl, by decide +kernel, by decide +kernel⟩
def spDeep (K : PySem.W.Frag) (C : Addr) : Sp := fun vs H Q _ => ∃ (A : Adr) (p : Prg) (st : St), vs = [.ref A.p] ∧ PAt K C H A p st ∧ st.deep.length < 64 ∧ ∀ H' l, Same H H' → H l = none → H' l = some (.lst ((srt st.deep).map V.str)) → Q (.ref l) H'
theorem ok_deep {f C : Addr} {fd : FuncData} (B : Bl mg) (T : ClsF K C pK) (F : DefAt K "deep" "Process.deep" sDeep f fd) : FnOk P w K mg base CX0 1 f fd ["self"] (spDeep K C) := by
  refine F.ok scDeep (fun vs H Q E h => ?_) (fun cdv A outer s H vs Q E hr h => ?_)
  · obtain ⟨A, p, st, rfl, _⟩ := h
    rfl
  · obtain ⟨A, p, st, rfl, h, hl, k⟩ := h
    refine ⟨_, PSs.nox (pss_one (ps_ret (pe_callB cr_sortedS (by rfl) B.sorted bt_sorted (pa_cons (pe_fldK (K := K) (pv 0)) pa_nil)))), ?_⟩
    refine ⟨_, rfl, A.p, C, A.dx, _, _, rfl, h.ins, T.cl, fdn T, fdl (i := 7) rfl, A.de, _, rfl, SqL.of h.deep, hl, fun ys q hp hs nq => ?_⟩
    rw [srt_eq hp hs]
    exact k _ q (same_new nq) nq upd_same
end
end K10
end
section
set_option maxHeartbeats 4000000
/-! X1: the own error NotThere: over RuntimeError, its __init__ calls super().__init__(name), then stores the name. -/
namespace K10
open PySem PySem.Spec PyProof.Rows PySem.W PySem.Calls Builtin Builtin.ObjectAttr
abbrev rtM : List Value := [.type "RuntimeError", .type "Exception", .type "BaseException", .type "object"]
theorem st_RuntimeError : StoreFacts "RuntimeError" rtM "object.__setattr__" "object" where
  mro := by kernel_rfl
  slot := .of (owner := "object") (n := "__setattr__") (by rw [typeLookup_type, builtinLookup_eq_fast]; kernel_rfl) (by decide +kernel) (by decide +kernel) (by decide +kernel)
    (by first | exact .inl (by decide +kernel) | exact .inr (by decide +kernel)) (by rw [isSubtype_type]; kernel_rfl)
  entry := PySem.F.entry_object_sa
  kind := by decide +kernel
  split := by decide +kernel
  hasOwner := by decide +kernel
  args := fun a b c => by unfold argsOk; kernel_rfl
  passes := fun self => by kernel_rfl
abbrev sNT : Stmt := L2.inClass (top 5) 0
/-- what the head says of the class at C and of its __init__ at fI -/
structure NTxt (P : Program) (K : Frag) (mg : Str → Option Value) (C fI : Addr) : Prop where
  gC : mg "NotThere" = some (.ref C)
  qi : excInitIn K C rtM "RuntimeError.__new__" = true
  qo : excOver K C rtM = true
  sa : findIn K (.ref C) "__setattr__" = some (some (.builtin "object.__setattr__"))
  tk : takerIn K C "name" = some none
  hd : hasDictIn K C = true
  iC : findIn K (.ref C) "__init__" = some (some (.ref fI))
  tC : typeIn K (.ref fI) = some (.type "function")
  kC : keepIn K (.ref C) = true
  exC : subIn K (.ref C) (.type "BaseException") = some true
  rtC : subIn K (.ref C) (.type "RuntimeError") = some true
  tyC : typeIn K (.ref C) = some (.type "type")
  te : exmOne K (.ref C) (.ref C) = some true
  mro : mroIn K C (.ref C) = some true
  opq : nsIn K cStatics "thirdparty.any" = some none
  su : mg "super" = none
  ini : ks_superIn K C C "__init__" = some (some (.builtin "RuntimeError.__init__"))
  top : (P.main.scope.names.lookup ("super" : Str)).isSome = false
  fn : ∃ (oc : Value) (od : Option Addr) (kV doc pm : Value) (an : Option Addr) (cda cc : Addr) (ct : Value) (osl : Array (Option Value)) (ccl cl : Value) (cdd cld : Option Addr) (vs : Array Value) (ccs csl : Array (Option Value)) (file : Str) (tf : Tok),
    K.lookup fI = some ⟨oc, od, .func (ksFn "__init__" "NotThere.__init__" (L2.defArgs sNT) (L2.defBody sNT) (L2.defScope sNT) .none kV doc pm an (.ref cda) ct cc), osl⟩ ∧ codeIn K (.ref cda) "NotThere.__init__" = true ∧
    K.lookup cda = some ⟨ccl, cdd, .fields vs, ccs⟩ ∧ vs[2]? = some (.str file tf) ∧ ((P.main.file : Str) == file) = true ∧ K.lookup cc = some ⟨cl, cld, .cell (some (.ref C)), csl⟩
open PySem.HandSPX (excO call_own)
/-- RuntimeError.__init__ bound to the error, called -/
theorem call_mw {prog : Program} {w : World} {A : Around} {E : Value → Shared → Prop} {s : Shared} {K : Frag} {C u e t0 : Addr} {rest : List Value} {Q : Value → Shared → Prop} (X : K.In s.heap) (q : excInitIn K C rtM "RuntimeError.__new__" = true)
    (he : s.heap.get? e = some (excO C t0)) (hu : s.heap.get? u = some (kxs_mw "RuntimeError.__init__" e)) (hz : rest.length ≤ sizeLine)
    (hq : ∀ h' t1, (∀ b o, b ≠ e → s.heap.get? b = some o → h'.get? b = some o) → h'.get? e = some (excO C t1) → Q .none { s with heap := h' }) :
    wpAny (model prog w) A (call (.ref u) rest) Q E s := by
  obtain ⟨nm, N', qn, bs, bm, hdct, sn, sub, ab, col, dd, k0, k1, k2, k3, k5, hC, hT⟩ := excInit_of X q
  have FB := PySem.F.excBase_RuntimeError
  obtain ⟨hh, g, d, tk, os⟩ := s
  refine wpAny_call (codeAny_of_tree ?_)
  show wpAny _ A.in1 (callAny (.ref u) ⟨rest, []⟩) _ _ _
  simp only [callAny]
  refine wpAny_bind (wpAny_load hu ?_)
  simp only [kxs_mw, show (Value.type "method-wrapper" == Value.type "method" || Value.type "method-wrapper" == Value.type "builtin_function_or_method" || Value.type "method-wrapper" == Value.type "method-wrapper") = true by decide, if_true]
  refine KFB.if_so (by decide) ?_
  refine wpAny_bind (check_bound_init FB.toExcCallFacts hC he rfl ?_)
  refine wpAny_bind (wpAny_pure (wpAny_pure ?_))
  refine ⟨plainId_quiet FB.init.plain _, codeAny_builtin FB.initEntry ?_⟩
  exact exc_init_tree (cls := .ref C) (t0 := t0) (dv := none) (c2 := .none) (c3 := .none) (b4 := .bool false) he hz fun h' k1' k2' k3' => hq h' _ k1' k2'
structure NEnd (h h' : Heap) (x C dx : Addr) (v : Value) : Prop where
  keep : ∀ b o, b ≠ x → h.get? b = some o → h'.get? b = some o
  obj : ∃ t1, h'.get? x = some { cls := .ref C, dict := some dx, data := .fields #[.ref t1, .none, .none, .none, .bool false, .none] }
  dbig : h.objs.size ≤ dx
  dne : dx ≠ x
  ns : h'.Ns1 dx (fun y => if y = "name" then some v else none)
theorem keepK {K : Frag} {h h' : Heap} {x : Addr} (X : K.In h) (hx : K.lookup x = none) (k : ∀ b o, b ≠ x → h.get? b = some o → h'.get? b = some o) : K.In h' := fun a o e =>
  k a o (fun z => by rw [z, hx] at e; cases e) (X a o e)
theorem nt_init {prog : Program} {w : World} {A : Around} {R : Result → Shared → Prop} {s : Shared} {K : Frag} {mg mb : Str → Option Value} {C fI x t0 : Addr} {v : Value} (T : NTxt prog K mg C fI) (X : K.In s.heap) (hlim : s.heap.NoLimit) (hg : s.heap.Ns mainGlobals mg) (hb : s.heap.Ns builtinsNs mb)
    (hbs : mb "super" = some (.type "super")) (hx : s.heap.get? x = some (excO C t0)) (hnx : K.lookup x = none) (hroom : A.depth < recursionLimit)
    (hq : ∀ h' tk dx, NEnd s.heap h' x C dx v → R (.ok (.ret .none)) { s with heap := h', toks := tk }) :
    codeAny (model prog w) A (.call (.ref fI) ⟨[.ref x, v], []⟩) R s := by
  obtain ⟨oc, od, kV, doc, pm, an, cda, cc, ct, osl, ccl, cl, cdd, cld, vs, ccs, csl, file, tf, ho, hcd, hcode, hvs, hfile, hcell⟩ := T.fn
  refine ks_codeAny_call_defAt (binds := [("self", .ref x), ("name", v)]) hroom (X _ _ ho) rfl hlim (codeRec_of X hcd) rfl (BindsTo.of_eq (by first | rfl | with_unfolding_all rfl)) (show ∀ y ∈ (L2.defScope sNT).names, y.2 ≠ .cell by decide +kernel) ?_ (fun h₁ hns k₁ => ?_) rfl rfl rfl
  · intro y hy
    rcases List.mem_cons.mp hy with rfl | hy
    · rfl
    · rw [List.mem_singleton.mp hy]
      rfl
  have X₁ : K.In h₁ := X.keeps k₁
  have hx₁ := k₁ _ _ hx
  have hg₁ := hg.keeps k₁
  have hb₁ := hb.keeps k₁
  refine ks_wpAt_execs_cons (ks_wpAt_Expr_any (ks_wpAt_MethodCall ?_))
  refine ks_wpAt_super_base (f := fI) (cc := cda) (ar := { arg := "self", annotation := none, pos := ⟨22, 17, 22, 21⟩ }) rfl rfl rfl rfl (X₁ _ _ ho) rfl rfl rfl (X₁ _ _ hcode) rfl hvs hfile T.top ?_
  refine ks_loadName_global rfl rfl (loadGlobal_builtin hg₁ T.su hb₁ hbs ⟨rfl, ?_⟩)
  refine wpAny_loadName_free rfl rfl rfl ⟨_, X₁ _ _ hcell, rfl⟩ ?_
  refine wpAny_loadName_local rfl rfl hns rfl ?_
  have hmro := T.mro
  have hini := T.ini
  cases hcls : clsIn K C with
  | none =>
    unfold ks_superIn at hini
    rw [hcls] at hini
    cases hini
  | some cdC =>
  unfold ks_superIn at hini
  rw [hcls] at hini
  have hini : alongIn K "__init__" ((cdC.mro.dropWhile (· != .ref C)).drop 1) = some (some (.builtin "RuntimeError.__init__")) := hini
  obtain ⟨oD, hD1, hD2⟩ : ∃ oD, h₁.get? C = some oD ∧ oD.data = .cls cdC := by
    unfold clsIn at hcls
    split at hcls
    · rename_i c d cd' sl hl
      cases hcls
      exact ⟨_, X₁ _ _ hl, rfl⟩
    · cases hcls
  have I₁ : InstAt h₁ x (excO C t0) C none := ⟨hx₁, rfl, rfl, trivial⟩
  have hxC : x ≠ C := ks_ne X₁ I₁ hcls
  refine ks_wpAny_isType_cls hD1 hD2 ⟨rfl, ?_⟩
  refine ks_wpAny_call_super hD1 hD2 hx₁ rfl (fun c e => by cases e) (looks_mroIn X₁ hmro) (fun h₂ hso k₂ => ?_)
  have X₂ : K.In h₂ := X₁.keeps k₂
  have hx₂ := k₂ _ _ hx₁
  have I₂ : InstAt h₂ x (excO C t0) C none := ⟨hx₂, rfl, rfl, trivial⟩
  have hns₂ := hns.keeps k₂
  refine kxs_getMethod kxs_RuntimeError hso (looks_opaque X₂ T.opq) (l₀ := cdC.mro) ((looks_clsIn X₂ hcls).andThen .now) rfl X₂ hini (I₂.type.andThen (looks_subIn X₂ T.rtC)) hxC rfl ?_
  have k₃ : ∀ b o, h₂.get? b = some o → (h₂.push (kxs_mw "RuntimeError.__init__" x)).get? b = some o := fun b o e => Heap.get?_push_of_some _ e
  have hu₃ : (h₂.push (kxs_mw "RuntimeError.__init__" x)).get? h₂.objs.size = some (kxs_mw "RuntimeError.__init__" x) := Heap.get?_push_size _ rfl
  generalize h₂.push (kxs_mw "RuntimeError.__init__" x) = h₃ at k₃ hu₃ ⊢
  have X₃ : K.In h₃ := X₂.keeps k₃
  have hx₃ := k₃ _ _ hx₂
  have hns₃ := hns₂.keeps k₃
  refine kxs_callWith (i := "RuntimeError.__init__") (x := x) rfl (evalArgs_plain (spliced_cons (wpAny_Name (wpAny_loadName_local rfl rfl hns₃ rfl (spliced_nil ?_)) (by decide))))
  refine ⟨hu₃, ?_⟩
  refine call_mw X₃ T.qi hx₃ hu₃ (by show 1 ≤ sizeLine; decide) fun h₄ t1 k₄ hx₄ => ?_
  have X₄ : K.In h₄ := keepK X₃ hnx k₄
  have xL : s.heap.objs.size ≠ x := Nat.ne_of_gt (Heap.lt_size hx)
  have hns₄ : h₄.Ns s.heap.objs.size _ := hns₃.at fun o e => k₄ _ o xL e
  show _root_.PySem.wpAt _ _ _ (execs _ _) _ _ _
  refine ks_wpAt_execs_cons (ks_wpAt_Assign_Attr (_root_.PySem.wpAt_of_wpAny ?_))
  refine wpAny_Name (wpAny_loadName_local rfl rfl hns₄ rfl ?_) (by decide)
  refine wpAny_Name (wpAny_loadName_local rfl rfl hns₄ rfl ?_) (by decide)
  refine set_plain X₄ (ox := excO C t1) (od := none) ⟨hx₄, rfl, rfl, trivial⟩ T.sa ?_
  refine osa_openX st_RuntimeError X₄ (od := none) ⟨hx₄, rfl, rfl, trivial⟩ T.qo T.tk fun b => ?_
  obtain ⟨cd, hc, hdd⟩ := any_some T.hd
  have hcd : W.Looks (model prog w) h₄ (classData C) cd := looks_clsIn X₄ hc
  have xs : x ≠ h₄.objs.size := Nat.ne_of_lt (Heap.lt_size hx₄)
  have z : s.heap.objs.size < h₄.objs.size := hns₄.lt
  have old : ∀ b o, b ≠ x → s.heap.get? b = some o → h₄.get? b = some o := fun b o hb e => k₄ b o hb (k₃ _ _ (k₂ _ _ (k₁ _ _ e)))
  obtain ⟨nm, bs, mro, ns, qn, hdict, sn, sb, ab, col, del⟩ := cd
  dsimp only at hdd
  subst hdd
  show wpAny _ _ (storeInOwnDict (.ref x) (.ref C) _ _ v b) _ _ _
  unfold storeInOwnDict ownDictForStores
  repeat (first | with_reducible refine PySem.HandSPX.store_in_new ?_ ?_ | with_reducible refine wpAny_loadPart_at hx₄ ?_ | with_reducible refine hcd.at ?_ | wp_step)
  · exact ⟨_, #[], _, (Heap.get?_update_ne _ _ _ _ xs.symm).trans (Heap.get?_push_at rfl rfl), rfl, fun e he => absurd he (by simp), fun _ => rfl⟩
  · intro h₅ tk₅ hn₅ hs₅
    have hx₅ : (h₄.push { cls := .type "dict", data := .dict #[] }).get? x = some (excO C t1) := Heap.get?_push_of_some _ hx₄
    refine _root_.PySem.wpAt_of_wpAny (wpAny_execs_nil (hq h₅ tk₅ h₄.objs.size ⟨fun b o hb e => ?_, ⟨t1, ?_⟩, Nat.le_of_lt z, xs.symm, hn₅⟩))
    · exact (hs₅.2 b (Nat.ne_of_lt (Heap.lt_size (old b o hb e)))).trans ((Heap.get?_update_ne _ _ _ _ hb).trans (Heap.get?_push_of_some _ (old b o hb e)))
    · exact (hs₅.2 x xs).trans (Heap.get?_update_self _ hx₅ rfl)
end K10
end
section
set_option maxHeartbeats 4000000
/-! X2: NotThere(name) as a reading; raise NotThere(name). -/
namespace K10
open PySem PySem.Spec PyProof.Rows L2
open PySem.HandSPX (excO call_own)
/-- a made NotThere -/
structure NMade (h h' : Heap) (e C d : Addr) (v : Value) : Prop where
  keep : ∀ b o, h.get? b = some o → h'.get? b = some o
  new : h.objs.size ≤ e
  obj : ∃ oe vs, h'.get? e = some oe ∧ oe.cls = .ref C ∧ oe.dict = some d ∧ oe.data = .fields vs ∧ vs[1]? = some .none
  dbig : h.objs.size ≤ d
  dne : d ≠ e
  ns : h'.Ns1 d (fun y => if y = "name" then some v else none)
theorem nt_made {prog : Program} {w : World} {A : Around} {R : Result → Shared → Prop} {s : Shared} {K : PySem.W.Frag} {mg mb : Str → Option Value} {C fI : Addr} {v : Value} (T : NTxt prog K mg C fI) (X : K.In s.heap) (hlim : s.heap.NoLimit) (hg : s.heap.Ns mainGlobals mg) (hb : s.heap.Ns builtinsNs mb)
    (hbs : mb "super" = some (.type "super")) (hroom : A.depth + 1 < recursionLimit) (hq : ∀ h' tk e d, NMade s.heap h' e C d v → R (.ok (.ret (.ref e))) { s with heap := h', toks := tk }) :
    codeAny (model prog w) A (.call (.ref C) ⟨[v], []⟩) R s := by
  obtain ⟨nm, N', qn, bs, bm, hdct, sn, sub, ab, col, dd, k0, k1, k2, k3, k5, hC, hT⟩ := PySem.W.excInit_of X T.qi
  obtain ⟨hp, g, dr, tk, os⟩ := s
  have k : ∀ b o, hp.get? b = some o → ((hp.push (PySem.W.kdv_tup [v])).push (excO C hp.objs.size)).get? b = some o := fun b o e => Heap.get?_push_of_some _ (Heap.get?_push_of_some _ e)
  have hget : ((hp.push (PySem.W.kdv_tup [v])).push (excO C hp.objs.size)).get? (hp.objs.size + 1) = some (excO C hp.objs.size) := by heap_get
  have hnx : K.lookup (hp.objs.size + 1) = none := by
    cases e : K.lookup (hp.objs.size + 1) with
    | none => rfl
    | some o =>
      have z : hp.get? (hp.objs.size + 1) = some o := X _ _ e
      exact absurd (Nat.lt_of_succ_lt (Heap.lt_size z)) (Nat.lt_irrefl _)
  refine call_own PySem.F.excBase_RuntimeError hT hC (PySem.W.looks_findIn X T.iC) (fun self => PySem.W.bind_fn X self T.tC) (by show 1 ≤ sizeLine; decide) ?_
  refine nt_init (s := ⟨(hp.push (PySem.W.kdv_tup [v])).push (excO C hp.objs.size), g, dr, tk, os⟩) T (X.keeps k) (hlim.keeps k) (hg.keeps k) (hb.keeps k) hbs hget hnx ?_ fun h' tk' dx M => ?_
  · show A.depth + 1 < recursionLimit
    exact hroom
  · have old : ∀ b o, hp.get? b = some o → h'.get? b = some o := fun b o e => M.keep b o (Nat.ne_of_lt (Nat.lt_succ_of_lt (Heap.lt_size e))) (k b o e)
    have z : hp.objs.size + 1 + 1 ≤ dx := by
      have q := M.dbig
      have q : ((hp.push (PySem.W.kdv_tup [v])).push (excO C hp.objs.size)).objs.size ≤ dx := q
      rw [Heap.size_push, Heap.size_push] at q
      exact q
    obtain ⟨t1, ho⟩ := M.obj
    exact ⟨rfl, hq h' tk' (hp.objs.size + 1) dx ⟨old, Nat.le_succ _, ⟨_, _, ho, rfl, rfl, rfl, rfl⟩, Nat.le_trans (Nat.le_trans (Nat.le_succ _) (Nat.le_succ _)) z, M.dne, M.ns⟩⟩
theorem relO_nt {v : V} {v' : Value} (r : RelV v v') (f : Str) : RelO (List.lookup f [(("name" : Str), v)]) (if f = "name" then some v' else none) := by
  by_cases hw : f = "name"
  · subst hw
    rw [if_pos rfl, show List.lookup ("name" : Str) [(("name" : Str), v)] = some v by simp [List.lookup]]
    exact r
  · rw [if_neg hw, show List.lookup f [(("name" : Str), v)] = none by
      have qw : (f == ("name" : Str)) = false := by simpa using hw
      simp [List.lookup, qw]]
    trivial
section
variable {X : Cx} {C fI : Addr}
def tMkNT (C : Addr) (ta : TA) : L2.St → Hp → XK → Prop := fun σ H Q => ta σ H fun vs H1 => ∃ v, vs = [v] ∧ ∀ d, H1 d = none → Q (.ref C) (some d) (upd H1 d (.xd [(("name" : Str), v)]))
theorem pmk_nt {a : Expr} {ta : TA} {p pos : Pos} {k : Nat} (T : NTxt X.prog X.K X.mg C fI) (hr : Room k X.A) (ha : PA X [a] ta) (hg : Gl X "NotThere" := by rfl)
    (he : starEach (a :: []) X.env = (false, eval a X.env) :: starEach [] X.env := by rfl) (hpl : (backTo pos (starEach [] X.env)).any (·.1) = false := by rfl) :
    PMk X (.Call (.Name "NotThere" p) [a] [] pos) (tMkNT C ta) := by
  intro pins s σ H Q I h
  refine wpAny_Call_Name_kw (ld_glob I hg T.gC ?_)
  refine PySem.W.callWith_K (h₀ := X.base) I.ok.mod.kin T.kC (thn (ha.run pos pins s σ H _ I h) fun us s1 hh => ?_) he hpl
  obtain ⟨vs, H1, I1, r1, v, ev, q1⟩ := hh
  subst ev
  refine ⟨I1.kIn, ?_⟩
  obtain ⟨v', rfl, rv⟩ := vals1 r1
  show wpAny _ _ (call (.ref C) [v']) _ _ _
  have hlim := I1.nolimit
  have hgl := I1.mod.glob.keeps I1.bk
  obtain ⟨mb, hbl, hbv⟩ := I1.mod.blt
  have hbl := hbl.keeps I1.bk
  obtain ⟨hp, g, dr, tk, os⟩ := s1
  refine wpAny_call (nt_made T I1.kIn hlim hgl hbl ((hbv _ (by decide)).trans (by decide +kernel)) (by have := hr.dp; omega) fun h' tk' e d M => ?_)
  show MkP X pins σ Q (.ref e) ⟨h', g, dr, tk', os⟩
  obtain ⟨oe, fv, hoe, hc, hd, hdat, h1⟩ := M.obj
  have hns := M.ns
  obtain ⟨G', g1, g2⟩ := restrict h' fun b => decide (b ≠ e)
  have gk : ∀ b, b ≠ e → G'.get? b = h'.get? b := fun b hb => g1 b (decide_eq_true hb)
  have ge : G'.get? e = none := g2 e (by simp)
  have old : ∀ b o, hp.get? b = some o → G'.get? b = some o := fun b o q => (gk b (Nat.ne_of_lt (Nat.lt_of_lt_of_le (Heap.lt_size q) M.new))).trans (M.keep b o q)
  have ob : ObjOk X.prog X.w (upd H1 d (.xd [(("name" : Str), v)])) G' d (.xd [(("name" : Str), v)]) :=
    ⟨_, hns.at (fun o q => (gk d M.dne).trans q), fun f => relO_nt rv f⟩
  have J : Inv X pins σ (upd H1 d (.xd [(("name" : Str), v)])) ⟨G', g, dr, tk', os⟩ := I1.laid (t' := tk') old M.dbig ob
  refine ⟨e, oe, fv, ⟨G', g, dr, tk', os⟩, _, .ref C, some d, rfl, J, fun b o q => ?_, ge, hoe, ⟨hc, hd⟩, hdat, h1, ?_, rfl, I1.bare, raises_own T.exC T.tyC, q1 d (I1.hok.fresh M.dbig)⟩
  · by_cases hb : b = e
    · have q' : G'.get? b = some o := q
      rw [hb, ge] at q'; cases q'
    · exact (gk b hb).symm.trans q
  · rw [upd_ne (Ne.symm M.dne)]
    exact I1.hok.fresh M.new
/-- raise NotThere(e) -/
def tRaiseNT (C : Addr) (W : WX) (ta : TA) : TS := fun _ σ H => tMkNT C ta σ H fun cls d H' => W cls d σ H'
theorem ps_raiseNT {a : Expr} {ta : TA} {W : WX} {p pos pos2 : Pos} {k : Nat} (hc : X.calm = true) (T : NTxt X.prog X.K X.mg C fI) (hr : Room k X.A) (tk : Takes X W) (ha : PA X [a] ta) (hg : Gl X "NotThere" := by rfl)
    (he : starEach (a :: []) X.env = (false, eval a X.env) :: starEach [] X.env := by rfl) (hpl : (backTo pos (starEach [] X.env)).any (·.1) = false := by rfl) :
    PS X (.Raise (some (.Call (.Name "NotThere" p) [a] [] pos)) none pos2) (tRaiseNT C W ta) := ps_raise hc tk (pmk_nt T hr ha hg he hpl)
end
end K10
end
section
set_option maxHeartbeats 4000000
/-! K8: what stays true of a state; look_there, slot, base. -/
namespace K10
open PySem PySem.Spec PyProof.Rows L2
/-- turns over a list that stays, whatever a turn does -/
theorem it_list {K : PySem.W.Frag} {a : Addr} {xs : List V} {H0 : Hp} {Qd : Hp → Prop} {step : V → Hp → (Hp → Prop) → Prop} (Pv : Nat → Hp → Prop) (h0 : Pv 0 H0) (hl : ∀ i H, i ≤ xs.length → Pv i H → SqL K H a xs)
    (hs : ∀ i x H, xs[i]? = some x → Pv i H → step x H (Pv (i + 1))) (hd : ∀ H, Pv xs.length H → Qd H) :
    ∃ W : Nat → Nat → Hp → Prop, (∃ m, W 0 m H0) ∧ ∀ i m H, W i m H →
      ((Itl K a).stop i H ∧ Qd H) ∨ ((Itl K a).go i H ∧ ∃ Nx : Hp → Prop, (∀ H', Nx H' → ∃ m', m' < m ∧ W (i + 1) m' H') ∧ ∀ x H', (Itl K a).yld i H x H' → step x H' Nx) := by
  refine ⟨fun i m H => m = xs.length - i ∧ i ≤ xs.length ∧ Pv i H, ⟨xs.length, by simp, Nat.zero_le _, h0⟩, ?_⟩
  rintro i m H ⟨rfl, hi, p⟩
  have q := hl i H hi p
  by_cases hlt : i < xs.length
  · refine .inr ⟨⟨xs, xs[i], q, by simp [hlt]⟩, Pv (i + 1), fun H' p' => ⟨xs.length - (i + 1), by omega, rfl, hlt, p'⟩, fun x H' y => ?_⟩
    obtain ⟨e, y⟩ := y
    subst e
    exact hs i x _ (y xs q) p
  · have e : i = xs.length := by omega
    subst e
    exact .inl ⟨⟨xs, q, Nat.le_refl _⟩, hd H p⟩
/-! ### what stays true of a state -/
def ansOk (p : Prg) : Ans → Prop
  | .bound n v => n ∈ p.names ∧ okS v = true
  | _ => True
structure StOk (p : Prg) (st : St) : Prop where
  cl : st.counts.length = p.doors.length
  op : ∀ k, k ∈ st.opened ↔ cntAt st k ≠ 0
  ond : st.opened.Nodup
  pub : RowOk p st.pub
  deep : RowOk p st.deep
  dth : ∀ x ∈ st.deep, thereM p st.opened x = true
  snd : (st.slots.map (·.1)).Nodup
  sin : ∀ q ∈ st.slots, q.1.1 ∈ p.names ∧ q.1.2 < 8 ∧ ansOk p q.2
theorem cntAt_none {st : St} {k : Nat} (h : st.counts.length ≤ k) : cntAt st k = 0 := by
  unfold cntAt
  rw [List.getD_eq_getElem?_getD, List.getElem?_eq_none h] <;> rfl
theorem StOk.lt {p : Prg} {st : St} (h : StOk p st) {k : Nat} (hk : k ∈ st.opened) : k < p.doors.length := by
  rcases Nat.lt_or_ge k p.doors.length with q | q
  · exact q
  · exact absurd (cntAt_none (by rw [h.cl]; exact q)) ((h.op k).mp hk)
theorem StOk.o8 {p : Prg} {st : St} (h : StOk p st) (ok : p.Ok) : st.opened.length ≤ 8 := by
  have q := nodup_le st.opened (List.range p.doors.length) h.ond fun k hk => List.mem_range.mpr (h.lt hk)
  rw [List.length_range] at q
  have := ok.d8
  omega
theorem StOk.p8 {p : Prg} {st : St} (h : StOk p st) (ok : p.Ok) : st.pub.length ≤ 8 := Nat.le_trans h.pub.len ok.n8
theorem StOk.de8 {p : Prg} {st : St} (h : StOk p st) (ok : p.Ok) : st.deep.length ≤ 8 := Nat.le_trans h.deep.len ok.n8
theorem StOk.s64 {p : Prg} {st : St} (h : StOk p st) (ok : p.Ok) : st.slots.length ≤ 64 := by
  have q := nodup_le (st.slots.map (·.1)) (p.names.flatMap fun x => (List.range 8).map fun i => (x, i)) h.snd fun q hq => by
    obtain ⟨z, hz, rfl⟩ := List.mem_map.mp hq
    obtain ⟨h1, h2, _⟩ := h.sin z hz
    exact List.mem_flatMap.mpr ⟨z.1.1, h1, List.mem_map.mpr ⟨z.1.2, List.mem_range.mpr h2, rfl⟩⟩
  rw [List.length_map] at q
  have e : ∀ l : List Str, (l.flatMap fun x => (List.range 8).map fun i => (x, i)).length = 8 * l.length := by
    intro l
    induction l with
    | nil => rfl
    | cons x l ih =>
      rw [List.flatMap_cons, List.length_append, ih, List.length_map, List.length_range, List.length_cons]
      omega
  rw [e] at q
  have e2 : p.names.length = p.libs.length := List.length_map ..
  have := ok.n8
  omega
theorem row_names {p : Prg} (ok : p.Ok) : ∀ r ∈ rowsM p, RowOk p r := fun r hr => by
  obtain ⟨d, hd, rfl⟩ := List.mem_map.mp hr
  exact rowM_ok ok fun x hx => by
    rw [List.mem_singleton.mp hx]
    exact ok.doors d hd
theorem first_ok {p : Prg} (ok : p.Ok) : RowOk p (firstM p) := rowM_ok ok fun x hx => by
  rcases List.mem_cons.mp hx with e | hx
  · rw [e]
    unfold mainM
    have n1 := ok.n1
    cases q : p.libs with
    | nil => exact absurd q n1
    | cons l r => exact List.mem_map.mpr ⟨l, by rw [q]; exact List.mem_cons_self, rfl⟩
  · exact ok.early x hx
theorem r8 {p : Prg} (ok : p.Ok) {r : List Str} (h : RowOk p r) : r.length ≤ 8 := Nat.le_trans h.len ok.n8
section
variable {P : Program} {w : World} {K : PySem.W.Frag} {mg : Str → Option Value} {base : Heap}
/-! ### look_there -/
abbrev sLook : Stmt := sPr 9
theorem scLook : FnScope ["self", "name"] ["self", "name"] (defScope sLook) := ⟨rfl, rfl, rfl, by decide +kernel, rfl, by decide +kernel, by decide +kernel⟩
def spLook (K : PySem.W.Frag) (C N : Addr) : Sp := fun vs H Q E => ∃ (A : Adr) (p : Prg) (st : St) (x : Str), vs = [.ref A.p, .str x] ∧ PAt K C H A p st ∧ p.Ok ∧ x ∈ p.names ∧
  (thereM p st.opened x = true → ∀ H', Same H H' → Q .non H') ∧ (thereM p st.opened x = false → ∀ H' d, Same H H' → E (.ref N) (some d) H')
theorem ok_look {f C N fN : Addr} {fd : FuncData} (T : ClsF K C pK) (TN : NTxt P K mg N fN) (F : DefAt K "look_there" "Process.look_there" sLook f fd) (GT : Glb P w K mg base CX0 2 "lib_at" ["program", "name"] (spLibAt K))
    (MI : Mth P w K mg base CX0 1 C "is_there" ["self", "name"] (spIsThere K C)) : FnOk P w K mg base (L2.CX P w) 3 f fd ["self", "name"] (spLook K C N) := by
  obtain ⟨fT, fdT, GT, gT, kT, bT⟩ := GT.ex
  obtain ⟨fI, fdI, GI, mI, bI⟩ := MI.ex
  refine F.ok scLook (fun vs H Q E h => ?_) (fun cdv A outer s H vs Q E hr h => ?_)
  · obtain ⟨A, p, st, x, rfl, _⟩ := h
    rfl
  · obtain ⟨a, p, st, x, rfl, h, ok, hx, k1, k2⟩ := h
    have hr1 : Room 1 _ := hr.mono (by decide)
    obtain ⟨l, el, _, _⟩ := libOf_mem hx
    obtain ⟨ns, hh, hd⟩ := h.hr
    refine ⟨_, pss_cons (ps_expr (pe_call GT hr rfl gT kT bT .nil pass0 (pa_cons (pe_fldK (K := K) (pv 0)) (pa_cons (pv 1) pa_nil))))
      (pss_one (ps_if (pt_not (pt_val (pe_meth (pv 0) T.cl mI GI hr1 bI .nil pass0 (pa_cons (pv 1) pa_nil)))) (pss_one (ps_raiseNT rfl TN hr (takes_of rfl rfl rfl rfl) (by exact (pa_cons (pv 1) pa_nil)))) pss_nil)), ?_⟩
    refine ⟨_, rfl, a.p, C, a.dx, _, _, rfl, h.ins, T.cl, fdn T, fdl (i := 1) rfl, _, rfl, _, p, x, l, rfl, h.prog, ok, el, fun H1 v s1 _ => ?_⟩
    refine ⟨_, rfl, a.p, a.dx, _, rfl, s1 _ _ h.ins, lookup_zip_none (by decide +kernel), _, rfl, a.p, a.dx, a.he, _, ns, x, rfl, s1 _ _ h.ins, rfl, s1 _ _ hh, fun H2 s2 => ⟨_, rfl, ?_⟩⟩
    rw [hd]
    cases e : thereM p st.opened x with
    | true => exact iteF (k1 e _ (s1.trans s2))
    | false => exact iteT ⟨_, rfl, _, rfl, fun d hd => k2 e _ d ((s1.trans s2).trans (same_new hd))⟩
/-! ### slot -/
abbrev sSlot : Stmt := sPr 11
theorem scSlot : FnScope ["self", "name", "i"] ["self", "name", "i"] (defScope sSlot) := ⟨rfl, rfl, rfl, by decide +kernel, rfl, by decide +kernel, by decide +kernel⟩
def AnsIs (K : PySem.W.Frag) (H : Hp) (v : V) : Option Ans → Prop
  | some a => Dp K H v (ansD a)
  | none => v = .non
def spSlot (K : PySem.W.Frag) (C N : Addr) : Sp := fun vs H Q E => ∃ (A : Adr) (p : Prg) (st : St) (x : Str) (i : Nat) (u : Str × Str × Bool), vs = [.ref A.p, .str x, .int (i : Int)] ∧ PAt K C H A p st ∧ p.Ok ∧ useAt p x i = some u ∧
  (thereM p st.opened x = true → ∀ H' v, Same H H' → AnsIs K H' v (slotM st x i) → Q v H') ∧ (thereM p st.opened x = false → ∀ H' d, Same H H' → E (.ref N) (some d) H')
theorem slotK_inj {a b : Str × Nat} (h : slotK a = slotK b) : a = b := by
  unfold slotK at h
  injection h with h1 h2
  injection h2 with h2 _
  injection h1 with h1
  injection h2 with h2
  exact Prod.ext h1 (by omega)
theorem slots_val {K : PySem.W.Frag} {H : Hp} {q : Str × Nat} : ∀ {kvs : List (List Key × V)} {ss : List ((Str × Nat) × Ans)}, SlAre K H kvs ss → AnsIs K H ((valV kvs (slotK q)).getD .non) ((ss.find? fun z => decide (z.1 = q)).map (·.2))
  | _, _, .nil => rfl
  | _, _, .cons (a := e) (b := z) (l₁ := kvs) (l₂ := ss) r t => by
    by_cases c : z.1 = q
    · rw [valV_pos (by rw [r.1, c]), List.find?_cons_of_pos (by simp [c])]
      exact r.2
    · rw [valV_neg (by rw [r.1]; exact fun h => c (slotK_inj h)), List.find?_cons_of_neg (by simp [c])]
      exact slots_val t
theorem ok_slot {f C N fN : Addr} {fd : FuncData} (T : ClsF K C pK) (F : DefAt K "slot" "Process.slot" sSlot f fd) (GU : Glb P w K mg base CX0 3 "use_at" ["program", "name", "number"] (spUseAt K))
    (ML : Mth P w K mg base (L2.CX P w) 3 C "look_there" ["self", "name"] (spLook K C N)) : FnOk P w K mg base (L2.CX P w) 4 f fd ["self", "name", "i"] (spSlot K C N) := by
  obtain ⟨fU, fdU, GU, gU, kU, bU⟩ := GU.ex
  obtain ⟨fL, fdL, GL, mL, bL⟩ := ML.ex
  refine F.ok scSlot (fun vs H Q E h => ?_) (fun cdv A outer s H vs Q E hr h => ?_)
  · obtain ⟨A, p, st, x, i, u, rfl, _⟩ := h
    rfl
  · obtain ⟨a, p, st, x, i, u, rfl, h, ok, hu, k1, k2⟩ := h
    have hx : x ∈ p.names := by
      obtain ⟨l, el, _⟩ := Option.bind_eq_some_iff.mp hu
      obtain ⟨h1, h2⟩ := libOf_in el
      exact List.mem_map.mpr ⟨l, h1, h2⟩
    refine ⟨_, pss_cons (ps_expr (pe_meth (E := E) (pv 0) T.cl mL GL hr bL .nil (passes_call (takes_of rfl rfl rfl rfl) (fun _ _ _ _ h => h)) (pa_cons (pv 1) pa_nil)))
      (pss_cons (ps_expr (pe_call GU hr rfl gU kU bU .nil pass0 (pa_cons (pe_fldK (K := K) (pv 0)) (pa_cons (pv 1) (pa_cons (pv 2) pa_nil)))))
      (pss_one (ps_ret (pe_dget1 (un1 hr) (pe_fldK (K := K) (pv 0)) (pe_tup (pa_cons (pv 1) (pa_cons (pv 2) pa_nil))) ⟨rfl, rfl, rfl, rfl⟩)))), ?_⟩
    refine ⟨_, rfl, a.p, a.dx, _, rfl, h.ins, lookup_zip_none (by decide +kernel), _, rfl, a, p, st, x, rfl, h, ok, hx, fun e H1 s1 => ?_, fun e H1 d s1 => k2 e H1 d s1⟩
    have h1 := h.same ok s1
    refine ⟨_, rfl, a.p, C, a.dx, _, _, rfl, h1.ins, T.cl, fdn T, fdl (i := 1) rfl, _, rfl, _, rfl, _, p, x, i, u, rfl, h1.prog, ok, hu, fun H2 v s2 _ => ?_⟩
    have h2 := h1.same ok s2
    obtain ⟨kvs, hs, hrel⟩ := h2.slots
    refine ⟨_, rfl, a.p, C, a.dx, _, _, rfl, h2.ins, T.cl, fdn T, fdl (i := 8) rfl, a.sl, rfl, .inr ⟨_, .inl hs⟩, ?_⟩
    refine ⟨_, rfl, _, rfl, (by show 2 ≤ sizeLine; decide), fun t ht => ?_⟩
    have s3 : Same H2 (upd H2 t (.tup [.str x, .int (i : Int)])) := same_new ht
    refine ⟨_, .t (k := slotK (x, i)) (s3 _ _ hs) upd_same, k1 e _ _ ((s1.trans s2).trans s3) ?_⟩
    exact slots_val (slAre_keep (fun _ _ z => same_sqT s3 z) hrel)
end
end K10
end
section
set_option maxHeartbeats 4000000
/-! K9: base; looks; found. -/
namespace K10
open PySem PySem.Spec PyProof.Rows L2
section
variable {P : Program} {w : World} {K : PySem.W.Frag} {mg : Str → Option Value} {base : Heap}
/-! ### base -/
abbrev sBase : Stmt := sPr 12
theorem scBase : FnScope ["self"] ["self"] (defScope sBase) := ⟨rfl, rfl, rfl, by decide +kernel, rfl, by decide +kernel, by decide +kernel⟩
def baseD (st : St) : PyData := .tuple [.tuple (st.counts.map .int), .tuple (st.opened.map fun k : Nat => .int (k : Int)), .tuple (st.pub.map .str), .tuple ((srt st.deep).map .str)]
def spBase (K : PySem.W.Frag) (C : Addr) : Sp := fun vs H Q _ => ∃ (A : Adr) (p : Prg) (st : St), vs = [.ref A.p] ∧ PAt K C H A p st ∧ p.Ok ∧ StOk p st ∧ ∀ H' v, Same H H' → Dp K H' v (baseD st) → Q v H'
theorem dpa_nats {K : PySem.W.Frag} {H : Hp} : ∀ xs : List Nat, DpAll K H (xs.map fun k : Nat => V.int (k : Int)) (xs.map fun k : Nat => PyData.int (k : Int))
  | [] => .nil
  | x :: xs => .cons (.int _) (dpa_nats xs)
theorem ok_base {f C : Addr} {fd : FuncData} (B : Bl mg) (T : ClsF K C pK) (F : DefAt K "base" "Process.base" sBase f fd) (MD : Mth P w K mg base CX0 1 C "deep" ["self"] (spDeep K C)) : FnOk P w K mg base CX0 2 f fd ["self"] (spBase K C) := by
  obtain ⟨fD, fdD, GD, mD, bD⟩ := MD.ex
  refine F.ok scBase (fun vs H Q E h => ?_) (fun cdv A outer s H vs Q E hr h => ?_)
  · obtain ⟨A, p, st, rfl, _⟩ := h
    rfl
  · obtain ⟨a, p, st, rfl, h, ok, so, k⟩ := h
    have tf := fun (e : Expr) (x : e = e) => x
    refine ⟨_, PSs.nox (pss_one (ps_ret (pe_tup (pa_cons (pe_callTy (tupK (K := K)) (by rfl) B.tuple bt_tuple (pa_cons (pe_fldK (K := K) (pv 0)) pa_nil)) (pa_cons (pe_callTy (tupK (K := K)) (by rfl) B.tuple bt_tuple (pa_cons (pe_fldK (K := K) (pv 0)) pa_nil))
      (pa_cons (pe_callTy (tupK (K := K)) (by rfl) B.tuple bt_tuple (pa_cons (pe_fldK (K := K) (pv 0)) pa_nil)) (pa_cons (pe_callTy (tupK (K := K)) (by rfl) B.tuple bt_tuple (pa_cons (pe_meth0 (pv 0) T.cl mD GD hr bD .nil pass0) pa_nil)) pa_nil))))))), ?_⟩
    refine ⟨_, rfl, a.p, C, a.dx, _, _, rfl, h.ins, T.cl, fdn T, fdl (i := 4) rfl, a.cn, _, rfl, .inl ⟨SqL.of h.cnts, fun t1 n1 => ?_⟩⟩
    have s1 : Same H (upd H t1 (.tup (st.counts.map V.int))) := same_new n1
    have h1 := h.same ok s1
    have d1 : Dp K (upd H t1 (.tup (st.counts.map V.int))) (.ref t1) (.tuple (st.counts.map .int)) := .tup (SqT.of upd_same) (dpa_ints _)
    generalize upd H t1 (.tup (st.counts.map V.int)) = H1 at s1 h1 d1 ⊢
    refine ⟨_, rfl, a.p, C, a.dx, _, _, rfl, h1.ins, T.cl, fdn T, fdl (i := 5) rfl, a.op, _, rfl, .inl ⟨SqL.of h1.opn, fun t2 n2 => ?_⟩⟩
    have s2 := same_new (o := .tup (st.opened.map fun k : Nat => V.int (k : Int))) n2
    have h2 := h1.same ok s2
    have d2 : Dp K (upd H1 t2 (.tup (st.opened.map fun k : Nat => V.int (k : Int)))) (.ref t2) (.tuple (st.opened.map fun k : Nat => .int (k : Int))) := .tup (SqT.of upd_same) (dpa_nats _)
    have d1 := dp_same s2 d1
    generalize upd H1 t2 (.tup (st.opened.map fun k : Nat => V.int (k : Int))) = H2 at s2 h2 d1 d2 ⊢
    refine ⟨_, rfl, a.p, C, a.dx, _, _, rfl, h2.ins, T.cl, fdn T, fdl (i := 6) rfl, a.pu, _, rfl, .inl ⟨SqL.of h2.pub, fun t3 n3 => ?_⟩⟩
    have s3 := same_new (o := .tup (st.pub.map V.str)) n3
    have h3 := h2.same ok s3
    have d3 : Dp K (upd H2 t3 (.tup (st.pub.map V.str))) (.ref t3) (.tuple (st.pub.map .str)) := .tup (SqT.of upd_same) (dpa_strs _)
    have d1 := dp_same s3 d1
    have d2 := dp_same s3 d2
    generalize upd H2 t3 (.tup (st.pub.map V.str)) = H3 at s3 h3 d1 d2 d3 ⊢
    refine ⟨_, rfl, a.p, a.dx, _, rfl, h3.ins, lookup_zip_none (by decide +kernel), a, p, st, rfl, h3, (by have := so.de8 ok; omega), fun H4 l s4 nl hl => ?_⟩
    refine ⟨l, _, rfl, .inl ⟨SqL.of hl, fun t4 n4 => ?_⟩⟩
    have s5 := same_new (o := .tup ((srt st.deep).map V.str)) n4
    have d4 : Dp K (upd H4 t4 (.tup ((srt st.deep).map V.str))) (.ref t4) (.tuple ((srt st.deep).map .str)) := .tup (SqT.of upd_same) (dpa_strs _)
    refine ⟨(by show 4 ≤ sizeLine; decide), fun t n => ?_⟩
    have s6 := same_new (o := .tup [.ref t1, .ref t2, .ref t3, .ref t4]) n
    have s46 := (s4.trans s5).trans s6
    exact k _ _ (((s1.trans s2).trans s3).trans s46) (.tup (SqT.of upd_same) (.cons (dp_same s46 d1) (.cons (dp_same s46 d2) (.cons (dp_same s46 d3) (.cons (dp_same s6 d4) .nil)))))
/-! ### looks -/
abbrev sLooks : Stmt := sPr 10
theorem scLooks : FnScope ["self", "name", "other", "near", "found", "number"] ["self", "name"] (defScope sLooks) := ⟨rfl, rfl, rfl, by decide +kernel, rfl, by decide +kernel, by decide +kernel⟩
def spLooks (K : PySem.W.Frag) (C : Addr) : Sp := fun vs H Q _ => ∃ (A : Adr) (p : Prg) (st : St) (x : Str), vs = [.ref A.p, .str x] ∧ PAt K C H A p st ∧ p.Ok ∧ StOk p st ∧ x ∈ p.names ∧ thereM p st.opened x = true ∧
  ∀ (H' : Hp) (l : Addr), Same H H' → H l = none → H' l = some (.lst ((looksM p st x).map V.str)) → Q (.ref l) H'
theorem rowAt_in {p : Prg} {k : Nat} (hk : k < p.doors.length) : (rowsM p)[k]? = some (rowAt p k) := by
  have e : k < (rowsM p).length := by unfold rowsM; rw [List.length_map]; exact hk
  unfold rowAt
  rw [List.getD_eq_getElem?_getD, List.getElem?_eq_getElem e] <;> rfl
theorem near_len {p : Prg} {st : St} (ok : p.Ok) (so : StOk p st) (x : Str) : (nearM p st x).length ≤ 64 := by
  have go : ∀ l : List Nat, (∀ k ∈ l, (rowAt p k).length ≤ 8) → (l.flatMap fun k => rowAt p k).length ≤ l.length * 8 := by
    intro l
    induction l with
    | nil => intro _; exact Nat.le_refl _
    | cons k l ih =>
      intro hl
      have q1 := ih fun z hz => hl z (List.mem_cons_of_mem _ hz)
      have q2 := hl k List.mem_cons_self
      rw [List.flatMap_cons, List.length_append, List.length_cons]
      omega
  have q := go (st.opened.filter fun k => decide (x ∈ rowAt p k)) fun k hk => r8 ok (row_names ok _ (List.mem_of_getElem? (rowAt_in (so.lt (List.mem_filter.mp hk).1))))
  have l2 : (st.opened.filter fun k => decide (x ∈ rowAt p k)).length ≤ 8 := Nat.le_trans (List.length_filter_le _ _) (so.o8 ok)
  unfold nearM
  omega
theorem rd_cat {K : PySem.W.Frag} {C : Addr} {H : Hp} {a : Adr} {p : Prg} {st : St} {x : Str} {D : Addr} {near : List Str} {σ : L2.St} {R : VK} (T : ClsF K C pK) (h : PAt K C H a p st) (e0 : σ[0]? = some (some (.ref a.p))) (e1 : σ[1]? = some (some (.str x))) (e3 : σ[3]? = some (some (.ref D)))
    (hD : H D = some (.lst (near.map V.str))) (hz : near.length + st.pub.length ≤ sizeLine) (k : ∀ b H', Same H H' → H b = none → H' b = some (.lst ((if x ∈ st.deep then near ++ st.pub else st.pub ++ near).map V.str)) → R (.ref b) H') :
    tIf (tTest (tOp (rIn K false) (tVar 1) (tFld K (tVar 0) "own_deep"))) (tOp rCat (tVar 3) (tFld K (tVar 0) "own_public")) (tOp rCat (tFld K (tVar 0) "own_public") (tVar 3)) σ H R := by
  refine ⟨_, e1, _, e0, a.p, C, a.dx, _, _, rfl, h.ins, T.cl, fdn T, fdl (i := 7) rfl, rIn_strs (SqL.of h.deep) ⟨_, rfl, ?_⟩⟩
  by_cases c : x ∈ st.deep
  · rw [decide_eq_true c]
    rw [if_pos c] at k
    refine iteT ⟨_, e3, _, e0, a.p, C, a.dx, _, _, rfl, h.ins, T.cl, fdn T, fdl (i := 6) rfl, D, a.pu, _, _, rfl, rfl, hD, h.pub, by rw [List.length_map, List.length_map]; exact hz, fun b nb => k b _ (same_new nb) nb ?_⟩
    rw [upd_same, List.map_append]
  · rw [decide_eq_false c]
    rw [if_neg c] at k
    refine iteF ⟨_, e0, a.p, C, a.dx, _, _, rfl, h.ins, T.cl, fdn T, fdl (i := 6) rfl, _, e3, a.pu, D, _, _, rfl, rfl, h.pub, hD, by rw [List.length_map, List.length_map]; omega, fun b nb => k b _ (same_new nb) nb ?_⟩
    rw [upd_same, List.map_append]
theorem ok_looks {f C N : Addr} {fd : FuncData} (B : Bl mg) (T : ClsF K C pK) (F : DefAt K "looks" "Process.looks" sLooks f fd) (ML : Mth P w K mg base (L2.CX P w) 3 C "look_there" ["self", "name"] (spLook K C N)) : FnOk P w K mg base CX0 4 f fd ["self", "name"] (spLooks K C) := by
  obtain ⟨fL, fdL, GL, mL, bL⟩ := ML.ex
  refine F.ok scLooks (fun vs H Q E h => ?_) (fun cdv A outer s H vs Q E hr h => ?_)
  · obtain ⟨A, p, st, x, rfl, _⟩ := h
    rfl
  · obtain ⟨a, p, st, x, rfl, h, ok, so, hx, ht, k⟩ := h
    refine ⟨_, PSs.nox (pss_cons (ps_expr (pe_meth (E := E0) (pv 0) T.cl mL GL hr bL .nil passL (pa_cons (pv 1) pa_nil)))
      (pss_cons (ps_if (pt_cmpR (inK (K := K)) (pv 1) (pe_fldK (K := K) (pv 0)) (by rfl)) (pss_one (ps_ret (pe_callTy (lstK (K := K)) (by rfl) B.list bt_list (pa_cons (pe_fldK (K := K) (pv 0)) pa_nil)))) pss_nil)
      (pss_cons (ps_setLc2 (i := 3) (own := [("number", 5), ("other", 2)]) (vs1 := [2]) (g := gName 5) (g1 := gName 2) (tt1 := tYes) rfl scLooks.nd rfl rfl (sw_true rfl rfl rfl (by decide +kernel)) (pi_listK (K := K) (pe_fldK (K := K) (pv 0)))
        (blkOk_by (N := ["self", "name", "other", "near", "found", "number"]) (sc := defScope sLooks) (by decide +kernel)) (by decide) (fun _ _ _ _ _ => pg_name (i := 5) scLooks.nd rfl (Or.inl rfl))
        (fun _ _ _ _ _ => pts_one (pt_cmpR (inK (K := K)) (pv 1) (pe_ix (ixlK (K := K)) (pe_fldK (K := K) (pv 0)) (pv 5) (fun _ _ => rfl)) (by rfl)))
        (fun _ _ _ _ _ => pi_listK (K := K) (pe_ix (ixlK (K := K)) (pe_fldK (K := K) (pv 0)) (pv 5) (fun _ _ => rfl))) (fun _ _ _ _ _ => pg_name (i := 2) scLooks.nd rfl (Or.inl rfl)) (fun _ _ _ _ _ => pts_nil) (fun _ _ _ _ _ => pv 2))
      (pss_cons (ps_set (i := 4) scLooks.nd rfl (Or.inl rfl) (pe_lst pa_nil))
      (pss_cons (ps_for PassesOwn.never rfl (pi_listK (K := K) (pe_ifExp (pt_cmpR (inK (K := K)) (pv 1) (pe_fldK (K := K) (pv 0)) (by rfl)) (pe_op op_cat (pv 3) (pe_fldK (K := K) (pv 0))) (pe_op op_cat (pe_fldK (K := K) (pv 0)) (pv 3)))) (pg_name (i := 2) scLooks.nd rfl (Or.inl rfl))
        (pss_one (ps_if (pt_cmpR (ninK (K := K)) (pv 2) (pv 4) (by rfl)) (pss_one (ps_expr (pe_bm PySem.F.plainAttrs_list PySem.F.slot_list_append PySem.F.type_list_append mt_append (pv 4) (pa_cons (pv 2) pa_nil)))) pss_nil)))
      (pss_one (ps_ret (pv 4)))))))), ?_⟩
    refine ⟨_, rfl, a.p, a.dx, _, rfl, h.ins, lookup_zip_none (by decide +kernel), _, rfl, a, p, st, x, rfl, h, ok, hx, fun _ H1 s1 => ?_, fun e => by rw [ht] at e; cases e⟩
    have h1 := h.same ok s1
    refine ⟨_, rfl, _, rfl, a.p, C, a.dx, _, _, rfl, h1.ins, T.cl, fdn T, fdl (i := 2) rfl, rIn_strs (SqL.of h1.first) ⟨_, rfl, ?_⟩⟩
    by_cases c : x ∈ firstM p
    · rw [decide_eq_true c]
      refine iteT ⟨_, rfl, a.p, C, a.dx, _, _, rfl, h1.ins, T.cl, fdn T, fdl (i := 6) rfl, a.pu, _, rfl, .inl (SqL.of h1.pub), fun l nl => k _ l (s1.trans (same_new nl)) (s1.free nl) ?_⟩
      rw [upd_same]
      unfold looksM
      rw [if_pos c]
    · rw [decide_eq_false c]
      refine iteF ?_
      have lk : looksM p st x = addAll [] (if x ∈ st.deep then nearM p st x ++ st.pub else st.pub ++ nearM p st x) := by unfold looksM; rw [if_neg c]
      rw [lk] at k
      -- near
      refine ⟨_, rfl, a.p, C, a.dx, _, _, rfl, h1.ins, T.cl, fdn T, fdl (i := 5) rfl, a.op, rfl, ⟨_, SqL.of h1.opn⟩, fun D hD => ?_⟩
      refine it_list (K := K) (a := a.op) (xs := st.opened.map fun k : Nat => V.int (k : Int)) (fun i H' => Same H1 H' ∧ H' D = some (.lst ((((st.opened.take i).filter fun k => decide (x ∈ rowAt p k)).flatMap fun k => rowAt p k).map V.str)))
        ⟨same_new hD, upd_same⟩ (fun i H' _ z => SqL.of (z.1 _ _ h1.opn)) ?_ ?_
      · rintro i v H' hv ⟨s2, hacc⟩
        rw [List.getElem?_map] at hv
        obtain ⟨j, hj, rfl⟩ := Option.map_eq_some_iff.mp hv
        have h2 := h1.same ok s2
        have jlt := so.lt (List.mem_of_getElem? hj)
        obtain ⟨rj, hrj, _, hrow⟩ := paired_get h2.each (rowAt_in jlt)
        have at1 : atI (a.rs.map V.ref) (j : Int) = some (V.ref rj) := atI_nat (j := j) (by rw [List.getElem?_map, hrj] <;> rfl)
        refine ⟨rfl, _, rfl, _, rfl, a.p, C, a.dx, _, _, rfl, h2.ins, T.cl, fdn T, fdl (i := 3) rfl, _, rfl, a.ro, _, _, V.ref rj, rfl, rfl, SqL.of h2.rows, at1, rIn_strs (SqL.of hrow) ⟨_, rfl, ?_⟩⟩
        have step : st.opened.take (i + 1) = st.opened.take i ++ [j] := by rw [List.take_succ, hj] <;> rfl
        by_cases c2 : x ∈ rowAt p j
        · rw [decide_eq_true c2]
          refine iteT ⟨_, rfl, a.p, C, a.dx, _, _, rfl, h2.ins, T.cl, fdn T, fdl (i := 3) rfl, _, rfl, a.ro, _, _, V.ref rj, rfl, rfl, SqL.of h2.rows, at1, rj, rfl, ⟨_, SqL.of hrow⟩, ?_⟩
          refine it_list (K := K) (a := rj) (xs := (rowAt p j).map V.str) (fun q H' => Same H1 H' ∧ H' D = some (.lst ((((st.opened.take i).filter fun k => decide (x ∈ rowAt p k)).flatMap fun k => rowAt p k).map V.str ++ ((rowAt p j).take q).map V.str)) ∧ H' rj = some (.lst ((rowAt p j).map V.str)))
            ⟨s2, by rw [hacc, List.take_zero, List.map_nil, List.append_nil], hrow⟩ (fun q H' _ z => SqL.of z.2.2) ?_ ?_
          · rintro q v H3 hv ⟨s3, hacc3, hrow3⟩
            rw [List.getElem?_map] at hv
            obtain ⟨y, hy, rfl⟩ := Option.map_eq_some_iff.mp hv
            have ne : rj ≠ D := fun z => by
              obtain ⟨rj2, hrj2, _, hrow2⟩ := paired_get h1.each (rowAt_in jlt)
              have e : rj2 = rj := Option.some.inj (hrj2.symm.trans hrj)
              rw [e, z, hD] at hrow2
              cases hrow2
            refine ⟨rfl, _, rfl, _, hacc3, ?_, same_at s3 hD, ?_, ?_⟩
            · rw [List.length_append, List.length_map, List.length_map]
              have l1 : (((st.opened.take i).filter fun k => decide (x ∈ rowAt p k)).flatMap fun k => rowAt p k).length ≤ 8 * 8 := by
                have o8 := so.o8 ok
                have l2 : ((st.opened.take i).filter fun k => decide (x ∈ rowAt p k)).length ≤ 8 := Nat.le_trans (List.length_filter_le _ _) (by rw [List.length_take]; omega)
                have go : ∀ l : List Nat, (∀ k ∈ l, (rowAt p k).length ≤ 8) → (l.flatMap fun k => rowAt p k).length ≤ l.length * 8 := by
                  intro l
                  induction l with
                  | nil => intro _; exact Nat.le_refl _
                  | cons k l ih =>
                    intro hl
                    have q1 := ih fun z hz => hl z (List.mem_cons_of_mem _ hz)
                    have q2 := hl k List.mem_cons_self
                    rw [List.flatMap_cons, List.length_append, List.length_cons]
                    omega
                have q := go ((st.opened.take i).filter fun k => decide (x ∈ rowAt p k)) fun k hk => by
                  have := so.lt (List.mem_of_mem_take (List.mem_filter.mp hk).1)
                  exact r8 ok (row_names ok _ (List.mem_of_getElem? (rowAt_in this)))
                omega
              have l3 : (rowAt p j).length ≤ 8 := r8 ok (row_names ok _ (List.mem_of_getElem? (rowAt_in jlt)))
              rw [List.length_take, sizeLine_eq]
              omega
            · rw [upd_same, List.take_succ, hy, List.append_assoc, List.map_append] <;> rfl
            · rw [upd_ne ne]
              exact hrow3
          · rintro H3 ⟨s3, hacc3, _⟩
            refine ⟨s3, ?_⟩
            rw [hacc3, step, List.filter_append, List.filter_cons_of_pos (by simp [c2]), List.flatMap_append, List.map_append, List.length_map, List.take_length]
            simp
        · rw [decide_eq_false c2]
          refine iteF ⟨s2, ?_⟩
          rw [step, List.filter_append, List.filter_cons_of_neg (by simp [c2]), List.filter_nil, List.append_nil]
          exact hacc
      · rintro H2 ⟨s2, hacc⟩
        have e1 : st.opened.take (st.opened.map fun k : Nat => V.int (k : Int)).length = st.opened := by rw [List.length_map, List.take_length]
        rw [e1] at hacc
        have hacc : H2 D = some (.lst ((nearM p st x).map V.str)) := hacc
        have h2 := h1.same ok s2
        refine ⟨Nat.zero_le _, fun L nL => ?_⟩
        have s3 : Same H2 (upd H2 L (.lst [])) := same_new nL
        have hL : upd H2 L (.lst []) L = some (.lst []) := upd_same
        generalize upd H2 L (.lst []) = H3 at s3 hL ⊢
        have h3 := h2.same ok s3
        have hacc3 := s3 _ _ hacc
        have nL0 : H1 L = none := s2.free nL
        have n64 : (nearM p st x).length ≤ 64 := near_len ok so x
        refine rd_cat (x := x) T h3 rfl rfl rfl hacc3 (by have := so.p8 ok; rw [sizeLine_eq]; omega) fun b H4 s4 nb hb => ?_
        have ex : (if x ∈ st.deep then nearM p st x ++ st.pub else st.pub ++ nearM p st x).length ≤ 72 := by
          have := so.p8 ok
          split <;> rw [List.length_append] <;> omega
        generalize (if x ∈ st.deep then nearM p st x ++ st.pub else st.pub ++ nearM p st x) = cs at hb k ex
        refine ⟨b, rfl, ⟨_, SqL.of hb⟩, ?_⟩
        have bL : b ≠ L := fun z => by
          rw [z, hL] at nb
          cases nb
        have s14 : Same H1 H4 := (s2.trans s3).trans s4
        refine for_list (K := K) (a := b) (xs := cs.map V.str) (fun i σ H' => (∃ v, σ = [some (.ref a.p), some (.str x), v, some (.ref D), some (.ref L), none]) ∧ Same H1 H' ∧ H' b = some (.lst (cs.map V.str)) ∧ H' L = some (.lst ((addAll [] (cs.take i)).map V.str)))
          ⟨⟨none, rfl⟩, s14, hb, s4 _ _ hL⟩ (fun i σ H' _ z => SqL.of z.2.2.1) ?_ ?_
        · rintro i v σ H' hv ⟨⟨v0, rfl⟩, s5, hb5, hL5⟩
          rw [List.getElem?_map] at hv
          obtain ⟨y, hy, rfl⟩ := Option.map_eq_some_iff.mp hv
          have step : addAll [] (cs.take (i + 1)) = addN (addAll [] (cs.take i)) y := by rw [List.take_succ, hy, ← addAll_snoc] <;> rfl
          refine ⟨_, rfl, _, rfl, rNin_strs (SqL.of hL5) ⟨_, rfl, ?_⟩⟩
          by_cases c4 : y ∈ addAll [] (cs.take i)
          · rw [decide_eq_true c4]
            refine iteF ⟨⟨_, rfl⟩, s5, hb5, ?_⟩
            rw [step, addN, if_pos c4]
            exact hL5
          · rw [decide_eq_false c4]
            refine iteT ⟨_, rfl, .inl ⟨rfl, _, SqL.of hL5⟩, _, rfl, L, _, _, rfl, rfl, hL5, ?_, ⟨_, rfl⟩, same_at s5 nL0, ?_, ?_⟩
            · have q := addAll_len (cs.take i) []
              rw [List.length_take] at q
              simp only [List.length_nil] at q
              rw [List.length_map, sizeLine_eq]
              omega
            · rw [upd_ne bL]
              exact hb5
            · rw [upd_same, step, addN, if_neg c4, List.map_append] <;> rfl
        · rintro σ H' ⟨⟨v0, rfl⟩, s5, hb5, hL5⟩
          rw [List.length_map, List.take_length] at hL5
          exact ⟨_, rfl, k _ L (s1.trans s5) (s1.free nL0) hL5⟩
end
end K10
end
section
set_option maxHeartbeats 4000000
/-! KA: the text's constants; found, call. -/
namespace K10
open PySem PySem.Spec PyProof.Rows L2
/-- a global name of data -/
def GlbD (K : PySem.W.Frag) (mg : Str → Option Value) (x : Str) (d : PyData) : Prop := ∃ v u, mg x = some u ∧ RelV v u ∧ ∀ H, Dp K H v d
structure Cst (K : PySem.W.Frag) (mg : Str → Option Value) : Prop where
  bound : GlbD K mg "BOUND" (.str "bound")
  opened : GlbD K mg "OPENED" (ansD .opened)
  closed : GlbD K mg "CLOSED" (ansD .closed)
  full : GlbD K mg "FULL" (ansD .full)
  shut : GlbD K mg "SHUT" (ansD .shut)
  nobody : GlbD K mg "NOBODY" (ansD .nobody)
  lost : GlbD K mg "LOST" (ansD .lost)
  torn : GlbD K mg "TORN" (ansD .torn)
  away : GlbD K mg "AWAY" (ansD .away)
  most : GlbD K mg "MOST" (.int 2)
  glob : GlbD K mg "GLOBAL" (.str "global")
  deep : GlbD K mg "DEEP" (.str "deep")
  opn : GlbD K mg "OPEN" (.str "open")
  cal : GlbD K mg "CALL" (.str "call")
theorem GlbD.str {K : PySem.W.Frag} {mg : Str → Option Value} {x y : Str} (h : GlbD K mg x (.str y)) : ∃ u, mg x = some u ∧ RelV (.str y) u := by
  obtain ⟨v, u, e, r, d⟩ := h
  have q := dp_strE (d (fun _ => none))
  subst q
  exact ⟨u, e, r⟩
theorem GlbD.int {K : PySem.W.Frag} {mg : Str → Option Value} {x : Str} {y : Int} (h : GlbD K mg x (.int y)) : ∃ u, mg x = some u ∧ RelV (.int y) u := by
  obtain ⟨v, u, e, r, d⟩ := h
  have q := dp_intE (d (fun _ => none))
  subst q
  exact ⟨u, e, r⟩
theorem looks_names {p : Prg} {st : St} (ok : p.Ok) (so : StOk p st) {x y : Str} (h : y ∈ looksM p st x) : y ∈ p.names := by
  have nn : ∀ z, z ∈ nearM p st x → z ∈ p.names := fun z hz => by
    obtain ⟨k, hk, hz⟩ := List.mem_flatMap.mp hz
    exact (row_names ok _ (List.mem_of_getElem? (rowAt_in (so.lt (List.mem_filter.mp hk).1)))).sub z hz
  unfold looksM at h
  split at h
  · exact so.pub.sub y h
  · rw [addAll_mem] at h
    rcases h with h | h
    · cases h
    · split at h
      · exact (List.mem_append.mp h).elim (nn y) (so.pub.sub y)
      · exact (List.mem_append.mp h).elim (so.pub.sub y) (nn y)
theorem looks_len {p : Prg} {st : St} (ok : p.Ok) (so : StOk p st) (x : Str) : (looksM p st x).length ≤ 72 := by
  have h1 := near_len ok so x
  have h2 := so.p8 ok
  unfold looksM
  split
  · omega
  · have q := addAll_len (if x ∈ st.deep then nearM p st x ++ st.pub else st.pub ++ nearM p st x) []
    simp only [List.length_nil] at q
    split at q <;> rw [List.length_append] at q <;> simp_all <;> omega
section
variable {P : Program} {w : World} {K : PySem.W.Frag} {mg : Str → Option Value} {base : Heap}
/-! ### found -/
abbrev sFound : Stmt := sPr 20
theorem scFound : FnScope ["self", "name", "i", "use", "other", "version"] ["self", "name", "i"] (defScope sFound) := ⟨rfl, rfl, rfl, by decide +kernel, rfl, by decide +kernel, by decide +kernel⟩
def spFound (K : PySem.W.Frag) (C : Addr) : Sp := fun vs H Q _ => ∃ (A : Adr) (p : Prg) (st : St) (x : Str) (i : Nat) (u : Str × Str × Bool), vs = [.ref A.p, .str x, .int (i : Int)] ∧ PAt K C H A p st ∧ p.Ok ∧ StOk p st ∧ useAt p x i = some u ∧ thereM p st.opened x = true ∧
  ∀ H' v, Same H H' → Dp K H' v (ansD (foundM p st x i)) → Q v H'
theorem use_name {p : Prg} {x : Str} {i : Nat} {u : Str × Str × Bool} (h : useAt p x i = some u) : x ∈ p.names := by
  obtain ⟨l, el, _⟩ := Option.bind_eq_some_iff.mp h
  obtain ⟨h1, h2⟩ := libOf_in el
  exact List.mem_map.mpr ⟨l, h1, h2⟩
theorem use_lt {p : Prg} (ok : p.Ok) {x : Str} {i : Nat} {u : Str × Str × Bool} (h : useAt p x i = some u) : i < 8 := by
  obtain ⟨l, el, e2⟩ := Option.bind_eq_some_iff.mp h
  obtain ⟨h1, h2⟩ := libOf_in el
  have := (List.getElem?_eq_some_iff.mp e2).1
  have := (ok.l8 l h1).2.2
  omega
theorem ok_found {f C : Addr} {fd : FuncData} (K0 : Cst K mg) (T : ClsF K C pK) (F : DefAt K "found" "Process.found" sFound f fd) (GU : Glb P w K mg base CX0 3 "use_at" ["program", "name", "number"] (spUseAt K))
    (ML : Mth P w K mg base CX0 4 C "looks" ["self", "name"] (spLooks K C)) (GL : Glb P w K mg base CX0 1 "lib_of" ["program", "name"] (spLibOf K)) (GV : Glb P w K mg base CX0 2 "version_of" ["lib", "use"] (spVersOf K)) :
    FnOk P w K mg base CX0 5 f fd ["self", "name", "i"] (spFound K C) := by
  obtain ⟨fU, fdU, GU, gU, kU, bU⟩ := GU.ex
  obtain ⟨fK, fdK, GK, mK, bK⟩ := ML.ex
  obtain ⟨fL, fdL, GL, gL, kL, bL⟩ := GL.ex
  obtain ⟨fV, fdV, GV, gV, kV, bV⟩ := GV.ex
  obtain ⟨uB, eB, rB⟩ := K0.bound.str
  obtain ⟨vN, uN, eN, rN, dN⟩ := K0.nobody
  obtain ⟨vL, uL, eL, rL, dL⟩ := K0.lost
  refine F.ok scFound (fun vs H Q E h => ?_) (fun cdv A outer s H vs Q E hr h => ?_)
  · obtain ⟨A, p, st, x, i, u, rfl, _⟩ := h
    rfl
  · obtain ⟨a, p, st, x, i, u, rfl, h, ok, so, hu, ht, k⟩ := h
    have hr3 : Room 3 _ := hr.mono (by decide)
    have hr2 : Room 2 _ := hr.mono (by decide)
    have hr1 : Room 1 _ := hr.mono (by decide)
    refine ⟨_, PSs.nox (pss_cons (ps_set (i := 3) scFound.nd rfl (Or.inl rfl) (pe_call GU hr3 rfl gU kU bU .nil pass0 (pa_cons (pe_fldK (K := K) (pv 0)) (pa_cons (pv 1) (pa_cons (pv 2) pa_nil)))))
      (pss_cons (ps_for PassesOwn.never rfl (pi_listK (K := K) (pe_meth (pv 0) T.cl mK GK hr bK .nil pass0 (pa_cons (pv 1) pa_nil))) (pg_name (i := 4) scFound.nd rfl (Or.inl rfl))
        (pss_cons (ps_set (i := 5) scFound.nd rfl (Or.inl rfl) (pe_call GV hr2 rfl gV kV bV .nil pass0 (pa_cons (pe_call GL hr1 rfl gL kL bL .nil pass0 (pa_cons (pe_fldK (K := K) (pv 0)) (pa_cons (pv 4) pa_nil))) (pa_cons (pv 3) pa_nil))))
          (pss_one (ps_if (pt_cmpR op_notN (pv 5) pe_non (nomark _)) (pss_one (ps_ret (pe_tup (pa_cons (pe_glob rfl eB rB) (pa_cons (pv 4) (pa_cons (pv 5) pa_nil)))))) pss_nil))))
      (pss_one (ps_ret (pe_ifExp (pt_val (pe_ix (ixtK (K := K)) (pv 3) pe_int (fun _ _ => rfl))) (pe_glob rfl eN rN) (pe_glob rfl eL rL)))))), ?_⟩
    refine ⟨_, rfl, a.p, C, a.dx, _, _, rfl, h.ins, T.cl, fdn T, fdl (i := 1) rfl, _, rfl, _, rfl, _, p, x, i, u, rfl, h.prog, ok, hu, fun H1 vu s1 hvu => ?_⟩
    have h1 := h.same ok s1
    refine ⟨_, rfl, a.p, a.dx, _, rfl, h1.ins, lookup_zip_none (by decide +kernel), _, rfl, a, p, st, x, rfl, h1, ok, so, use_name hu, ht, fun H2 l s2 nl hl => ?_⟩
    refine ⟨l, rfl, ⟨_, SqL.of hl⟩, ?_⟩
    have fm : foundM p st x i = match (looksM p st x).findSome? (meantM p u) with
        | some a => a
        | none => if u.2.2 then .nobody else .lost := by unfold foundM; rw [hu] <;> rfl
    have llen := looks_len ok so x
    have lnam := fun y (hy : y ∈ looksM p st x) => looks_names ok so hy
    rw [fm] at k
    generalize looksM p st x = ls at hl k llen lnam
    refine for_list (K := K) (a := l) (xs := ls.map V.str) (fun j σ H' => (∃ v v', σ = [some (.ref a.p), some (.str x), some (.int (i : Int)), some vu, v, v']) ∧ Same H2 H' ∧ (ls.take j).findSome? (meantM p u) = none)
      ⟨⟨none, none, rfl⟩, Same.refl _, rfl⟩ (fun j σ H' _ z => SqL.of (z.2.1 _ _ hl)) ?_ ?_
    · rintro j v σ H' hv ⟨⟨v0, v0', rfl⟩, s3, hno⟩
      rw [List.getElem?_map] at hv
      obtain ⟨y, hy, rfl⟩ := Option.map_eq_some_iff.mp hv
      have s13 := (s1.trans s2).trans s3
      have h3 := h.same ok s13
      have hvu3 := dp_same (s2.trans s3) hvu
      obtain ⟨lb, elb, lin, _⟩ := libOf_mem (lnam y (List.mem_of_getElem? hy))
      have step : ls.take (j + 1) = ls.take j ++ [y] := by rw [List.take_succ, hy] <;> rfl
      refine ⟨_, rfl, a.p, C, a.dx, _, _, rfl, h3.ins, T.cl, fdn T, fdl (i := 1) rfl, _, rfl, _, p, y, rfl, h3.prog, ok, fun H4 vl s4 hvl => ?_⟩
      rw [elb] at hvl
      have hvl : Dp K H4 vl (lbD lb) := hvl
      refine ⟨_, rfl, _, _, lb, u, rfl, hvl, dp_same s4 hvu3, (ok.l8 lb lin).2.1, fun H5 s5 => ?_⟩
      refine ⟨_, rfl, rfl, _, rfl, ?_⟩
      cases ev : versM lb u with
      | none =>
        refine iteF ⟨⟨_, _, rfl⟩, (s3.trans s4).trans s5, ?_⟩
        rw [step, List.findSome?_append, hno]
        show [y].findSome? (meantM p u) = none
        rw [List.findSome?_singleton]
        unfold meantM
        rw [elb]
        show (versM lb u).map _ = none
        rw [ev] <;> rfl
      | some z =>
        refine iteT ⟨_, rfl, _, rfl, (by show 3 ≤ sizeLine; decide), fun t ht => ?_⟩
        have me : meantM p u y = some (.bound y z) := by
          unfold meantM
          rw [elb]
          show (versM lb u).map _ = _
          rw [ev] <;> rfl
        have res : ls.findSome? (meantM p u) = some (.bound y z) := by
          have e : ls = ls.take j ++ y :: ls.drop (j + 1) := by
            have jl := (List.getElem?_eq_some_iff.mp hy).1
            have q := List.take_append_drop j ls
            rw [List.drop_eq_getElem_cons jl, (List.getElem?_eq_some_iff.mp hy).2] at q
            exact q.symm
          rw [e, List.findSome?_append, hno]
          show (y :: ls.drop (j + 1)).findSome? (meantM p u) = _
          rw [List.findSome?_cons, me]
        rw [res] at k
        exact k _ _ (((s13.trans s4).trans s5).trans (same_new ht)) (.tup (SqT.of upd_same) (.cons (.str _) (.cons (.str _) (.cons (.str _) .nil))))
    · rintro σ H' ⟨⟨v0, v0', rfl⟩, s3, hno⟩
      rw [List.length_map, List.take_length] at hno
      rw [hno] at k
      refine ⟨_, rfl, ixT2 (dp_same (s2.trans s3) hvu) fun vb hb => ?_⟩
      obtain rfl := dp_blE hb
      refine ⟨_, rfl, ?_⟩
      have k : ∀ H' v, Same H H' → Dp K H' v (ansD (if u.2.2 = true then .nobody else .lost)) → Q v H' := k
      cases e : u.2.2 with
      | true =>
        rw [e, if_pos rfl] at k
        exact iteT (k _ _ ((s1.trans s2).trans s3) (dN _))
      | false =>
        rw [e, if_neg Bool.false_ne_true] at k
        exact iteF (k _ _ ((s1.trans s2).trans s3) (dL _))
end
end K10
end
section
set_option maxHeartbeats 4000000
/-! KB: call; left; look_door. -/
namespace K10
open PySem PySem.Spec PyProof.Rows L2
theorem lay_okS {x : Str} (h : okS x = true) : PyData.canLay0 (.str x) = true := by
  unfold okS at h
  rw [Bool.and_eq_true, Bool.and_eq_true] at h
  exact h.2.1
theorem name_okS {p : Prg} (ok : p.Ok) {x : Str} (h : x ∈ p.names) : okS x = true := by
  obtain ⟨l, hl, rfl⟩ := List.mem_map.mp h
  exact (ok.sn l hl).1
theorem ans_shaped {p : Prg} (ok : p.Ok) {a : Ans} (h : ansOk p a) : SeqAt.shaped (ansD a) = true := by
  cases a with
  | bound n v =>
    have h1 := lay_okS (name_okS ok h.1)
    have h2 := lay_okS h.2
    have h0 : PyData.canLay0 (.str "bound") = true := by decide +kernel
    unfold SeqAt.shaped ansD
    simp only [PyData.canLay0, PyData.canLayAll0, PyData.depth, PyData.depthAll, Bool.and_eq_true] at h0 h1 h2 ⊢
    simp_all
  | _ => decide +kernel
theorem minS_mem : ∀ {r : List Str} {x : Str}, minS (x :: r) ∈ x :: r
  | [], x => List.mem_cons_self
  | y :: r, x => by
    have e : minS (x :: y :: r) = minS ((if PySem.W.dataLt (.str y) (.str x) = true then y else x) :: r) := rfl
    rw [e]
    rcases List.mem_cons.mp (minS_mem (r := r) (x := if PySem.W.dataLt (.str y) (.str x) = true then y else x)) with h | h
    · rw [h]
      split
      · exact List.mem_cons_of_mem _ List.mem_cons_self
      · exact List.mem_cons_self
    · exact List.mem_cons_of_mem _ (List.mem_cons_of_mem _ h)
theorem vers_okS {l : Lib} {u : Str × Str × Bool} {v : Str} (hu : okS u.2.1 = true) (hd : ∀ d ∈ l.defs, okS d.2 = true) (h : versM l u = some v) : okS v = true := by
  unfold versM at h
  have hs : ∀ y ∈ (l.defs.filter fun d => servesM d u).map (·.2), okS y = true := fun y hy => by
    obtain ⟨d, hd2, rfl⟩ := List.mem_map.mp hy
    exact hd d (List.mem_filter.mp hd2).1
  generalize (l.defs.filter fun d => servesM d u).map (·.2) = ss at h hs
  have h : (if ss = [] then none else if u.2.1 ∈ ss then some u.2.1 else some (minS ss)) = some v := h
  cases ss with
  | nil => cases h
  | cons z zs =>
    rw [if_neg (List.cons_ne_nil z zs)] at h
    split at h
    · cases h
      exact hu
    · cases h
      exact hs _ minS_mem
theorem use_ok {p : Prg} (ok : p.Ok) {x : Str} {i : Nat} {u : Str × Str × Bool} (h : useAt p x i = some u) : okS u.1 = true ∧ okS u.2.1 = true := by
  obtain ⟨l, el, e2⟩ := Option.bind_eq_some_iff.mp h
  exact (ok.sn l (libOf_in el).1).2.2 u (List.mem_of_getElem? e2)
theorem found_ok {p : Prg} (ok : p.Ok) {st : St} {x : Str} {i : Nat} : ansOk p (foundM p st x i) := by
  unfold foundM
  cases e : useAt p x i with
  | none => trivial
  | some u =>
    show ansOk p (match (looksM p st x).findSome? (meantM p u) with | some a => a | none => if u.2.2 then .nobody else .lost)
    cases e2 : (looksM p st x).findSome? (meantM p u) with
    | none =>
      show ansOk p (if u.2.2 then .nobody else .lost)
      split <;> trivial
    | some a =>
      show ansOk p a
      obtain ⟨y, _, hy⟩ := List.exists_of_findSome?_eq_some e2
      obtain ⟨l, el, e3⟩ := Option.bind_eq_some_iff.mp hy
      obtain ⟨v, ev, rfl⟩ := Option.map_eq_some_iff.mp e3
      obtain ⟨hl, hn⟩ := libOf_in el
      exact ⟨List.mem_map.mpr ⟨l, hl, hn⟩, vers_okS (use_ok ok e).2 (fun d hd => ((ok.sn l hl).2.1 d hd).2) ev⟩
theorem ans_eqv_lost (a : Ans) : PyData.eqv (ansD a) (ansD .lost) = decide (a = .lost) := by
  cases a with
  | bound n v => rfl
  | _ => decide +kernel
theorem slots_none {K : PySem.W.Frag} {H : Hp} {q : Str × Nat} : ∀ {kvs : List (List Key × V)} {ss : List ((Str × Nat) × Ans)}, SlAre K H kvs ss → (ss.find? fun z => decide (z.1 = q)) = none → valV kvs (slotK q) = none
  | _, _, .nil, _ => rfl
  | _, _, .cons (a := e) (b := z) r t, h => by
    by_cases c : z.1 = q
    · rw [List.find?_cons_of_pos (by simp [c])] at h
      cases h
    · rw [List.find?_cons_of_neg (by simp [c])] at h
      rw [valV_neg (by rw [r.1]; exact fun h => c (slotK_inj h))]
      exact slots_none t h
theorem slots_some {K : PySem.W.Frag} {H : Hp} {q : Str × Nat} {a : Ans} : ∀ {kvs : List (List Key × V)} {ss : List ((Str × Nat) × Ans)}, SlAre K H kvs ss → (ss.find? fun z => decide (z.1 = q)).map (·.2) = some a → ∃ v, valV kvs (slotK q) = some v ∧ Dp K H v (ansD a)
  | _, _, .nil, h => by simp at h
  | _, _, .cons (a := e) (b := z) r t, h => by
    by_cases c : z.1 = q
    · rw [List.find?_cons_of_pos (by simp [c])] at h
      cases h
      exact ⟨_, valV_pos (by rw [r.1, c]), r.2⟩
    · rw [List.find?_cons_of_neg (by simp [c])] at h
      obtain ⟨v, h1, h2⟩ := slots_some t h
      exact ⟨v, by rw [valV_neg (by rw [r.1]; exact fun h => c (slotK_inj h))]; exact h1, h2⟩
section
variable {P : Program} {w : World} {K : PySem.W.Frag} {mg : Str → Option Value} {base : Heap}
/-! ### call -/
abbrev sCall : Stmt := sPr 21
theorem scCall : FnScope ["self", "name", "i", "answer"] ["self", "name", "i"] (defScope sCall) := ⟨rfl, rfl, rfl, by decide +kernel, rfl, by decide +kernel, by decide +kernel⟩
def spCall (K : PySem.W.Frag) (C N : Addr) : Sp := fun vs H Q E => ∃ (A : Adr) (p : Prg) (st : St) (x : Str) (i : Nat) (u : Str × Str × Bool), vs = [.ref A.p, .str x, .int (i : Int)] ∧ PAt K C H A p st ∧ p.Ok ∧ StOk p st ∧ useAt p x i = some u ∧
  (thereM p st.opened x = true → ∀ H' v, Kp A.F H H' → PAt K C H' A p (callM p st x i).1 → Dp K H' v (ansD (callM p st x i).2) → Q v H') ∧ (thereM p st.opened x = false → ∀ H' d, Same H H' → E (.ref N) (some d) H')
theorem ok_call {f C N : Addr} {fd : FuncData} (K0 : Cst K mg) (T : ClsF K C pK) (F : DefAt K "call" "Process.call" sCall f fd) (MS : Mth P w K mg base (L2.CX P w) 4 C "slot" ["self", "name", "i"] (spSlot K C N))
    (MF : Mth P w K mg base CX0 5 C "found" ["self", "name", "i"] (spFound K C)) : FnOk P w K mg base (L2.CX P w) 6 f fd ["self", "name", "i"] (spCall K C N) := by
  obtain ⟨fS, fdS, GS, mS, bS⟩ := MS.ex
  obtain ⟨fF, fdF, GF, mF, bF⟩ := MF.ex
  obtain ⟨vL, uL, eL, rL, dL⟩ := K0.lost
  refine F.ok scCall (fun vs H Q E h => ?_) (fun cdv A outer s H vs Q E hr h => ?_)
  · obtain ⟨A, p, st, x, i, u, rfl, _⟩ := h
    rfl
  · obtain ⟨a, p, st, x, i, u, rfl, h, ok, so, hu, k1, k2⟩ := h
    have hr4 : Room 4 _ := hr.mono (by decide)
    refine ⟨_, pss_cons (ps_if (pt_cmpR op_isN (pe_meth (E := E) (pv 0) T.cl mS GS hr4 bS .nil (passes_call (takes_of rfl rfl rfl rfl) (fun _ _ _ _ h => h)) (pa_cons (pv 1) (pa_cons (pv 2) pa_nil))) pe_non (nomark _))
        (pss_cons (ps_set (i := 3) scCall.nd rfl (Or.inl rfl) (pe_meth (E := E) (pv 0) T.cl mF GF hr bF .nil pass0 (pa_cons (pv 1) (pa_cons (pv 2) pa_nil))))
        (pss_cons (ps_if (pt_cmpR (neDK (K := K) hr.units) (pv 3) (pe_glob rfl eL rL) (nomark _)) (pss_one (ps_dput (un1 hr) (pe_fldK (K := K) (pv 0)) (pe_tup (pa_cons (pv 1) (pa_cons (pv 2) pa_nil))) (pv 3) rfl)) pss_nil)
        (pss_one (ps_ret (pv 3))))) pss_nil)
      (pss_one (ps_ret (pe_dget (un1 hr) (pe_fldK (K := K) (pv 0)) (pe_tup (pa_cons (pv 1) (pa_cons (pv 2) pa_nil))) (fun _ _ => rfl)))), ?_⟩
    refine ⟨_, rfl, a.p, a.dx, _, rfl, h.ins, lookup_zip_none (by decide +kernel), _, rfl, _, rfl, a, p, st, x, i, u, rfl, h, ok, hu, fun e H1 v s1 hv => ?_, fun e H1 d s1 => k2 e H1 d s1⟩
    have k1 := k1 e
    have h1 := h.same ok s1
    refine ⟨rfl, _, rfl, ?_⟩
    cases es : slotM st x i with
    | some b =>
      rw [es] at hv
      have hv : Dp K H1 v (ansD b) := hv
      have cm : callM p st x i = (st, b) := by unfold callM; rw [es]
      rw [cm] at k1
      obtain ⟨kvs, hs, hrel⟩ := h1.slots
      obtain ⟨vb, evb, dvb⟩ := slots_some (q := (x, i)) hrel es
      have nn : decide (v = V.non) = false := by
        obtain ⟨q, _, rfl, _⟩ := dp_tupE (ds := match ansD b with | .tuple ds => ds | _ => []) (by cases b <;> exact hv)
        exact decide_eq_false fun z => nomatch z
      rw [nn]
      refine iteF ⟨_, rfl, a.p, C, a.dx, _, _, rfl, h1.ins, T.cl, fdn T, fdl (i := 8) rfl, _, rfl, _, rfl, (by show 2 ≤ sizeLine; decide), fun t ht => ?_⟩
      have s2 : Same H1 (upd H1 t (.tup [.str x, .int (i : Int)])) := same_new ht
      refine ⟨a.sl, vb, rfl, ?_, k1 _ _ (Kp.same (s1.trans s2)) (h1.same ok s2) (dp_same s2 dvb)⟩
      rw [← evb]
      exact .t (k := slotK (x, i)) (s2 _ _ hs) upd_same
    | none =>
      rw [es] at hv
      have hv : v = .non := hv
      subst hv
      have cm : callM p st x i = (if foundM p st x i = .lost then st else { st with slots := st.slots ++ [((x, i), foundM p st x i)] }, foundM p st x i) := by unfold callM; rw [es]
      rw [cm] at k1
      refine iteT ⟨_, rfl, a.p, a.dx, _, rfl, h1.ins, lookup_zip_none (by decide +kernel), _, rfl, _, rfl, a, p, st, x, i, u, rfl, h1, ok, so, hu, e, fun H2 va s2 hva => ?_⟩
      have h2 := h1.same ok s2
      have fok : ansOk p (foundM p st x i) := found_ok ok
      generalize foundM p st x i = fa at k1 hva fok
      refine ⟨_, rfl, _, _, hva, dL _, ans_shaped ok fok, ans_shaped (a := .lost) ok trivial, _, rfl, ?_⟩
      rw [ans_eqv_lost]
      by_cases c : fa = .lost
      · rw [decide_eq_true c]
        rw [if_pos c] at k1
        exact iteF ⟨_, rfl, k1 _ _ (Kp.same (s1.trans s2)) h2 hva⟩
      · rw [decide_eq_false c]
        rw [if_neg c] at k1
        obtain ⟨kvs, hs, hrel⟩ := h2.slots
        have nv : valV kvs (slotK (x, i)) = none := slots_none (q := (x, i)) hrel (by
          unfold slotM at es
          exact Option.map_eq_none_iff.mp es)
        refine iteT ⟨_, rfl, _, rfl, a.p, C, a.dx, _, _, rfl, h2.ins, T.cl, fdn T, fdl (i := 8) rfl, _, rfl, _, rfl, (by show 2 ≤ sizeLine; decide), fun t ht => ?_⟩
        have s3 : Same H2 (upd H2 t (.tup [.str x, .int (i : Int)])) := same_new ht
        have h3 := h2.same ok s3
        have hs3 := s3 _ _ hs
        have hrel3 := slAre_keep (fun _ _ z => same_sqT s3 z) hrel
        have hva3 := dp_same s3 hva
        have kl : kvs.length < sizeLine := by
          have q := Paired.length hrel
          have := so.s64 ok
          rw [sizeLine_eq]
          omega
        refine ⟨a.sl, _, rfl, .t (k := slotK (x, i)) hs3 upd_same kl, ⟨_, rfl, ?_⟩⟩
        rw [putK_new _ nv]
        have m : Mut (upd H2 t (.tup [.str x, .int (i : Int)]) a.sl) := by rw [hs3]; trivial
        have r2 := h3.toRst.setSl ok (paired_snoc hrel3 (x := (slotK (x, i), va)) (y := ((x, i), fa)) ⟨rfl, hva3⟩)
        refine k1 _ _ ((Kp.same ((s1.trans s2).trans s3)).trans (kp_at m) fun c hc => .inl (.inr (.inr (.inr (.inr (.inr hc)))))) ⟨⟨r2, ?_⟩, ?_⟩ (dp_kp (kp_at m) (td_ans fa) hva3)
        · rw [upd_ne (ne_of h3.ins hs3 fun z => nomatch z)]
          exact h3.ins
        · obtain ⟨ns, hh, r⟩ := h3.here
          refine ⟨ns, ?_, r⟩
          rw [upd_ne (ne_of hh hs3 fun z => nomatch z)]
          exact hh
end
end K10
end
section
set_option maxHeartbeats 4000000
/-! KC: left; look_door; go. -/
namespace K10
open PySem PySem.Spec PyProof.Rows L2
theorem lock_same {H H' : Hp} {d : Addr} {u : HO} {od : Obj} (h : H d = some u) (s : Same (upd H d (.frz od u)) H') : Same H (upd H' d u) := fun b o e => by
  by_cases c : b = d
  · rw [c] at e ⊢
    rw [upd_same, ← e, h]
  · rw [upd_ne c]
    exact s _ _ (by rw [upd_ne c]; exact e)
theorem pg_tupK {X : Cx} {K : PySem.W.Frag} {pos : Pos} {es : List Expr} {k : Nat} {t : TGs} {n : Nat} (hc : X.calm = true) (h : PGs X es t) (hK : X.K = K := by rfl)
    (hn : (assignEach es X.env).length = n := by rfl) (hst : (assignEach es X.env).findIdx? (·.1) = none := by rfl) : PG X (.Tuple es k pos) (gTup K n t) := hK ▸ pg_tup hc h hn hst
/-- where data stands, kept while a thing is locked -/
theorem sqT_lock {K : PySem.W.Frag} {H : Hp} {d : Addr} {u : HO} {od : Obj} (h : H d = some u) (m : Mut (some u)) {a : Addr} {xs : List V} (q : SqT K H a xs) : SqT K (upd H d (.frz od u)) a xs := by
  have ne : ∀ b v, H b = some v → ¬ Mut (some v) → b ≠ d := fun b v e nm z => by
    rw [z, h] at e
    cases e
    exact nm m
  rcases q with (q | ⟨o, q⟩) | q
  · exact .inl (.inl (by rw [upd_ne (ne _ _ q fun z => z)]; exact q))
  · exact .inl (.inr ⟨o, by rw [upd_ne (ne _ _ q fun z => z)]; exact q⟩)
  · exact .inr q
section
variable {P : Program} {w : World} {K : PySem.W.Frag} {mg : Str → Option Value} {base : Heap}
/-! ### left -/
abbrev sLeft : Stmt := sPr 19
theorem scLeft : FnScope ["self", "answer"] ["self", "answer"] (defScope sLeft) := ⟨rfl, rfl, rfl, by decide +kernel, rfl, by decide +kernel, by decide +kernel⟩
def leftN (ns : List Str) : Ans → Ans
  | .bound n v => if n ∈ ns then .bound n v else .torn
  | a => a
def spLeft (K : PySem.W.Frag) (C : Addr) : Sp := fun vs H Q _ => ∃ (a dx he : Addr) (us : List V) (ns : List Str) (v : V) (b : Ans), vs = [.ref a, v] ∧ H a = some (.ins C dx (pK.zip us)) ∧ us[9]? = some (.ref he) ∧ H he = some (.dK (hk ns)) ∧ Dp K H v (ansD b) ∧ ∀ H' v', Same H H' → Dp K H' v' (ansD (leftN ns b)) → Q v' H'
theorem ok_left {f C : Addr} {fd : FuncData} (K0 : Cst K mg) (T : ClsF K C pK) (F : DefAt K "left" "Process.left" sLeft f fd) (MI : Mth P w K mg base CX0 1 C "is_there" ["self", "name"] (spIsThere K C)) : FnOk P w K mg base CX0 2 f fd ["self", "answer"] (spLeft K C) := by
  obtain ⟨fI, fdI, GI, mI, bI⟩ := MI.ex
  obtain ⟨uB, eB, rB⟩ := K0.bound.str
  obtain ⟨vT, uT, eT, rT, dT⟩ := K0.torn
  refine F.ok scLeft (fun vs H Q E h => ?_) (fun cdv A outer s H vs Q E hr h => ?_)
  · obtain ⟨a, dx, he, us, ns, v, b, rfl, _⟩ := h
    rfl
  · obtain ⟨a, dx, he, us, ns, v, b, rfl, hi, hu, hh, hv, k⟩ := h
    refine ⟨_, PSs.nox (pss_one (ps_ret (pe_ifExp (pw_and (pt_cmpR op_eq (pe_ix (ixtK (K := K)) (pv 1) pe_int (fun _ _ => rfl)) (pe_glob (by rfl) eB rB) (nomark _))
      (pw_and1 (pt_not (pt_val (pe_meth (pv 0) T.cl mI GI hr bI .nil pass0 (pa_cons (pe_ix (ixtK (K := K)) (pv 1) pe_int (fun _ _ => rfl)) pa_nil)))))).pt (pe_glob (by rfl) eT rT) (pv 1)))), ?_⟩
    cases b with
    | bound n z =>
      refine ⟨_, rfl, ixT0 hv fun w0 h0 => ?_⟩
      obtain rfl := dp_strE h0
      refine ⟨rfl, _, rfl, ?_⟩
      rw [decide_eq_true (by rfl)]
      refine iteT ⟨_, rfl, a, dx, _, rfl, hi, lookup_zip_none (by decide +kernel), _, rfl, ixT1 hv fun w1 h1 => ?_⟩
      obtain rfl := dp_strE h1
      refine ⟨a, dx, he, us, ns, n, rfl, hi, hu, hh, fun H' s1 => ⟨_, rfl, ?_⟩⟩
      have k : ∀ H' v', Same H H' → Dp K H' v' (ansD (if n ∈ ns then .bound n z else .torn)) → Q v' H' := k
      by_cases c : n ∈ ns
      · rw [decide_eq_true c]
        rw [if_pos c] at k
        exact iteF ⟨_, rfl, k _ _ s1 (dp_same s1 hv)⟩
      · rw [decide_eq_false c]
        rw [if_neg c] at k
        exact iteT (k _ _ s1 (dT _))
    | _ =>
      refine ⟨_, rfl, ixT0 hv fun w0 h0 => ?_⟩
      obtain rfl := dp_strE h0
      refine ⟨rfl, _, rfl, ?_⟩
      rw [decide_eq_false (by decide +kernel)]
      exact iteF ⟨_, rfl, k _ _ (Same.refl _) hv⟩
/-! ### look_door -/
abbrev sLookD : Stmt := sPr 14
theorem scLookD : FnScope ["self", "k"] ["self", "k"] (defScope sLookD) := ⟨rfl, rfl, rfl, by decide +kernel, rfl, by decide +kernel, by decide +kernel⟩
def spLookD (K : PySem.W.Frag) (C : Addr) : Sp := fun vs H Q _ => ∃ (A : Adr) (p : Prg) (st : St) (k : Nat), vs = [.ref A.p, .int (k : Int)] ∧ PAt K C H A p st ∧ k < st.counts.length ∧ Q .non H
theorem ok_lookD {f C : Addr} {fd : FuncData} (B : Bl mg) (T : ClsF K C pK) (F : DefAt K "look_door" "Process.look_door" sLookD f fd) : FnOk P w K mg base CX0 1 f fd ["self", "k"] (spLookD K C) := by
  refine F.ok scLookD (fun vs H Q E h => ?_) (fun cdv A outer s H vs Q E hr h => ?_)
  · obtain ⟨A, p, st, k, rfl, _⟩ := h
    rfl
  · obtain ⟨a, p, st, k, rfl, h, hk, q⟩ := h
    refine ⟨_, PSs.nox (pss_one (ps_if (pt_not (pt_chain op_le op_lt pe_int (pv 1) (pe_callB (lenK (K := K)) (by rfl) B.len bt_len (pa_cons (pe_fldK (K := K) (pv 0)) pa_nil)))) (pss_one ps_never) pss_nil)), ?_⟩
    refine ⟨_, rfl, _, _, rfl, rfl, _, rfl, ?_⟩
    rw [decide_eq_true (by omega)]
    refine iteT ⟨_, rfl, a.p, C, a.dx, _, _, rfl, h.ins, T.cl, fdn T, fdl (i := 4) rfl, a.cn, _, rfl, .inl (SqL.of h.cnts), _, _, rfl, rfl, _, rfl, ?_⟩
    rw [decide_eq_true (by rw [List.length_map]; omega)]
    exact iteF q
end
end K10
end
section
set_option maxHeartbeats 4000000
/-! KD: go. -/
namespace K10
open PySem PySem.Spec PyProof.Rows L2
/-- [x for x in a list of texts if ..] -/
theorem rd_filter {K : PySem.W.Frag} {i : Nat} {σ : L2.St} {H1 : Hp} {a D : Addr} {xs : List Str} {f : Str → Bool} {tt : TT} {Qd : Hp → Prop} (hD : H1 D = none) (ha : H1 a = some (.lst (xs.map V.str))) (hz : xs.length ≤ 1000)
    (ht : ∀ x H2 R, Same H1 H2 → (∀ H3, Same H2 H3 → R (f x) H3) → tt ((σ.set i none).set i (some (.str x))) H2 R) (hi : i < σ.length) (k : ∀ H', Same H1 H' → H' D = some (.lst ((xs.filter f).map V.str)) → Qd H') :
    ∃ W : Nat → Nat → Hp → Prop, (∃ m, W 0 m (upd H1 D (.lst []))) ∧ ∀ j m H, W j m H →
      ((Itl K a).stop j H ∧ Qd H) ∨ ((Itl K a).go j H ∧ ∃ Nx : Hp → Prop, (∀ H', Nx H' → ∃ m', m' < m ∧ W (j + 1) m' H') ∧ ∀ x H', (Itl K a).yld j H x H' → gName i x (wipe σ [i]) H' fun σ2 H2 => wipe σ2 [i] = wipe σ [i] ∧ tt σ2 H2 fun b H3 =>
        if b = true then tVar i σ2 H3 fun y H4 => ∃ acc, H4 D = some (.lst acc) ∧ acc.length < sizeLine ∧ Nx (upd H4 D (.lst (acc ++ [y]))) else Nx H3) := by
  refine it_list (K := K) (a := a) (xs := xs.map V.str) (fun j H' => Same H1 H' ∧ H' D = some (.lst (((xs.take j).filter f).map V.str))) ⟨same_new hD, upd_same⟩ (fun j H' _ z => SqL.of (z.1 _ _ ha)) ?_ ?_
  · rintro j v H' hv ⟨s1, hacc⟩
    rw [List.getElem?_map] at hv
    obtain ⟨y, hy, rfl⟩ := Option.map_eq_some_iff.mp hv
    have step : xs.take (j + 1) = xs.take j ++ [y] := by rw [List.take_succ, hy] <;> rfl
    refine ⟨?_, ht y H' _ s1 fun H3 s3 => ?_⟩
    · show ((σ.set i none).set i (some (V.str y))).set i none = σ.set i none
      rw [List.set_set, List.set_set]
    · cases c : f y with
      | true =>
        refine iteT ⟨.str y, ?_, _, s3 _ _ hacc, ?_, same_at (s1.trans s3) hD, ?_⟩
        · show ((σ.set i none).set i (some (V.str y)))[i]? = _
          rw [List.getElem?_set_self (by rw [List.length_set]; exact hi)]
        · rw [List.length_map]
          have := List.length_filter_le f (xs.take j)
          rw [List.length_take] at this
          rw [sizeLine_eq]
          omega
        · rw [upd_same, step, List.filter_append, List.filter_cons_of_pos c, List.map_append] <;> rfl
      | false =>
        refine iteF ⟨s1.trans s3, ?_⟩
        rw [step, List.filter_append, List.filter_cons_of_neg (by simp [c]), List.filter_nil, List.append_nil]
        exact s3 _ _ hacc
  · rintro H' ⟨s1, hacc⟩
    rw [List.length_map, List.take_length] at hacc
    exact k H' s1 hacc
section
variable {K : PySem.W.Frag} {C : Addr} {H : Hp} {A : Adr} {p : Prg} {st : St}
/-- fresh lists take the places of the old -/
theorem Rst.newPu (h : Rst K H A p st) {D : Addr} {xs : List Str} (e : H D = some (.lst (xs.map V.str))) (n : D ≠ A.cn ∧ D ≠ A.op ∧ D ≠ A.de ∧ D ≠ A.fi ∧ D ≠ A.ro ∧ D ∉ A.rs) : Rst K H { A with pu := D } p { st with pub := xs } := by
  obtain ⟨n1, n2, n3, n4, n5, n6⟩ := h.ne
  obtain ⟨m1, m2, m3, m4, m5, m6⟩ := n
  refine ⟨h.prog, h.first, h.rows, h.each, h.cnts, h.opn, e, h.deep, h.slots, ?_, fun c hc => ?_⟩
  · simp only [List.nodup_cons, List.mem_cons, List.mem_singleton, List.not_mem_nil, or_false, not_or, List.nodup_nil, and_true, not_false_eq_true]
    exact ⟨⟨n1, Ne.symm m1, n3⟩, ⟨Ne.symm m2, n5⟩, m3⟩
  · obtain ⟨q1, q2, q3, q4⟩ := h.nls hc
    simp only [List.mem_cons, List.mem_singleton, List.not_mem_nil, or_false, not_or]
    refine ⟨q1, q2, fun z => ?_, q4⟩
    rw [z] at hc
    rcases hc with z | z | z
    · exact m4 z
    · exact m5 z
    · exact m6 z
theorem Rst.newDe (h : Rst K H A p st) {D : Addr} {xs : List Str} (e : H D = some (.lst (xs.map V.str))) (n : D ≠ A.cn ∧ D ≠ A.op ∧ D ≠ A.pu ∧ D ≠ A.fi ∧ D ≠ A.ro ∧ D ∉ A.rs) : Rst K H { A with de := D } p { st with deep := xs } := by
  obtain ⟨n1, n2, n3, n4, n5, n6⟩ := h.ne
  obtain ⟨m1, m2, m3, m4, m5, m6⟩ := n
  refine ⟨h.prog, h.first, h.rows, h.each, h.cnts, h.opn, h.pub, e, h.slots, ?_, fun c hc => ?_⟩
  · simp only [List.nodup_cons, List.mem_cons, List.mem_singleton, List.not_mem_nil, or_false, not_or, List.nodup_nil, and_true, not_false_eq_true]
    exact ⟨⟨n1, n2, Ne.symm m1⟩, ⟨n4, Ne.symm m2⟩, Ne.symm m3⟩
  · obtain ⟨q1, q2, q3, q4⟩ := h.nls hc
    simp only [List.mem_cons, List.mem_singleton, List.not_mem_nil, or_false, not_or]
    refine ⟨q1, q2, q3, fun z => ?_⟩
    rw [z] at hc
    rcases hc with z | z | z
    · exact m4 z
    · exact m5 z
    · exact m6 z
theorem Rst.newSl (h : Rst K H A p st) {D : Addr} {ss : List ((Str × Nat) × Ans)} (e : SlAt K H D ss) : Rst K H { A with sl := D } p { st with slots := ss } := ⟨h.prog, h.first, h.rows, h.each, h.cnts, h.opn, h.pub, h.deep, e, h.nd, h.ap⟩
/-- what was not there is none of its lists -/
theorem Rst.fresh {H0 : Hp} (h : Rst K H0 A p st) {D : Addr} (n : H0 D = none) : D ≠ A.cn ∧ D ≠ A.op ∧ D ≠ A.pu ∧ D ≠ A.de ∧ D ≠ A.fi ∧ D ≠ A.ro ∧ D ∉ A.rs := by
  refine ⟨fun z => ?_, fun z => ?_, fun z => ?_, fun z => ?_, fun z => ?_, fun z => ?_, fun z => ?_⟩
  · rw [z, h.cnts] at n; cases n
  · rw [z, h.opn] at n; cases n
  · rw [z, h.pub] at n; cases n
  · rw [z, h.deep] at n; cases n
  · rw [z, h.first] at n; cases n
  · rw [z, h.rows] at n; cases n
  · have go : ∀ {as : List Addr} {rs : List (List Str)}, RowsAt (fun _ => True) H0 as rs → D ∈ as → ∃ r, H0 D = some (.lst r) := by
      intro as rs q
      induction q with
      | nil => intro hc; cases hc
      | cons r t ih =>
        intro hc
        rcases List.mem_cons.mp hc with e | hc
        · rw [e]; exact ⟨_, r.2⟩
        · exact ih hc
    obtain ⟨r, hr⟩ := go h.each z
    rw [hr] at n; cases n
end
/-- slots, filtered and left -/
def slF (f : Str → Bool) (ss : List ((Str × Nat) × Ans)) : List ((Str × Nat) × Ans) := ss.filter fun q => f q.1.1
theorem slF_nd {f : Str → Bool} {ss : List ((Str × Nat) × Ans)} (h : (ss.map (·.1)).Nodup) : ((slF f ss).map (·.1)).Nodup := h.sublist ((List.filter_sublist).map _)
theorem find_new {ss : List ((Str × Nat) × Ans)} {i : Nat} {q : (Str × Nat) × Ans} (h : (ss.map (·.1)).Nodup) (e : ss[i]? = some q) (f : (Str × Nat) × Ans → Bool) : ((ss.take i).filter f).find? (fun z => decide (z.1 = q.1)) = none := by
  rw [List.find?_eq_none]
  intro z hz c
  have c : z.1 = q.1 := by simpa using c
  obtain ⟨hz, _⟩ := List.mem_filter.mp hz
  obtain ⟨j, hj⟩ := List.mem_iff_getElem?.mp hz
  have jlt : j < i := by
    rcases Nat.lt_or_ge j i with q | q
    · exact q
    · rw [List.getElem?_eq_none (by rw [List.length_take]; omega)] at hj
      cases hj
  rw [List.getElem?_take_of_lt jlt] at hj
  have e1 : (ss.map (·.1))[j]? = some q.1 := by rw [List.getElem?_map, hj, ← c] <;> rfl
  have e2 : (ss.map (·.1))[i]? = some q.1 := by rw [List.getElem?_map, e] <;> rfl
  exact Nat.ne_of_lt jlt ((List.getElem?_inj (List.getElem?_eq_some_iff.mp e1).1 h).mp (e1.trans e2.symm))
end K10
end
section
set_option maxHeartbeats 4000000
/-! KE1: go. -/
namespace K10
open PySem PySem.Spec PyProof.Rows L2
theorem rd_items {K : PySem.W.Frag} {s0 s1 s2 x3 x4 : Option V} {H1 : Hp} {d D : Addr} {od : Obj} {kvs : List (List Key × V)} {ss : List ((Str × Nat) × Ans)} {fq : (Str × Nat) × Ans → Bool} {gq : Ans → Ans} {tt : TT} {tv : TE} {Qd : Hp → Prop}
    (hd : H1 d = some (.frz od (.dT kvs))) (hr : SlAre K H1 kvs ss) (nd : (ss.map (·.1)).Nodup) (hz : ss.length ≤ 1000) (hD : H1 D = none)
    (ht : ∀ z H2 b v R, z ∈ ss → Same H1 H2 → H2 b = some (.tup ((slotK z.1).map kV)) → (∀ H3, Same H2 H3 → R (fq z) H3) → tt [s0, s1, s2, some (.ref b), some v] H2 R)
    (hv : ∀ z H2 b v R, z ∈ ss → Same H1 H2 → Dp K H2 v (ansD z.2) → (∀ H3 v', Same H2 H3 → Dp K H3 v' (ansD (gq z.2)) → R v' H3) → tv [s0, s1, s2, some (.ref b), some v] H2 R)
    (k : ∀ H' kvs2, Same H1 H' → H' D = some (.dT kvs2) → SlAre K H' kvs2 ((ss.filter fq).map fun q => (q.1, gq q.2)) → Qd H') :
    ∃ W : Nat → Nat → Hp → Prop, (∃ m, W 0 m (upd H1 D (.dT []))) ∧ ∀ i m H, W i m H →
      ((Itp d od kvs).stop i H ∧ Qd H) ∨ ((Itp d od kvs).go i H ∧ ∃ Nx : Hp → Prop, (∀ H', Nx H' → ∃ m', m' < m ∧ W (i + 1) m' H') ∧ ∀ x H', (Itp d od kvs).yld i H x H' → gTup K 2 (gCons (gName 3) (gCons (gName 4) gNil)) x (wipe [s0, s1, s2, x3, x4] [3, 4]) H' fun σ2 H2 => wipe σ2 [3, 4] = wipe [s0, s1, s2, x3, x4] [3, 4] ∧ tt σ2 H2 fun b H3 =>
        if b = true then tVar 3 σ2 H3 fun y H4 => tv σ2 H4 fun z H5 => stoT D y z H5 Nx else Nx H3) := by
  have hl : kvs.length = ss.length := Paired.length hr
  refine dg_pairs (fun i H' => Same H1 H' ∧ ∃ kvs2, H' D = some (.dT kvs2) ∧ SlAre K H' kvs2 (((ss.take i).filter fq).map fun q => (q.1, gq q.2))) ⟨same_new hD, [], upd_same, .nil⟩ (fun i H' z => z.1 _ _ hd) ?_ ?_
  · rintro i kk v T q H' hi ⟨s1', kvs2, h2, r2⟩ nT hq
    obtain ⟨z, hz1, e1, e2⟩ := L2.paired_get hr hi
    have hzm := List.mem_of_getElem? hz1
    have e1 : kk = slotK z.1 := e1
    subst e1
    have sT : Same H' (upd H' T (.tup [.ref q, v])) := same_new nT
    have sHT := s1'.trans sT
    have step : ss.take (i + 1) = ss.take i ++ [z] := by rw [List.take_succ, hz1] <;> rfl
    have e2' : Dp K H1 v (ansD z.2) := e2
    refine ⟨T, _, rfl, SqT.of upd_same, rfl, _, _, rfl, _, _, rfl, rfl, rfl, ht z _ q v _ hzm sHT (sT _ _ hq) fun H3 s3 => ?_⟩
    have r3 : SlAre K H3 kvs2 (((ss.take i).filter fq).map fun q => (q.1, gq q.2)) := slAre_keep (fun _ _ z => same_sqT (sT.trans s3) z) r2
    cases c : fq z with
    | true =>
      refine iteT ⟨_, rfl, hv z _ q v _ hzm (sHT.trans s3) (dp_same (sHT.trans s3) e2') fun H4 v' s4 hv' => ?_⟩
      have h4 := (s3.trans s4) _ _ (sT _ _ h2)
      have r4 : SlAre K H4 kvs2 (((ss.take i).filter fq).map fun q => (q.1, gq q.2)) := slAre_keep (fun _ _ z => same_sqT s4 z) r3
      have nv : valV kvs2 (slotK z.1) = none := slots_none (q := z.1) r4 (by
        have q0 := find_new nd hz1 fq
        rw [List.find?_map]
        have e : ((fun w : (Str × Nat) × Ans => decide (w.1 = z.1)) ∘ fun q : (Str × Nat) × Ans => (q.1, gq q.2)) = fun w => decide (w.1 = z.1) := rfl
        rw [e, q0] <;> rfl)
      refine ⟨kvs2, slotK z.1, q, rfl, (s3.trans s4) _ _ (sT _ _ hq), h4, ?_, same_at ((sHT.trans s3).trans s4) hD, _, upd_same, ?_⟩
      · have l1 := Paired.length r4
        rw [List.length_map] at l1
        have l2 := List.length_filter_le fq (ss.take i)
        rw [List.length_take] at l2
        rw [sizeLine_eq]
        omega
      · rw [putK_new _ nv, step, List.filter_append, List.filter_cons_of_pos c, List.map_append]
        have m : Mut (H4 D) := by rw [h4]; trivial
        exact wr_tup m (paired_snoc r4 (x := (slotK z.1, v')) (y := (z.1, gq z.2)) ⟨rfl, hv'⟩)
    | false =>
      refine iteF ⟨sHT.trans s3, kvs2, s3 _ _ (sT _ _ h2), ?_⟩
      rw [step, List.filter_append, List.filter_cons_of_neg (by simp [c]), List.filter_nil, List.append_nil]
      exact r3
  · rintro H' ⟨s1', kvs2, h2, r2⟩
    rw [hl, List.take_length] at r2
    exact k H' kvs2 s1' h2 r2
section
variable {K : PySem.W.Frag} {C : Addr} {H H1 : Hp} {a : Adr} {p : Prg} {st : St} {D : Addr}
/-- a field gets what is fresh -/
theorem PAt.nPu {xs : List Str} (h : PAt K C H a p st) (ok : p.Ok) (s : Same H H1) (n : H D = none) (e : H1 D = some (.lst (xs.map V.str))) : PAt K C (upd H1 a.p (.ins C a.dx (pK.zip { a with pu := D }.vals))) { a with pu := D } p { st with pub := xs } := by
  obtain ⟨f1, f2, f3, f4, f5, f6, f7⟩ := h.toRst.fresh n
  have h1 := h.same ok s
  obtain ⟨ns, hh, r⟩ := h1.here
  exact ⟨⟨(h1.toRst.newPu e ⟨f1, f2, f4, f5, f6, f7⟩).putF ok h1.ins, upd_same⟩, ns, by rw [upd_ne (ne_of hh h1.ins fun z => nomatch z)]; exact hh, r⟩
theorem PAt.nDe {xs : List Str} (h : PAt K C H a p st) (ok : p.Ok) (s : Same H H1) (n : H D = none) (e : H1 D = some (.lst (xs.map V.str))) : PAt K C (upd H1 a.p (.ins C a.dx (pK.zip { a with de := D }.vals))) { a with de := D } p { st with deep := xs } := by
  obtain ⟨f1, f2, f3, f4, f5, f6, f7⟩ := h.toRst.fresh n
  have h1 := h.same ok s
  obtain ⟨ns, hh, r⟩ := h1.here
  exact ⟨⟨(h1.toRst.newDe e ⟨f1, f2, f3, f5, f6, f7⟩).putF ok h1.ins, upd_same⟩, ns, by rw [upd_ne (ne_of hh h1.ins fun z => nomatch z)]; exact hh, r⟩
theorem PAt.nSl {ss : List ((Str × Nat) × Ans)} (h : PAt K C H a p st) (ok : p.Ok) (s : Same H H1) (e : SlAt K H1 D ss) : PAt K C (upd H1 a.p (.ins C a.dx (pK.zip { a with sl := D }.vals))) { a with sl := D } p { st with slots := ss } := by
  have h1 := h.same ok s
  obtain ⟨ns, hh, r⟩ := h1.here
  exact ⟨⟨(h1.toRst.newSl e).putF ok h1.ins, upd_same⟩, ns, by rw [upd_ne (ne_of hh h1.ins fun z => nomatch z)]; exact hh, r⟩
/-- own_here gets what is there -/
theorem PAt0.nHe {ns : List Str} (h : PAt0 K C H a p st) (ok : p.Ok) (s : Same H H1) (e : H1 D = some (.dK (hk ns))) (r1 : ns.Nodup) (r2 : ns.length < 64) (r3 : ∀ x, x ∈ ns ↔ thereM p st.opened x = true) :
    PAt K C (upd H1 a.p (.ins C a.dx (pK.zip { a with he := D }.vals))) { a with he := D } p st := by
  have h1 := h.same ok s
  have q : Rst K H1 { a with he := D } p st := ⟨h1.prog, h1.first, h1.rows, h1.each, h1.cnts, h1.opn, h1.pub, h1.deep, h1.slots, h1.nd, h1.ap⟩
  exact ⟨⟨q.putF ok h1.ins, upd_same⟩, ns, by rw [upd_ne (ne_of e h1.ins fun z => nomatch z)]; exact e, r1, r2, r3⟩
/-- what is none behind it was none ahead -/
theorem none_back {o : HO} {q : HO} {c : Addr} (s : Same H H1) (e : H1 c = some q) {D : Addr} (n : upd H1 c o D = none) : H D = none := by
  have nc : D ≠ c := fun z => by
    rw [z, upd_same] at n
    cases n
  rw [upd_ne nc] at n
  exact s.free n
theorem kp_put {o : HO} {q : HO} {c : Addr} (s : Same H H1) (e : H1 c = some q) (m : Mut (some q)) : Kp (fun b => b = c) H (upd H1 c o) := (Kp.same s).trans (kp_at (by rw [e]; exact m)) fun _ h => .inl h
end
section
variable {P : Program} {w : World} {K : PySem.W.Frag} {mg : Str → Option Value} {base : Heap}
abbrev sGo : Stmt := sPr 18
theorem scGo : FnScope ["self", "slots", "name", "place", "answer"] ["self"] (defScope sGo) := ⟨rfl, rfl, rfl, by decide +kernel, rfl, by decide +kernel, by decide +kernel⟩
def spGo (K : PySem.W.Frag) (C : Addr) : Sp := fun vs H Q _ => ∃ (A : Adr) (p : Prg) (st : St), vs = [.ref A.p] ∧ PAt K C H A p st ∧ p.Ok ∧ st.pub.length ≤ 1000 ∧ st.deep.length ≤ 1000 ∧ st.slots.length ≤ 1000 ∧ (st.slots.map (·.1)).Nodup ∧
  ∀ H' A', Nxt A A' H → Kp A.F H H' → PAt K C H' A' p (goM p st) → Q .non H'
theorem ok_go {f C : Addr} {fd : FuncData} (T : ClsF K C pK) (F : DefAt K "go" "Process.go" sGo f fd) (MI : Mth P w K mg base CX0 1 C "is_there" ["self", "name"] (spIsThere K C))
    (ML : Mth P w K mg base CX0 2 C "left" ["self", "answer"] (spLeft K C)) : FnOk P w K mg base CX0 3 f fd ["self"] (spGo K C) := by
  obtain ⟨fI, fdI, GI, mI, bI⟩ := MI.ex
  obtain ⟨fL, fdL, GL, mL, bL⟩ := ML.ex
  refine F.ok scGo (fun vs H Q E h => ?_) (fun cdv A outer s H vs Q E hr h => ?_)
  · obtain ⟨A, p, st, rfl, _⟩ := h
    rfl
  · obtain ⟨a, p, st, rfl, h, ok, z1, z2, z3, nd, k⟩ := h
    have hr1 : Room 1 _ := hr.mono (by decide)
    obtain ⟨ns, hh, hd⟩ := h.hr
    obtain ⟨ns0, hh0, hnd0, hl0, hm0⟩ := h.here
    refine ⟨_, PSs.nox (pss_cons (ps_fld (pv 0) (pe_lc (own := [("name", 2)]) (g := gName 2) rfl scGo.nd (pi_listK (K := K) (pe_fldK (K := K) (pv 0))) (blkOk_by (N := ["self", "slots", "name", "place", "answer"]) (sc := defScope sGo) (by decide +kernel))
        (fun _ _ _ _ _ => pg_name (i := 2) scGo.nd rfl (Or.inl rfl)) (fun _ _ _ _ _ => pts_one (pt_val (pe_meth (pv 0) T.cl mI GI hr1 bI .nil pass0 (pa_cons (pv 2) pa_nil)))) (fun _ _ _ _ _ => pv 2)) rfl)
      (pss_cons (ps_fld (pv 0) (pe_lc (own := [("name", 2)]) (g := gName 2) rfl scGo.nd (pi_listK (K := K) (pe_fldK (K := K) (pv 0))) (blkOk_by (N := ["self", "slots", "name", "place", "answer"]) (sc := defScope sGo) (by decide +kernel))
        (fun _ _ _ _ _ => pg_name (i := 2) scGo.nd rfl (Or.inl rfl)) (fun _ _ _ _ _ => pts_one (pt_val (pe_meth (pv 0) T.cl mI GI hr1 bI .nil pass0 (pa_cons (pv 2) pa_nil)))) (fun _ _ _ _ _ => pv 2)) rfl)
      (pss_cons (ps_lock (ps_setDg (i := 1) (own := [("place", 3), ("answer", 4)]) (o0 := .dT []) (S := stoT) (g := gTup K 2 (gCons (gName 3) (gCons (gName 4) gNil))) (tk := tVar 3) (tv := tVar 4) (fun _ h hb => dt_empty h hb) (fun _ _ _ _ => stoT_ok hr.units0) rfl scGo.nd rfl rfl (swD_true rfl rfl rfl (by decide +kernel)) (pi_itemsT (pe_fldK (K := K) (pv 0)))
        (blkOk_by (N := ["self", "slots", "name", "place", "answer"]) (sc := defScope sGo) (by decide +kernel)) (fun _ _ _ _ _ => pg_tupK rfl (pgs_cons (pg_name (i := 3) scGo.nd rfl (Or.inl rfl)) (pgs_cons (pg_name (i := 4) scGo.nd rfl (Or.inl rfl)) pgs_nil)))
        (fun _ _ _ _ _ => pts_one (pt_val (pe_meth (pv 0) T.cl mI GI hr1 bI .nil pass0 (pa_cons (pe_ix (ixtK (K := K)) (pv 3) pe_int (fun _ _ => rfl)) pa_nil)))) (fun _ _ _ _ _ => pv 3) (fun _ _ _ _ _ => pv 4)))
      (pss_one (ps_fld (pv 0) (pe_lock (pe_dcG (own := [("place", 3), ("answer", 4)]) (o0 := .dT []) (S := stoT) (g := gTup K 2 (gCons (gName 3) (gCons (gName 4) gNil))) (tt := tYes) (tk := tVar 3) (fun _ h hb => dt_empty h hb) (fun _ _ _ _ => stoT_ok hr.units0) rfl scGo.nd (pi_itemsT (pv 1))
        (blkOk_by (N := ["self", "slots", "name", "place", "answer"]) (sc := defScope sGo) (by decide +kernel)) (fun _ _ _ _ _ => pg_tupK rfl (pgs_cons (pg_name (i := 3) scGo.nd rfl (Or.inl rfl)) (pgs_cons (pg_name (i := 4) scGo.nd rfl (Or.inl rfl)) pgs_nil)))
        (fun _ _ _ _ _ => pts_nil) (fun _ _ _ _ _ => pv 3) (fun _ _ _ _ _ => pe_meth (pv 0) T.cl mL GL hr bL .nil pass0 (pa_cons (pv 4) pa_nil)))) rfl))))), ?_⟩
    have it : ∀ {H2 : Hp} {x : Str}, Same H H2 → H2 a.he = some (.dK (hk ns)) := fun {H2 x} s2 => s2 _ _ hh
    -- own_public
    refine ⟨_, rfl, a.p, C, a.dx, _, _, rfl, h.ins, T.cl, fdn T, fdl (i := 6) rfl, a.pu, rfl, ⟨_, SqL.of h.pub⟩, fun D1 n1 => ?_⟩
    refine rd_filter (f := fun x => thereM p st.opened x) n1 h.pub z1 (fun x H2 R s2 kr => ?_) (Nat.le_of_ble_eq_true rfl) (fun H1 s1 e1 => ?_)
    · refine ⟨_, rfl, a.p, a.dx, _, rfl, s2 _ _ h.ins, lookup_zip_none (by decide +kernel), _, rfl, a.p, a.dx, a.he, _, ns, x, rfl, s2 _ _ h.ins, rfl, s2 _ _ hh, fun H3 s3 => ⟨_, rfl, ?_⟩⟩
      rw [hd]
      exact kr H3 s3
    refine ⟨_, rfl, a.p, C, a.dx, _, rfl, s1 _ _ h.ins, T.cl, fdn T, zip_few (by decide +kernel), ?_⟩
    have p1 : putF "own_public" (V.ref D1) (pK.zip a.vals) = pK.zip { a with pu := D1 }.vals := put_zip (i := 6) (by decide +kernel) (by show 6 < 10; decide)
    rw [p1]
    have h1 := h.nPu ok s1 n1 e1
    have k1 := kp_put (o := .ins C a.dx (pK.zip { a with pu := D1 }.vals)) s1 (s1 _ _ h.ins) trivial
    have b1 : ∀ {D}, upd H1 a.p (.ins C a.dx (pK.zip { a with pu := D1 }.vals)) D = none → H D = none := fun n => none_back s1 (s1 _ _ h.ins) n
    have hh1 : upd H1 a.p (.ins C a.dx (pK.zip { a with pu := D1 }.vals)) a.he = some (.dK (hk ns)) := by rw [upd_ne (ne_of hh h.ins fun z => nomatch z)]; exact s1 _ _ hh
    generalize upd H1 a.p (.ins C a.dx (pK.zip { a with pu := D1 }.vals)) = G1 at h1 k1 b1 hh1 ⊢
    have i1 : G1 a.p = some (.ins C a.dx (pK.zip ({ a with pu := D1 } : Adr).vals)) := h1.ins
    -- own_deep
    refine ⟨_, rfl, a.p, C, a.dx, _, _, rfl, i1, T.cl, fdn T, fdl (i := 7) rfl, a.de, rfl, ⟨_, SqL.of h1.deep⟩, fun D2 n2 => ?_⟩
    refine rd_filter (f := fun x => thereM p st.opened x) n2 h1.deep z2 (fun x H2 R s2 kr => ?_) (Nat.le_of_ble_eq_true rfl) (fun H2 s2 e2 => ?_)
    · refine ⟨_, rfl, a.p, a.dx, _, rfl, s2 _ _ i1, lookup_zip_none (by decide +kernel), _, rfl, a.p, a.dx, a.he, _, ns, x, rfl, s2 _ _ i1, rfl, s2 _ _ hh1, fun H3 s3 => ⟨_, rfl, ?_⟩⟩
      rw [hd]
      exact kr H3 s3
    refine ⟨_, rfl, a.p, C, a.dx, _, rfl, s2 _ _ i1, T.cl, fdn T, zip_few (by decide +kernel), ?_⟩
    have p2 : putF "own_deep" (V.ref D2) (pK.zip ({ a with pu := D1 } : Adr).vals) = pK.zip ({ a with pu := D1, de := D2 } : Adr).vals := put_zip (i := 7) (by decide +kernel) (by show 7 < 10; decide)
    rw [p2]
    have h2 : PAt K C (upd H2 a.p (.ins C a.dx (pK.zip ({ a with pu := D1, de := D2 } : Adr).vals))) { a with pu := D1, de := D2 } p { st with pub := st.pub.filter fun x => thereM p st.opened x, deep := st.deep.filter fun x => thereM p st.opened x } := h1.nDe ok s2 n2 e2
    have k2 := k1.trans (kp_put (o := .ins C a.dx (pK.zip ({ a with pu := D1, de := D2 } : Adr).vals)) s2 (s2 _ _ i1) trivial) fun _ z => .inl z
    have b2 : ∀ {D}, upd H2 a.p (.ins C a.dx (pK.zip ({ a with pu := D1, de := D2 } : Adr).vals)) D = none → H D = none := fun n => b1 (none_back s2 (s2 _ _ i1) n)
    have hh2 : upd H2 a.p (.ins C a.dx (pK.zip ({ a with pu := D1, de := D2 } : Adr).vals)) a.he = some (.dK (hk ns)) := by rw [upd_ne (ne_of hh h.ins fun z => nomatch z)]; exact s2 _ _ hh1
    have q2 : H D2 = none := b1 n2
    generalize upd H2 a.p (.ins C a.dx (pK.zip ({ a with pu := D1, de := D2 } : Adr).vals)) = G2 at h2 k2 b2 hh2 ⊢
    have i2 : G2 a.p = some (.ins C a.dx (pK.zip ({ a with pu := D1, de := D2 } : Adr).vals)) := h2.ins
    -- slots, while own_slots is locked
    obtain ⟨kvs, hs, hrel⟩ := h2.slots
    have hs : G2 a.sl = some (.dT kvs) := hs
    refine ⟨a.sl, _, hs, trivial, fun od => ?_⟩
    have pl : a.p ≠ a.sl := ne_of i2 hs fun z => nomatch z
    have hel : a.he ≠ a.sl := ne_of hh2 hs fun z => nomatch z
    have iL : upd G2 a.sl (.frz od (.dT kvs)) a.p = some (.ins C a.dx (pK.zip ({ a with pu := D1, de := D2 } : Adr).vals)) := by rw [upd_ne pl]; exact i2
    have hhL : upd G2 a.sl (.frz od (.dT kvs)) a.he = some (.dK (hk ns)) := by rw [upd_ne hel]; exact hh2
    have rL : SlAre K (upd G2 a.sl (.frz od (.dT kvs))) kvs st.slots := slAre_keep (fun _ _ z => sqT_lock hs trivial z) hrel
    refine ⟨_, rfl, a.p, C, a.dx, _, _, rfl, iL, T.cl, fdn T, fdl (i := 8) rfl, a.sl, od, kvs, rfl, upd_same, fun D3 n3 => ?_⟩
    refine rd_items (fq := fun z => thereM p st.opened z.1.1) (gq := fun b => b) upd_same rL nd z3 n3 (fun z H3 b v R _ s3 hb kr => ?_) (fun z H3 b v R _ s3 hv kr => ⟨v, rfl, kr _ _ (Same.refl _) hv⟩) (fun H3 kvs3 s3 e3 r3 => ?_)
    · refine ⟨_, rfl, a.p, a.dx, _, rfl, s3 _ _ iL, lookup_zip_none (by decide +kernel), _, rfl, b, _, _, V.str z.1.1, rfl, rfl, SqT.of hb, atI_nat (j := 0) rfl, a.p, a.dx, a.he, _, ns, z.1.1, rfl, s3 _ _ iL, rfl, s3 _ _ hhL, fun H4 s4 => ⟨_, rfl, ?_⟩⟩
      rw [hd]
      exact kr H4 s4
    refine ⟨s3 _ _ upd_same, ?_⟩
    have s3' : Same G2 (upd H3 a.sl (.dT kvs)) := lock_same hs s3
    have h3 := h2.same ok s3'
    have D3l : D3 ≠ a.sl := fun z => by
      rw [z, upd_same] at n3
      cases n3
    have n3' : G2 D3 = none := by
      rw [upd_ne D3l] at n3
      exact n3
    have e3' : upd H3 a.sl (.dT kvs) D3 = some (.dT kvs3) := by rw [upd_ne D3l]; exact e3
    have hh3 := s3' _ _ hh2
    have i3 := s3' _ _ i2
    have r3' : SlAre K (upd H3 a.sl (.dT kvs)) kvs3 (slF (fun x => thereM p st.opened x) st.slots) := by
      have q : SlAre K (upd H3 a.sl (.dT kvs)) kvs3 ((st.slots.filter fun z => thereM p st.opened z.1.1).map fun q => (q.1, q.2)) := slAre_keep (fun b xs z => by
        rcases z with (z | ⟨o, z⟩) | z
        · have nb : b ≠ a.sl := fun w => by
            rw [w, s3 _ _ upd_same] at z
            cases z
          exact .inl (.inl (by rw [upd_ne nb]; exact z))
        · have nb : b ≠ a.sl := fun w => by
            rw [w, s3 _ _ upd_same] at z
            cases z
          exact .inl (.inr ⟨o, by rw [upd_ne nb]; exact z⟩)
        · exact .inr z) r3
      have e : ((st.slots.filter fun z => thereM p st.opened z.1.1).map fun q => (q.1, q.2)) = slF (fun x => thereM p st.opened x) st.slots := List.map_id' _
      rw [e] at q
      exact q
    generalize upd H3 a.sl (.dT kvs) = G3 at s3' h3 e3' hh3 i3 r3' ⊢
    -- own_slots
    refine ⟨D3, _, e3', trivial, fun od2 => ?_⟩
    have p3 : a.p ≠ D3 := ne_of i3 e3' fun z => nomatch z
    have he3 : a.he ≠ D3 := ne_of hh3 e3' fun z => nomatch z
    have iM : upd G3 D3 (.frz od2 (.dT kvs3)) a.p = some (.ins C a.dx (pK.zip ({ a with pu := D1, de := D2 } : Adr).vals)) := by rw [upd_ne p3]; exact i3
    have hhM : upd G3 D3 (.frz od2 (.dT kvs3)) a.he = some (.dK (hk ns)) := by rw [upd_ne he3]; exact hh3
    have rM : SlAre K (upd G3 D3 (.frz od2 (.dT kvs3))) kvs3 (slF (fun x => thereM p st.opened x) st.slots) := slAre_keep (fun _ _ z => sqT_lock e3' trivial z) r3'
    refine ⟨_, rfl, D3, od2, kvs3, rfl, upd_same, fun D4 n4 => ?_⟩
    refine rd_items (fq := fun _ => true) (gq := leftN ns) upd_same rM (slF_nd nd) (Nat.le_trans (List.length_filter_le _ _) z3) n4 (fun z H4 b v R _ s4 hb kr => kr _ (Same.refl _)) (fun z H4 b v R _ s4 hv kr => ?_) (fun H4 kvs4 s4 e4 r4 => ?_)
    · exact ⟨_, rfl, a.p, a.dx, _, rfl, s4 _ _ iM, lookup_zip_none (by decide +kernel), _, rfl, a.p, a.dx, a.he, _, ns, v, z.2, rfl, s4 _ _ iM, rfl, s4 _ _ hhM, hv, fun H5 v' s5 hv' => kr _ _ s5 hv'⟩
    refine ⟨s4 _ _ upd_same, ?_⟩
    have s4' : Same G3 (upd H4 D3 (.dT kvs3)) := lock_same e3' s4
    have h4 := h3.same ok s4'
    have D4l : D4 ≠ D3 := fun z => by
      rw [z, upd_same] at n4
      cases n4
    have n4' : G3 D4 = none := by
      rw [upd_ne D4l] at n4
      exact n4
    have e4' : upd H4 D3 (.dT kvs3) D4 = some (.dT kvs4) := by rw [upd_ne D4l]; exact e4
    have i4 := s4' _ _ i3
    have r4' : SlAre K (upd H4 D3 (.dT kvs3)) kvs4 (goM p st).slots := by
      have q : SlAre K (upd H4 D3 (.dT kvs3)) kvs4 (((slF (fun x => thereM p st.opened x) st.slots).filter fun _ => true).map fun q => (q.1, leftN ns q.2)) := slAre_keep (fun b xs z => by
        rcases z with (z | ⟨o, z⟩) | z
        · have nb : b ≠ D3 := fun w => by
            rw [w, s4 _ _ upd_same] at z
            cases z
          exact .inl (.inl (by rw [upd_ne nb]; exact z))
        · have nb : b ≠ D3 := fun w => by
            rw [w, s4 _ _ upd_same] at z
            cases z
          exact .inl (.inr ⟨o, by rw [upd_ne nb]; exact z⟩)
        · exact .inr z) r4
      have e0 : ((slF (fun x => thereM p st.opened x) st.slots).filter fun _ => true) = slF (fun x => thereM p st.opened x) st.slots := List.filter_eq_self.mpr fun _ _ => rfl
      have e1 : leftN ns = leftM p st.opened := by
        funext b
        cases b with
        | bound n v =>
          show (if n ∈ ns then Ans.bound n v else .torn) = (if thereM p st.opened n = true then .bound n v else .torn)
          have q := hd n
          by_cases c : n ∈ ns
          · rw [decide_eq_true c] at q
            rw [if_pos c, if_pos q.symm]
          · rw [decide_eq_false c] at q
            rw [if_neg c, if_neg (by rw [← q]; decide)]
        | _ => rfl
      rw [e0, e1] at q
      exact q
    generalize upd H4 D3 (.dT kvs3) = G4 at s4' h4 e4' i4 r4' ⊢
    refine ⟨_, rfl, a.p, C, a.dx, _, rfl, i4, T.cl, fdn T, zip_few (by decide +kernel), ?_⟩
    have p4 : putF "own_slots" (V.ref D4) (pK.zip ({ a with pu := D1, de := D2 } : Adr).vals) = pK.zip ({ a with pu := D1, de := D2, sl := D4 } : Adr).vals := put_zip (i := 8) (by decide +kernel) (by show 8 < 10; decide)
    rw [p4]
    have h5 : PAt K C (upd G4 a.p (.ins C a.dx (pK.zip ({ a with pu := D1, de := D2, sl := D4 } : Adr).vals))) { a with pu := D1, de := D2, sl := D4 } p (goM p st) := h4.nSl ok (Same.refl _) ⟨kvs4, e4', r4'⟩
    have q4 : H D4 = none := b2 (s3'.free n4')
    refine k _ { a with pu := D1, de := D2, sl := D4 } ⟨rfl, fun c hc => ?_, fun c hc => .inl hc⟩ ((k2.trans (kp_put (s3'.trans s4') i4 trivial) fun _ z => .inl z).mono fun c z => .inl z) h5
    rcases hc with z | z | z | z | z | z
    · exact .inl (.inl z)
    · exact .inl (.inr (.inl z))
    · exact .inl (.inr (.inr (.inl z)))
    · exact .inr (by rw [z]; exact n1)
    · exact .inr (by rw [z]; exact q2)
    · exact .inr (by rw [z]; exact q4)
end
end K10
end
section
set_option maxHeartbeats 4000000
/-! KF: come, open_door, close_door. -/
namespace K10
open PySem PySem.Spec PyProof.Rows L2
theorem modeAt_get {p : Prg} {k : Nat} {d : Str × Str} (h : p.doors[k]? = some d) : modeAt p k = d.2 := by unfold modeAt; rw [h]
theorem hereM_ok {p : Prg} (ok : p.Ok) {os : List Nat} : RowOk p (hereM (firstM p) (rowsM p) os) := by
  refine ⟨hereM_nd, fun x hx => ?_⟩
  have q := hereM_mem.mp hx
  unfold thereM at q
  rw [Bool.or_eq_true, decide_eq_true_eq, List.any_eq_true] at q
  rcases q with q | ⟨k, _, q⟩
  · exact (first_ok ok).sub x q
  · have q := of_decide_eq_true q
    unfold rowAt at q
    rw [List.getD_eq_getElem?_getD] at q
    cases e : (rowsM p)[k]? with
    | none =>
      rw [e] at q
      cases q
    | some r =>
      rw [e] at q
      exact (row_names ok r (List.mem_of_getElem? e)).sub x q
section
variable {P : Program} {w : World} {K : PySem.W.Frag} {mg : Str → Option Value} {base : Heap}
/-! ### come -/
abbrev sCome : Stmt := sPr 16
theorem scCome : FnScope ["self", "k", "name"] ["self", "k"] (defScope sCome) := ⟨rfl, rfl, rfl, by decide +kernel, rfl, by decide +kernel, by decide +kernel⟩
def spCome (K : PySem.W.Frag) (C : Addr) : Sp := fun vs H Q _ => ∃ (A : Adr) (p : Prg) (st : St) (k : Nat), vs = [.ref A.p, .int (k : Int)] ∧ PAt K C H A p st ∧ p.Ok ∧ k < p.doors.length ∧ (∀ j ∈ st.opened, j < p.doors.length) ∧ st.opened.length + 1 ≤ 8 ∧ st.pub.length ≤ 1000 ∧ st.deep.length ≤ 1000 ∧
  ∀ H' A', Nxt A A' H → Kp A.F H H' → PAt K C H' A' p (comeM p st k) → Q .non H'
/-- own_x.extend([name for name in self.own_rows[k] if ..]) -/
theorem rd_ext {C : Addr} {H : Hp} {a : Adr} {p : Prg} {st : St} {fld : Str} {q : Nat} {l ra : Addr} {j : Nat} {row xs : List Str} {f : Str → Bool} {tt : TT} {Q : VK} (T : ClsF K C pK) (h : PAt K C H a p st) (m : fld ∈ pK) (ef : pK.findIdx? (fun y => decide (y = fld)) = some q) (ev : a.vals[q]? = some (.ref l))
    (hl : H l = some (.lst (xs.map V.str))) (at1 : atI (a.rs.map V.ref) (j : Int) = some (V.ref ra)) (hrow : H ra = some (.lst (row.map V.str))) (rl : row.length ≤ 8) (hx : xs.length ≤ 1000)
    (ht : ∀ x H2 R, Same H H2 → (∀ H3, Same H2 H3 → R (f x) H3) → tt [some (.ref a.p), some (.int (j : Int)), some (.str x)] H2 R) (k : ∀ H1, Same H H1 → Q .non (upd H1 l (.lst ((xs ++ row.filter f).map V.str)))) :
    tBM K "list" rExtend (tFld K (tVar 0) fld) (tCons (tLc (iList K (tOp (rIxL K) (tFld K (tVar 0) "own_rows") (tVar 1))) (gName 2) tt (tVar 2) [2]) tNil) [some (.ref a.p), some (.int (j : Int)), none] H Q := by
  refine ⟨_, rfl, a.p, C, a.dx, _, _, rfl, h.ins, T.cl, T.no _ m, (lookup_zip ef).trans ev, .inl ⟨rfl, _, SqL.of hl⟩, ?_⟩
  refine ⟨_, rfl, a.p, C, a.dx, _, _, rfl, h.ins, T.cl, fdn T, fdl (i := 3) rfl, _, rfl, a.ro, _, _, V.ref ra, rfl, rfl, SqL.of h.rows, at1, ra, rfl, ⟨_, SqL.of hrow⟩, fun D hD => ?_⟩
  refine rd_filter (f := f) hD hrow (by omega) (fun x H2 R s2 kr => ht x H2 R s2 kr) (Nat.le_of_ble_eq_true rfl) (fun H1 s1 e1 => ?_)
  refine ⟨l, D, _, _, rfl, rfl, s1 _ _ hl, e1, ?_, ?_⟩
  · rw [List.length_map, List.length_map]
    have := List.length_filter_le f row
    rw [sizeLine_eq]
    omega
  · have e : xs.map V.str ++ (row.filter f).map V.str = (xs ++ row.filter f).map V.str := List.map_append.symm
    show Q .non (upd H1 l (.lst (xs.map V.str ++ (row.filter f).map V.str)))
    rw [e]
    exact k H1 s1
theorem PAt.uDe {C : Addr} {H : Hp} {a : Adr} {p : Prg} {st : St} (h : PAt K C H a p st) (ok : p.Ok) (xs : List Str) : PAt K C (upd H a.de (.lst (xs.map V.str))) a p { st with deep := xs } := by
  obtain ⟨ns, hh, r⟩ := h.here
  exact ⟨⟨h.toRst.setDe ok xs, by rw [upd_ne (ne_of h.ins h.deep fun z => nomatch z)]; exact h.ins⟩, ns, by rw [upd_ne (ne_of hh h.deep fun z => nomatch z)]; exact hh, r⟩
theorem PAt.uPu {C : Addr} {H : Hp} {a : Adr} {p : Prg} {st : St} (h : PAt K C H a p st) (ok : p.Ok) (xs : List Str) : PAt K C (upd H a.pu (.lst (xs.map V.str))) a p { st with pub := xs } := by
  obtain ⟨ns, hh, r⟩ := h.here
  exact ⟨⟨h.toRst.setPu ok xs, by rw [upd_ne (ne_of h.ins h.pub fun z => nomatch z)]; exact h.ins⟩, ns, by rw [upd_ne (ne_of hh h.pub fun z => nomatch z)]; exact hh, r⟩
theorem PAt.uCn {C : Addr} {H : Hp} {a : Adr} {p : Prg} {st : St} (h : PAt K C H a p st) (ok : p.Ok) (xs : List Int) : PAt K C (upd H a.cn (.lst (xs.map V.int))) a p { st with counts := xs } := by
  obtain ⟨ns, hh, r⟩ := h.here
  exact ⟨⟨h.toRst.setCn ok xs, by rw [upd_ne (ne_of h.ins h.cnts fun z => nomatch z)]; exact h.ins⟩, ns, by rw [upd_ne (ne_of hh h.cnts fun z => nomatch z)]; exact hh, r⟩
theorem PAt.uOp {C : Addr} {H : Hp} {a : Adr} {p : Prg} {st : St} (h : PAt K C H a p st) (ok : p.Ok) (xs : List Nat) : PAt0 K C (upd H a.op (.lst (xs.map fun k : Nat => V.int (k : Int)))) a p { st with opened := xs } :=
  ⟨h.toRst.setOp ok xs, by rw [upd_ne (ne_of h.ins h.opn fun z => nomatch z)]; exact h.ins⟩
theorem ok_come {f C : Addr} {fd : FuncData} (K0 : Cst K mg) (T : ClsF K C pK) (F : DefAt K "come" "Process.come" sCome f fd) (MI : Mth P w K mg base CX0 1 C "is_there" ["self", "name"] (spIsThere K C))
    (MA : Mth P w K mg base CX0 1 C "all_here" ["self"] (spAllHere K C)) : FnOk P w K mg base CX0 2 f fd ["self", "k"] (spCome K C) := by
  obtain ⟨fI, fdI, GI, mI, bI⟩ := MI.ex
  obtain ⟨fA, fdA, GA, mA, bA⟩ := MA.ex
  obtain ⟨uD, eD, rD⟩ := K0.deep.str
  obtain ⟨uG, eG, rG⟩ := K0.glob.str
  refine F.ok scCome (fun vs H Q E h => ?_) (fun cdv A outer s H vs Q E hr h => ?_)
  · obtain ⟨A, p, st, k, rfl, _⟩ := h
    rfl
  · obtain ⟨a, p, st, j, rfl, h, ok, jlt, olt, o8, z1, z2, k⟩ := h
    have ed := List.getElem?_eq_getElem jlt
    generalize p.doors[j] = dj at ed
    have em := modeAt_get ed
    have rj := rowAt_in jlt
    have rok := row_names ok _ (List.mem_of_getElem? rj)
    have rl := r8 ok rok
    have dq : ∀ {H : Hp} {Q : VK}, Dp K H (.ref a.pr) (prD p) → Q (V.str dj.2) H → tC (.int 2) [some (V.ref a.p), some (V.int (j : Int)), none] H (fun y H2 => rIxT K (.ref a.pr) y H2 fun x H1 => tVar 1 [some (V.ref a.p), some (V.int (j : Int)), none] H1 fun y H2 => rIxT K x y H2 fun x H1 => tC (.int 1) [some (V.ref a.p), some (V.int (j : Int)), none] H1 fun y H2 => rIxT K x y H2 Q) := fun {H Q} hp kq =>
      ixT2 hp fun v1 h1 => ⟨_, rfl, ixTn h1 (by rw [List.getElem?_map, ed] <;> rfl) fun v2 h2 => ixT1 h2 fun v3 h3 => by rw [dp_strE h3]; exact kq⟩
    -- behind the first if
    obtain ⟨t2, w2, r2⟩ : ∃ t2, PSs (cxOf CX0 P w K mg base ["self", "k", "name"] "Process.come" (defScope sCome) f cdv A outer s H E).nox (defBody sCome).tail t2 ∧
        ∀ H1 ds, PAt K C H1 a p { st with deep := ds } → Kp a.F H H1 → (if modeAt p j = "deep" then st.deep ++ (rowAt p j).filter (fun x => !thereM p st.opened x) else st.deep) = ds → t2 { nx := fun _ H' => Q .non H', rt := Q } [some (.ref a.p), some (.int (j : Int)), none] H1 := by
      refine ⟨_, pss_cons (ps_expr (pe_bm PySem.F.plainAttrs_list PySem.F.slot_list_append PySem.F.type_list_append mt_append (pe_fldK (K := K) (pv 0)) (pa_cons (pv 1) pa_nil)))
        (pss_cons (ps_fld (pv 0) (pe_meth0 (pv 0) T.cl mA GA hr bA .nil pass0) rfl)
        (pss_one (ps_if (pt_cmpR op_eq (pe_ix (ixtK (K := K)) (pe_ix (ixtK (K := K)) (pe_ix (ixtK (K := K)) (pe_fldK (K := K) (pv 0)) pe_int (fun _ _ => rfl)) (pv 1) (fun _ _ => rfl)) pe_int (fun _ _ => rfl)) (pe_glob (by rfl) eG rG) (nomark _))
          (pss_one (ps_expr (pe_bm PySem.F.plainAttrs_list PySem.F.slot_list_extend PySem.F.type_list_extend mt_extend (pe_fldK (K := K) (pv 0)) (pa_cons
            (pe_lc (own := [("name", 2)]) (g := gName 2) rfl scCome.nd (pi_listK (K := K) (pe_ix (ixlK (K := K)) (pe_fldK (K := K) (pv 0)) (pv 1) (fun _ _ => rfl))) (blkOk_by (N := ["self", "k", "name"]) (sc := defScope sCome) (by decide +kernel))
              (fun _ _ _ _ _ => pg_name (i := 2) scCome.nd rfl (Or.inl rfl)) (fun _ _ _ _ _ => pts_one (pt_cmpR (ninK (K := K)) (pv 2) (pe_fldK (K := K) (pv 0)) (by rfl))) (fun _ _ _ _ _ => pv 2)) pa_nil)))) pss_nil))), ?_⟩
      intro H1 ds h1 k1 hds
      have cm : comeM p st j = { st with deep := ds, opened := st.opened ++ [j], pub := if modeAt p j = "global" then st.pub ++ (rowAt p j).filter (fun x => !decide (x ∈ st.pub)) else st.pub } := by unfold comeM; rw [hds]
      rw [cm] at k
      -- own_opened.append(k)
      refine ⟨_, rfl, a.p, C, a.dx, _, _, rfl, h1.ins, T.cl, fdn T, fdl (i := 5) rfl, .inl ⟨rfl, _, SqL.of h1.opn⟩, _, rfl, a.op, _, _, rfl, rfl, h1.opn, by rw [List.length_map, sizeLine_eq]; show st.opened.length < _; omega, ?_⟩
      have eo : (st.opened.map fun k : Nat => V.int (k : Int)) ++ [V.int (j : Int)] = (st.opened ++ [j]).map fun k : Nat => V.int (k : Int) := by rw [List.map_append] <;> rfl
      show tSeq _ _ _ _ (upd H1 a.op (.lst ((st.opened.map fun k : Nat => V.int (k : Int)) ++ [V.int (j : Int)])))
      rw [eo]
      have h2 := h1.uOp ok (st.opened ++ [j])
      have k2 := k1.trans (kp_at (o := .lst ((st.opened ++ [j]).map fun k : Nat => V.int (k : Int))) (mut_lst h1.opn)) fun c hc => .inl (.inr (.inr (.inl hc)))
      have b2 : ∀ {D}, upd H1 a.op (.lst ((st.opened ++ [j]).map fun k : Nat => V.int (k : Int))) D = none → H1 D = none := fun n => none_back (Same.refl _) h1.opn n
      generalize upd H1 a.op (.lst ((st.opened ++ [j]).map fun k : Nat => V.int (k : Int))) = H2 at h2 k2 b2 ⊢
      -- own_here
      refine ⟨_, rfl, a.p, a.dx, _, rfl, h2.ins, lookup_zip_none (by decide +kernel), a.p, a.dx, _, a.fi, a.ro, a.op, a.rs, firstM p, rowsM p, st.opened ++ [j], rfl, h2.ins, rfl, rfl, rfl, h2.first, h2.rows, h2.each, h2.opn, fun i hi => ?_, r8 ok (first_ok ok), fun r hr => r8 ok (row_names ok r hr), by rw [List.length_append]; exact o8, fun H3 D s3 nD hD => ?_⟩
      · have e : (rowsM p).length = p.doors.length := List.length_map ..
        rw [e]
        rcases List.mem_append.mp hi with z | z
        · exact olt i z
        · rw [List.mem_singleton.mp z]
          exact jlt
      refine ⟨_, rfl, a.p, C, a.dx, _, rfl, s3 _ _ h2.ins, T.cl, fdn T, zip_few (by decide +kernel), ?_⟩
      have p1 : putF "own_here" (V.ref D) (pK.zip a.vals) = pK.zip ({ a with he := D } : Adr).vals := put_zip (i := 9) (by decide +kernel) (by show 9 < 10; decide)
      rw [p1]
      have hro : RowOk p (hereM (firstM p) (rowsM p) (st.opened ++ [j])) := hereM_ok ok
      have hlen : (hereM (firstM p) (rowsM p) (st.opened ++ [j])).length < 64 := by have := r8 ok hro; omega
      have h3 := h2.nHe ok s3 hD hereM_nd hlen fun x => hereM_mem
      have k3 := k2.trans (kp_put (o := .ins C a.dx (pK.zip ({ a with he := D } : Adr).vals)) s3 (s3 _ _ h2.ins) trivial) fun c hc => .inl (.inl hc)
      generalize upd H3 a.p (.ins C a.dx (pK.zip ({ a with he := D } : Adr).vals)) = G at h3 k3 ⊢
      have i3 : G a.p = some (.ins C a.dx (pK.zip ({ a with he := D } : Adr).vals)) := h3.ins
      have nx : Nxt a { a with he := D } H := ⟨rfl, fun c hc => .inl hc, fun c hc => by
        rcases hc with z | z | z | z
        · exact .inl (.inl z)
        · exact .inl (.inr (.inl z))
        · refine .inr ?_
          have n1 : H1 D = none := b2 nD
          rw [z]
          cases q : H D with
          | none => rfl
          | some o =>
            by_cases fD : a.F D
            · rcases fD with e | e | e | e | e | e
              · rw [e, h1.ins] at n1; cases n1
              · rw [e, h1.cnts] at n1; cases n1
              · rw [e, h1.opn] at n1; cases n1
              · rw [e, h1.pub] at n1; cases n1
              · rw [e, h1.deep] at n1; cases n1
              · obtain ⟨kvs, hs, _⟩ := h1.slots
                rw [e, hs] at n1; cases n1
            · rw [k1.keep _ _ fD q] at n1
              cases n1
        · exact .inl (.inr (.inr (.inr z)))⟩
      refine ⟨_, rfl, a.p, C, a.dx, _, _, rfl, i3, T.cl, fdn T, fdl (i := 1) rfl, dq h3.prog ⟨rfl, _, rfl, ?_⟩⟩
      rw [dec_str, ← em]
      by_cases c : modeAt p j = "global"
      · rw [decide_eq_true c]
        rw [if_pos c] at k
        obtain ⟨ra, hra, _, hrow⟩ := paired_get h3.each rj
        have at1 : atI (a.rs.map V.ref) (j : Int) = some (V.ref ra) := atI_nat (j := j) (by rw [List.getElem?_map, hra] <;> rfl)
        refine iteT ?_
        refine rd_ext (a := { a with he := D }) (q := 6) (f := fun x => !decide (x ∈ st.pub)) T h3 (by decide +kernel) (by decide +kernel) rfl h3.pub at1 hrow rl z1 (fun x H4 R s4 kr => ?_) (fun H4 s4 => ?_)
        · exact ⟨_, rfl, _, rfl, a.p, C, a.dx, _, _, rfl, s4 _ _ i3, T.cl, fdn T, fdl (i := 6) rfl, rNin_strs (SqL.of (s4 _ _ h3.pub)) ⟨_, rfl, kr _ (Same.refl _)⟩⟩
        · have h4 := (h3.same ok s4).uPu ok (st.pub ++ (rowAt p j).filter (fun x => !decide (x ∈ st.pub)))
          exact k _ { a with he := D } nx (k3.trans ((Kp.same s4).trans (kp_at (mut_lst (s4 _ _ h3.pub))) fun _ z => .inl z) fun c hc => .inl (.inr (.inr (.inr (.inl hc))))) h4
      · rw [decide_eq_false c]
        rw [if_neg c] at k
        exact iteF (k _ { a with he := D } nx k3 h3)
    refine ⟨_, PSs.nox (pss_cons (ps_if (pt_cmpR op_eq (pe_ix (ixtK (K := K)) (pe_ix (ixtK (K := K)) (pe_ix (ixtK (K := K)) (pe_fldK (K := K) (pv 0)) pe_int (fun _ _ => rfl)) (pv 1) (fun _ _ => rfl)) pe_int (fun _ _ => rfl)) (pe_glob (by rfl) eD rD) (nomark _))
        (pss_one (ps_expr (pe_bm PySem.F.plainAttrs_list PySem.F.slot_list_extend PySem.F.type_list_extend mt_extend (pe_fldK (K := K) (pv 0)) (pa_cons
          (pe_lc (own := [("name", 2)]) (g := gName 2) rfl scCome.nd (pi_listK (K := K) (pe_ix (ixlK (K := K)) (pe_fldK (K := K) (pv 0)) (pv 1) (fun _ _ => rfl))) (blkOk_by (N := ["self", "k", "name"]) (sc := defScope sCome) (by decide +kernel))
            (fun _ _ _ _ _ => pg_name (i := 2) scCome.nd rfl (Or.inl rfl)) (fun _ _ _ _ _ => pts_one (pt_not (pt_val (pe_meth (pv 0) T.cl mI GI hr bI .nil pass0 (pa_cons (pv 2) pa_nil))))) (fun _ _ _ _ _ => pv 2)) pa_nil)))) pss_nil) w2), ?_⟩
    obtain ⟨ns, hh, hd⟩ := h.hr
    refine ⟨_, rfl, a.p, C, a.dx, _, _, rfl, h.ins, T.cl, fdn T, fdl (i := 1) rfl, dq h.prog ⟨rfl, _, rfl, ?_⟩⟩
    rw [dec_str, ← em]
    by_cases c : modeAt p j = "deep"
    · rw [decide_eq_true c]
      obtain ⟨ra, hra, _, hrow⟩ := paired_get h.each rj
      have at1 : atI (a.rs.map V.ref) (j : Int) = some (V.ref ra) := atI_nat (j := j) (by rw [List.getElem?_map, hra] <;> rfl)
      refine iteT ?_
      refine rd_ext (q := 7) (f := fun x => !thereM p st.opened x) T h (by decide +kernel) (by decide +kernel) rfl h.deep at1 hrow rl z2 (fun x H2 R s2 kr => ?_) (fun H1 s1 => ?_)
      · refine ⟨_, rfl, a.p, a.dx, _, rfl, s2 _ _ h.ins, lookup_zip_none (by decide +kernel), _, rfl, a.p, a.dx, a.he, _, ns, x, rfl, s2 _ _ h.ins, rfl, s2 _ _ hh, fun H3 s3 => ⟨_, rfl, ?_⟩⟩
        rw [hd]
        exact kr H3 s3
      · refine r2 _ _ ((h.same ok s1).uDe ok _) ((Kp.same s1).trans (kp_at (mut_lst (s1 _ _ h.deep))) fun c hc => .inl (.inr (.inr (.inr (.inr (.inl hc)))))) ?_
        rw [if_pos c]
    · rw [decide_eq_false c]
      exact iteF (r2 _ _ h (Kp.refl _ _) (by rw [if_neg c]))
end
end K10
end
section
set_option maxHeartbeats 4000000
/-! KG: open_door, close_door. -/
namespace K10
open PySem PySem.Spec PyProof.Rows L2
theorem cnt_get {st : St} {k : Nat} (h : k < st.counts.length) : st.counts[k]? = some (cntAt st k) := by
  unfold cntAt
  rw [List.getD_eq_getElem?_getD, List.getElem?_eq_getElem h] <;> rfl
theorem map_set {α β : Type} (f : α → β) : ∀ (l : List α) (i : Nat) (x : α), (l.map f).set i (f x) = (l.set i x).map f
  | [], _, _ => rfl
  | a :: l, 0, x => rfl
  | a :: l, i + 1, x => by
    show f a :: (l.map f).set i (f x) = f a :: (l.set i x).map f
    rw [map_set f l i x]
theorem ixN_nat {n k : Nat} (h : k < n) : ixN n (k : Int) = some k := by
  unfold ixN
  rw [if_pos (by omega), if_pos (by omega)]
  simp
theorem cast_erase (j : Nat) : ∀ l : List Nat, ((l.map fun k : Nat => (k : Int)).erase (j : Int)).map V.int = (l.erase j).map fun k : Nat => V.int (k : Int)
  | [] => rfl
  | a :: l => by
    show (((a : Int) :: l.map fun k : Nat => (k : Int)).erase (j : Int)).map V.int = _
    by_cases c : a = j
    · subst c
      rw [List.erase_cons_head, List.erase_cons_head, List.map_map] <;> rfl
    · have c2 : ¬ (a : Int) = (j : Int) := by omega
      rw [List.erase_cons_tail (by simpa using c2), List.erase_cons_tail (by simpa using c), List.map_cons, List.map_cons, cast_erase j l]
section
variable {P : Program} {w : World} {K : PySem.W.Frag} {mg : Str → Option Value} {base : Heap}
abbrev sOpenD : Stmt := sPr 15
theorem scOpenD : FnScope ["self", "k"] ["self", "k"] (defScope sOpenD) := ⟨rfl, rfl, rfl, by decide +kernel, rfl, by decide +kernel, by decide +kernel⟩
def spOpenD (K : PySem.W.Frag) (C : Addr) : Sp := fun vs H Q _ => ∃ (A : Adr) (p : Prg) (st : St) (k : Nat), vs = [.ref A.p, .int (k : Int)] ∧ PAt K C H A p st ∧ p.Ok ∧ StOk p st ∧ k < p.doors.length ∧
  ∀ H' A' v, Nxt A A' H → Kp A.F H H' → PAt K C H' A' p (openM p st k).1 → Dp K H' v (ansD (openM p st k).2) → Q v H'
theorem opened_room {p : Prg} {st : St} (ok : p.Ok) (so : StOk p st) {k : Nat} (hk : k < p.doors.length) (hn : k ∉ st.opened) : st.opened.length + 1 ≤ 8 := by
  have q := nodup_le (k :: st.opened) (List.range p.doors.length) (List.nodup_cons.mpr ⟨hn, so.ond⟩) fun j hj => by
    rcases List.mem_cons.mp hj with e | hj
    · rw [e]; exact List.mem_range.mpr hk
    · exact List.mem_range.mpr (so.lt hj)
  rw [List.length_range, List.length_cons] at q
  have := ok.d8
  omega
theorem ok_openD {f C : Addr} {fd : FuncData} (K0 : Cst K mg) (T : ClsF K C pK) (F : DefAt K "open_door" "Process.open_door" sOpenD f fd) (MD : Mth P w K mg base CX0 1 C "look_door" ["self", "k"] (spLookD K C))
    (MC : Mth P w K mg base CX0 2 C "come" ["self", "k"] (spCome K C)) : FnOk P w K mg base CX0 3 f fd ["self", "k"] (spOpenD K C) := by
  obtain ⟨fD, fdD, GD, mD, bD⟩ := MD.ex
  obtain ⟨fC, fdC, GC, mC, bC⟩ := MC.ex
  obtain ⟨uM, eM, rM⟩ := K0.most.int
  obtain ⟨vF, uF, eF, rF, dF⟩ := K0.full
  obtain ⟨vO, uO, eO, rO, dO⟩ := K0.opened
  refine F.ok scOpenD (fun vs H Q E h => ?_) (fun cdv A outer s H vs Q E hr h => ?_)
  · obtain ⟨A, p, st, k, rfl, _⟩ := h
    rfl
  · obtain ⟨a, p, st, j, rfl, h, ok, so, jlt, k⟩ := h
    have hr1 : Room 1 _ := hr.mono (by decide)
    have jc : j < st.counts.length := by rw [so.cl]; exact jlt
    have gc := cnt_get jc
    have g1 : (st.counts.map V.int)[j]? = some (V.int (cntAt st j)) := by rw [List.getElem?_map, gc] <;> rfl
    refine ⟨_, PSs.nox (pss_cons (ps_expr (pe_meth (pv 0) T.cl mD GD hr1 bD .nil pass0 (pa_cons (pv 1) pa_nil)))
      (pss_cons (ps_if (pt_cmpR op_eq (pe_ix (ixlK (K := K)) (pe_fldK (K := K) (pv 0)) (pv 1) (fun _ _ => rfl)) (pe_glob (by rfl) eM rM) (nomark _)) (pss_one (ps_ret (pe_glob (by rfl) eF rF))) pss_nil)
      (pss_cons (ps_augS (pe_fldK (K := K) (pv 0)) (pv 1) get_lst pe_int ip_add set_list)
      (pss_cons (ps_if (pt_cmpR op_eq (pe_ix (ixlK (K := K)) (pe_fldK (K := K) (pv 0)) (pv 1) (fun _ _ => rfl)) pe_int (nomark _)) (pss_one (ps_expr (pe_meth (pv 0) T.cl mC GC hr bC .nil pass0 (pa_cons (pv 1) pa_nil)))) pss_nil)
      (pss_one (ps_ret (pe_glob (by rfl) eO rO))))))), ?_⟩
    refine ⟨_, rfl, a.p, a.dx, _, rfl, h.ins, lookup_zip_none (by decide +kernel), _, rfl, a, p, st, j, rfl, h, jc, ?_⟩
    refine ⟨_, rfl, a.p, C, a.dx, _, _, rfl, h.ins, T.cl, fdn T, fdl (i := 4) rfl, _, rfl, a.cn, _, _, _, rfl, rfl, SqL.of h.cnts, atI_nat (j := j) g1, rfl, _, rfl, ?_⟩
    have om : openM p st j = if cntAt st j = 2 then (st, .full) else (if cntAt st j + 1 = 1 then comeM p { st with counts := st.counts.set j (cntAt st j + 1) } j else { st with counts := st.counts.set j (cntAt st j + 1) }, .opened) := rfl
    rw [om] at k
    by_cases c : cntAt st j = 2
    · rw [decide_eq_true (by rw [c])]
      rw [if_pos c] at k
      exact iteT (k _ a _ (Nxt.refl _ _) (Kp.refl _ _) h (dF _))
    · rw [decide_eq_false (by intro z; injection z with z; exact c z)]
      rw [if_neg c] at k
      refine iteF ⟨_, rfl, a.p, C, a.dx, _, _, rfl, h.ins, T.cl, fdn T, fdl (i := 4) rfl, _, rfl, a.cn, _, j, _, rfl, rfl, h.cnts, g1, _, _, rfl, rfl, a.cn, _, _, j, rfl, rfl, h.cnts, ixN_nat (by rw [List.length_map]; exact jc), ?_⟩
      have es : (st.counts.map V.int).set j (V.int (cntAt st j + 1)) = (st.counts.set j (cntAt st j + 1)).map V.int := map_set V.int _ _ _
      show tSeq _ _ _ _ (upd H a.cn (.lst ((st.counts.map V.int).set j (V.int (cntAt st j + 1)))))
      rw [es]
      have h1 := h.uCn ok (st.counts.set j (cntAt st j + 1))
      have k1 := kp_at (o := .lst ((st.counts.set j (cntAt st j + 1)).map V.int)) (mut_lst h.cnts)
      have b1 : ∀ {D}, upd H a.cn (.lst ((st.counts.set j (cntAt st j + 1)).map V.int)) D = none → H D = none := fun n => none_back (Same.refl _) h.cnts n
      generalize upd H a.cn (.lst ((st.counts.set j (cntAt st j + 1)).map V.int)) = H1 at h1 k1 b1 ⊢
      have g2 : ((st.counts.set j (cntAt st j + 1)).map V.int)[j]? = some (V.int (cntAt st j + 1)) := by rw [List.getElem?_map, List.getElem?_set_self jc] <;> rfl
      refine ⟨_, rfl, a.p, C, a.dx, _, _, rfl, h1.ins, T.cl, fdn T, fdl (i := 4) rfl, _, rfl, a.cn, _, _, _, rfl, rfl, SqL.of h1.cnts, atI_nat (j := j) g2, rfl, _, rfl, ?_⟩
      by_cases c2 : cntAt st j + 1 = 1
      · rw [decide_eq_true (by rw [c2])]
        rw [if_pos c2] at k
        have jn : j ∉ st.opened := fun z => (so.op j).mp z (by omega)
        refine iteT ⟨_, rfl, a.p, a.dx, _, rfl, h1.ins, lookup_zip_none (by decide +kernel), _, rfl, a, p, _, j, rfl, h1, ok, jlt, fun i hi => so.lt hi, (show st.opened.length + 1 ≤ 8 from opened_room ok so jlt jn), by have := so.p8 ok; show st.pub.length ≤ 1000; omega, by have := so.de8 ok; show st.deep.length ≤ 1000; omega, fun H2 A2 nx2 k2 h2 => ?_⟩
        refine k _ A2 _ ⟨nx2.p, fun c hc => (nx2.F c hc).imp id b1, fun c hc => (nx2.R c hc).imp id b1⟩ (((k1.mono fun c (hc : c = a.cn) => (Or.inr (Or.inl hc) : a.F c)).trans k2) fun c hc => .inl hc) h2 (dO _)
      · rw [decide_eq_false (by intro z; injection z with z; exact c2 z)]
        rw [if_neg c2] at k
        exact iteF (k _ a _ (Nxt.refl _ _) (k1.mono fun c hc => .inr (.inl hc)) h1 (dO _))
/-! ### close_door -/
abbrev sCloseD : Stmt := sPr 17
theorem scCloseD : FnScope ["self", "k"] ["self", "k"] (defScope sCloseD) := ⟨rfl, rfl, rfl, by decide +kernel, rfl, by decide +kernel, by decide +kernel⟩
def spCloseD (K : PySem.W.Frag) (C : Addr) : Sp := fun vs H Q _ => ∃ (A : Adr) (p : Prg) (st : St) (k : Nat), vs = [.ref A.p, .int (k : Int)] ∧ PAt K C H A p st ∧ p.Ok ∧ StOk p st ∧ k < p.doors.length ∧
  ∀ H' A' v, Nxt A A' H → Kp A.F H H' → PAt K C H' A' p (closeM p st k).1 → Dp K H' v (ansD (closeM p st k).2) → Q v H'
theorem ok_closeD {f C : Addr} {fd : FuncData} (K0 : Cst K mg) (T : ClsF K C pK) (F : DefAt K "close_door" "Process.close_door" sCloseD f fd) (MD : Mth P w K mg base CX0 1 C "look_door" ["self", "k"] (spLookD K C))
    (MA : Mth P w K mg base CX0 1 C "all_here" ["self"] (spAllHere K C)) (MG : Mth P w K mg base CX0 3 C "go" ["self"] (spGo K C)) : FnOk P w K mg base CX0 4 f fd ["self", "k"] (spCloseD K C) := by
  obtain ⟨fD, fdD, GD, mD, bD⟩ := MD.ex
  obtain ⟨fA, fdA, GA, mA, bA⟩ := MA.ex
  obtain ⟨fG, fdG, GG, mG, bG⟩ := MG.ex
  obtain ⟨vS, uS, eS, rS, dS⟩ := K0.shut
  obtain ⟨vC, uC, eC, rC, dC⟩ := K0.closed
  refine F.ok scCloseD (fun vs H Q E h => ?_) (fun cdv A outer s H vs Q E hr h => ?_)
  · obtain ⟨A, p, st, k, rfl, _⟩ := h
    rfl
  · obtain ⟨a, p, st, j, rfl, h, ok, so, jlt, k⟩ := h
    have hr1 : Room 1 _ := hr.mono (by decide)
    have jc : j < st.counts.length := by rw [so.cl]; exact jlt
    have gc := cnt_get jc
    have g1 : (st.counts.map V.int)[j]? = some (V.int (cntAt st j)) := by rw [List.getElem?_map, gc] <;> rfl
    refine ⟨_, PSs.nox (pss_cons (ps_expr (pe_meth (pv 0) T.cl mD GD hr1 bD .nil pass0 (pa_cons (pv 1) pa_nil)))
      (pss_cons (ps_if (pt_cmpR op_eq (pe_ix (ixlK (K := K)) (pe_fldK (K := K) (pv 0)) (pv 1) (fun _ _ => rfl)) pe_int (nomark _)) (pss_one (ps_ret (pe_glob (by rfl) eS rS))) pss_nil)
      (pss_cons (ps_augS (pe_fldK (K := K) (pv 0)) (pv 1) get_lst pe_int ip_sub set_list)
      (pss_cons (ps_if (pt_cmpR op_eq (pe_ix (ixlK (K := K)) (pe_fldK (K := K) (pv 0)) (pv 1) (fun _ _ => rfl)) pe_int (nomark _))
        (pss_cons (ps_expr (pe_remX rfl takes0 (pe_fldK (K := K) (pv 0)) (pv 1)))
        (pss_cons (ps_fld (pv 0) (pe_meth0 (pv 0) T.cl mA GA hr1 bA .nil pass0) rfl)
        (pss_one (ps_expr (pe_meth0 (pv 0) T.cl mG GG hr bG .nil pass0))))) pss_nil)
      (pss_one (ps_ret (pe_glob (by rfl) eC rC))))))), ?_⟩
    refine ⟨_, rfl, a.p, a.dx, _, rfl, h.ins, lookup_zip_none (by decide +kernel), _, rfl, a, p, st, j, rfl, h, jc, ?_⟩
    refine ⟨_, rfl, a.p, C, a.dx, _, _, rfl, h.ins, T.cl, fdn T, fdl (i := 4) rfl, _, rfl, a.cn, _, _, _, rfl, rfl, SqL.of h.cnts, atI_nat (j := j) g1, rfl, _, rfl, ?_⟩
    have om : closeM p st j = if cntAt st j = 0 then (st, .shut) else (if cntAt st j - 1 = 0 then goM p { st with counts := st.counts.set j (cntAt st j - 1), opened := st.opened.erase j } else { st with counts := st.counts.set j (cntAt st j - 1) }, .closed) := rfl
    rw [om] at k
    by_cases c : cntAt st j = 0
    · rw [decide_eq_true (by rw [c])]
      rw [if_pos c] at k
      exact iteT (k _ a _ (Nxt.refl _ _) (Kp.refl _ _) h (dS _))
    · rw [decide_eq_false (by intro z; injection z with z; exact c z)]
      rw [if_neg c] at k
      refine iteF ⟨_, rfl, a.p, C, a.dx, _, _, rfl, h.ins, T.cl, fdn T, fdl (i := 4) rfl, _, rfl, a.cn, _, j, _, rfl, rfl, h.cnts, g1, _, _, rfl, rfl, a.cn, _, _, j, rfl, rfl, h.cnts, ixN_nat (by rw [List.length_map]; exact jc), ?_⟩
      have es : (st.counts.map V.int).set j (V.int (cntAt st j - 1)) = (st.counts.set j (cntAt st j - 1)).map V.int := map_set V.int _ _ _
      show tSeq _ _ _ _ (upd H a.cn (.lst ((st.counts.map V.int).set j (V.int (cntAt st j - 1)))))
      rw [es]
      have h1 := h.uCn ok (st.counts.set j (cntAt st j - 1))
      have k1 := kp_at (o := .lst ((st.counts.set j (cntAt st j - 1)).map V.int)) (mut_lst h.cnts)
      have b1 : ∀ {D}, upd H a.cn (.lst ((st.counts.set j (cntAt st j - 1)).map V.int)) D = none → H D = none := fun n => none_back (Same.refl _) h.cnts n
      generalize upd H a.cn (.lst ((st.counts.set j (cntAt st j - 1)).map V.int)) = H1 at h1 k1 b1 ⊢
      have g2 : ((st.counts.set j (cntAt st j - 1)).map V.int)[j]? = some (V.int (cntAt st j - 1)) := by rw [List.getElem?_map, List.getElem?_set_self jc] <;> rfl
      have k1 : Kp a.F H H1 := k1.mono fun c hc => .inr (.inl hc)
      refine ⟨_, rfl, a.p, C, a.dx, _, _, rfl, h1.ins, T.cl, fdn T, fdl (i := 4) rfl, _, rfl, a.cn, _, _, _, rfl, rfl, SqL.of h1.cnts, atI_nat (j := j) g2, rfl, _, rfl, ?_⟩
      by_cases c2 : cntAt st j - 1 = 0
      · rw [decide_eq_true (by rw [c2])]
        rw [if_pos c2] at k
        have jin : j ∈ st.opened := (so.op j).mpr c
        have eop : (st.opened.map fun k : Nat => V.int (k : Int)) = (st.opened.map fun k : Nat => (k : Int)).map V.int := by rw [List.map_map] <;> rfl
        have hop : H1 a.op = some (.lst ((st.opened.map fun k : Nat => (k : Int)).map V.int)) := by rw [← eop]; exact h1.opn
        refine iteT ⟨_, rfl, a.p, C, a.dx, _, _, rfl, h1.ins, T.cl, fdn T, fdl (i := 5) rfl, .inl ⟨rfl, _, SqL.of h1.opn⟩, _, rfl, a.op, _, _, rfl, rfl, hop, fun _ => ?_, fun z => absurd (List.mem_map.mpr ⟨j, jin, rfl⟩) z⟩
        rw [cast_erase]
        have h2 := h1.uOp ok (st.opened.erase j)
        have k2 := k1.trans (kp_at (o := .lst ((st.opened.erase j).map fun k : Nat => V.int (k : Int))) (mut_lst h1.opn)) fun c hc => .inl (.inr (.inr (.inl hc)))
        have b2 : ∀ {D}, upd H1 a.op (.lst ((st.opened.erase j).map fun k : Nat => V.int (k : Int))) D = none → H D = none := fun n => b1 (none_back (Same.refl _) h1.opn n)
        generalize upd H1 a.op (.lst ((st.opened.erase j).map fun k : Nat => V.int (k : Int))) = H2 at h2 k2 b2 ⊢
        refine ⟨_, rfl, a.p, a.dx, _, rfl, h2.ins, lookup_zip_none (by decide +kernel), a.p, a.dx, _, a.fi, a.ro, a.op, a.rs, firstM p, rowsM p, st.opened.erase j, rfl, h2.ins, rfl, rfl, rfl, h2.first, h2.rows, h2.each, h2.opn, fun i hi => ?_, r8 ok (first_ok ok), fun r hr => r8 ok (row_names ok r hr), Nat.le_trans (List.length_erase_le ..) (so.o8 ok), fun H3 D s3 nD hD => ?_⟩
        · have e : (rowsM p).length = p.doors.length := List.length_map ..
          rw [e]
          exact so.lt (List.mem_of_mem_erase hi)
        refine ⟨_, rfl, a.p, C, a.dx, _, rfl, s3 _ _ h2.ins, T.cl, fdn T, zip_few (by decide +kernel), ?_⟩
        have p1 : putF "own_here" (V.ref D) (pK.zip a.vals) = pK.zip ({ a with he := D } : Adr).vals := put_zip (i := 9) (by decide +kernel) (by show 9 < 10; decide)
        rw [p1]
        have hlen : (hereM (firstM p) (rowsM p) (st.opened.erase j)).length < 64 := by have := r8 ok (hereM_ok ok (os := st.opened.erase j)); omega
        have h3 := h2.nHe ok s3 hD hereM_nd hlen fun x => hereM_mem
        have k3 := k2.trans (kp_put (o := .ins C a.dx (pK.zip ({ a with he := D } : Adr).vals)) s3 (s3 _ _ h2.ins) trivial) fun c hc => .inl (.inl hc)
        have b3 : ∀ {D'}, upd H3 a.p (.ins C a.dx (pK.zip ({ a with he := D } : Adr).vals)) D' = none → H D' = none := fun n => b2 (none_back s3 (s3 _ _ h2.ins) n)
        have nD0 : H D = none := b2 nD
        generalize upd H3 a.p (.ins C a.dx (pK.zip ({ a with he := D } : Adr).vals)) = G at h3 k3 b3 ⊢
        have i3 : G a.p = some (.ins C a.dx (pK.zip ({ a with he := D } : Adr).vals)) := h3.ins
        refine ⟨_, rfl, a.p, a.dx, _, rfl, i3, lookup_zip_none (by decide +kernel), { a with he := D }, p, _, rfl, h3, ok, by have := so.p8 ok; show st.pub.length ≤ 1000; omega, by have := so.de8 ok; show st.deep.length ≤ 1000; omega, by have := so.s64 ok; show st.slots.length ≤ 1000; omega, so.snd, fun H4 A4 nx4 k4 h4 => ?_⟩
        refine k _ A4 _ ⟨nx4.p, fun c hc => (nx4.F c hc).imp id b3, fun c hc => ?_⟩ (k3.trans k4 fun c hc => .inl hc) h4 (dC _)
        rcases nx4.R c hc with z | z
        · rcases z with z | z | z | z
          · exact .inl (.inl z)
          · exact .inl (.inr (.inl z))
          · exact .inr (by rw [z]; exact nD0)
          · exact .inl (.inr (.inr (.inr z)))
        · exact .inr (b3 z)
      · rw [decide_eq_false (by intro z; injection z with z; exact c2 z)]
        rw [if_neg c2] at k
        exact iteF (k _ a _ (Nxt.refl _ _) k1 h1 (dC _))
end
end K10
end
section
set_option maxHeartbeats 4000000
/-! KH: do; Process.__init__. -/
namespace K10
open PySem PySem.Spec PyProof.Rows L2
def StpOk (p : Prg) : Stp → Prop
  | .opn k => k < p.doors.length
  | .cls k => k < p.doors.length
  | .call x i => (useAt p x i).isSome = true
/-- the step's library is there, or it is a door's step -/
def thereS (p : Prg) (st : St) : Stp → Bool
  | .call x _ => thereM p st.opened x
  | _ => true
theorem td_stp {n : Nat} (t : Stp) : td (n + 1) (stpD t) := by
  cases t <;> exact ⟨by first | (show 2 ≤ 1000; decide) | (show 3 ≤ 1000; decide), fun e he => by
    simp only [List.mem_cons, List.not_mem_nil, or_false] at he
    rcases he with rfl | rfl | rfl <;> cases n <;> trivial⟩
section
variable {P : Program} {w : World} {K : PySem.W.Frag} {mg : Str → Option Value} {base : Heap}
abbrev sDo : Stmt := sPr 22
theorem scDo : FnScope ["self", "step"] ["self", "step"] (defScope sDo) := ⟨rfl, rfl, rfl, by decide +kernel, rfl, by decide +kernel, by decide +kernel⟩
def spDo (K : PySem.W.Frag) (C N : Addr) : Sp := fun vs H Q E => ∃ (A : Adr) (p : Prg) (st : St) (vt : V) (t : Stp), vs = [.ref A.p, vt] ∧ PAt K C H A p st ∧ p.Ok ∧ StOk p st ∧ Dp K H vt (stpD t) ∧ StpOk p t ∧
  (thereS p st t = true → ∀ H' A' v, Nxt A A' H → Kp A.F H H' → PAt K C H' A' p (stepM p st t).1 → Dp K H' v (ansD (stepM p st t).2) → Q v H') ∧ (thereS p st t = false → ∀ H' d, Same H H' → E (.ref N) (some d) H')
theorem ok_do {f C N : Addr} {fd : FuncData} (K0 : Cst K mg) (T : ClsF K C pK) (F : DefAt K "do" "Process.do" sDo f fd) (MC : Mth P w K mg base (L2.CX P w) 6 C "call" ["self", "name", "i"] (spCall K C N))
    (MO : Mth P w K mg base CX0 3 C "open_door" ["self", "k"] (spOpenD K C)) (MD : Mth P w K mg base CX0 4 C "close_door" ["self", "k"] (spCloseD K C)) : FnOk P w K mg base (L2.CX P w) 7 f fd ["self", "step"] (spDo K C N) := by
  obtain ⟨fC, fdC, GC, mC, bC⟩ := MC.ex
  obtain ⟨fO, fdO, GO, mO, bO⟩ := MO.ex
  obtain ⟨fD, fdD, GD, mD, bD⟩ := MD.ex
  obtain ⟨uC, eC, rC⟩ := K0.cal.str
  obtain ⟨uO, eO, rO⟩ := K0.opn.str
  refine F.ok scDo (fun vs H Q E h => ?_) (fun cdv A outer s H vs Q E hr h => ?_)
  · obtain ⟨A, p, st, vt, t, rfl, _⟩ := h
    rfl
  · obtain ⟨a, p, st, vt, t, rfl, h, ok, so, ht, to, k1, k2⟩ := h
    have hr3 : Room 3 _ := hr.mono (by decide)
    have hr4 : Room 4 _ := hr.mono (by decide)
    refine ⟨_, pss_cons (ps_if (pt_cmpR op_eq (pe_ix (ixtK (K := K)) (pv 1) pe_int (fun _ _ => rfl)) (pe_glob (by rfl) eC rC) (nomark _))
        (pss_one (ps_ret (pe_meth (E := E) (pv 0) T.cl mC GC hr bC .nil (passes_call (takes_of rfl rfl rfl rfl) (fun _ _ _ _ h => h)) (pa_cons (pe_ix (ixtK (K := K)) (pv 1) pe_int (fun _ _ => rfl)) (pa_cons (pe_ix (ixtK (K := K)) (pv 1) pe_int (fun _ _ => rfl)) pa_nil))))) pss_nil)
      (pss_one (ps_ret (pe_ifExp (pt_cmpR op_eq (pe_ix (ixtK (K := K)) (pv 1) pe_int (fun _ _ => rfl)) (pe_glob (by rfl) eO rO) (nomark _))
        (pe_meth (E := E) (pv 0) T.cl mO GO hr3 bO .nil pass0 (pa_cons (pe_ix (ixtK (K := K)) (pv 1) pe_int (fun _ _ => rfl)) pa_nil))
        (pe_meth (E := E) (pv 0) T.cl mD GD hr4 bD .nil pass0 (pa_cons (pe_ix (ixtK (K := K)) (pv 1) pe_int (fun _ _ => rfl)) pa_nil))))), ?_⟩
    cases t with
    | call x i =>
      obtain ⟨u, hu⟩ := Option.isSome_iff_exists.mp to
      refine ⟨_, rfl, ixT0 ht fun v0 h0 => ?_⟩
      obtain rfl := dp_strE h0
      refine ⟨rfl, _, rfl, ?_⟩
      rw [decide_eq_true rfl]
      refine iteT ⟨_, rfl, a.p, a.dx, _, rfl, h.ins, lookup_zip_none (by decide +kernel), _, rfl, ixT1 ht fun v1 h1 => ?_⟩
      obtain rfl := dp_strE h1
      refine ⟨_, rfl, ixT2 ht fun v2 h2 => ?_⟩
      obtain rfl := dp_intE h2
      refine ⟨a, p, st, x, i, u, rfl, h, ok, so, hu, fun e H' v kk h' hv => ?_, fun e H' d s => k2 e H' d s⟩
      have sm : stepM p st (.call x i) = callM p st x i := by
        show (if thereM p st.opened x = true then callM p st x i else (st, .away)) = _
        rw [if_pos e]
      have k1 := k1 e
      rw [sm] at k1
      exact k1 H' a v (Nxt.refl _ _) kk h' hv
    | opn j =>
      refine ⟨_, rfl, ixT0 ht fun v0 h0 => ?_⟩
      obtain rfl := dp_strE h0
      refine ⟨rfl, _, rfl, ?_⟩
      rw [decide_eq_false (by intro z; injection z with z; exact absurd z (by decide +kernel))]
      refine iteF ⟨_, rfl, ixT0 ht fun v0 h0 => ?_⟩
      obtain rfl := dp_strE h0
      refine ⟨rfl, _, rfl, ?_⟩
      rw [decide_eq_true rfl]
      refine iteT ⟨_, rfl, a.p, a.dx, _, rfl, h.ins, lookup_zip_none (by decide +kernel), _, rfl, ixT1 ht fun v1 h1 => ?_⟩
      obtain rfl := dp_intE h1
      exact ⟨a, p, st, j, rfl, h, ok, so, to, fun H' A' v nx kk h' hv => k1 rfl H' A' v nx kk h' hv⟩
    | cls j =>
      refine ⟨_, rfl, ixT0 ht fun v0 h0 => ?_⟩
      obtain rfl := dp_strE h0
      refine ⟨rfl, _, rfl, ?_⟩
      rw [decide_eq_false (by intro z; injection z with z; exact absurd z (by decide +kernel))]
      refine iteF ⟨_, rfl, ixT0 ht fun v0 h0 => ?_⟩
      obtain rfl := dp_strE h0
      refine ⟨rfl, _, rfl, ?_⟩
      rw [decide_eq_false (by intro z; injection z with z; exact absurd z (by decide +kernel))]
      refine iteF ⟨_, rfl, a.p, a.dx, _, rfl, h.ins, lookup_zip_none (by decide +kernel), _, rfl, ixT1 ht fun v1 h1 => ?_⟩
      obtain rfl := dp_intE h1
      exact ⟨a, p, st, j, rfl, h, ok, so, to, fun H' A' v nx kk h' hv => k1 rfl H' A' v nx kk h' hv⟩
/-! ### Process.__init__ -/
/-- all is kept but what stands at g -/
def Kg (g : Addr) (H H' : Hp) : Prop := ∀ b o, b ≠ g → H b = some o → H' b = some o
theorem Kg.of {g : Addr} {H H' : Hp} (s : Same H H') : Kg g H H' := fun b o _ e => s b o e
theorem Kg.trans {g : Addr} {H H1 H2 : Hp} (a : Kg g H H1) (b : Kg g H1 H2) : Kg g H H2 := fun c o n e => b c o n (a c o n e)
theorem Kg.at {g : Addr} {H : Hp} {o : HO} : Kg g H (upd H g o) := fun c u n e => by rw [upd_ne n]; exact e
theorem Kg.free {g : Addr} {H H' : Hp} (k : Kg g H H') {c : Addr} (n : c ≠ g) (h : H' c = none) : H c = none := by
  cases e : H c with
  | none => rfl
  | some o => rw [k c o n e] at h; cases h
theorem Kg.dp {g C dx : Addr} {fs : List (Str × V)} {H H' : Hp} (k : Kg g H H') (hg : H g = some (.ins C dx fs)) {n : Nat} {v : V} {d : PyData} (t : td n d) (h : Dp K H v d) : Dp K H' v d :=
  dp_keeps (fun a xs s => by
    rcases s with (s | ⟨o, s⟩) | s
    · exact .inl (.inl (k _ _ (ne_of s hg fun z => nomatch z) s))
    · exact .inl (.inr ⟨o, k _ _ (ne_of s hg fun z => nomatch z) s⟩)
    · exact .inr s) n t h
theorem Kg.ne {g : Addr} {H : Hp} {c : Addr} {o : HO} (h : H c = none) (e : H g = some o) : c ≠ g := fun z => by rw [z, e] at h; cases h
abbrev sPInit : Stmt := sPr 0
theorem scPInit : FnScope ["self", "program", "ground", "door"] ["self", "program"] (defScope sPInit) := ⟨rfl, rfl, rfl, by decide +kernel, rfl, by decide +kernel, by decide +kernel⟩
def spPInit (K : PySem.W.Frag) (C : Addr) : Sp := fun vs H Q _ => ∃ (g dx : Addr) (vp : V) (p : Prg), vs = [.ref g, vp] ∧ H g = some (.ins C dx []) ∧ Dp K H vp (prD p) ∧ p.Ok ∧
  ∀ H' A, A.p = g → Kg g H H' → (∀ c, A.F c → c = g ∨ H c = none) → (∀ c, A.R c → H c = none) → PAt K C H' A p (St.begin p) → Q .non H'
end
end K10
end
section
set_option maxHeartbeats 4000000
/-! KI: Process.__init__. -/
namespace K10
open PySem PySem.Spec PyProof.Rows L2
section
variable {P : Program} {w : World} {K : PySem.W.Frag} {mg : Str → Option Value} {base : Heap}
/-- [0 for door in t] -/
theorem rd_zeros {a : Addr} {xs : List V} {H : Hp} {σ : L2.St} {vs : List Nat} {D : Addr} {Qd : Hp → Prop} {i0 : Nat} {n : Nat} (hn : xs.length = n) (h8 : n ≤ 8) (hs : SqT K H a xs) (hD : H D = none) (wi : ∀ v, wipe ((wipe σ vs).set i0 (some v)) vs = wipe σ vs) (k : ∀ H', Same H H' → H' D = some (.lst ((List.replicate n (0 : Int)).map V.int)) → Qd H') :
    ∃ W : Nat → Nat → Hp → Prop, (∃ m, W 0 m (upd H D (.lst []))) ∧ ∀ i m H, W i m H →
      ((Itt K a).stop i H ∧ Qd H) ∨ ((Itt K a).go i H ∧ ∃ Nx : Hp → Prop, (∀ H', Nx H' → ∃ m', m' < m ∧ W (i + 1) m' H') ∧ ∀ x H', (Itt K a).yld i H x H' → gName i0 x (wipe σ vs) H' fun σ2 H2 => wipe σ2 vs = wipe σ vs ∧ tYes σ2 H2 fun b H3 =>
        if b = true then tC (.int 0) σ2 H3 fun y H4 => ∃ acc, H4 D = some (.lst acc) ∧ acc.length < sizeLine ∧ Nx (upd H4 D (.lst (acc ++ [y]))) else Nx H3) := by
  refine lc_tup (K := K) (a := a) (xs := xs) (fun i H' => Same H H' ∧ H' D = some (.lst ((List.replicate i (0 : Int)).map V.int))) ⟨same_new hD, upd_same⟩ (fun i H' _ h => same_sqT h.1 hs) ?_ ?_
  · rintro i y H' hi2 ⟨s1, hacc⟩
    have il : i < xs.length := (List.getElem?_eq_some_iff.mp hi2).1
    refine ⟨wi y, ⟨_, hacc, ?_, same_at s1 hD, ?_⟩⟩
    · rw [List.length_map, List.length_replicate]
      exact sz1000 (by omega)
    · rw [upd_same, List.replicate_succ', List.map_append] <;> rfl
  · rintro H' ⟨s1, hacc⟩
    rw [hn] at hacc
    exact k H' s1 hacc
theorem go_all {p : Addr → Prop} {q : Addr → Prop} (h : ∀ a, p a → q a) : ∀ a, p a → q a := h
/-- a field more at g -/
theorem adv {g C dx : Addr} {us : List V} {H H' : Hp} {v : V} {f : Str} {n : Nat} (s : Same H H') (i : H g = some (.ins C dx (pK.zip us))) (e : pK.findIdx? (fun y => decide (y = f)) = some n) (l : us.length = n) {us' : List V} (e2 : us ++ [v] = us') :
    Kg g H (upd H' g (.ins C dx (putF f v (pK.zip us)))) ∧ Kg g H' (upd H' g (.ins C dx (putF f v (pK.zip us)))) ∧ upd H' g (.ins C dx (putF f v (pK.zip us))) g = some (.ins C dx (pK.zip us')) :=
  ⟨(Kg.of s).trans Kg.at, Kg.at, by rw [upd_same, put_zip_new e l, e2]⟩
theorem rows_mem {Z : Addr → Prop} {H : Hp} {c : Addr} {as : List Addr} {rs : List (List Str)} (q : RowsAt Z H as rs) (hc : c ∈ as) : ∃ r, r ∈ rs ∧ Z c ∧ H c = some (.lst (r.map V.str)) := by
  induction q with
  | nil => cases hc
  | cons r t ih =>
    rcases List.mem_cons.mp hc with e | hc
    · rw [e]; exact ⟨_, List.mem_cons_self, r⟩
    · obtain ⟨r, h1, h2⟩ := ih hc
      exact ⟨r, List.mem_cons_of_mem _ h1, h2⟩
theorem ok_pInit {f C CG fG : Addr} {fd fdG : FuncData} (B : Bl mg) (T : ClsF K C pK) (TG : ClsF K CG gK) (eG : mg "Ground" = some (.ref CG)) (kG : PySem.W.kitOne K (.type "tuple") (.ref CG) = some false) (MG : Mk K CG fG) (GG : FnOk P w K mg base CX0 12 fG fdG ["self", "program"] (spGInit K CG)) (bG : Binds K fdG ["self", "program"] [])
    (F : DefAt K "__init__" "Process.__init__" sPInit f fd) (MA : Mth P w K mg base CX0 1 C "all_here" ["self"] (spAllHere K C)) : FnOk P w K mg base CX0 14 f fd ["self", "program"] (spPInit K C) := by
  obtain ⟨fA, fdA, GA, mA, bA⟩ := MA.ex
  refine F.ok scPInit (fun vs H Q E h => ?_) (fun cdv A outer s H vs Q E hr h => ?_)
  · obtain ⟨g, dx, vp, p, rfl, _⟩ := h
    rfl
  · obtain ⟨g, dx, vp, p, rfl, hg, hp, ok, k⟩ := h
    have hr1 : Room 1 _ := hr.mono (by decide)
    have n : ∀ f ∈ pK, NoAttr K C f := T.no
    obtain ⟨t2, w2, r2⟩ : ∃ t2, PSs (cxOf CX0 P w K mg base ["self", "program", "ground", "door"] "Process.__init__" (defScope sPInit) f cdv A outer s H E).nox ((defBody sPInit).drop 5) t2 ∧
        ∀ H1 v1 v2 gr pr fi ro rs, Kg g H H1 → (H1 g = some (.ins C dx (pK.zip [.ref gr, .ref pr, .ref fi, .ref ro]))) → Dp K H1 (.ref pr) (prD p) → H1 fi = some (.lst ((firstM p).map V.str)) → H1 ro = some (.lst (rs.map V.ref)) → RowsAt (fun a => H a = none) H1 rs (rowsM p) → H fi = none → H ro = none →
          t2 { nx := fun _ H' => Q .non H', rt := Q } [some (.ref g), v1, v2, none] H1 := by
      refine ⟨_, pss_cons (ps_fld (pv 0) (pe_lc (own := [("door", 3)]) (g := gName 3) (tt := tYes) rfl scPInit.nd (pi_tupK (K := K) (pe_ix (ixtK (K := K)) (pe_fldK (K := K) (pv 0)) pe_int (fun _ _ => rfl))) (blkOk_by (N := ["self", "program", "ground", "door"]) (sc := defScope sPInit) (by decide +kernel))
          (fun _ _ _ _ _ => pg_name (i := 3) scPInit.nd rfl (Or.inl rfl)) (fun _ _ _ _ _ => pts_nil) (fun _ _ _ _ _ => pe_int)) rfl)
        (pss_cons (ps_fld (pv 0) (pe_lst pa_nil) rfl)
        (pss_cons (ps_fld (pv 0) (pe_callTy (lstK (K := K)) (by rfl) B.list bt_list (pa_cons (pe_fldK (K := K) (pv 0)) pa_nil)) rfl)
        (pss_cons (ps_fld (pv 0) (pe_lst pa_nil) rfl)
        (pss_cons (ps_fld (pv 0) pe_dnewT rfl)
        (pss_one (ps_fld (pv 0) (pe_meth0 (pv 0) T.cl mA GA hr1 bA .nil pass0) rfl)))))), ?_⟩
      intro H1 v1 v2 gr pr fi ro rs k1 i1 hpr hfi hro hrs nfi nro
      -- own_counts
      refine ⟨_, rfl, g, C, dx, _, _, rfl, i1, T.cl, fdn T, fdl (i := 1) rfl, ixT2 hpr fun vd hd => ?_⟩
      obtain ⟨ad, xd, rfl, hsd, had⟩ := dp_tupE hd
      have hlen := dpa_length had
      rw [List.length_map] at hlen
      refine ⟨ad, rfl, ⟨_, hsd⟩, fun cn ncn => ?_⟩
      refine rd_zeros hlen ok.d8 hsd ncn (fun _ => rfl) fun H2 s2 hcn => ?_
      refine ⟨_, rfl, g, C, dx, _, rfl, s2 _ _ i1, T.cl, n _ (by decide +kernel), zip_few (by decide +kernel), ?_⟩
      have q2 := adv (f := "own_counts") (v := V.ref cn) s2 i1 (n := 4) (by decide +kernel) rfl (us' := [V.ref gr, V.ref pr, V.ref fi, V.ref ro, V.ref cn]) rfl
      generalize upd H2 g (.ins C dx (putF "own_counts" (V.ref cn) (pK.zip [V.ref gr, V.ref pr, V.ref fi, V.ref ro]))) = H3 at q2 ⊢
      obtain ⟨k3, k3b, i3⟩ := q2
      have gcn := Kg.ne ncn i1
      have c3 := k3b _ _ gcn hcn
      -- own_opened
      refine ⟨Nat.zero_le _, fun op nop => ?_⟩
      have s4 : Same H3 (upd H3 op (.lst [])) := same_new nop
      refine ⟨_, rfl, g, C, dx, _, rfl, s4 _ _ i3, T.cl, n _ (by decide +kernel), zip_few (by decide +kernel), ?_⟩
      have q4 := adv (f := "own_opened") (v := V.ref op) s4 i3 (n := 5) (by decide +kernel) rfl (us' := [V.ref gr, V.ref pr, V.ref fi, V.ref ro, V.ref cn, V.ref op]) rfl
      generalize upd (upd H3 op (.lst [])) g (.ins C dx (putF "own_opened" (V.ref op) (pK.zip [V.ref gr, V.ref pr, V.ref fi, V.ref ro, V.ref cn]))) = H5 at q4 ⊢
      obtain ⟨k5, k5b, i5⟩ := q4
      have gop := Kg.ne nop i3
      have o5 := k5b _ _ gop upd_same
      -- own_public
      have fi5 := k5 _ _ (Kg.ne nfi hg) (k3 _ _ (Kg.ne nfi hg) hfi)
      refine ⟨_, rfl, g, C, dx, _, _, rfl, i5, T.cl, fdn T, fdl (i := 2) rfl, fi, _, rfl, .inl (SqL.of fi5), fun pu npu => ?_⟩
      have s6 : Same H5 (upd H5 pu (.lst ((firstM p).map V.str))) := same_new npu
      refine ⟨_, rfl, g, C, dx, _, rfl, s6 _ _ i5, T.cl, n _ (by decide +kernel), zip_few (by decide +kernel), ?_⟩
      have q6 := adv (f := "own_public") (v := V.ref pu) s6 i5 (n := 6) (by decide +kernel) rfl (us' := [V.ref gr, V.ref pr, V.ref fi, V.ref ro, V.ref cn, V.ref op, V.ref pu]) rfl
      generalize upd (upd H5 pu (.lst ((firstM p).map V.str))) g (.ins C dx (putF "own_public" (V.ref pu) (pK.zip [V.ref gr, V.ref pr, V.ref fi, V.ref ro, V.ref cn, V.ref op]))) = H7 at q6 ⊢
      obtain ⟨k7, k7b, i7⟩ := q6
      have gpu := Kg.ne npu i5
      have p7 := k7b _ _ gpu upd_same
      -- own_deep
      refine ⟨Nat.zero_le _, fun de nde => ?_⟩
      have s8 : Same H7 (upd H7 de (.lst [])) := same_new nde
      refine ⟨_, rfl, g, C, dx, _, rfl, s8 _ _ i7, T.cl, n _ (by decide +kernel), zip_few (by decide +kernel), ?_⟩
      have q8 := adv (f := "own_deep") (v := V.ref de) s8 i7 (n := 7) (by decide +kernel) rfl (us' := [V.ref gr, V.ref pr, V.ref fi, V.ref ro, V.ref cn, V.ref op, V.ref pu, V.ref de]) rfl
      generalize upd (upd H7 de (.lst [])) g (.ins C dx (putF "own_deep" (V.ref de) (pK.zip [V.ref gr, V.ref pr, V.ref fi, V.ref ro, V.ref cn, V.ref op, V.ref pu]))) = H9 at q8 ⊢
      obtain ⟨k9, k9b, i9⟩ := q8
      have gde := Kg.ne nde i7
      have d9 := k9b _ _ gde upd_same
      -- own_slots
      refine go_all fun sl nsl => ?_
      have s10 : Same H9 (upd H9 sl (.dT [])) := same_new nsl
      refine ⟨_, rfl, g, C, dx, _, rfl, s10 _ _ i9, T.cl, n _ (by decide +kernel), zip_few (by decide +kernel), ?_⟩
      have q10 := adv (f := "own_slots") (v := V.ref sl) s10 i9 (n := 8) (by decide +kernel) rfl (us' := [V.ref gr, V.ref pr, V.ref fi, V.ref ro, V.ref cn, V.ref op, V.ref pu, V.ref de, V.ref sl]) rfl
      generalize upd (upd H9 sl (.dT [])) g (.ins C dx (putF "own_slots" (V.ref sl) (pK.zip [V.ref gr, V.ref pr, V.ref fi, V.ref ro, V.ref cn, V.ref op, V.ref pu, V.ref de]))) = HB at q10 ⊢
      obtain ⟨k11, k11b, i11⟩ := q10
      have gsl := Kg.ne nsl i9
      have l11 := k11b _ _ gsl upd_same
      -- own_here
      have gfi := Kg.ne nfi hg
      have gro := Kg.ne nro hg
      have m1 : Kg g H1 HB := (((k3.trans k5).trans k7).trans k9).trans k11
      have hrs1 : RowsAt (fun _ => True) HB rs (rowsM p) := paired_imp (fun a r z => ⟨trivial, m1 _ _ (Kg.ne z.1 hg) z.2⟩) hrs
      have opB := k11 _ _ gop (k9 _ _ gop (k7 _ _ gop o5))
      refine ⟨_, rfl, g, dx, _, rfl, i11, lookup_zip_none (by decide +kernel), g, dx, _, fi, ro, op, rs, firstM p, rowsM p, [], rfl, i11, rfl, rfl, rfl, m1 _ _ gfi hfi, m1 _ _ gro hro, hrs1, opB, fun i hi => absurd hi (by simp), r8 ok (first_ok ok), fun r hr => r8 ok (row_names ok r hr), Nat.zero_le _, fun HC he sC nhe hhe => ?_⟩
      refine ⟨_, rfl, g, C, dx, _, rfl, sC _ _ i11, T.cl, n _ (by decide +kernel), zip_few (by decide +kernel), ?_⟩
      have q12 := adv (f := "own_here") (v := V.ref he) sC i11 (n := 9) (by decide +kernel) rfl (us' := [V.ref gr, V.ref pr, V.ref fi, V.ref ro, V.ref cn, V.ref op, V.ref pu, V.ref de, V.ref sl, V.ref he]) rfl
      generalize upd HC g (.ins C dx (putF "own_here" (V.ref he) (pK.zip [V.ref gr, V.ref pr, V.ref fi, V.ref ro, V.ref cn, V.ref op, V.ref pu, V.ref de, V.ref sl]))) = HD at q12 ⊢
      obtain ⟨k13, k13b, i13⟩ := q12
      have ghe := Kg.ne nhe i11
      have m2 : Kg g H1 HD := m1.trans k13
      have mH : Kg g H HD := k1.trans m2
      -- what was free when each was made
      have old : ∀ c, c = fi ∨ c = ro ∨ c ∈ rs → c ≠ g ∧ ∃ o, H1 c = some o := fun c hc => by
        rcases hc with rfl | rfl | hc
        · exact ⟨gfi, _, hfi⟩
        · exact ⟨gro, _, hro⟩
        · obtain ⟨r, hr, z⟩ := rows_mem hrs hc
          exact ⟨Kg.ne z.1 hg, _, z.2⟩
      have ne2 : ∀ {c d : Addr} {X : Hp} {o : HO}, X c = some o → X d = none → d ≠ c := fun a b z => by rw [z, a] at b; cases b
      have x3 := k3b _ _ gcn hcn
      have x5 := k5 _ _ gcn x3
      have x7 := k7 _ _ gcn x5
      have o7 := k7 _ _ gop o5
      refine k HD ⟨g, dx, gr, pr, fi, ro, cn, op, pu, de, sl, he, rs⟩ rfl mH (fun c hc => ?_) (fun c hc => ?_) ⟨⟨⟨m2.dp i1 (td_pr ok) hpr, m2 _ _ gfi hfi, m2 _ _ gro hro, paired_imp (fun a r z => ⟨trivial, m2 _ _ (Kg.ne z.1 hg) z.2⟩) hrs,
        ?_, k13 _ _ gop opB, k13 _ _ gpu (k11 _ _ gpu (k9 _ _ gpu p7)), k13 _ _ gde (k11 _ _ gde d9), ⟨[], k13 _ _ gsl l11, .nil⟩, ?_, fun c hc => ?_⟩, i13⟩, ⟨_, k13b _ _ ghe hhe, hereM_nd, ?_, fun x => hereM_mem⟩⟩
      · rcases hc with rfl | rfl | rfl | rfl | rfl | rfl
        · exact .inl rfl
        · exact .inr (k1.free gcn ncn)
        · exact .inr (k1.free gop (k3.free gop nop))
        · exact .inr (k1.free gpu (k3.free gpu (k5.free gpu npu)))
        · exact .inr (k1.free gde (k3.free gde (k5.free gde (k7.free gde nde))))
        · exact .inr (k1.free gsl (k3.free gsl (k5.free gsl (k7.free gsl (k9.free gsl nsl)))))
      · rcases hc with rfl | rfl | rfl | hc
        · exact nfi
        · exact nro
        · exact k1.free ghe (m1.free ghe nhe)
        · obtain ⟨r, hr, z⟩ := rows_mem hrs hc
          exact z.1
      · have e : (St.begin p).counts = List.replicate p.doors.length 0 := by
          show p.doors.map (fun _ => (0 : Int)) = _
          rw [List.map_const'] <;> rfl
        rw [e]
        exact k13 _ _ gcn (k11 _ _ gcn (k9 _ _ gcn x7))
      · simp only [List.nodup_cons, List.mem_cons, List.mem_singleton, List.not_mem_nil, or_false, not_or, List.nodup_nil, and_true, not_false_eq_true]
        exact ⟨⟨(ne2 c3 nop).symm, (ne2 x5 npu).symm, (ne2 x7 nde).symm⟩, ⟨(ne2 o5 npu).symm, (ne2 o7 nde).symm⟩, (ne2 p7 nde).symm⟩
      · obtain ⟨cg, o, ho⟩ := old c hc
        simp only [List.mem_cons, List.mem_singleton, List.not_mem_nil, or_false, not_or]
        exact ⟨(ne2 ho ncn).symm, (ne2 (k3 _ _ cg ho) nop).symm, (ne2 (k5 _ _ cg (k3 _ _ cg ho)) npu).symm, (ne2 (k7 _ _ cg (k5 _ _ cg (k3 _ _ cg ho))) nde).symm⟩
      · have := r8 ok (hereM_ok ok (os := []))
        omega
    refine ⟨_, PSs.nox (pss_cons (ps_set (i := 2) scPInit.nd rfl (Or.inl rfl) (pe_ifExp (pt_val (pe_callB call_isi (by rfl) B.isinstance bt_isinstance (pa_cons (pv 1) (pa_cons (pe_glob (v := .ref CG) (by rfl) eG rfl) pa_nil)))) (pv 1) (pe_make MG GG hr (by rfl) eG bG .nil pass0 (pa_cons (pv 1) pa_nil))))
      (pss_cons (ps_fld (pv 0) (pv 2) rfl)
      (pss_cons (ps_fld (pv 0) (pe_fldK (K := K) (pv 2)) rfl)
      (pss_cons (ps_fld (pv 0) (pe_fldK (K := K) (pv 2)) rfl)
      (pss_cons (ps_fld (pv 0) (pe_fldK (K := K) (pv 2)) rfl) w2))))), ?_⟩
    obtain ⟨av, xv, rfl, hsv, hav⟩ := dp_tupE hp
    refine ⟨_, rfl, .ref av, .ref CG, .type "tuple", .ref CG, false, rfl, .own CG, ty_seq hsv, kG, ?_⟩
    refine ⟨_, rfl, iteF ⟨_, rfl, fun x dxx nx ndx nd => ?_⟩⟩
    have s0 : Same H (upd (upd H dxx (.own x)) x (.ins CG dxx [])) := (same_new ndx).trans (same_new (by rw [upd_ne (Ne.symm nd)]; exact nx))
    refine ⟨x, dxx, _, p, rfl, upd_same, dp_same s0 hp, ok, fun H1 a1 a2 a3 as k1 G => ⟨rfl, ?_⟩⟩
    have s1 : Same H H1 := fun b o e => k1 b o (ne_of_none e nx) (s0 b o e)
    have nz : ∀ c, upd (upd H dxx (.own x)) x (.ins CG dxx []) c = none → H c = none := fun c h => s0.free h
    have ng : x ≠ g := Ne.symm (ne_of_none hg nx)
    have hg1 := s1 _ _ hg
    -- own_ground
    have hg1' : H1 g = some (.ins C dx (pK.zip [])) := hg1
    refine ⟨_, rfl, _, rfl, g, C, dx, _, rfl, hg1', T.cl, n _ (by decide +kernel), zip_few (by decide +kernel), ?_⟩
    have q0 := adv (f := "own_ground") (v := V.ref x) (Same.refl H1) hg1' (n := 0) (by decide +kernel) rfl (us' := [V.ref x]) rfl
    generalize upd H1 g (.ins C dx (putF "own_ground" (V.ref x) (pK.zip []))) = G0 at q0 ⊢
    obtain ⟨kk0, _, ii0⟩ := q0
    have gx1 := kk0 _ _ ng G.ins
    refine ⟨_, rfl, x, CG, dxx, _, _, rfl, gx1, TG.cl, TG.no _ (by decide +kernel), lookup_zip (i := 0) (by decide +kernel), _, rfl, g, C, dx, _, rfl, ii0, T.cl, n _ (by decide +kernel), zip_few (by decide +kernel), ?_⟩
    have q1 := adv (f := "own_program") (v := V.ref a1) (Same.refl G0) ii0 (n := 1) (by decide +kernel) rfl (us' := [V.ref x, V.ref a1]) rfl
    generalize upd G0 g (.ins C dx (putF "own_program" (V.ref a1) (pK.zip [V.ref x]))) = G1 at q1 ⊢
    obtain ⟨kk1, _, ii1⟩ := q1
    have gx2 := kk1 _ _ ng gx1
    refine ⟨_, rfl, x, CG, dxx, _, _, rfl, gx2, TG.cl, TG.no _ (by decide +kernel), lookup_zip (i := 1) (by decide +kernel), _, rfl, g, C, dx, _, rfl, ii1, T.cl, n _ (by decide +kernel), zip_few (by decide +kernel), ?_⟩
    have q2 := adv (f := "own_first") (v := V.ref a2) (Same.refl G1) ii1 (n := 2) (by decide +kernel) rfl (us' := [V.ref x, V.ref a1, V.ref a2]) rfl
    generalize upd G1 g (.ins C dx (putF "own_first" (V.ref a2) (pK.zip [V.ref x, V.ref a1]))) = G2 at q2 ⊢
    obtain ⟨kk2, _, ii2⟩ := q2
    have gx3 := kk2 _ _ ng gx2
    refine ⟨_, rfl, x, CG, dxx, _, _, rfl, gx3, TG.cl, TG.no _ (by decide +kernel), lookup_zip (i := 2) (by decide +kernel), _, rfl, g, C, dx, _, rfl, ii2, T.cl, n _ (by decide +kernel), zip_few (by decide +kernel), ?_⟩
    have q3 := adv (f := "own_rows") (v := V.ref a3) (Same.refl G2) ii2 (n := 3) (by decide +kernel) rfl (us' := [V.ref x, V.ref a1, V.ref a2, V.ref a3]) rfl
    generalize upd G2 g (.ins C dx (putF "own_rows" (V.ref a3) (pK.zip [V.ref x, V.ref a1, V.ref a2]))) = G3 at q3 ⊢
    obtain ⟨kk3, _, ii3⟩ := q3
    have kA : Kg g H1 G3 := ((kk0.trans kk1).trans kk2).trans kk3
    have f2 := nz _ G.z2
    have f3 := nz _ G.z3
    exact r2 G3 _ _ x a1 a2 a3 as ((Kg.of s1).trans kA) ii3 (kA.dp hg1' (td_pr ok) G.prog) (kA _ _ (Kg.ne f2 hg) G.first) (kA _ _ (Kg.ne f3 hg) G.rows) (paired_imp (fun a r z => ⟨nz _ z.1, kA _ _ (Kg.ne (nz _ z.1) hg) z.2⟩) G.each) f2 f3
end
end K10
end
section
set_option maxHeartbeats 4000000
/-! P0: what stays true of a state; runs. -/
namespace K10
open PySem L2
structure StG (p : Prg) (st : St) : Prop extends StOk p st where
  nn : ∀ k, 0 ≤ cntAt st k
theorem cnt_set {st : St} {k j : Nat} {c : Int} (h : k < st.counts.length) : cntAt { st with counts := st.counts.set k c } j = if j = k then c else cntAt st j := by
  unfold cntAt
  show (st.counts.set k c).getD j 0 = _
  rw [List.getD_eq_getElem?_getD, List.getD_eq_getElem?_getD]
  by_cases e : j = k
  · subst e
    rw [if_pos rfl, List.getElem?_set_self h] <;> rfl
  · rw [if_neg e, List.getElem?_set_ne (Ne.symm e)]
theorem there_app {p : Prg} {os : List Nat} {k : Nat} {x : Str} : thereM p (os ++ [k]) x = true ↔ thereM p os x = true ∨ x ∈ rowAt p k := by
  unfold thereM
  rw [List.any_append, Bool.or_eq_true, Bool.or_eq_true, Bool.or_eq_true, List.any_cons, List.any_nil, Bool.or_false, decide_eq_true_eq, decide_eq_true_eq, or_assoc]
theorem there_rowAt {p : Prg} {os : List Nat} {k : Nat} {x : Str} (h : k ∈ os) (hx : x ∈ rowAt p k) : thereM p os x = true := by
  unfold thereM
  rw [Bool.or_eq_true, List.any_eq_true]
  exact .inr ⟨k, h, decide_eq_true hx⟩
theorem StG.begin {p : Prg} (ok : p.Ok) : StG p (St.begin p) := by
  have z : ∀ k, cntAt (St.begin p) k = 0 := fun k => by
    unfold cntAt
    rw [List.getD_eq_getElem?_getD]
    show (((p.doors.map fun _ => (0 : Int)))[k]?).getD 0 = 0
    rw [List.getElem?_map]
    cases p.doors[k]? <;> rfl
  refine ⟨⟨List.length_map .., fun k => ⟨fun h => (by cases h), fun h => absurd (z k) h⟩, List.nodup_nil, first_ok ok, ⟨List.nodup_nil, fun _ h => (by cases h)⟩, fun _ h => (by cases h), List.nodup_nil, fun _ h => (by cases h)⟩, fun k => by rw [z]; exact Int.le_refl 0⟩
theorem StG.call {p : Prg} (ok : p.Ok) {st : St} (h : StG p st) {x : Str} {i : Nat} (hu : (useAt p x i).isSome = true) : StG p (callM p st x i).1 := by
  obtain ⟨u, hu⟩ := Option.isSome_iff_exists.mp hu
  unfold callM
  cases e : slotM st x i with
  | some a => exact h
  | none =>
    show StG p (if foundM p st x i = .lost then st else _)
    split
    · exact h
    · refine ⟨⟨h.cl, h.op, h.ond, h.pub, h.deep, h.dth, ?_, fun q hq => ?_⟩, h.nn⟩
      · show ((st.slots ++ [((x, i), foundM p st x i)]).map (·.1)).Nodup
        rw [List.map_append, List.nodup_append]
        refine ⟨h.snd, by simp, fun a ha b hb e2 => ?_⟩
        have hb : b = (x, i) := by simpa using hb
        subst hb
        rw [e2] at ha
        obtain ⟨z, hz, ez⟩ := List.mem_map.mp ha
        unfold slotM at e
        have n := List.find?_eq_none.mp (Option.map_eq_none_iff.mp e) z hz
        exact n (decide_eq_true ez)
      · rcases List.mem_append.mp hq with hq | hq
        · exact h.sin q hq
        · rw [List.mem_singleton.mp hq]
          exact ⟨use_name hu, use_lt ok hu, found_ok ok⟩
theorem rowAt_ok {p : Prg} (ok : p.Ok) {k : Nat} (hk : k < p.doors.length) : RowOk p (rowAt p k) := row_names ok _ (List.mem_of_getElem? (rowAt_in hk))
theorem StG.openD {p : Prg} (ok : p.Ok) {st : St} (h : StG p st) {k : Nat} (hk : k < p.doors.length) : StG p (openM p st k).1 := by
  have kc : k < st.counts.length := by rw [h.cl]; exact hk
  unfold openM
  split
  · exact h
  · rename_i n2
    show StG p (if cntAt st k + 1 = 1 then comeM p { st with counts := st.counts.set k (cntAt st k + 1) } k else { st with counts := st.counts.set k (cntAt st k + 1) })
    have nk := h.nn k
    split
    · rename_i c
      have c0 : cntAt st k = 0 := by omega
      have ko : k ∉ st.opened := fun z => (h.op k).mp z c0
      have ro := rowAt_ok ok hk
      refine ⟨⟨?_, fun j => ?_, ?_, ?_, ?_, fun x hx => ?_, h.snd, h.sin⟩, fun j => ?_⟩
      · show (st.counts.set k _).length = _
        rw [List.length_set]
        exact h.cl
      · show j ∈ st.opened ++ [k] ↔ cntAt { st with counts := st.counts.set k (cntAt st k + 1) } j ≠ 0
        rw [cnt_set kc, List.mem_append, List.mem_singleton]
        by_cases e : j = k
        · rw [if_pos e]
          exact ⟨fun _ => by omega, fun _ => .inr e⟩
        · rw [if_neg e]
          exact ⟨fun z => z.elim (h.op j).mp fun z => absurd z e, fun z => .inl ((h.op j).mpr z)⟩
      · show (st.opened ++ [k]).Nodup
        rw [List.nodup_append]
        exact ⟨h.ond, by simp, fun a ha b hb e => ko (by rw [← List.mem_singleton.mp hb, ← e]; exact ha)⟩
      · show RowOk p (if modeAt p k = "global" then st.pub ++ (rowAt p k).filter (fun x => !decide (x ∈ st.pub)) else st.pub)
        split
        · refine ⟨List.nodup_append.mpr ⟨h.pub.nd, ro.nd.filter _, fun a ha b hb e => ?_⟩, fun x hx => (List.mem_append.mp hx).elim (h.pub.sub x) fun z => ro.sub x (List.mem_filter.mp z).1⟩
          have q := (List.mem_filter.mp hb).2
          rw [← e] at q
          simp [ha] at q
        · exact h.pub
      · show RowOk p (if modeAt p k = "deep" then st.deep ++ (rowAt p k).filter (fun x => !thereM p st.opened x) else st.deep)
        split
        · refine ⟨List.nodup_append.mpr ⟨h.deep.nd, ro.nd.filter _, fun a ha b hb e => ?_⟩, fun x hx => (List.mem_append.mp hx).elim (h.deep.sub x) fun z => ro.sub x (List.mem_filter.mp z).1⟩
          have q := (List.mem_filter.mp hb).2
          rw [← e, h.dth a ha] at q
          cases q
        · exact h.deep
      · have hx : x ∈ (if modeAt p k = "deep" then st.deep ++ (rowAt p k).filter (fun x => !thereM p st.opened x) else st.deep) := hx
        show thereM p (st.opened ++ [k]) x = true
        rw [there_app]
        split at hx
        · rcases List.mem_append.mp hx with hx | hx
          · exact .inl (h.dth x hx)
          · exact .inr (List.mem_filter.mp hx).1
        · exact .inl (h.dth x hx)
      · show 0 ≤ cntAt { st with counts := st.counts.set k (cntAt st k + 1) } j
        rw [cnt_set kc]
        split
        · omega
        · exact h.nn j
    · rename_i c
      refine ⟨⟨?_, fun j => ?_, h.ond, h.pub, h.deep, h.dth, h.snd, h.sin⟩, fun j => ?_⟩
      · show (st.counts.set k _).length = _
        rw [List.length_set]
        exact h.cl
      · show j ∈ st.opened ↔ cntAt { st with counts := st.counts.set k (cntAt st k + 1) } j ≠ 0
        rw [cnt_set kc]
        by_cases e : j = k
        · rw [if_pos e, e, h.op k]
          exact ⟨fun _ => by omega, fun _ => by omega⟩
        · rw [if_neg e]
          exact h.op j
      · rw [cnt_set kc]
        split
        · omega
        · exact h.nn j
theorem left_ok {p : Prg} {os : List Nat} {a : Ans} (h : ansOk p a) : ansOk p (leftM p os a) := by
  cases a with
  | bound n v =>
    show ansOk p (if thereM p os n then .bound n v else .torn)
    split
    · exact h
    · trivial
  | _ => exact h
theorem StG.closeD {p : Prg} (ok : p.Ok) {st : St} (h : StG p st) {k : Nat} (hk : k < p.doors.length) : StG p (closeM p st k).1 := by
  have kc : k < st.counts.length := by rw [h.cl]; exact hk
  unfold closeM
  split
  · exact h
  · rename_i n0
    show StG p (if cntAt st k - 1 = 0 then goM p { st with counts := st.counts.set k (cntAt st k - 1), opened := st.opened.erase k } else { st with counts := st.counts.set k (cntAt st k - 1) })
    have nk := h.nn k
    split
    · rename_i c
      refine ⟨⟨?_, fun j => ?_, h.ond.erase _, ⟨h.pub.nd.filter _, fun x hx => h.pub.sub x (List.mem_filter.mp hx).1⟩, ⟨h.deep.nd.filter _, fun x hx => h.deep.sub x (List.mem_filter.mp hx).1⟩, fun x hx => (List.mem_filter.mp hx).2, ?_, fun q hq => ?_⟩, fun j => ?_⟩
      · show (st.counts.set k _).length = _
        rw [List.length_set]
        exact h.cl
      · show j ∈ st.opened.erase k ↔ cntAt { st with counts := st.counts.set k (cntAt st k - 1) } j ≠ 0
        rw [cnt_set kc, h.ond.mem_erase_iff]
        by_cases e : j = k
        · rw [if_pos e]
          exact ⟨fun z => absurd e z.1, fun z => absurd c z⟩
        · rw [if_neg e]
          exact ⟨fun z => (h.op j).mp z.2, fun z => ⟨e, (h.op j).mpr z⟩⟩
      · show (((st.slots.filter fun q => thereM p (st.opened.erase k) q.1.1).map fun q => (q.1, leftM p (st.opened.erase k) q.2)).map (·.1)).Nodup
        rw [List.map_map]
        exact (h.snd.sublist ((List.filter_sublist).map _))
      · have hq : q ∈ (st.slots.filter fun q => thereM p (st.opened.erase k) q.1.1).map fun q => (q.1, leftM p (st.opened.erase k) q.2) := hq
        obtain ⟨z, hz, rfl⟩ := List.mem_map.mp hq
        obtain ⟨h1, h2, h3⟩ := h.sin z (List.mem_filter.mp hz).1
        exact ⟨h1, h2, left_ok h3⟩
      · show 0 ≤ cntAt { st with counts := st.counts.set k (cntAt st k - 1) } j
        rw [cnt_set kc]
        split
        · omega
        · exact h.nn j
    · rename_i c
      refine ⟨⟨?_, fun j => ?_, h.ond, h.pub, h.deep, h.dth, h.snd, h.sin⟩, fun j => ?_⟩
      · show (st.counts.set k _).length = _
        rw [List.length_set]
        exact h.cl
      · show j ∈ st.opened ↔ cntAt { st with counts := st.counts.set k (cntAt st k - 1) } j ≠ 0
        rw [cnt_set kc]
        by_cases e : j = k
        · rw [if_pos e, e, h.op k]
          exact ⟨fun _ => c, fun _ => n0⟩
        · rw [if_neg e]
          exact h.op j
      · rw [cnt_set kc]
        split
        · omega
        · exact h.nn j
theorem StG.step {p : Prg} (ok : p.Ok) {st : St} (h : StG p st) {t : Stp} (ht : StpOk p t) : StG p (stepM p st t).1 := by
  cases t with
  | opn k => exact h.openD ok ht
  | cls k => exact h.closeD ok ht
  | call x i =>
    show StG p (if thereM p st.opened x then callM p st x i else (st, .away)).1
    split
    · exact h.call ok ht
    · exact h
theorem behind_snoc (p : Prg) (s : St) (ts : List Stp) (t : Stp) : behindM p s (ts ++ [t]) = (stepM p (behindM p s ts) t).1 := by
  unfold behindM
  rw [List.foldl_append] <;> rfl
theorem run_snoc (p : Prg) : ∀ (ts : List Stp) (s : St) (t : Stp), runM p s (ts ++ [t]) = runM p s ts ++ [(stepM p (behindM p s ts) t).2]
  | [], s, t => rfl
  | u :: ts, s, t => by
    show (stepM p s u).2 :: runM p (stepM p s u).1 (ts ++ [t]) = (stepM p s u).2 :: (runM p (stepM p s u).1 ts ++ [(stepM p (behindM p (stepM p s u).1 ts) t).2])
    rw [run_snoc p ts]
theorem run_len (p : Prg) : ∀ (ts : List Stp) (s : St), (runM p s ts).length = ts.length
  | [], s => rfl
  | u :: ts, s => congrArg Nat.succ (run_len p ts _)
theorem StG.behind {p : Prg} (ok : p.Ok) : ∀ {ts : List Stp} {st : St}, StG p st → (∀ t ∈ ts, StpOk p t) → StG p (behindM p st ts)
  | [], _, h, _ => h
  | t :: ts, st, h, ht => StG.behind ok (ts := ts) (h.step ok (ht t List.mem_cons_self)) fun u hu => ht u (List.mem_cons_of_mem _ hu)
end K10
end
section
set_option maxHeartbeats 4000000
/-! LA: runs: answer_of, run. -/
namespace K10
open PySem PySem.Spec PyProof.Rows L2
section
variable {X : Cx} {CX : CXT} {k : Nat} {f C : Addr} {fd : FuncData} {ps : List Str} {sp : Sp} {E : L2.St → XK} {x m : Str} {p pos apos : Pos} {e o : Expr} {es : List Expr} {ta : TE} {t : TA}
/-- o.m(e, ..) in a try's body: what it may let out hangs on the slots -/
def tMethS (C : Addr) (m : Str) (sp : Sp) (E : L2.St → XK) (ta : TE) (t : TA) : TE := fun σ H Q => ta σ H fun x H1 => ∃ a dx fs, x = .ref a ∧ H1 a = some (.ins C dx fs) ∧ fs.lookup m = none ∧
  t σ H1 fun vs H2 => sp (x :: vs) H2 Q (E σ)
theorem pe_methS {pl : Sem Bool} (he : PE X o ta) (c : Cls X.K C) (hm : Meth X.K C m f) (F : FnOk X.prog X.w X.K X.mg X.base CX k f fd ps sp) (hr : Room k X.A) (hb : Binds X.K fd ps []) (hx : ∀ σ, PassesAt CX X σ (E σ)) (ha : PA X (e :: es) t)
    (hst : starEach (e :: es) X.env = (false, eval e X.env) :: starEach es X.env := by rfl) (hpl : (backTo pos (starEach es X.env)).any (·.1) = false := by rfl)
    (ht : eval (.Call (.Attribute o m apos) (e :: es) [] pos) X.env = (do
      let ov ← eval o X.env
      standAt apos.atName
      let (f, first) ← holding [ov] (getMethod ov m pl)
      callWith pos f first (backTo pos (starEach (e :: es) X.env)) (backToKw pos (keywordEach [] X.env))) := by rfl) :
    PE X (.Call (.Attribute o m apos) (e :: es) [] pos) (tMethS C m sp E ta t) := by
  refine ⟨fun pins s σ H Q I h => ?_⟩
  refine PySem.W.methodCall_KW (pl := pl) (thn (he.run pins s σ H _ I h) fun u s1 ⟨x, H1, I1, rx, a, dx, fs, ex, ea, l, q⟩ => ?_) ht
  subst ex
  obtain rfl : u = Value.ref a := rx
  refine getmeth_ok I1 ea c hm l ?_
  refine PySem.W.callWith_K (first := [.ref a]) (h₀ := X.base) I.ok.mod.kin hm.kp (thn (ha.run pos pins s1 σ H1 _ I1 q) fun us s2 ⟨vs, H2, I2, r, q2⟩ => ⟨I2.kIn, ?_⟩) hst hpl
  exact run_fnS (us := .ref a :: us) (vs := .ref a :: vs) F hr hb (hx σ) I2 (.cons rfl r) q2
end
section
variable {P : Program} {w : World} {K : PySem.W.Frag} {mg : Str → Option Value} {base : Heap}
abbrev sAns : Stmt := top 35
theorem scAns : FnScope ["process", "step", "caught", "found", "error"] ["process", "step"] (defScope sAns) := ⟨rfl, rfl, rfl, by decide +kernel, rfl, by decide +kernel, by decide +kernel⟩
def spAns (K : PySem.W.Frag) (C : Addr) : Sp := fun vs H Q _ => ∃ (A : Adr) (p : Prg) (st : St) (vt : V) (t : Stp), vs = [.ref A.p, vt] ∧ PAt K C H A p st ∧ p.Ok ∧ StOk p st ∧ Dp K H vt (stpD t) ∧ StpOk p t ∧
  ∀ H' A' v, Nxt A A' H → Kp A.F H H' → PAt K C H' A' p (stepM p st t).1 → Dp K H' v (ansD (stepM p st t).2) → Q v H'
theorem ok_ans {f C N fN : Addr} {fd : FuncData} (K0 : Cst K mg) (T : ClsF K C pK) (TN : NTxt P K mg N fN) (F : DefAt K "answer_of" "answer_of" sAns f fd) (MD : Mth P w K mg base (L2.CX P w) 7 C "do" ["self", "step"] (spDo K C N)) : FnOk P w K mg base CX0 8 f fd ["process", "step"] (spAns K C) := by
  obtain ⟨fD, fdD, GD, mD, bD⟩ := MD.ex
  obtain ⟨vA, uA, eA, rA, dA⟩ := K0.away
  refine F.ok scAns (fun vs H Q E h => ?_) (fun cdv A outer s H vs Q E hr h => ?_)
  · obtain ⟨A, p, st, vt, t, rfl, _⟩ := h
    rfl
  · obtain ⟨a, p, st, vt, t, rfl, h, ok, so, ht, to, k⟩ := h
    refine ⟨_, pss_cons (ps_par (i := 2) (j := 3) rfl scAns.nd rfl rfl (by decide) rfl rfl (pa_cons pe_non (pa_cons (pe_glob (by rfl) eA rA) pa_nil)) (by rfl))
      (pss_cons (ps_try_as (i := 4) (tb := fun W => tAsg (tMethS C "do" (spDo K C N) (WE W) (tVar 0) (tCons (tVar 1) tNil)) (gName 3)) (ts := fun _ _ _ => tAsg (tVar 4) (gName 2)) (Wout := fun _ _ _ _ => False) rfl rfl scAns.nd rfl rfl ⟨rfl, by decide, Or.inl TN.gC⟩ takes0
          (fun W pn xe tk _ => pss_one (ps_set (i := 3) scAns.nd rfl (Or.inl rfl) (by exact (pe_methS (pv 0) T.cl mD GD hr bD (fun σ => passAt tk σ) (by exact (pa_cons (pv 1) pa_nil))))))
          (fun a oe cls d pn hz hf => pss_one (ps_set (i := 2) scAns.nd rfl (Or.inl rfl) (by exact pv 4))))
      (pss_one (ps_ret (pe_ifExp (pt_cmpR op_isN (pv 2) pe_non (nomark _)) (pv 3) (pe_glob (by rfl) eA rA))))), ?_⟩
    refine ⟨_, _, rfl, ?_⟩
    refine ⟨_, rfl, a.p, a.dx, _, rfl, h.ins, lookup_zip_none (by decide +kernel), _, rfl, a, p, st, vt, t, rfl, h, ok, so, ht, to, fun e H' A' v nx kk h' hv => ?_, fun e H' d s1 => ?_⟩
    · refine ⟨_, rfl, rfl, _, rfl, ?_⟩
      rw [decide_eq_true rfl]
      exact iteT ⟨_, rfl, k H' A' v nx kk h' hv⟩
    · refine ⟨true, TN.te, fun _ a0 na => ?_, fun q => Bool.noConfusion q⟩
      refine ⟨_, rfl, _, rfl, rfl, _, rfl, ?_⟩
      rw [decide_eq_false (by intro z; cases z)]
      refine iteF ?_
      have e1 : stepM p st t = (st, .away) := by
        cases t with
        | opn j => cases e
        | cls j => cases e
        | call x i =>
          have e : thereM p st.opened x = false := e
          show (if thereM p st.opened x = true then callM p st x i else (st, .away)) = _
          rw [e]
          rfl
      rw [e1] at k
      exact k H' a vA (Nxt.refl _ _) (Kp.same s1) (h.same ok s1) (dA _)
end
end K10
end
section
set_option maxHeartbeats 4000000
/-! LB: run. -/
namespace K10
open PySem PySem.Spec PyProof.Rows L2
theorem same_kp {A : Adr} {H0 H H' : Hp} (s : Same H0 H) (f : ∀ c, A.F c → H0 c = none) (k : Kp A.F H H') : Same H0 H' := fun b o e => k.keep b o (fun z => by rw [f b z] at e; cases e) (s b o e)
/-- a process that is new since H0, at H -/
structure New (K : PySem.W.Frag) (C : Addr) (H0 H : Hp) (A : Adr) (p : Prg) (st : St) : Prop where
  at_ : PAt K C H A p st
  f : ∀ c, A.F c → H0 c = none
  r : ∀ c, A.R c → H0 c = none
theorem New.step {K : PySem.W.Frag} {C : Addr} {H0 H H' : Hp} {A A' : Adr} {p : Prg} {st st' : St} (n : New K C H0 H A p st) (s : Same H0 H) (x : Nxt A A' H) (h : PAt K C H' A' p st') : New K C H0 H' A' p st' :=
  ⟨h, fun c hc => (x.F c hc).elim (n.f c) fun z => s.free z, fun c hc => (x.R c hc).elim (n.r c) fun z => s.free z⟩
section
variable {P : Program} {w : World} {K : PySem.W.Frag} {mg : Str → Option Value} {base : Heap}
abbrev sRun : Stmt := top 36
theorem scRun : FnScope ["program", "steps", "process", "step"] ["program", "steps"] (defScope sRun) := ⟨rfl, rfl, rfl, by decide +kernel, rfl, by decide +kernel, by decide +kernel⟩
theorem PAt.live {C : Addr} {H : Hp} {A : Adr} {p : Prg} {st : St} (h : PAt K C H A p st) {c : Addr} (hc : A.F c ∨ A.R c) : ∃ o, H c = some o := by
  rcases hc with (e | e | e | e | e | e) | (e | e | e | e)
  · exact ⟨_, by rw [e]; exact h.ins⟩
  · exact ⟨_, by rw [e]; exact h.cnts⟩
  · exact ⟨_, by rw [e]; exact h.opn⟩
  · exact ⟨_, by rw [e]; exact h.pub⟩
  · exact ⟨_, by rw [e]; exact h.deep⟩
  · obtain ⟨kvs, hs, _⟩ := h.slots
    exact ⟨_, by rw [e]; exact hs⟩
  · exact ⟨_, by rw [e]; exact h.first⟩
  · exact ⟨_, by rw [e]; exact h.rows⟩
  · obtain ⟨ns, hh, _⟩ := h.here
    exact ⟨_, by rw [e]; exact hh⟩
  · obtain ⟨r, _, _, hr⟩ := rows_mem h.each e
    exact ⟨_, hr⟩
/-- a list of steps in the heap -/
def StepsAt (K : PySem.W.Frag) (H : Hp) (l : Addr) (ts : List Stp) : Prop := ∃ vs, H l = some (.lst vs) ∧ DpAll K H vs (ts.map stpD)
def AnsAt (K : PySem.W.Frag) (H : Hp) (l : Addr) (xs : List Ans) : Prop := ∃ vs, H l = some (.lst vs) ∧ DpAll K H vs (xs.map ansD)
def spRun (K : PySem.W.Frag) : Sp := fun vs H Q _ => ∃ (vp : V) (l : Addr) (p : Prg) (ts : List Stp), vs = [vp, .ref l] ∧ Dp K H vp (prD p) ∧ p.Ok ∧ StepsAt K H l ts ∧ (∀ t ∈ ts, StpOk p t) ∧ ts.length ≤ 1000 ∧
  ∀ H' b, Same H H' → H b = none → AnsAt K H' b (runM p (St.begin p) ts) → Q (.ref b) H'
/-- how a class is made -/
structure MkC (P : Program) (w : World) (K : PySem.W.Frag) (mg : Str → Option Value) (base : Heap) (k : Nat) (x : Str) (C : Addr) (sp : Sp) : Prop where
  ex : ∃ f fd, Mk K C f ∧ mg x = some (.ref C) ∧ FnOk P w K mg base CX0 k f fd ["self", "program"] sp ∧ Binds K fd ["self", "program"] []
theorem dpa_td {H H' : Hp} {vs : List V} {ds : List PyData} {n : Nat} (s : Same H H') (a : DpAll K H vs ds) : DpAll K H' vs ds := dpa_same s a
theorem ans_td {xs : List Ans} : ∀ d ∈ xs.map ansD, td 1 d := fun d hd => by
  obtain ⟨a, _, rfl⟩ := List.mem_map.mp hd
  exact td_ans a
/-- Process(program), as a reading's end -/
theorem mk_new {C : Addr} {H : Hp} {vp : V} {p : Prg} {Q : Addr → Hp → Prop} {E : XK} (hp : Dp K H vp (prD p)) (ok : p.Ok) (k : ∀ H' A, Same H H' → New K C H H' A p (St.begin p) → Q A.p H') :
    ∀ x dx, H x = none → H dx = none → dx ≠ x → spPInit K C (.ref x :: ([vp] ++ [])) (upd (upd H dx (.own x)) x (.ins C dx [])) (fun v H2 => v = .non ∧ Q x H2) E := by
  intro x dx nx ndx nd
  have s0 : Same H (upd (upd H dx (.own x)) x (.ins C dx [])) := (same_new ndx).trans (same_new (by rw [upd_ne (Ne.symm nd)]; exact nx))
  refine ⟨x, dx, vp, p, rfl, upd_same, dp_same s0 hp, ok, fun H' A e kg f r h => ⟨rfl, ?_⟩⟩
  have s1 : Same H H' := fun b o q => kg b o (ne_of_none q nx) (s0 b o q)
  rw [← e]
  exact k H' A s1 ⟨h, fun c hc => (f c hc).elim (fun z => by rw [z]; exact nx) fun z => s0.free z, fun c hc => s0.free (r c hc)⟩
theorem ok_run {f C : Addr} {fd : FuncData} (F : DefAt K "run" "run" sRun f fd) (MP : MkC P w K mg base 14 "Process" C (spPInit K C)) (GA : Glb P w K mg base CX0 8 "answer_of" ["process", "step"] (spAns K C)) : FnOk P w K mg base CX0 16 f fd ["program", "steps"] (spRun K) := by
  obtain ⟨fP, fdP, mkP, eP, GP, bP⟩ := MP.ex
  obtain ⟨fA, fdA, GA, gA, kA, bA⟩ := GA.ex
  refine F.ok scRun (fun vs H Q E h => ?_) (fun cdv A outer s H vs Q E hr h => ?_)
  · obtain ⟨vp, l, p, ts, rfl, _⟩ := h
    rfl
  · obtain ⟨vp, l, p, ts, rfl, hp, ok, ⟨us, hl, hd⟩, hts, hlen, k⟩ := h
    have hrA : Room 8 _ := hr.mono (by decide)
    refine ⟨_, PSs.nox (pss_cons (ps_set (i := 2) scRun.nd rfl (Or.inr rfl) (pe_make mkP GP hr (by rfl) eP bP .nil pass0 (pa_cons (pv 0) pa_nil)))
      (pss_one (ps_ret (pe_lc (own := [("step", 3)]) (g := gName 3) (tt := tYes) rfl scRun.nd (pi_listK (K := K) (pv 1)) (blkOk_by (N := ["program", "steps", "process", "step"]) (sc := defScope sRun) (by decide +kernel))
          (fun _ _ _ _ _ => pg_name (i := 3) scRun.nd rfl (Or.inl rfl)) (fun _ _ _ _ _ => pts_nil) (fun _ _ _ _ _ => pe_call GA hrA rfl gA kA bA .nil pass0 (pa_cons (pv 2) (pa_cons (pv 3) pa_nil))))))), ?_⟩
    refine ⟨_, rfl, mk_new (C := C) (vp := vp) hp ok fun H1 a s1 n1 => ?_⟩
    refine ⟨_, rfl, l, rfl, ⟨_, SqL.of (s1 _ _ hl)⟩, fun D hD => ?_⟩
    have nD : H D = none := s1.free hD
    refine lc_list (K := K) (a := l) (xs := us) (fun i H' => Same H H' ∧ ∃ (A : Adr) (acc : List V), A.p = a.p ∧ New K C H H' A p (behindM p (St.begin p) (ts.take i)) ∧ ¬ A.F D ∧ ¬ A.R D ∧ H' D = some (.lst acc) ∧ DpAll K H' acc ((runM p (St.begin p) (ts.take i)).map ansD)) ?_ (fun i H' _ h => SqL.of (h.1 _ _ hl)) ?_ ?_
    · refine ⟨same_at s1 nD, a, [], rfl, ⟨n1.at_.same ok (same_new hD), n1.f, n1.r⟩, fun z => ?_, fun z => ?_, upd_same, .nil⟩
      · obtain ⟨o, e⟩ := n1.at_.live (.inl z)
        rw [hD] at e; cases e
      · obtain ⟨o, e⟩ := n1.at_.live (.inr z)
        rw [hD] at e; cases e
    · rintro i x H' hx ⟨s2, A, acc, eA, n2, nf, nr, hacc, hda⟩
      obtain ⟨d, hd1, hd2⟩ := dpa_at hd hx
      rw [List.getElem?_map] at hd1
      obtain ⟨t, ht, rfl⟩ := Option.map_eq_some_iff.mp hd1
      have so : StG p (behindM p (St.begin p) (ts.take i)) := (StG.begin ok).behind ok fun u hu => hts u (List.mem_of_mem_take hu)
      refine ⟨rfl, _, rfl, _, rfl, A, p, _, x, t, by rw [eA] <;> rfl, n2.at_, ok, so.toStOk, dp_same s2 hd2, hts t (List.mem_of_getElem? ht), fun H3 A3 v nx kk h3 hv => ?_⟩
      have n3 := n2.step s2 nx h3
      have s3 := same_kp s2 n2.f kk
      have hacc3 : H3 D = some (.lst acc) := kk.keep _ _ nf hacc
      have lt : i < ts.length := (List.getElem?_eq_some_iff.mp ht).1
      have nf3 : ¬ A3.F D := fun z => (nx.F D z).elim nf fun e => by rw [hacc] at e; cases e
      have nr3 : ¬ A3.R D := fun z => (nx.R D z).elim nr fun e => by rw [hacc] at e; cases e
      have hda3 := dpa_kp kk ans_td hda
      have m : Mut (H3 D) := mut_lst hacc3
      have al : acc.length = i := by
        rw [dpa_length hda, List.length_map, run_len, List.length_take]
        omega
      have st1 : ts.take (i + 1) = ts.take i ++ [t] := by rw [List.take_succ, ht] <;> rfl
      refine ⟨acc, hacc3, sz1000 (by omega), same_at s3 nD, A3, acc ++ [v], by rw [nx.p, eA], ?_, nf3, nr3, upd_same, ?_⟩
      · rw [st1, behind_snoc]
        exact ⟨n3.at_.kp ok (kp_at m) (fun c hc z => nf3 (by rw [← z]; exact hc)) (fun c hc z => nr3 (by rw [← z]; exact hc)), n3.f, n3.r⟩
      · rw [st1, run_snoc, List.map_append]
        exact dpa_kp (kp_at m) (n := 1) (fun d hd => by
          rcases List.mem_append.mp hd with z | z
          · exact ans_td d z
          · rw [List.mem_singleton.mp z]
            exact td_ans _) (dpa_snoc hda3 hv)
    · rintro H' ⟨s2, A, acc, eA, n2, nf, nr, hacc, hda⟩
      have e : ts.take us.length = ts := by
        have q := dpa_length hd
        rw [List.length_map] at q
        rw [q, List.take_length]
      rw [e] at hda
      exact k H' D s2 nD ⟨acc, hacc, hda⟩
end
end K10
end
section
set_option maxHeartbeats 4000000
/-! LC: the law's cell_at, box, take, pick. -/
namespace K10
open PySem PySem.Spec PyProof.Rows L2
/-- the box: [x, y, c], c at most n -/
def BoxAt (n : Nat) (H : Hp) (b : Addr) : Prop := ∃ x y c : Int, H b = some (.lst [.int x, .int y, .int c]) ∧ 0 ≤ x ∧ 0 ≤ y ∧ y < 4611686018427387904 ∧ 0 ≤ c ∧ c ≤ (n : Int)
theorem BoxAt.mono {n m : Nat} {H : Hp} {b : Addr} (h : BoxAt n H b) (l : n ≤ m) : BoxAt m H b := by
  obtain ⟨x, y, c, e, h1, h2, h3, h4, h5⟩ := h
  exact ⟨x, y, c, e, h1, h2, h3, h4, by omega⟩
theorem BoxAt.same {n : Nat} {H H' : Hp} {b : Addr} (h : BoxAt n H b) (s : Same H H') : BoxAt n H' b := by
  obtain ⟨x, y, c, e, r⟩ := h
  exact ⟨x, y, c, s _ _ e, r⟩
theorem BoxAt.at {n : Nat} {H : Hp} {b : Addr} (h : BoxAt n H b) : ∃ xs, H b = some (.lst xs) := by
  obtain ⟨x, y, c, e, r⟩ := h
  exact ⟨_, e⟩
/-- all is kept but the box -/
abbrev Kb (b : Addr) (H H' : Hp) : Prop := Kp (fun c => c = b) H H'
theorem Kb.trans {b : Addr} {H H1 H2 : Hp} (a : Kb b H H1) (c : Kb b H1 H2) : Kb b H H2 := Kp.trans a c fun _ h => .inl h
theorem b01 (b : Bool) : -(2 ^ 64) < (if b = true then 1 else 0 : Int) ∧ (if b = true then 1 else 0 : Int) < 2 ^ 64 := by cases b <;> decide
theorem b01n (b : Bool) : 0 ≤ (if b = true then 1 else 0 : Int) := by cases b <;> decide
section
variable {P : Program} {w : World} {K : PySem.W.Frag} {mg : Str → Option Value} {base : Heap}
abbrev sCell : Stmt := top 38
theorem scCell : FnScope ["_law_script", "_law_gate"] ["_law_script", "_law_gate"] (defScope sCell) := ⟨rfl, rfl, rfl, by decide +kernel, rfl, by decide +kernel, by decide +kernel⟩
def spCell (K : PySem.W.Frag) : Sp := fun vs H Q _ => ∃ (l : Addr) (ns : List Int) (g : Nat), vs = [.ref l, .int (g : Int)] ∧ SqL K H l (ns.map V.int) ∧ ∀ i : Int, Q (.int i) H
theorem ok_cell {f : Addr} {fd : FuncData} (B : Bl mg) (F : DefAt K "_law_cell_at" "_law_cell_at" sCell f fd) : FnOk P w K mg base CX0 1 f fd ["_law_script", "_law_gate"] (spCell K) := by
  refine F.ok scCell (fun vs H Q E h => ?_) (fun cdv A outer s H vs Q E hr h => ?_)
  · obtain ⟨l, ns, g, rfl, _⟩ := h
    rfl
  · obtain ⟨l, ns, g, rfl, hl, k⟩ := h
    refine ⟨_, PSs.nox (pss_one (ps_ret (pe_ifExp (pt_cmpR op_lt (pv 1) (pe_callB (lenK (K := K)) (by rfl) B.len bt_len (pa_cons (pv 0) pa_nil)) (nomark _)) (pe_ix (ixlK (K := K)) (pv 0) (pv 1) (fun _ _ => rfl)) pe_int))), ?_⟩
    refine ⟨_, rfl, _, rfl, l, _, rfl, .inl hl, _, _, rfl, rfl, _, rfl, ?_⟩
    by_cases c : g < ns.length
    · rw [decide_eq_true (by rw [List.length_map]; omega)]
      exact iteT ⟨_, rfl, _, rfl, l, _, _, .int ns[g], rfl, rfl, hl, atI_nat (j := g) (by rw [List.getElem?_map, List.getElem?_eq_getElem c] <;> rfl), k _⟩
    · rw [decide_eq_false (by rw [List.length_map]; omega)]
      exact iteF (k _)
abbrev sBox : Stmt := top 39
theorem scBox : FnScope ["_law_script", "_law_gate", "_law_cell"] ["_law_script", "_law_gate"] (defScope sBox) := ⟨rfl, rfl, rfl, by decide +kernel, rfl, by decide +kernel, by decide +kernel⟩
def spBox (K : PySem.W.Frag) : Sp := fun vs H Q _ => ∃ (l : Addr) (ns : List Int) (g : Nat), vs = [.ref l, .int (g : Int)] ∧ SqL K H l (ns.map V.int) ∧ g ≤ 3 ∧ ∀ H' b, Same H H' → H b = none → BoxAt 0 H' b → Q (.ref b) H'
theorem ok_box {f : Addr} {fd : FuncData} (B : Bl mg) (F : DefAt K "_law_box" "_law_box" sBox f fd) (GC : Glb P w K mg base CX0 1 "_law_cell_at" ["_law_script", "_law_gate"] (spCell K)) : FnOk P w K mg base CX0 2 f fd ["_law_script", "_law_gate"] (spBox K) := by
  obtain ⟨fC, fdC, GC, gC, kC, bC⟩ := GC.ex
  refine F.ok scBox (fun vs H Q E h => ?_) (fun cdv A outer s H vs Q E hr h => ?_)
  · obtain ⟨l, ns, g, rfl, _⟩ := h
    rfl
  · obtain ⟨l, ns, g, rfl, hl, g3, k⟩ := h
    refine ⟨_, PSs.nox (pss_cons (ps_set (i := 2) scBox.nd rfl (Or.inl rfl) (pe_call GC hr rfl gC kC bC .nil pass0 (pa_cons (pv 0) (pa_cons (pv 1) pa_nil))))
      (pss_one (ps_ret (pe_lst (pa_cons (pe_op op_mul (pe_callB call_abs (by rfl) B.abs bt_abs (pa_cons (pv 2) pa_nil)) (pe_callTy call_int1 (by rfl) B.int bt_int (pa_cons (pe_cmpR op_ge (pe_callB call_abs (by rfl) B.abs bt_abs (pa_cons (pv 2) pa_nil)) (pe_op op_pow pe_int pe_int) (nomark _)) pa_nil)))
        (pa_cons (pe_op op_add (pe_op op_add (pe_op op_mod (pe_callTy call_int1 (by rfl) B.int bt_int (pa_cons (pv 2) pa_nil)) pe_int) (pe_op op_mul pe_int (pv 1))) pe_int) (pa_cons pe_int pa_nil))))))), ?_⟩
    refine ⟨_, rfl, _, rfl, l, ns, g, rfl, hl, fun i => ?_⟩
    refine ⟨_, rfl, i, rfl, _, rfl, i, rfl, 10, 18, rfl, rfl, ⟨by decide, by decide, by decide⟩, _, _, rfl, rfl, .inr ⟨_, rfl, _, _, rfl, rfl, .inr (b01 _), ?_⟩⟩
    refine ⟨_, rfl, .inl ⟨i, rfl, _, _, rfl, rfl, (show (0 : Int) < 2305843009213693951 by decide), _, rfl, _, _, rfl, rfl, .inl (by decide), _, _, rfl, rfl, _, _, rfl, rfl, (by show 3 ≤ sizeLine; decide), fun b nb => ?_⟩⟩
    refine k _ b (same_new nb) nb ⟨_, _, _, upd_same, ?_, ?_, ?_, Int.le_refl 0, Int.le_refl 0⟩
    · refine Int.mul_nonneg ?_ ?_
      · split <;> omega
      · exact (b01n _)
    · have := Int.emod_nonneg i (show (2305843009213693951 : Int) ≠ 0 by decide)
      omega
    · have := Int.emod_lt_of_pos i (show (0 : Int) < 2305843009213693951 by decide)
      omega
abbrev sTake : Stmt := top 40
theorem scTake : FnScope ["_law_box_here", "_law_many", "_law_found", "_law_once", "_law_odd", "_law_twice"] ["_law_box_here", "_law_many"] (defScope sTake) := ⟨rfl, rfl, rfl, by decide +kernel, rfl, by decide +kernel, by decide +kernel⟩
def spTake : Sp := fun vs H Q _ => ∃ (b : Addr) (m n : Nat), vs = [.ref b, .int (m : Int)] ∧ BoxAt n H b ∧ n ≤ 1000000 ∧ 0 < m ∧ m ≤ 1000 ∧ ∀ H' (v : Nat), Kb b H H' → BoxAt (n + 1) H' b → v < m → Q (.int (v : Int)) H'
theorem ok_take {f : Addr} {fd : FuncData} (B : Bl mg) (F : DefAt K "_law_take" "_law_take" sTake f fd) : FnOk P w K mg base CX0 1 f fd ["_law_box_here", "_law_many"] spTake := by
  refine F.ok scTake (fun vs H Q E h => ?_) (fun cdv A outer s H vs Q E hr h => ?_)
  · obtain ⟨b, m, n, rfl, _⟩ := h
    rfl
  · obtain ⟨b, m, n, rfl, ⟨x, y, c, hb, x0, y0, y1, c0, c1⟩, n6, m0, m1, k⟩ := h
    refine ⟨_, PSs.nox (pss_cons (ps_if (pt_cmpR op_gt (pe_ix (ixlK (K := K)) (pv 0) pe_int (fun _ _ => rfl)) pe_int (nomark _))
        (pss_cons (ps_set (i := 2) scTake.nd rfl (Or.inl rfl) (pe_op op_mod (pe_callTy call_int1 (by rfl) B.int bt_int (pa_cons (pe_ix (ixlK (K := K)) (pv 0) pe_int (fun _ _ => rfl)) pa_nil)) (pv 1)))
        (pss_cons (ps_asg (pe_op op_fdiv (pe_ix (ixlK (K := K)) (pv 0) pe_int (fun _ _ => rfl)) (pv 1)) (pg_sub (pv 0) pe_int set_list))
        (pss_one (ps_ret (pv 2))))) pss_nil)
      (pss_cons (ps_asg (pe_op op_add (pe_ix (ixlK (K := K)) (pv 0) pe_int (fun _ _ => rfl)) pe_int) (pg_sub (pv 0) pe_int set_list))
      (pss_cons (ps_set (i := 3) scTake.nd rfl (Or.inl rfl) (pe_op op_mod (pe_callTy call_int1 (by rfl) B.int bt_int (pa_cons (pe_op op_mul (pe_op op_add (pe_ix (ixlK (K := K)) (pv 0) pe_int (fun _ _ => rfl)) (pe_op op_mul pe_int (pe_ix (ixlK (K := K)) (pv 0) pe_int (fun _ _ => rfl)))) (pe_op op_add pe_int (pe_ix (ixlK (K := K)) (pv 0) pe_int (fun _ _ => rfl)))) pa_nil)) pe_int))
      (pss_cons (ps_set (i := 4) scTake.nd rfl (Or.inl rfl) (pe_op op_add (pe_op op_mod (pe_callTy call_int1 (by rfl) B.int bt_int (pa_cons (pv 3) pa_nil)) pe_int) pe_int))
      (pss_cons (ps_set (i := 5) scTake.nd rfl (Or.inl rfl) (pe_op op_mod (pe_callTy call_int1 (by rfl) B.int bt_int (pa_cons (pe_op op_mul (pe_op op_add (pe_op op_add (pv 3) (pe_ix (ixlK (K := K)) (pv 0) pe_int (fun _ _ => rfl))) (pe_op op_fdiv (pe_ix (ixlK (K := K)) (pv 0) pe_int (fun _ _ => rfl)) pe_int)) (pv 4)) pa_nil)) pe_int))
      (pss_one (ps_ret (pe_op op_mod (pe_callTy call_int1 (by rfl) B.int bt_int (pa_cons (pe_op op_fdiv (pe_op op_mod (pe_callTy call_int1 (by rfl) B.int bt_int (pa_cons (pe_op op_add (pe_op op_mul (pv 5) pe_int) (pv 3)) pa_nil)) pe_int) pe_int) pa_nil)) (pv 1))))))))), ?_⟩
    have ltm : (0 : Int) < (m : Int) := by omega
    have fin : ∀ {H' : Hp} {v : Int}, Kb b H H' → BoxAt (n + 1) H' b → Q (.int (v % (m : Int))) H' := fun {H' v} kb bx => by
      have h1 := Int.emod_nonneg v (show (m : Int) ≠ 0 by omega)
      have h2 := Int.emod_lt_of_pos v ltm
      obtain ⟨j, hj⟩ := Int.eq_ofNat_of_zero_le h1
      rw [hj]
      exact k H' j kb bx (by omega)
    refine ⟨_, rfl, b, _, _, .int x, rfl, rfl, SqL.of hb, atI_nat (j := 0) rfl, _, _, rfl, rfl, _, rfl, ?_⟩
    by_cases cx : 0 < x
    · rw [decide_eq_true cx]
      refine iteT ⟨_, rfl, b, _, _, .int x, rfl, rfl, SqL.of hb, atI_nat (j := 0) rfl, .inl ⟨_, rfl, _, rfl, _, _, rfl, rfl, ltm, ?_⟩⟩
      refine ⟨_, rfl, b, _, _, .int x, rfl, rfl, SqL.of hb, atI_nat (j := 0) rfl, _, rfl, _, _, rfl, rfl, ⟨ltm, (by omega)⟩, ?_⟩
      refine ⟨_, rfl, b, _, _, 0, rfl, rfl, hb, (by rfl), ?_⟩
      have kb : Kb b H (upd H b (.lst ([V.int x, V.int y, V.int c].set 0 (V.int (x / (m : Int)))))) := kp_at (mut_lst hb)
      refine ⟨_, rfl, fin kb ⟨_, y, c, upd_same, Int.ediv_nonneg x0 (by omega), y0, y1, c0, by omega⟩⟩
    · rw [decide_eq_false cx]
      refine iteF ⟨_, rfl, b, _, _, .int c, rfl, rfl, SqL.of hb, atI_nat (j := 2) rfl, _, _, rfl, rfl, ?_⟩
      refine ⟨_, rfl, b, _, _, 2, rfl, rfl, hb, (by rfl), ?_⟩
      have kb : Kb b H (upd H b (.lst ([V.int x, V.int y, V.int c].set 2 (V.int (c + 1))))) := kp_at (mut_lst hb)
      have hb2 : upd H b (.lst ([V.int x, V.int y, V.int c].set 2 (V.int (c + 1)))) b = some (.lst [V.int x, V.int y, V.int (c + 1)]) := upd_same
      generalize upd H b (.lst ([V.int x, V.int y, V.int c].set 2 (V.int (c + 1)))) = H1 at kb hb2 ⊢
      have bx : BoxAt (n + 1) H1 b := ⟨x, y, c + 1, hb2, x0, y0, y1, by omega, by omega⟩
      refine ⟨_, rfl, b, _, _, .int y, rfl, rfl, SqL.of hb2, atI_nat (j := 1) rfl, _, rfl, b, _, _, .int (c + 1), rfl, rfl, SqL.of hb2, atI_nat (j := 2) rfl, _, _, rfl, rfl, .inl (by decide), _, _, rfl, rfl, ?_⟩
      refine ⟨_, rfl, b, _, _, .int (c + 1), rfl, rfl, SqL.of hb2, atI_nat (j := 2) rfl, _, _, rfl, rfl, _, _, rfl, rfl, .inr (by constructor <;> omega), .inl ⟨_, rfl, _, _, rfl, rfl, (show (0 : Int) < 2147483647 by decide), ?_⟩⟩
      refine ⟨_, rfl, .inl ⟨_, rfl, _, _, rfl, rfl, (show (0 : Int) < 40009 by decide), _, _, rfl, rfl, ?_⟩⟩
      refine ⟨_, rfl, _, rfl, b, _, _, .int (c + 1), rfl, rfl, SqL.of hb2, atI_nat (j := 2) rfl, _, _, rfl, rfl, _, rfl, b, _, _, .int y, rfl, rfl, SqL.of hb2, atI_nat (j := 1) rfl, _, _, rfl, rfl, ⟨by decide, by decide⟩, _, _, rfl, rfl, _, rfl, _, _, rfl, rfl, .inr ?_, .inl ⟨_, rfl, _, _, rfl, rfl, (show (0 : Int) < 2147483629 by decide), ?_⟩⟩
      · have o1 := Int.emod_nonneg ((y + 52021 * (c + 1)) * (38039 + (c + 1)) % 2147483647) (show (40009 : Int) ≠ 0 by decide)
        have o2 := Int.emod_lt_of_pos ((y + 52021 * (c + 1)) * (38039 + (c + 1)) % 2147483647) (show (0 : Int) < 40009 by decide)
        constructor <;> omega
      · exact ⟨_, rfl, _, _, rfl, rfl, .inr (by decide), _, rfl, _, _, rfl, rfl, .inl ⟨_, rfl, _, _, rfl, rfl, (show (0 : Int) < 2147483587 by decide), _, _, rfl, rfl, ⟨by decide, by decide⟩, .inl ⟨_, rfl, _, rfl, _, _, rfl, rfl, ltm, fin kb bx⟩⟩⟩
end
end K10
end
section
set_option maxHeartbeats 4000000
/-! LD: the law's pick, names, some. -/
namespace K10
open PySem PySem.Spec PyProof.Rows L2
theorem lst_ne {b l : Addr} {n : Nat} {H : Hp} (h : BoxAt n H b) (e : H l = none) : l ≠ b := fun z => by
  obtain ⟨xs, q⟩ := h.at
  rw [z, q] at e
  cases e
section
variable {P : Program} {w : World} {K : PySem.W.Frag} {mg : Str → Option Value} {base : Heap}
abbrev sPick : Stmt := top 41
theorem scPick : FnScope ["_law_box_here", "_law_some_here"] ["_law_box_here", "_law_some_here"] (defScope sPick) := ⟨rfl, rfl, rfl, by decide +kernel, rfl, by decide +kernel, by decide +kernel⟩
def spPick : Sp := fun vs H Q _ => ∃ (b l : Addr) (n : Nat) (xs : List V), vs = [.ref b, .ref l] ∧ BoxAt n H b ∧ n ≤ 1000000 ∧ l ≠ b ∧ H l = some (.lst xs) ∧ xs ≠ [] ∧ xs.length ≤ 1000 ∧ ∀ H' v, Kb b H H' → BoxAt (n + 1) H' b → v ∈ xs → Q v H'
theorem ok_pick {f : Addr} {fd : FuncData} (B : Bl mg) (F : DefAt K "_law_pick" "_law_pick" sPick f fd) (GT : Glb P w K mg base CX0 1 "_law_take" ["_law_box_here", "_law_many"] spTake) : FnOk P w K mg base CX0 2 f fd ["_law_box_here", "_law_some_here"] spPick := by
  obtain ⟨fT, fdT, GT, gT, kT, bT⟩ := GT.ex
  refine F.ok scPick (fun vs H Q E h => ?_) (fun cdv A outer s H vs Q E hr h => ?_)
  · obtain ⟨b, l, n, xs, rfl, _⟩ := h
    rfl
  · obtain ⟨b, l, n, xs, rfl, hb, n6, nl, hl, hx, hz, k⟩ := h
    refine ⟨_, PSs.nox (pss_one (ps_ret (pe_ix (ixlK (K := K)) (pv 1) (pe_call GT hr rfl gT kT bT .nil pass0 (pa_cons (pv 0) (pa_cons (pe_callB (lenK (K := K)) (by rfl) B.len bt_len (pa_cons (pv 1) pa_nil)) pa_nil))) (fun _ _ => rfl)))), ?_⟩
    have l0 : 0 < xs.length := List.length_pos_iff.mpr hx
    refine ⟨_, rfl, _, rfl, _, rfl, l, _, rfl, .inl (SqL.of hl), b, xs.length, n, rfl, hb, n6, l0, hz, fun H1 j kb hb1 hj => ?_⟩
    exact ⟨l, xs, _, xs[j], rfl, rfl, SqL.of (kb.keep _ _ nl hl), atI_nat (j := j) (List.getElem?_eq_getElem hj), k _ _ kb hb1 (List.getElem_mem hj)⟩
/-! ### names -/
def pool10 : List Str := ["pa", "b", "ring", "cxx", "deep", "a", "zlib", "open", "q", "local"]
theorem pool_nd : pool10.Nodup := by decide +kernel
theorem erase_perm {α : Type} : ∀ {xs : List α} {j : Nat} {x : α}, xs[j]? = some x → (x :: xs.eraseIdx j).Perm xs
  | [], _, _, h => by simp at h
  | a :: xs, 0, x, h => by
    simp at h
    subst h
    exact List.Perm.refl _
  | a :: xs, j + 1, x, h => by
    have ih := erase_perm (xs := xs) (j := j) (x := x) (by simpa using h)
    exact (List.Perm.swap a x _).trans (ih.cons a)
theorem perm_pop {ys xs : List Str} {j : Nat} {x : Str} (h : xs[j]? = some x) (p : (ys ++ xs).Perm pool10) : (ys ++ [x] ++ xs.eraseIdx j).Perm pool10 := by
  refine List.Perm.trans ?_ p
  rw [List.append_assoc]
  refine List.Perm.append_left ys ?_
  exact erase_perm h
theorem map_erase {α β : Type} (f : α → β) : ∀ (l : List α) (i : Nat), (l.map f).eraseIdx i = (l.eraseIdx i).map f
  | [], _ => rfl
  | a :: l, 0 => rfl
  | a :: l, i + 1 => by
    show f a :: (l.map f).eraseIdx i = f a :: (l.eraseIdx i).map f
    rw [map_erase f l i]
theorem sidx {n j : Nat} (h : j < n) : seqIndex? (j : Int) n = some j := by
  unfold seqIndex?
  simp
  omega
abbrev sNames : Stmt := top 43
theorem scNames : FnScope ["_law_box_here", "_law_many", "_law_pool", "_law_found", "_law_time"] ["_law_box_here", "_law_many"] (defScope sNames) := ⟨rfl, rfl, rfl, by decide +kernel, rfl, by decide +kernel, by decide +kernel⟩
def spNames : Sp := fun vs H Q _ => ∃ (b : Addr) (m n : Nat), vs = [.ref b, .int (m : Int)] ∧ BoxAt n H b ∧ n ≤ 900000 ∧ m ≤ 8 ∧ ∀ H' l (ys : List Str), Kb b H H' → BoxAt (n + m) H' b → H l = none → H' l = some (.lst (ys.map V.str)) → ys.length = m → ys.Nodup → (∀ y ∈ ys, y ∈ pool10) → Q (.ref l) H'
theorem ok_names {f : Addr} {fd : FuncData} (B : Bl mg) (F : DefAt K "_law_names" "_law_names" sNames f fd) (GT : Glb P w K mg base CX0 1 "_law_take" ["_law_box_here", "_law_many"] spTake) : FnOk P w K mg base CX0 2 f fd ["_law_box_here", "_law_many"] spNames := by
  obtain ⟨fT, fdT, GT, gT, kT, bT⟩ := GT.ex
  refine F.ok scNames (fun vs H Q E h => ?_) (fun cdv A outer s H vs Q E hr h => ?_)
  · obtain ⟨b, m, n, rfl, _⟩ := h
    rfl
  · obtain ⟨b, m, n, rfl, hb, n6, m8, k⟩ := h
    refine ⟨_, PSs.nox (pss_cons (ps_par (i := 2) (j := 3) rfl scNames.nd rfl rfl (by decide) rfl rfl (pa_cons (pe_lst (pa_cons pe_str (pa_cons pe_str (pa_cons pe_str (pa_cons pe_str (pa_cons pe_str (pa_cons pe_str (pa_cons pe_str (pa_cons pe_str (pa_cons pe_str (pa_cons pe_str pa_nil))))))))))) (pa_cons (pe_lst pa_nil) pa_nil)) (by rfl))
      (pss_cons (ps_for PassesOwn.never rfl (pi_range1 rfl B.range (pa_cons (pv 1) pa_nil)) (pg_name (i := 4) scNames.nd rfl (Or.inl rfl))
        (pss_one (ps_expr (pe_bm PySem.F.plainAttrs_list PySem.F.slot_list_append PySem.F.type_list_append mt_append (pv 3) (pa_cons
          (pe_bm PySem.F.plainAttrs_list PySem.F.slot_list_pop PySem.F.type_list_pop mt_popAt (pv 2) (pa_cons (pe_call GT hr rfl gT kT bT .nil pass0 (pa_cons (pv 0) (pa_cons (pe_callB (lenK (K := K)) (by rfl) B.len bt_len (pa_cons (pv 2) pa_nil)) pa_nil))) pa_nil)) pa_nil)))))
      (pss_one (ps_ret (pv 3))))), ?_⟩
    refine ⟨(by show 10 ≤ sizeLine; decide), fun lp np => ⟨Nat.zero_le _, fun lf nf => ⟨_, _, rfl, ?_⟩⟩⟩
    have s1 : Same H (upd H lp (.lst (pool10.map V.str))) := same_new np
    have s2 : Same (upd H lp (.lst (pool10.map V.str))) (upd (upd H lp (.lst (pool10.map V.str))) lf (.lst [])) := same_new nf
    have hlp := s2 _ _ (upd_same (H := H) (a := lp) (o := .lst (pool10.map V.str)))
    have hlf := upd_same (H := upd H lp (.lst (pool10.map V.str))) (a := lf) (o := .lst [])
    have s12 := s1.trans s2
    have npf : lp ≠ lf := fun z => by rw [← z, upd_same] at nf; cases nf
    have npb : lp ≠ b := lst_ne hb np
    have nfb : lf ≠ b := lst_ne hb (s1.free nf)
    refine ⟨_, rfl, _, rfl, by omega, by omega, for_range (lo := 0) (n := m) (fun i σ H' => ∃ (v : Option V) (ys xs : List Str), σ = [some (.ref b), some (.int (m : Int)), some (.ref lp), some (.ref lf), v] ∧ Kb b H H' ∧ BoxAt (n + i) H' b ∧ H' lp = some (.lst (xs.map V.str)) ∧ H' lf = some (.lst (ys.map V.str)) ∧ (ys ++ xs).Perm pool10 ∧ ys.length = i)
      ⟨none, [], pool10, rfl, Kp.same s12, hb.same s12, hlp, hlf, List.Perm.refl _, rfl⟩ ?_ ?_⟩
    · rintro i σ H' hi ⟨v, ys, xs, rfl, kb, hb', hp', hf', pm, yl⟩
      have pl : ys.length + xs.length = 10 := by have q := pm.length_eq; rw [List.length_append] at q; exact q
      have l0 : 0 < xs.length := by omega
      refine ⟨_, rfl, .inl ⟨rfl, _, SqL.of hf'⟩, _, rfl, .inl ⟨rfl, _, SqL.of hp'⟩, _, rfl, _, rfl, lp, _, rfl, .inl (SqL.of hp'), b, xs.length, n + i, (by rw [List.length_map] <;> rfl), hb', by omega, l0, by omega, fun H1 j kb1 hb1 hj => ?_⟩
      have ex := List.getElem?_eq_getElem hj
      generalize xs[j] = x at ex
      have hp1 := kb1.keep _ _ npb hp'
      have hf1 := kb1.keep _ _ nfb hf'
      refine ⟨lp, _, _, j, .str x, rfl, rfl, hp1, by omega, by omega, sidx (by rw [List.length_map]; exact hj), by rw [List.getElem?_map, ex] <;> rfl, lf, _, _, rfl, rfl, by rw [upd_ne (Ne.symm npf)]; exact hf1, sz1000 (by rw [List.length_map]; omega), ?_⟩
      have e1 : ys.map V.str ++ [V.str x] = (ys ++ [x]).map V.str := by rw [List.map_append] <;> rfl
      rw [map_erase, e1]
      have m1 : Kp (fun c => c = lp ∨ c = lf) H1 (upd (upd H1 lp (.lst ((xs.eraseIdx j).map V.str))) lf (.lst ((ys ++ [x]).map V.str))) :=
        ((kp_at (mut_lst hp1)).mono fun c hc => .inl hc).trans (kp_at (mut_lst (by rw [upd_ne (Ne.symm npf)]; exact hf1))) fun c hc => .inl (.inr hc)
      have fr : ∀ c, (c = lp ∨ c = lf) → c = b ∨ H c = none := fun c hc => by
        rcases hc with rfl | rfl
        · exact .inr np
        · exact .inr (s1.free nf)
      refine ⟨_, ys ++ [x], xs.eraseIdx j, rfl, Kp.trans (Kb.trans kb kb1) m1 fr, ?_, ?_, upd_same, perm_pop ex pm, by rw [List.length_append, yl] <;> rfl⟩
      · obtain ⟨x0, y0, c0, e0, r0⟩ := hb1
        exact ⟨x0, y0, c0, by rw [upd_ne (Ne.symm nfb), upd_ne (Ne.symm npb)]; exact e0, r0⟩
      · rw [upd_ne npf, upd_same]
    · rintro σ H' ⟨v, ys, xs, rfl, kb, hb', hp', hf', pm, yl⟩
      have nd := (pm.nodup_iff).mpr pool_nd
      exact ⟨_, rfl, k H' lf ys kb hb' (s1.free nf) hf' yl (List.nodup_append.mp nd).1 fun y hy => (pm.mem_iff).mp (List.mem_append_left _ hy)⟩
end
end K10
end
section
set_option maxHeartbeats 4000000
/-! LE: data that may be compared; the law's some. -/
namespace K10
open PySem PySem.Spec PyProof.Rows L2
/-- data that may be laid, n deep at most -/
def shp (n : Nat) (d : PyData) : Prop := d.canLay0 = true ∧ d.depth ≤ n
theorem shpAll {n : Nat} : ∀ {ds : List PyData}, (∀ d ∈ ds, shp n d) → PyData.canLayAll0 ds = true ∧ PyData.depthAll ds ≤ n
  | [], _ => ⟨by simp [PyData.canLayAll0], by simp [PyData.depthAll]⟩
  | d :: ds, h => by
    obtain ⟨h1, h2⟩ := h d List.mem_cons_self
    obtain ⟨h3, h4⟩ := shpAll fun e he => h e (List.mem_cons_of_mem _ he)
    exact ⟨by simp [PyData.canLayAll0, h1, h3], by simp only [PyData.depthAll]; omega⟩
theorem shp_list {n : Nat} {ds : List PyData} (h : ∀ d ∈ ds, shp n d) : shp (n + 1) (.list ds) := by
  obtain ⟨h1, h2⟩ := shpAll h
  exact ⟨by simp [PyData.canLay0, h1], by simp only [PyData.depth]; omega⟩
theorem shp_tuple {n : Nat} {ds : List PyData} (h : ∀ d ∈ ds, shp n d) : shp (n + 1) (.tuple ds) := by
  obtain ⟨h1, h2⟩ := shpAll h
  exact ⟨by simp [PyData.canLay0, h1], by simp only [PyData.depth]; omega⟩
theorem shp_int {n : Nat} (i : Int) : shp n (.int i) := ⟨by simp [PyData.canLay0], by simp [PyData.depth]⟩
theorem shp_bool {n : Nat} (i : Bool) : shp n (.bool i) := ⟨by simp [PyData.canLay0], by simp [PyData.depth]⟩
theorem shp_str {n : Nat} {x : Str} (h : okS x = true) : shp n (.str x) := ⟨lay_okS h, by simp [PyData.depth]⟩
theorem shp_mono {n m : Nat} {d : PyData} (h : shp n d) (l : n ≤ m) : shp m d := ⟨h.1, Nat.le_trans h.2 l⟩
theorem shp_ok {n : Nat} {d : PyData} (h : shp n d) (l : n ≤ 64) : SeqAt.shaped d = true := by
  unfold SeqAt.shaped
  rw [h.1, decide_eq_true (Nat.le_trans h.2 l)] <;> rfl
theorem shp_strs {xs : List Str} (h : ∀ x ∈ xs, okS x = true) : shp 1 (.list (xs.map .str)) := shp_list fun d hd => by
  obtain ⟨x, hx, rfl⟩ := List.mem_map.mp hd
  exact shp_str (h x hx)
theorem eqv_nil (ds : List PyData) : PyData.eqv (.list ds) (.list []) = ds.isEmpty := by
  cases ds <;> simp [PyData.eqv, PyData.eqvAll]
theorem pool_ok : ∀ y ∈ pool10, okS y = true := by decide +kernel
section
variable {P : Program} {w : World} {K : PySem.W.Frag} {mg : Str → Option Value} {base : Heap}
abbrev sSome : Stmt := top 44
theorem scSome : FnScope ["_law_box_here", "_law_some_here", "_law_most", "_law_left", "_law_found", "_law_time"] ["_law_box_here", "_law_some_here", "_law_most"] (defScope sSome) := ⟨rfl, rfl, rfl, by decide +kernel, rfl, by decide +kernel, by decide +kernel⟩
def spSome : Sp := fun vs H Q _ => ∃ (b l : Addr) (m n : Nat) (xs : List Str), vs = [.ref b, .ref l, .int (m : Int)] ∧ BoxAt n H b ∧ n ≤ 900000 ∧ m ≤ 8 ∧ H l = some (.lst (xs.map V.str)) ∧ xs.length ≤ 100 ∧ (∀ x ∈ xs, okS x = true) ∧
  ∀ H' l' (ys : List Str), Kb b H H' → BoxAt (n + (m + 1)) H' b → H l' = none → H' l' = some (.lst (ys.map V.str)) → ys.length ≤ m → (∀ y ∈ ys, y ∈ xs) → Q (.ref l') H'
theorem ok_some {f : Addr} {fd : FuncData} (B : Bl mg) (F : DefAt K "_law_some" "_law_some" sSome f fd) (GT : Glb P w K mg base CX0 1 "_law_take" ["_law_box_here", "_law_many"] spTake) : FnOk P w K mg base CX0 2 f fd ["_law_box_here", "_law_some_here", "_law_most"] spSome := by
  obtain ⟨fT, fdT, GT, gT, kT, bT⟩ := GT.ex
  refine F.ok scSome (fun vs H Q E h => ?_) (fun cdv A outer s H vs Q E hr h => ?_)
  · obtain ⟨b, l, m, n, xs, rfl, _⟩ := h
    rfl
  · obtain ⟨b, l, m, n, xs, rfl, hb, n6, m8, hl, x100, xok, k⟩ := h
    refine ⟨_, PSs.nox (pss_cons (ps_par (i := 3) (j := 4) rfl scSome.nd rfl rfl (by decide) rfl rfl (pa_cons (pe_callTy (lstK (K := K)) (by rfl) B.list bt_list (pa_cons (pv 1) pa_nil)) (pa_cons (pe_lst pa_nil) pa_nil)) (by rfl))
      (pss_cons (ps_for PassesOwn.never rfl (pi_range1 rfl B.range (pa_cons (pe_call GT hr rfl gT kT bT .nil pass0 (pa_cons (pv 0) (pa_cons (pe_op op_add (pv 2) pe_int) pa_nil))) pa_nil)) (pg_name (i := 5) scSome.nd rfl (Or.inl rfl))
        (pss_one (ps_if (pt_cmpR (neDK (K := K) hr.units) (pv 3) (pe_lst pa_nil) (nomark _)) (pss_one (ps_expr (pe_bm PySem.F.plainAttrs_list PySem.F.slot_list_append PySem.F.type_list_append mt_append (pv 4) (pa_cons
          (pe_bm PySem.F.plainAttrs_list PySem.F.slot_list_pop PySem.F.type_list_pop mt_popAt (pv 3) (pa_cons (pe_call GT hr rfl gT kT bT .nil pass0 (pa_cons (pv 0) (pa_cons (pe_callB (lenK (K := K)) (by rfl) B.len bt_len (pa_cons (pv 3) pa_nil)) pa_nil))) pa_nil)) pa_nil)))) pss_nil)))
      (pss_one (ps_ret (pv 4))))), ?_⟩
    refine ⟨_, rfl, l, _, rfl, .inl (SqL.of hl), fun lp np => ⟨Nat.zero_le _, fun lf nf => ⟨_, _, rfl, ?_⟩⟩⟩
    have s1 : Same H (upd H lp (.lst (xs.map V.str))) := same_new np
    have s2 : Same (upd H lp (.lst (xs.map V.str))) (upd (upd H lp (.lst (xs.map V.str))) lf (.lst [])) := same_new nf
    have hlp := s2 _ _ (upd_same (H := H) (a := lp) (o := .lst (xs.map V.str)))
    have hlf := upd_same (H := upd H lp (.lst (xs.map V.str))) (a := lf) (o := .lst [])
    have s12 := s1.trans s2
    have npf : lp ≠ lf := fun z => by rw [← z, upd_same] at nf; cases nf
    have npb : lp ≠ b := lst_ne hb np
    have nfb : lf ≠ b := lst_ne hb (s1.free nf)
    refine ⟨_, rfl, _, rfl, _, _, rfl, rfl, b, m + 1, n, rfl, hb.same s12, by omega, by omega, by omega, fun H0 t kb0 hb0 ht => ?_⟩
    have kb00 : Kb b H H0 := Kb.trans (Kp.same s12) kb0
    refine ⟨_, rfl, by omega, by omega, for_range (lo := 0) (n := t) (fun i σ H' => ∃ (v : Option V) (ys zs : List Str), σ = [some (.ref b), some (.ref l), some (.int (m : Int)), some (.ref lp), some (.ref lf), v] ∧ Kb b H H' ∧ BoxAt (n + 1 + i) H' b ∧ H' lp = some (.lst (zs.map V.str)) ∧ H' lf = some (.lst (ys.map V.str)) ∧ ys.length ≤ i ∧ (∀ y ∈ ys, y ∈ xs) ∧ (∀ y ∈ zs, y ∈ xs) ∧ zs.length ≤ 100)
      ⟨none, [], xs, rfl, kb00, hb0, kb0.keep _ _ npb hlp, kb0.keep _ _ nfb hlf, Nat.zero_le _, fun _ h => (by cases h), fun _ h => h, x100⟩ ?_ ?_⟩
    · rintro i σ H' hi ⟨v, ys, zs, rfl, kb, hb', hp', hf', yl, yx, zx, z100⟩
      refine ⟨_, rfl, Nat.zero_le _, fun e ne => ?_⟩
      have se : Same H' (upd H' e (.lst [])) := same_new ne
      have hp2 := se _ _ hp'
      have hf2 := se _ _ hf'
      have hb2 := hb'.same se
      refine ⟨_, _, .lst (SqL.of hp2) (dpa_strs zs), .lst (SqL.of upd_same) .nil, shp_ok (shp_strs fun x hx => xok x (zx x hx)) (by decide), shp_ok (n := 1) (shp_list fun _ h => (by cases h)) (by decide), _, rfl, ?_⟩
      rw [eqv_nil]
      cases zs with
      | nil => exact iteF ⟨_, ys, [], rfl, Kb.trans kb (Kp.same se), hb2.mono (by omega), hp2, hf2, by omega, yx, zx, z100⟩
      | cons z0 zr =>
        refine iteT ⟨_, rfl, .inl ⟨rfl, _, SqL.of hf2⟩, _, rfl, .inl ⟨rfl, _, SqL.of hp2⟩, _, rfl, _, rfl, lp, _, rfl, .inl (SqL.of hp2), b, (z0 :: zr).length, n + 1 + i, (by rw [List.length_map] <;> rfl), hb2, by omega, Nat.succ_pos _, by omega, fun H1 j kb1 hb1 hj => ?_⟩
        have ex := List.getElem?_eq_getElem hj
        generalize (z0 :: zr)[j] = x at ex
        generalize z0 :: zr = zs at *
        have hp1 := kb1.keep _ _ npb hp2
        have hf1 := kb1.keep _ _ nfb hf2
        refine ⟨lp, _, _, j, .str x, rfl, rfl, hp1, by omega, by omega, sidx (by rw [List.length_map]; exact hj), by rw [List.getElem?_map, ex] <;> rfl, lf, _, _, rfl, rfl, by rw [upd_ne (Ne.symm npf)]; exact hf1, sz1000 (by rw [List.length_map]; omega), ?_⟩
        have e1 : ys.map V.str ++ [V.str x] = (ys ++ [x]).map V.str := by rw [List.map_append] <;> rfl
        rw [map_erase, e1]
        have m1 : Kp (fun c => c = lp ∨ c = lf) H1 (upd (upd H1 lp (.lst ((zs.eraseIdx j).map V.str))) lf (.lst ((ys ++ [x]).map V.str))) :=
          ((kp_at (mut_lst hp1)).mono fun c hc => .inl hc).trans (kp_at (mut_lst (by rw [upd_ne (Ne.symm npf)]; exact hf1))) fun c hc => .inl (.inr hc)
        have fr : ∀ c, (c = lp ∨ c = lf) → c = b ∨ H c = none := fun c hc => by
          rcases hc with rfl | rfl
          · exact .inr np
          · exact .inr (s1.free nf)
        refine ⟨_, ys ++ [x], zs.eraseIdx j, rfl, Kp.trans (Kb.trans (Kb.trans kb (Kp.same se)) kb1) m1 fr, ?_, ?_, upd_same, by rw [List.length_append]; show ys.length + 1 ≤ _; omega, fun y hy => ?_, fun y hy => zx y (List.mem_of_mem_eraseIdx hy), Nat.le_trans (List.length_eraseIdx_le _ _) z100⟩
        · obtain ⟨x0, y0, c0, e0, r0⟩ := hb1
          exact ⟨x0, y0, c0, by rw [upd_ne (Ne.symm nfb), upd_ne (Ne.symm npb)]; exact e0, r0⟩
        · rw [upd_ne npf, upd_same]
        · rcases List.mem_append.mp hy with hy | hy
          · exact yx y hy
          · rw [List.mem_singleton.mp hy]
            exact zx x (List.mem_of_getElem? ex)
    · rintro σ H' ⟨v, ys, zs, rfl, kb, hb', hp', hf', yl, yx, zx, z100⟩
      exact ⟨_, rfl, k H' lf ys kb (hb'.mono (by omega)) (s1.free nf) hf' (by omega) yx⟩
end
end K10
end
section
set_option maxHeartbeats 4000000
/-! S1: a set of tuples of texts and ints: what stands in it is among what went in. -/
namespace K10
open PySem PySem.Spec PyProof.Rows L2
/-- a tuple of texts and ints -/
abbrev TkA (P : Program) (w : World) (h : Heap) (k : List Key) (b : Addr) : Prop := IsTupleKey (mixKind P w) h k b
/-- an int or a text -/
def Plain1 (v : Value) : Prop := (∃ i t, v = Value.int i t) ∨ ∃ x t, v = Value.str x t
theorem plain_items {P : Program} {w : World} {k : List Key} {vs : List Value} (h : ItemsAre (mixKind P w) k vs) : ∀ v ∈ vs, Plain1 v := by
  induction h with
  | nil => exact fun v hv => nomatch hv
  | cons h1 _ ih =>
    intro v hv
    cases hv with
    | head =>
      rcases keyIs_shape h1 with ⟨i, t, _, e⟩ | ⟨x, t, _, e⟩
      · exact .inl ⟨i, t, e⟩
      · exact .inr ⟨x, t, e⟩
    | tail _ hv => exact ih v hv
theorem plain_class {v : Value} (h : Plain1 v) (n : Nat) : ofAClassStatement n v = pure false := by
  rcases h with ⟨i, t, rfl⟩ | ⟨x, t, rfl⟩ <;> (cases n <;> rfl)
theorem plain_hash {v : Value} (h : Plain1 v) (n : Nat) : ∃ b, hashByValue n v = pure b := by
  rcases h with ⟨i, t, rfl⟩ | ⟨x, t, rfl⟩
  · exact ⟨true, by cases n <;> rfl⟩
  · exact ⟨false, by cases n <;> rfl⟩
section
variable {P : Program} {w : World} {A : Around} {E : Value → Shared → Prop} {s : Shared} {k : List Key} {b : Addr}
theorem tk_class {Q : Bool → Shared → Prop} (hk : TkA P w s.heap k b) (h : Q false s) : wpAny (model P w) A (ofAClassStatement 8 (.ref b)) Q E s := by
  have ht := hk.typeIs
  obtain ⟨o, its, n, ho, _, hd, hi⟩ := hk
  have pl := plain_items hi
  unfold ofAClassStatement
  refine wpAny_bind (wpAny_typeOf ht ?_)
  simp only [show (("tuple" : String) == "tuple") = true from by decide, if_true, Bool.not_true, Bool.false_eq_true, if_false]
  refine wpAny_bind (wpAny_pure ?_)
  simp only [Bool.not_true, Bool.false_eq_true, if_false]
  refine wpAny_bind (wpAny_seqItems ho hd ?_)
  refine wpAny_bind ?_
  show wpAny _ _ (forIn its _ _) _ _ s
  rw [← Array.forIn_toList]
  refine wpAny_forIn_list _ (fun rest r s' => s' = s ∧ r.1 = none ∧ ∀ v ∈ rest, Plain1 v) _ (fun v rest r s' z => ?_) (fun r s' z => ?_) _ _ ⟨rfl, rfl, pl⟩
  · obtain ⟨rfl, hr, hv⟩ := z
    rw [plain_class (hv v List.mem_cons_self)]
    exact wpAny_bind (wpAny_pure (wpAny_pure ⟨rfl, rfl, fun u hu => hv u (List.mem_cons_of_mem _ hu)⟩))
  · obtain ⟨r1, r2⟩ := r
    obtain ⟨rfl, hr, _⟩ := z
    cases (show r1 = none from hr)
    exact wpAny_pure h
theorem tk_hash {Q : Bool → Shared → Prop} (hk : TkA P w s.heap k b) (h : ∀ x, Q x s) : wpAny (model P w) A (hashByValue 8 (.ref b)) Q E s := by
  have ht := hk.typeIs
  obtain ⟨o, its, n, ho, _, hd, hi⟩ := hk
  have pl := plain_items hi
  unfold hashByValue
  refine wpAny_bind (wpAny_specialOf ht PySem.F.slot_tuple_hash.lookup ?_)
  refine wpAny_bind (wpAny_seqItems ho hd ?_)
  refine wpAny_bind ?_
  show wpAny _ _ (forIn its _ _) _ _ s
  rw [← Array.forIn_toList]
  refine wpAny_forIn_list _ (fun rest r s' => s' = s ∧ ∀ v ∈ rest, Plain1 v) _ (fun v rest r s' z => ?_) (fun r s' z => ?_) _ _ ⟨rfl, pl⟩
  · obtain ⟨rfl, hv⟩ := z
    obtain ⟨x, e⟩ := plain_hash (hv v List.mem_cons_self) 7
    rw [e]
    refine wpAny_bind (wpAny_pure ?_)
    cases x with
    | true => exact wpAny_pure ⟨rfl, fun u hu => hv u (List.mem_cons_of_mem _ hu)⟩
    | false => exact wpAny_pure (wpAny_pure (h _))
  · obtain ⟨r1, r2⟩ := r
    obtain ⟨rfl, _⟩ := z
    cases r1 with
    | none => exact wpAny_pure (h _)
    | some x => exact wpAny_pure (h _)
end
end K10
end
section
set_option maxHeartbeats 4000000
/-! S2: the search in such a set. -/
namespace K10
open PySem PySem.Spec PyProof.Rows L2
structure SetR (P : Program) (w : World) (h : Heap) (a : Addr) (rows : List (Int × Addr)) (es : Array (Int × Value)) (ep : Nat) (t : SetTable) : Prop where
  ob : ∃ o, h.get? a = some o ∧ o.ExactSet ∧ o.data = .set es ep t
  rws : es.toList = rows.map fun r => (r.1, Value.ref r.2)
  tab : TabOk t (rows.map (·.1))
  tup : ∀ r ∈ rows, ∃ k, TkA P w h k r.2
  led : w.params.followText "set-order" = true ∨ t.led = true
  room : rows.length * 5 < t.mask * 3
section
variable {P : Program} {w : World} {A : Around} {E : Value → Shared → Prop} {s : Shared} {k : List Key} {a b : Addr} {rows : List (Int × Addr)} {es : Array (Int × Value)} {ep : Nat} {t : SetTable}
theorem SetR.sz {h : Heap} (R : SetR P w h a rows es ep t) : es.size = rows.length := by
  rw [← Array.length_toList, R.rws, List.length_map]
theorem SetR.psz {h : Heap} (R : SetR P w h a rows es ep t) : t.place.size = rows.length := by
  rw [R.tab.sz, List.length_map]
theorem SetR.fit {h : Heap} (R : SetR P w h a rows es ep t) : t.fits es.size = true := by
  have h1 := R.sz
  have h2 := R.psz
  have h3 := R.room
  simp only [SetTable.fits, SetTable.fill, R.tab.dm, Bool.and_eq_true, beq_iff_eq, decide_eq_true_eq, Array.size_empty]
  omega
theorem SetR.at {h : Heap} (R : SetR P w h a rows es ep t) {i : Nat} {r : Int × Addr} (e : rows[i]? = some r) : es[i]? = some (r.1, Value.ref r.2) := by
  rw [← Array.getElem?_toList, R.rws, List.getElem?_map, e] <;> rfl
theorem tk_seen {Q : Bool → Shared → Prop} (hk : TkA P w s.heap k b) {ys : List Value} (hy : ∀ y ∈ ys, ∃ c k', y = Value.ref c ∧ TkA P w s.heap k' c) (h : Q false s) :
    wpAny (model P w) A (searchCouldBeSeen (.ref b) ys) Q E s := by
  unfold searchCouldBeSeen
  refine wpAny_bind ?_
  refine wpAny_forIn_list _ (fun rest r s' => s' = s ∧ r.1 = none ∧ ∀ y ∈ rest, ∃ c k', y = Value.ref c ∧ TkA P w s.heap k' c) _ (fun v rest r s' z => ?_) (fun r s' z => ?_) _ _ ⟨rfl, rfl, hy⟩
  · obtain ⟨rfl, hr, hv⟩ := z
    obtain ⟨c, k', rfl, hc⟩ := hv v List.mem_cons_self
    have nxt : ∀ y ∈ rest, ∃ c k', y = Value.ref c ∧ TkA P w s'.heap k' c := fun u hu => hv u (List.mem_cons_of_mem _ hu)
    dsimp only
    split
    · exact wpAny_pure ⟨rfl, rfl, nxt⟩
    · refine wpAny_bind (wpAny_eqIsQuiet_tuple hk ?_)
      rw [if_neg (by decide)]
      refine wpAny_bind (wpAny_eqIsQuiet_tuple hc ?_)
      rw [if_neg (by decide)]
      refine wpAny_bind (tk_class hk ?_)
      rw [if_neg (by decide)]
      refine wpAny_bind (tk_class hc ?_)
      rw [if_neg (by decide)]
      exact wpAny_pure ⟨rfl, rfl, nxt⟩
  · obtain ⟨r1, r2⟩ := r
    obtain ⟨rfl, hr, _⟩ := z
    cases (show r1 = none from hr)
    exact wpAny_pure h
theorem nth_dm (m : Nat) : ∀ (n : Nat) (p : SetTable.Probe), p.dummy = none → (nth m p n).dummy = none
  | 0, _, h => h
  | n + 1, p, h => nth_dm m n (L2.adv m p) (by unfold L2.adv; split <;> exact h)
/-- from the c-th step of the way: there already, or the first free slot -/
theorem srch {hs : Int} (R : SetR P w s.heap a rows es ep t) (hk : TkA P w s.heap k b) (hu : A.units < cLine) {K : Nat} (k1 : K < 10 * SetTable.turns t.mask) (k2 : way t.mask hs K ∉ t.place.toList) (k3 : ∀ c, c < K → way t.mask hs c ∈ t.place.toList)
    {Q : SetFound → Shared → Prop} (q1 : Q (.there none) s) (q2 : Q (.free (way t.mask hs K) false) s) : ∀ (f c : Nat) (stand : Option SetTable.Probe), stand.getD (t.probeStart hs) = nth t.mask (runAt t.mask (SetTable.bits hs % (t.mask + 1)) (SetTable.bits hs)) c → c ≤ K → K < f + c →
      wpAny (model P w) A (setSearchFrom a (.ref b) hs true f stand) Q E s := by
  obtain ⟨o, ho, hex, hd⟩ := R.ob
  generalize hp0 : runAt t.mask (SetTable.bits hs % (t.mask + 1)) (SetTable.bits hs) = p0
  have wj : ∀ c, way t.mask hs c = (nth t.mask p0 c).j := fun c => by rw [← hp0]
  intro f
  induction f with
  | zero => intro c stand _ h1 h2; omega
  | succ f ih =>
    intro c stand hst h1 h2
    rw [setSearchFrom_succ]
    refine wpAny_bind (wpAny_setState_of ho hd R.fit ?_)
    dsimp only
    rw [if_neg (show ¬ t.gaveWay = true by unfold SetTable.gaveWay; rw [mask_odd R.tab.mok]; decide)]
    have sh : ∀ q, nth t.mask (nth t.mask p0 c) q = nth t.mask p0 (c + q) := fun q => (nth_add t.mask c p0 q).symm
    have dm0 : (nth t.mask p0 c).dummy = none := nth_dm _ _ _ (by rw [← hp0]; rfl)
    have sp := go_spec t R.tab.ris R.tab.dm (fun i => (es[i]?.map (·.1)).getD 0) hs (10 * SetTable.turns t.mask) (K - c) (nth t.mask p0 c) dm0 (by omega)
      (fun q hq => by rw [sh, ← wj]; exact k3 _ (by omega)) (by rw [sh, ← wj, show c + (K - c) = K from by omega]; exact k2)
    have pr : t.probe (fun i => (es[i]?.map (·.1)).getD 0) hs (stand.getD (t.probeStart hs)) = SetTable.probe.go t (fun i => (es[i]?.map (·.1)).getD 0) hs (10 * SetTable.turns t.mask) (nth t.mask p0 c) := by
      rw [hst] <;> rfl
    rw [pr]
    rcases sp with ⟨q, i, hq, hi, _, _, e⟩ | ⟨_, e⟩
    · rw [e]
      dsimp only
      have il : i < rows.length := by
        have h3 := (List.getElem?_eq_some_iff.mp hi).1
        rw [Array.length_toList, R.psz] at h3
        exact h3
      have er := List.getElem?_eq_getElem il
      generalize rows[i] = r at er
      have ee := R.at er
      obtain ⟨k', hk'⟩ := R.tup r (List.mem_of_getElem? er)
      have rest : wpAny (model P w) A (searchRest a (.ref b) hs true f es t (nth t.mask (nth t.mask p0 c) q).j i (nth t.mask (nth t.mask p0 c) (q + 1))) Q E s := by
        unfold searchRest
        rw [ee]
        dsimp only
        refine wpAny_bind (wpAny_holding (wpAny_eqBool_tuple hu hk' hk ?_))
        refine wpAny_bind (wpAny_setState_of ho hd R.fit ?_)
        dsimp only
        by_cases c1 : k' = k
        · rw [decide_eq_true c1, if_pos (by rfl)]
          exact wpAny_pure q1
        · rw [decide_eq_false c1, if_neg (by decide), sameMem]
          dsimp only
          simp only [if_true, slot_live R.tab.ris hi, ee]
          refine wpAny_bind (wpAny_isSame_ref_self (wpAny_bind (wpAny_pure ?_)))
          simp only [if_true, Bool.false_eq_true, if_false]
          exact ih (c + (q + 1)) _ (by rw [sh] <;> rfl) (by omega) (by omega)
      by_cases cl : t.led = true
      · rw [cl, if_neg (by decide)]
        exact rest
      · rw [if_pos (by simp [cl])]
        refine wpAny_bind (tk_seen hk (fun y hy => ?_) ?_)
        · obtain ⟨e1, h1, rfl⟩ := List.mem_map.mp hy
          have h2 : e1 ∈ es := (Array.mem_filter.mp (Array.mem_toList_iff.mp h1)).1
          have h3 : e1 ∈ es.toList := Array.mem_toList_iff.mpr h2
          rw [R.rws] at h3
          obtain ⟨r2, h4, rfl⟩ := List.mem_map.mp h3
          obtain ⟨k2, hk2⟩ := R.tup r2 h4
          exact ⟨_, k2, rfl, hk2⟩
        · rw [if_neg (by decide)]
          exact rest
    · rw [e]
      dsimp only
      rw [sh, ← wj, show c + (K - c) = K from by omega]
      exact wpAny_pure q2
end
end K10
end
section
set_option maxHeartbeats 4000000
/-! S3: adding to such a set. -/
namespace K10
open PySem PySem.Spec PyProof.Rows L2
section
variable {P : Program} {w : World} {A : Around} {E : Value → Shared → Prop} {s : Shared} {k : List Key} {a b : Addr} {rows : List (Int × Addr)} {es : Array (Int × Value)} {ep : Nat} {t : SetTable}
theorem tk_keep {h h' : Heap} (x : TkA P w h k b) (e : ∀ o, h.get? b = some o → h'.get? b = some o) : TkA P w h' k b := by
  obtain ⟨o, its, n, ho, r⟩ := x
  exact ⟨o, its, n, e o ho, r⟩
theorem tk_ne {h : Heap} {o : Obj} (x : TkA P w h k b) (ho : h.get? a = some o) (hd : o.data = .set es ep t) : b ≠ a := by
  rintro rfl
  obtain ⟨o', its, n, ho', _, hd', _⟩ := x
  rw [ho] at ho'
  cases ho'
  rw [hd] at hd'
  cases hd'
/-- the rows, taken in another order -/
theorem rows_order (order : Array Nat) (hr : es.toList = rows.map fun r => (r.1, Value.ref r.2)) (hp : order.toList.Perm (List.range rows.length)) :
    ∃ rows2 : List (Int × Addr), (order.filterMap (es[·]?)).toList = rows2.map (fun r => (r.1, Value.ref r.2)) ∧ rows2.Perm rows ∧ rows2.map (·.1) = order.toList.map fun i => (es.map (·.1)).getD i 0 := by
  have ent : ∀ {i : Nat} {r : Int × Addr}, rows[i]? = some r → es[i]? = some (r.1, Value.ref r.2) := fun {i r} e => by rw [← Array.getElem?_toList, hr, List.getElem?_map, e] <;> rfl
  have main : ∀ l : List Nat, (∀ i ∈ l, i < rows.length) → l.filterMap (fun i => es[i]?) = (l.filterMap fun i => rows[i]?).map (fun r => (r.1, Value.ref r.2)) ∧ (l.filterMap fun i => rows[i]?).map (·.1) = l.map fun i => (es.map (·.1)).getD i 0 := by
    intro l
    induction l with
    | nil => exact fun _ => ⟨rfl, rfl⟩
    | cons i l ih =>
      intro hl
      have e := List.getElem?_eq_getElem (hl i List.mem_cons_self)
      obtain ⟨h1, h2⟩ := ih fun j hj => hl j (List.mem_cons_of_mem _ hj)
      generalize rows[i]'(hl i List.mem_cons_self) = r at e
      have e2 := ent e
      refine ⟨?_, ?_⟩
      · rw [List.filterMap_cons_some e2, List.filterMap_cons_some e, List.map_cons, h1]
      · rw [List.filterMap_cons_some e, List.map_cons, List.map_cons, h2]
        congr 1
        simp [Array.getD_eq_getD_getElem?, Array.getElem?_map, e2]
  have all : ∀ n, n ≤ rows.length → (List.range n).filterMap (fun i => rows[i]?) = rows.take n := by
    intro n
    induction n with
    | zero => exact fun _ => rfl
    | succ n ih =>
      intro hn
      have e := List.getElem?_eq_getElem (show n < rows.length from hn)
      rw [List.range_succ, List.filterMap_append, ih (by omega), List.take_succ, e, List.filterMap_cons_some e] <;> rfl
  obtain ⟨m1, m2⟩ := main order.toList fun i hi => List.mem_range.mp (hp.mem_iff.mp hi)
  refine ⟨order.toList.filterMap fun i => rows[i]?, by rw [Array.toList_filterMap]; exact m1, ?_, m2⟩
  have q := hp.filterMap fun i => rows[i]?
  rw [all _ (Nat.le_refl _), List.take_length] at q
  exact q
/-- laid anew, larger -/
theorem relaid_at {o : Obj} (ho : s.heap.get? a = some o) (hex : o.ExactSet) (hd : o.data = .set es ep t) (hr : es.toList = rows.map fun r => (r.1, Value.ref r.2)) (hps : t.place.size = es.size) (hdm : t.dummies = #[]) (hfl : es.size ≤ t.mask)
    (tup : ∀ r ∈ rows, ∃ k, TkA P w s.heap k r.2) (ld : w.params.followText "set-order" = true ∨ t.led = true) (few : rows.length < 64) {wanted M : Nat} (hw : SetTable.sizeAbove wanted - 1 = M) (hM : MaskOk M) (hw2 : SetTable.sizeAbove wanted ≤ 128) (hn : rows.length * 5 < M * 3) {Q : Unit → Shared → Prop}
    (q : ∀ h' rows' es' ep' t', Heap.SameBut a s.heap h' → SetR P w h' a rows' es' ep' t' → rows'.Perm rows → Q () { s with heap := h' }) : wpAny (model P w) A (setRelay a wanted) Q E s := by
  have hsz : es.size = rows.length := by rw [← Array.length_toList, hr, List.length_map]
  have hfit : t.fits es.size = true := by
    simp only [SetTable.fits, SetTable.fill, hdm, Bool.and_eq_true, beq_iff_eq, decide_eq_true_eq, Array.size_empty]
    omega
  obtain ⟨t2, order, e, hp, T, em, el, _, _⟩ := relaid_ok t (hs := es.map (·.1)) (wanted := wanted) hw hM (by rw [Array.size_map]; omega)
  rw [Array.size_map, hsz] at hp
  obtain ⟨rows2, r1, r2, r3⟩ := rows_order order hr hp
  rw [← r3] at T
  have hs2 : (order.filterMap (es[·]?)).size = es.size := by rw [← Array.length_toList, r1, List.length_map, r2.length_eq, hsz]
  rw [setRelay_eq]
  refine wpAny_bind (wpAny_setState_of ho hd hfit ?_)
  dsimp only
  rw [if_neg (by rw [sizeLine_eq]; omega), e]
  dsimp only
  refine wpAny_bind ?_
  rw [if_neg (by rw [hs2]; simp)]
  refine wpAny_pure ?_
  dsimp only
  have sb : Heap.SameBut a s.heap (s.heap.update a (Obj.putSet (order.filterMap (es[·]?)) t2)) := Heap.SameBut.update ..
  refine wpAny_storeSet_of ho hd (q _ rows2 _ (ep + 1) t2 sb ⟨⟨_, store_at ho hd, ⟨hex.1, hex.2.1, hex.2.2⟩, rfl⟩, r1, T, fun r hr2 => ?_, by rw [el]; exact ld, by rw [r2.length_eq, em]; exact hn⟩ r2) (by rw [hs2, hsz, sizeLine_eq]; omega)
  obtain ⟨k, hk⟩ := tup r (r2.mem_iff.mp hr2)
  exact ⟨k, tk_keep hk fun o' e' => (sb.2 _ (tk_ne hk ho hd)).trans e'⟩
/-- it is added, or stands there -/
theorem added {hs : Int} (R : SetR P w s.heap a rows es ep t) (hk : TkA P w s.heap k b) (hu : A.units < cLine) (few : rows.length + 1 < 64) {Q : Bool → Shared → Prop}
    (q : ∀ x h' rows' es' ep' t', Heap.SameBut a s.heap h' → SetR P w h' a rows' es' ep' t' → (∀ r ∈ rows', r.2 = b ∨ r ∈ rows) → rows'.length ≤ rows.length + 1 → Q x { s with heap := h' }) : wpAny (model P w) A (setAddHashed a (.ref b) hs) Q E s := by
  obtain ⟨o, ho, hex, hd⟩ := id R.ob
  have room := R.room
  obtain ⟨K, k1, k2, k3⟩ := R.tab.first (by rw [List.length_map]; omega) hs
  have kbig : K < 100000 := by
    have : 10 * SetTable.turns t.mask ≤ 1420 := by
      unfold SetTable.turns
      rcases R.tab.mok with e | e | e <;> omega
    omega
  unfold setAddHashed
  refine wpAny_holding ?_
  show wpAny _ _ (setAddHashedIn a (.ref b) hs (99999 + 1)) _ _ _
  rw [setAddHashedIn_succ]
  refine wpAny_bind (wpAny_setState_of ho hd R.fit ?_)
  dsimp only
  rw [if_neg (by simp [byScan, Value.scannable])]
  refine wpAny_bind ?_
  unfold setSearch
  refine srch R hk hu k1 k2 k3 ?_ ?_ 100000 0 none rfl (Nat.zero_le _) (by omega)
  · exact wpAny_pure (q false s.heap rows es ep t (Heap.SameBut.refl a s.heap) R (fun r hr => .inr hr) (Nat.le_succ _))
  · dsimp only
    refine wpAny_bind (wpAny_setState_of ho hd R.fit ?_)
    dsimp only
    obtain ⟨p1, p2, p3, p4, p5, p6, p7, p8, p9⟩ := R.tab.put k2 k3
    generalize hpt : t.put (way t.mask hs K) = pt at p1 p3 p4 p5 p6 p7 p8 p9 ⊢
    obtain ⟨t1, n⟩ := pt
    dsimp only at p1 p3 p4 p5 p6 p7 p8 p9 ⊢
    subst p1
    generalize SetTable.below t.place (way t.mask hs K) = n at p2 p3 ⊢
    have hin : (SetTable.insertAt es n (hs, Value.ref b)).toList = (rows.take n ++ (hs, b) :: rows.drop n).map fun r => (r.1, Value.ref r.2) := by
      rw [SetTable.toList_insertAt, R.rws, List.map_append, List.map_cons, List.map_take, List.map_drop]
    have hhs : (rows.take n ++ (hs, b) :: rows.drop n).map (·.1) = (rows.map (·.1)).take n ++ hs :: (rows.map (·.1)).drop n := by
      rw [List.map_append, List.map_cons, List.map_take, List.map_drop]
    have hmem : ∀ r ∈ rows.take n ++ (hs, b) :: rows.drop n, r.2 = b ∨ r ∈ rows := fun r hr => by
      rcases List.mem_append.mp hr with z | z
      · exact .inr (List.mem_of_mem_take z)
      · rcases List.mem_cons.mp z with z | z
        · exact .inl (by rw [z])
        · exact .inr (List.mem_of_mem_drop z)
    have hlen : (rows.take n ++ (hs, b) :: rows.drop n).length = rows.length + 1 := by
      rw [List.length_append, List.length_cons, List.length_take, List.length_drop]
      rw [List.length_map] at p2
      omega
    rw [← hhs] at p3
    generalize rows.take n ++ (hs, b) :: rows.drop n = rows1 at hin hmem hlen p3
    have hes : (SetTable.insertAt es n (hs, Value.ref b)).size = rows.length + 1 := by rw [← Array.length_toList, hin, List.length_map, hlen]
    generalize SetTable.insertAt es n (hs, Value.ref b) = es1 at hin hes ⊢
    -- the mark of hashes by value
    have tail : ∀ pl : Bool, wpAny (model P w) A (do
        storeSet a es1 (if pl = true then t1 else { t1 with plain := false })
        if !false && (if pl = true then t1 else { t1 with plain := false }).tooFull then setRelay a (SetTable.grown (es.size + 1))
        return true) Q E s := fun pl => by
      have same : (if pl = true then t1 else { t1 with plain := false }).place = t1.place ∧ (if pl = true then t1 else { t1 with plain := false }).dummies = t1.dummies ∧ (if pl = true then t1 else { t1 with plain := false }).mask = t1.mask ∧ (if pl = true then t1 else { t1 with plain := false }).led = t1.led ∧ (if pl = true then t1 else { t1 with plain := false }).fill = t1.fill := by
        cases pl <;> exact ⟨rfl, rfl, rfl, rfl, rfl⟩
      generalize (if pl = true then t1 else { t1 with plain := false }) = t2 at same ⊢
      obtain ⟨e1, e2, e3, e4, e5⟩ := same
      have T2 : TabOk t2 (rows1.map (·.1)) := ⟨by rw [e1]; exact p3.ris, by rw [e2]; exact p3.dm, by rw [e1]; exact p3.sz, by rw [e3]; exact p3.mok, by rw [e1, e3]; exact p3.bd, by rw [e1, e3]; exact p3.reach⟩
      have f2 : t2.fill = rows.length + 1 := by rw [e5, p9, List.length_map]
      have m2 : t2.mask = t.mask := e3.trans p4
      refine wpAny_bind (wpAny_storeSet_of ho hd ?_ (by rw [hes, sizeLine_eq]; omega))
      have sb : Heap.SameBut a s.heap (s.heap.update a (Obj.putSet es1 t2)) := Heap.SameBut.update ..
      have ho1 := store_at (es' := es1) (t' := t2) ho hd
      generalize s.heap.update a (Obj.putSet es1 t2) = h1 at sb ho1 ⊢
      have tup1 : ∀ r ∈ rows1, ∃ k, TkA P w h1 k r.2 := fun r hr => by
        rcases hmem r hr with e | hr
        · exact ⟨k, by rw [e]; exact tk_keep hk fun o' e' => (sb.2 _ (tk_ne hk ho hd)).trans e'⟩
        · obtain ⟨k', hk'⟩ := R.tup r hr
          exact ⟨k', tk_keep hk' fun o' e' => (sb.2 _ (tk_ne hk' ho hd)).trans e'⟩
      have ld : w.params.followText "set-order" = true ∨ t2.led = true := by rw [e4, p5]; exact R.led
      by_cases hf : t2.tooFull = true
      · rw [hf]
        have full : (rows.length + 1) * 5 ≥ t.mask * 3 := by
          have h := hf
          unfold SetTable.tooFull at h
          rw [decide_eq_true_eq, f2, m2] at h
          exact h
        rw [R.sz]
        have go : ∀ M, SetTable.sizeAbove (SetTable.grown (rows.length + 1)) - 1 = M → MaskOk M → SetTable.sizeAbove (SetTable.grown (rows.length + 1)) ≤ 128 → (rows.length + 1) * 5 < M * 3 → rows.length + 1 ≤ t.mask →
            wpAny (model P w) A (do (if (!false && true) = true then setRelay a (SetTable.grown (rows.length + 1)) else pure ()); return true) Q E { s with heap := h1 } := fun M a1 a2 a3 a4 a5 => by
          refine wpAny_bind ?_
          rw [if_pos (by decide)]
          exact relaid_at (s := { s with heap := h1 }) ho1 ⟨hex.1, hex.2.1, hex.2.2⟩ rfl hin (by rw [T2.sz, List.length_map, hlen, hes]) T2.dm (by rw [hes, m2]; exact a5) tup1 ld (by omega) a1 a2 a3 (by rw [hlen]; exact a4)
            fun h2 rows2 es2 ep2 t3 sb2 R2 pm => wpAny_pure (q true h2 rows2 es2 ep2 t3 (sb.trans sb2) R2 (fun r hr => hmem r (pm.mem_iff.mp hr)) (by rw [pm.length_eq, hlen]; exact Nat.le_refl _))
        rcases R.tab.mok with e | e | e
        · have l4 : rows.length = 4 := by omega
          exact go 31 (by rw [l4]; exact congrArg (· - 1) size_20) (.inr (.inl rfl)) (by rw [l4]; exact Nat.le_trans (Nat.le_of_eq size_20) (by decide)) (by omega) (by omega)
        · have l18 : rows.length = 18 := by omega
          exact go 127 (by rw [l18]; exact congrArg (· - 1) size_76) (.inr (.inr rfl)) (by rw [l18]; exact Nat.le_trans (Nat.le_of_eq size_76) (by decide)) (by omega) (by omega)
        · omega
      · have hf2 : t2.tooFull = false := by simpa using hf
        rw [hf2]
        dsimp only
        rw [if_neg (by decide)]
        refine wpAny_pure (q true h1 rows1 es1 (ep + 1) t2 sb ⟨⟨_, ho1, ⟨hex.1, hex.2.1, hex.2.2⟩, rfl⟩, hin, T2, tup1, ld, ?_⟩ hmem (Nat.le_of_eq hlen))
        unfold SetTable.tooFull at hf2
        rw [decide_eq_false_iff_not, f2, m2] at hf2
        rw [m2, hlen]
        omega
    by_cases hp : t1.plain = true
    · rw [if_pos hp]
      refine wpAny_bind ?_
      exact tk_hash hk fun pl => tail pl
    · rw [if_neg hp]
      exact wpAny_bind (wpAny_pure (tail true))
end
end K10
end
section
set_option maxHeartbeats 4000000
/-! S4: set(list). -/
namespace K10
open PySem PySem.Spec PyProof.Rows L2
section
variable {P : Program} {w : World} {A : Around} {E : Value → Shared → Prop} {s : Shared}
theorem SetR.keep {h h' : Heap} {a : Addr} {rows : List (Int × Addr)} {es : Array (Int × Value)} {ep : Nat} {t : SetTable} (R : SetR P w h a rows es ep t) (ka : ∀ o, h.get? a = some o → h'.get? a = some o) (kt : ∀ r ∈ rows, ∃ k, TkA P w h' k r.2) : SetR P w h' a rows es ep t := by
  obtain ⟨o, ho, q⟩ := R.ob
  exact ⟨⟨o, ka o ho, q⟩, R.rws, R.tab, kt, R.led, R.room⟩
theorem setR_new {h : Heap} {a : Addr} (ho : h.get? a = some { cls := .type "set", dict := none, data := .set #[] 0 (.fresh 0 0 (!w.params.followText "set-order")) }) : SetR P w h a [] #[] 0 (.fresh 0 0 (!w.params.followText "set-order")) := by
  refine ⟨⟨_, ho, ⟨rfl, rfl, rfl⟩, rfl⟩, rfl, ⟨List.Pairwise.nil, rfl, rfl, .inl rfl, fun x hx => (by cases hx), fun i h j hi => (by simp at hi)⟩, fun r hr => (by cases hr), ?_, (by show 0 * 5 < 7 * 3; decide)⟩
  show _ ∨ (!w.params.followText "set-order") = true
  cases w.params.followText "set-order"
  · exact .inr rfl
  · exact .inl rfl
/-- the tuples that may stand in it, as they were at h0 -/
abbrev From (P : Program) (w : World) (h0 : Heap) (bs : List Addr) : Prop := ∀ b ∈ bs, ∃ k, TkA P w h0 k b
theorem set_turns {I : Addr} {fp wr : List Addr} {G : Array GenState → Array GenState → Prop} {n : Nat} {Pv : Nat → Value → Prop} {St : Nat → Shared → Prop} {R : Result → Shared → Prop} (W : WalksS P w A.in1 I fp wr G n Pv St) (S : Addr) (hSf : S ∉ fp) (bs : List Addr) (n64 : n < 64)
    (hv : ∀ i v, Pv i v → ∃ b ∈ bs, v = .ref b) (h0 : Heap) (hb : From P w h0 bs) (hS0 : h0.get? S = none) (hw0 : ∀ b ∈ wr, h0.get? b = none) (hu : A.in1.units < cLine)
    (fin : ∀ s0 s' rows es ep t, Moved (S :: wr) G s0 s' → SetR P w s'.heap S rows es ep t → (∀ r ∈ rows, r.2 ∈ bs) → rows.length ≤ n → (∀ b o, h0.get? b = some o → s'.heap.get? b = some o) → s0 = s → R (.ok (.ret .none)) s') :
    ∀ (j i : Nat) (s1 : Shared), n - i = j → i ≤ n → St i s1 → (∀ b o, h0.get? b = some o → s1.heap.get? b = some o) → (∃ rows es ep t, SetR P w s1.heap S rows es ep t ∧ (∀ r ∈ rows, r.2 ∈ bs) ∧ rows.length ≤ i) → (∀ s', Moved (S :: wr) G s1 s' → Moved (S :: wr) G s s') →
      codeAny (model P w) A (.builtin "set.update.loop" ⟨[.ref S, .ref I], []⟩) R s1 := by
  have hSw : S ∉ wr := fun z => hSf (W.sub _ z)
  have up : ∀ {x y : Shared}, Moved wr G x y → Moved (S :: wr) G x y := fun m => m.mono fun b hb => List.mem_cons_of_mem _ hb
  have old : ∀ {x y : Shared}, Moved wr G x y → (∀ b o, h0.get? b = some o → x.heap.get? b = some o) → ∀ b o, h0.get? b = some o → y.heap.get? b = some o := fun m kx b o e => m.heap b o (fun z => by rw [hw0 b z] at e; cases e) (kx b o e)
  have tks : ∀ {y : Shared}, (∀ b o, h0.get? b = some o → y.heap.get? b = some o) → ∀ {rows : List (Int × Addr)}, (∀ r ∈ rows, r.2 ∈ bs) → ∀ r ∈ rows, ∃ k, TkA P w y.heap k r.2 := by
    intro y ky rows sub r hr
    obtain ⟨k, hk⟩ := hb _ (sub r hr)
    exact ⟨k, tk_keep hk fun o e => ky _ o e⟩
  intro j
  induction j with
  | zero =>
    intro i s1 hj hi hst k1 ⟨rows, es, ep, t, hR, sub, len⟩ mv
    obtain rfl : i = n := by omega
    refine codeAny_builtin F.entry_set_update_loop ?_
    rw [Around.under_plainId F.plain_set_update_loop _]
    show wpAny _ A.in1 (pyNext (.ref I) >>= _) _ _ s1
    refine wpAny_bind (W.done s1 _ _ hst fun s' m => ?_)
    have k2 := old m k1
    exact wpAny_pure (fin s s' rows es ep t (mv s' (up m)) (hR.keep (fun o e => m.heap S o hSw e) (tks k2 sub)) sub len k2 rfl)
  | succ j ih =>
    intro i s1 hj hi hst k1 ⟨rows, es, ep, t, hR, sub, len⟩ mv
    have lt : i < n := by omega
    refine codeAny_builtin F.entry_set_update_loop ?_
    rw [Around.under_plainId F.plain_set_update_loop _]
    show wpAny _ A.in1 (pyNext (.ref I) >>= _) _ _ s1
    refine wpAny_bind (W.item i s1 _ _ lt hst fun v s2 hP hst2 m => ?_)
    obtain ⟨b, hbm, rfl⟩ := hv i v hP
    have k2 := old m k1
    have hR2 := hR.keep (fun o e => m.heap S o hSw e) (tks k2 sub)
    obtain ⟨k, hk0⟩ := hb b hbm
    have hk : TkA P w s2.heap k b := tk_keep hk0 fun o e => k2 _ o e
    show wpAny _ A.in1 (holding [Value.ref b] (setAdd S (.ref b)) >>= _) _ _ s2
    refine wpAny_bind (wpAny_holding ?_)
    unfold setAdd
    refine wpAny_holding ?_
    refine wpAny_bind (wpAny_pyHash_tuple hu hk ?_)
    refine added (s := { s2 with toks := s2.toks + (k.length + 1) }) hR2 hk hu (by omega) fun x h' rows' es' ep' t' sb hR3 mem len3 => ?_
    have k3 : ∀ c o, h0.get? c = some o → h'.get? c = some o := fun c o e => (sb.2 c (fun z => by rw [z, hS0] at e; cases e)).trans (k2 c o e)
    refine wpAny_pure ⟨plainId_quiet F.plain_set_update_loop _, ih (i + 1) _ (by omega) lt (W.frame _ s2 _ _ hst2 (Nat.le_add_right _ _) fun c hc o e => ?_) k3 ⟨rows', es', ep', t', hR3, fun r hr => ?_, by omega⟩ fun s' m' => ?_⟩
    · exact (sb.2 c (fun z : c = S => hSf (by rw [← z]; exact hc))).trans e
    · rcases mem r hr with z | z
      · rw [z]; exact hbm
      · exact sub r z
    · exact mv s' (Moved.trans W.gtrans ((up m).then_heap (Nat.le_add_right _ _) fun c o hc e => (sb.2 c (fun z : c = S => hc (by rw [z]; exact List.mem_cons_self))).trans e) m')
end
end K10
end
section
set_option maxHeartbeats 4000000
/-! S5: set(list), called. -/
namespace K10
open PySem PySem.Spec PyProof.Rows L2
/-- the empty set that set.__new__ lays -/
abbrev set0 (w : World) : Obj := { cls := .type "set", dict := none, data := .set #[] 0 (.fresh 0 0 (!w.params.followText "set-order")) }
section
variable {P : Program} {w : World} {A : Around} {E : Value → Shared → Prop} {s : Shared}
theorem none_at {h : Heap} {b : Addr} (z : h.objs.size ≤ b) : h.get? b = none := by
  cases q : h.get? b with
  | none => rfl
  | some o => exact absurd (Nat.lt_of_lt_of_le (Heap.lt_size q) z) (Nat.lt_irrefl _)
/-- set.__init__ over a list of tuples -/
theorem init_set {l : Addr} {items : Array Value} (bs : List Addr) (hh : A.in1.in1.in1.handled = none) (hl : s.heap.IsList l items) (hit : items.toList = bs.map Value.ref) (hb : From P w s.heap bs) (n64 : bs.length < 64) (hu : A.in1.in1.in1.units < cLine) {Q : PySem.Fin → Shared → Prop}
    (q : ∀ h' tk rows es ep t, SetR P w h' s.heap.objs.size rows es ep t → (∀ r ∈ rows, r.2 ∈ bs) → rows.length ≤ bs.length → (∀ b o, s.heap.get? b = some o → h'.get? b = some o) → Q (.done (.ret .none)) { s with heap := h', toks := tk }) :
    wpAny (model P w) A.in1.in1 (Builtin.«set.__init__» ⟨[.ref s.heap.objs.size, .ref l], []⟩) Q E { s with heap := s.heap.push (set0 w) } := by
  obtain ⟨ol, hol, hc, nl, hd⟩ := id hl
  obtain ⟨c1, d1, dt1, sl1⟩ := ol
  simp only at hc hd
  subst hc hd
  have hol' : (s.heap.push (set0 w)).get? l = some { cls := .type "list", dict := d1, data := .seq items nl, slots := sl1 } := Heap.get?_push_of_some _ hol
  have hl1 : (s.heap.push (set0 w)).IsList l items := ⟨_, hol', rfl, nl, rfl⟩
  have isz : items.size = bs.length := by rw [← Array.length_toList, hit, List.length_map]
  have a1 := F.sub_list_set
  have a2 := F.sub_list_frozenset
  have a3 : (Value.type "list" == Value.type "dict") = false := by decide
  have hlS : l < s.heap.objs.size := Heap.lt_size hol
  have hS : (s.heap.push (set0 w)).get? s.heap.objs.size = some (set0 w) := Heap.get?_push_size _ rfl
  unfold Builtin.«set.__init__» noKeywords Builtin.Frozenset.updateFrom
  generalize hPI : pyIter = PI
  wp_walk
  subst hPI
  refine wpAny_pyIter_list hl1 (wpAny_bind (wpAny_runValue ?_))
  have hI : l ≠ (s.heap.push (set0 w)).objs.size := by rw [Heap.size_push]; exact Nat.ne_of_lt (Nat.lt_succ_of_lt hlS)
  refine set_turns (A := A.in1.in1) (n := items.size) (R := _) (s := _) ((Walks.list hh _ l hI items).toS) s.heap.objs.size ?_ bs (by omega) ?_ s.heap hb (none_at (Nat.le_refl _)) ?_ hu ?_ (items.size - 0) 0 _ (by omega) (Nat.zero_le _)
    ⟨⟨_, Heap.get?_push_size _ rfl, rfl, rfl⟩, (hl1.push _)⟩ (fun b o e => Heap.get?_push_of_some _ (Heap.get?_push_of_some _ e)) ⟨[], #[], 0, _, setR_new (Heap.get?_push_of_some _ hS), fun r hr => (by cases hr), Nat.zero_le _⟩ (fun _ m => m)
  · rw [Heap.size_push]
    simp only [List.mem_cons, List.mem_singleton, List.not_mem_nil, or_false, not_or]
    exact ⟨Nat.ne_of_lt (Nat.lt_succ_self _), Nat.ne_of_gt hlS⟩
  · intro i v e
    have e2 : items.toList[i]? = some v := by rw [Array.getElem?_toList]; exact e
    rw [hit, List.getElem?_map] at e2
    obtain ⟨b, h1, h2⟩ := Option.map_eq_some_iff.mp e2
    exact ⟨b, List.mem_of_getElem? h1, h2.symm⟩
  · intro b hb
    refine none_at ?_
    rw [List.mem_singleton.mp hb, Heap.size_push]
    exact Nat.le_succ _
  · intro s0 s' rows es ep t m hR sub len k e0
    subst e0
    obtain ⟨h', g', dr', tk', os'⟩ := s'
    cases (show g' = s.gens from m.gens)
    cases (show dr' = s.drawn from m.drawn)
    cases (show os' = s.os from m.os)
    show wpAny _ _ _ _ _ _
    refine wpAny_pure ?_
    show wpAny _ _ (ret Value.none) _ _ _
    exact wpAny_pure (q h' tk' rows es ep t hR sub (by omega) k)
end
end K10
end
section
set_option maxHeartbeats 4000000
/-! S6: set(list) as a call; sorted(set). -/
namespace K10
open PySem PySem.Spec PyProof.Rows L2
section
variable {P : Program} {w : World} {A : Around} {E : Value → Shared → Prop} {s : Shared}
theorem call_set_tk {l : Addr} {items : Array Value} (bs : List Addr) (hh : A.handled = none) (hl : s.heap.IsList l items) (hit : items.toList = bs.map Value.ref) (hb : From P w s.heap bs) (n64 : bs.length < 64) (hu : A.units + 3 < cLine) {Q : Value → Shared → Prop}
    (q : ∀ h' tk rows es ep t, SetR P w h' s.heap.objs.size rows es ep t → (∀ r ∈ rows, r.2 ∈ bs) → rows.length ≤ bs.length → (∀ b o, s.heap.get? b = some o → h'.get? b = some o) → Q (.ref s.heap.objs.size) { s with heap := h', toks := tk }) :
    wpAny (model P w) A (call (.type "set") [.ref l]) Q E s := by
  obtain ⟨c, tl, b1⟩ := F.called_set.mro
  have b2 := F.called_set.made
  have b3 := F.called_set.sub
  have b4 := F.called_set.notType
  have b5 := F.called_set.canCreate
  have b6 := F.typeCall_set_1 (.ref l)
  refine wpAny_call (codeAny_of_tree ?_)
  show wpAny _ _ (callAny (.type "set") _) _ _ _
  refine wpAny_pure ⟨Code.quiet_builtin _ (by decide +kernel), codeAny_builtin F.entry_type_call ?_⟩
  rw [Around.under_plain (weight_type_call_type "set" [.ref l] []) rfl]
  repeat (any_goals (first | assumption | wp_step))
  refine codeAny_mono (code_set_led1 (.ref l) (E := E) (Q₁ := fun v s1 => v = .ref s.heap.objs.size ∧ s1 = { s with heap := s.heap.push (set0 w) }) ⟨rfl, rfl⟩) fun r s1 z => ?_
  match r, z with
  | .error e, z => exact z
  | .ok .next, z => exact z.elim
  | .ok .brk, z => exact z.elim
  | .ok .cont, z => exact z.elim
  | .ok (.ret v), ⟨e1, e2⟩ =>
    subst e1 e2
    have hT : Shared.TypeIs { s with heap := s.heap.push (set0 w) } (.ref s.heap.objs.size) "set" := ⟨_, Heap.get?_push_size _ rfl, rfl⟩
    have b7 := F.called_set.init.lookup
    have b8 := F.called_set.init.bind (.ref s.heap.objs.size)
    repeat (any_goals (first | assumption | wp_step))
    refine codeAny_mono (codeAny_call_builtin (R := wants (fun v s2 => v = .none ∧ ∃ h' tk rows es ep t, s2 = { s with heap := h', toks := tk } ∧ SetR P w h' s.heap.objs.size rows es ep t ∧ (∀ r ∈ rows, r.2 ∈ bs) ∧ rows.length ≤ bs.length ∧ (∀ b o, s.heap.get? b = some o → h'.get? b = some o)) E) F.called_set.init.plain F.entry_set_init (check_set_init_1 hT ?_)) fun r2 s2 z2 => ?_
    · exact init_set bs (by simp [hh]) hl hit hb n64 hu fun h' tk rows es ep t a1 a2 a3 a4 => ⟨rfl, h', tk, rows, es, ep, t, rfl, a1, a2, a3, a4⟩
    · match r2, z2 with
      | .error e, z => exact z
      | .ok .next, z => exact z.elim
      | .ok .brk, z => exact z.elim
      | .ok .cont, z => exact z.elim
      | .ok (.ret v), ⟨e1, h', tk, rows, es, ep, t, e2, a1, a2, a3, a4⟩ =>
        subst e1 e2
        repeat (any_goals (first | assumption | wp_step))
        exact q h' tk rows es ep t a1 a2 a3 a4
end
end K10
end
section
set_option maxHeartbeats 4000000
/-! S7: sorted(such a set). -/
namespace K10
open PySem PySem.Spec PyProof.Rows L2
def kD : Key → PyData
  | .inl i => .int i
  | .inr x => .str x
def isI : Key → Bool
  | .inl _ => true
  | .inr _ => false
def tkD (k : List Key) : PyData := .tuple (k.map kD)
theorem reads_items {P : Program} {w : World} {h : Heap} : ∀ {k : List Key} {vs : List Value}, ItemsAre (mixKind P w) k vs → ReadsAll h vs (k.map kD) []
  | _, _, .nil => .nil
  | _, _, .cons h1 t => by
    rcases keyIs_shape h1 with ⟨i, tk, rfl, rfl⟩ | ⟨x, tk, rfl, rfl⟩
    · exact ReadsAll.cons (Reads.int i tk) (reads_items t)
    · exact ReadsAll.cons (Reads.str x tk) (reads_items t)
theorem tk_reads {P : Program} {w : World} {h : Heap} {k : List Key} {b : Addr} (x : TkA P w h k b) : Reads h (.ref b) (tkD k) [] := by
  obtain ⟨o, its, n, ho, hc, hd, hi⟩ := x
  exact Reads.tuple ho hc hd (reads_items hi)
theorem alike_keys : ∀ {k k' : List Key}, k.map isI = k'.map isI → PySem.W.alikeAll (k.map kD) (k'.map kD) = true
  | [], [], _ => by simp [PySem.W.alikeAll]
  | [], _ :: _, h => by simp at h
  | _ :: _, [], h => by simp at h
  | a :: k, b :: k', h => by
    rw [List.map_cons, List.map_cons] at h
    injection h with h1 h2
    have ih := alike_keys h2
    cases a <;> cases b <;> simp_all [isI, kD, PySem.W.alikeAll, PySem.W.alike]
theorem dep_keys : ∀ k : List Key, PyData.depthAll (k.map kD) = 0
  | [] => by simp [PyData.depthAll]
  | a :: k => by
    have ih := dep_keys k
    cases a <;> simp_all [kD, PyData.depthAll, PyData.depth]
theorem each_out {α : Type} {f : α → Value} : ∀ {out : List Value} {bs : List α}, PySem.W.EachIs (fun v b => v = f b) out bs → out = bs.map f
  | _, _, .nil => rfl
  | _, _, .cons h t => by
    rw [List.map_cons, ← each_out t, ← h]
section
variable {P : Program} {w : World} {A : Around} {E : Value → Shared → Prop} {s : Shared}
/-- values of a set's rows with their keys -/
theorem keys_of {h : Heap} {sig : List Bool} {rows : List (Int × Addr)} (hk : ∀ r ∈ rows, ∃ k, TkA P w h k r.2 ∧ k.map isI = sig) : ∀ vs : List Value, (∀ v ∈ vs, ∃ r ∈ rows, v = .ref r.2) →
    ∃ ps : List (Value × List Key), ps.map (·.1) = vs ∧ ∀ q ∈ ps, (∃ r ∈ rows, q.1 = .ref r.2) ∧ Reads h q.1 (tkD q.2) [] ∧ q.2.map isI = sig
  | [], _ => ⟨[], rfl, fun q hq => (by cases hq)⟩
  | v :: vs, hv => by
    obtain ⟨r, hr, rfl⟩ := hv _ List.mem_cons_self
    obtain ⟨k, hk1, hk2⟩ := hk r hr
    obtain ⟨ps, e, hq⟩ := keys_of hk vs fun u hu => hv u (List.mem_cons_of_mem _ hu)
    refine ⟨(.ref r.2, k) :: ps, by rw [List.map_cons, e], fun q hq2 => ?_⟩
    rcases List.mem_cons.mp hq2 with rfl | hq2
    · exact ⟨⟨r, hr, rfl⟩, tk_reads hk1, hk2⟩
    · exact hq q hq2
theorem sorted_set_tk {a : Addr} {rows : List (Int × Addr)} {es : Array (Int × Value)} {ep : Nat} {t : SetTable} {Q : Value → Shared → Prop} (R : SetR P w s.heap a rows es ep t) (hh : A.handled = none) (few : rows.length < 64) {sig : List Bool} (sg : sig ≠ []) (hk : ∀ r ∈ rows, ∃ k, TkA P w s.heap k r.2 ∧ k.map isI = sig) (hu : A.units + 8 < cLine)
    (q : ∀ s' p (out : Array Value) (c : Nat), (∀ b o, s.heap.get? b = some o → s'.heap.get? b = some o) → s'.gens = s.gens → s'.os = s.os → s.heap.objs.size ≤ p → s'.heap.get? p = some (seqObj "list" out c) → (∀ v ∈ out.toList, ∃ r ∈ rows, v = .ref r.2) → out.toList.length = rows.length → Q (.ref p) s') :
    wpAny (model P w) A (call (.builtin "sorted") [.ref a]) Q E s := by
  obtain ⟨o, ho, hex, hd⟩ := R.ob
  have sz := R.sz
  refine Calls.call_function_entry kind_sorted plain_sorted entry_sorted (args_sorted1 _) ?_
  unfold Builtin.«sorted»
  refine wpAny_bind (m := checkCount "sorted" 1 1 _) (wpAny_pure ?_)
  refine wpAny_bind (collect_set (A := A.in1) hh ⟨o, ho, hex.1, hd⟩ R.fit (by unfold scanBound; omega) R.tab.ris R.led fun s1 vs k1 hz g1 o1 pm => ?_)
  have e1 : es.toList.map (·.2) = rows.map fun r => Value.ref r.2 := by rw [R.rws, List.map_map] <;> rfl
  rw [e1] at pm
  have vl : vs.length = rows.length := by rw [pm.length_eq, List.length_map]
  refine wpAny_bind (wpAny_newList ?_ (by rw [sizeLine_eq]; omega))
  have hL : (s1.heap.push (seqObj "list" vs.toArray 0)).get? s1.heap.objs.size = some (seqObj "list" vs.toArray 0) := Heap.get?_push_size _ rfl
  have k2 : ∀ b u, s.heap.get? b = some u → (s1.heap.push (seqObj "list" vs.toArray 0)).get? b = some u := fun b u e => Heap.get?_push_of_some _ (k1 b u e)
  obtain ⟨ps, ep1, hps⟩ := keys_of (P := P) (w := w) (h := s1.heap.push (seqObj "list" vs.toArray 0)) (sig := sig) (rows := rows) (fun r hr => by
    obtain ⟨k, h1, h2⟩ := hk r hr
    exact ⟨k, tk_keep h1 fun o e => k2 _ o e, h2⟩) vs fun v hv => by
      obtain ⟨r, hr, e⟩ := List.mem_map.mp (pm.mem_iff.mp hv)
      exact ⟨r, hr, e.symm⟩
  have each1 : ∀ {R' : Value → Value × List Key → Prop} (l : List (Value × List Key)), (∀ q ∈ l, R' q.1 q) → PySem.W.EachIs R' (l.map (·.1)) l := fun {R'} l => by
    induction l with
    | nil => exact fun _ => .nil
    | cons z l ih => exact fun h => .cons (h z List.mem_cons_self) (ih fun u hu => h u (List.mem_cons_of_mem _ hu))
  have pl : ps.length = rows.length := by rw [← vl, ← ep1, List.length_map]
  refine wpAny_bind (wpAny_holding (PySem.W.list_sort_data (β := Value × List Key) (R := fun v b => v = b.1) (bs := ps) (vs := vs) (enc := fun b => tkD b.2) (s := { s1 with heap := s1.heap.push (seqObj "list" vs.toArray 0) }) hL ?_ ?_ ?_ ?_ (by rw [pl, sizeLine_eq]; omega) ?_ fun out ol eo => ?_))
  · rw [← ep1]
    exact each1 ps fun _ _ => rfl
  · rw [← ep1]
    exact each1 ps fun q hq => ⟨[], by simpa [ep1] using (hps q hq).2.1, by simp⟩
  · intro d hd d' hd'
    obtain ⟨q1, h1, rfl⟩ := List.mem_map.mp hd
    obtain ⟨q2, h2, rfl⟩ := List.mem_map.mp hd'
    have := alike_keys (k := q1.2) (k' := q2.2) (((hps q1 h1).2.2).trans (hps q2 h2).2.2.symm)
    simpa [tkD, PySem.W.alike] using this
  · refine .inl fun d hd => ?_
    obtain ⟨q1, h1, rfl⟩ := List.mem_map.mp hd
    have e := (hps q1 h1).2.2
    obtain ⟨v1, k1'⟩ := q1
    cases k1' with
    | nil => exact absurd e.symm sg
    | cons x r => exact ⟨kD x, r.map kD, rfl⟩
  · intro b hb
    show A.in1.units + 1 + PyData.depth (.tuple (b.2.map kD)) < cLine
    simp only [PyData.depth, dep_keys]
    have : A.in1.units ≤ A.units + 1 := by simp [Around.in1]
    omega
  · have e2 := each_out (f := fun b : Value × List Key => b.1) eo
    obtain ⟨c, hc⟩ := sortedHeap_at (vs := vs) (out := out.toArray) hL
    refine wpAny_pure ⟨_, rfl, q _ s1.heap.objs.size out.toArray c (fun b u e => ?_) g1 o1 hz hc (fun v hv => ?_) ?_⟩
    · have e3 := k1 b u e
      have lt := Heap.lt_size e3
      show (sortedHeap (s1.heap.push (seqObj "list" vs.toArray 0)) s1.heap.objs.size vs out.toArray).get? b = some u
      rw [sortedHeap_old (Nat.ne_of_lt lt) (by rw [Heap.size_push]; exact Nat.lt_succ_of_lt lt)]
      exact Heap.get?_push_of_some _ e3
    · have hv : v ∈ out := by simpa using hv
      rw [e2] at hv
      obtain ⟨b, hb, rfl⟩ := List.mem_map.mp hv
      exact (hps b ((List.mergeSort_perm ps _).mem_iff.mp hb)).1
    · show out.toArray.toList.length = _
      rw [List.toList_toArray, ol, pl]
end
end K10
end
section
set_option maxHeartbeats 4000000
/-! S8: the rules: set(list of tuples), sorted(it). -/
namespace K10
open PySem PySem.Spec PyProof.Rows L2
/-- the set at a, without its tuples -/
structure SetQ (P : Program) (w : World) (h : Heap) (a : Addr) (rows : List (Int × Addr)) : Prop where
  ex : ∃ (es : Array (Int × Value)) (ep : Nat) (t : SetTable), (∃ o, h.get? a = some o ∧ o.ExactSet ∧ o.data = .set es ep t) ∧ es.toList = rows.map (fun r => (r.1, Value.ref r.2)) ∧ TabOk t (rows.map (·.1)) ∧ (w.params.followText "set-order" = true ∨ t.led = true) ∧ rows.length * 5 < t.mask * 3
def setO (P : Program) (w : World) (a : Addr) (rows : List (Int × Addr)) : HO := .ext fun h => SetQ P w h a rows
theorem SetR.q {P : Program} {w : World} {h : Heap} {a : Addr} {rows : List (Int × Addr)} {es : Array (Int × Value)} {ep : Nat} {t : SetTable} (R : SetR P w h a rows es ep t) : SetQ P w h a rows := ⟨es, ep, t, R.ob, R.rws, R.tab, R.led, R.room⟩
theorem setO_ok {P : Program} {w : World} {H : Hp} {h : Heap} {a : Addr} {rows : List (Int × Addr)} (R : SetQ P w h a rows) : ObjOk P w H h a (setO P w a rows) := by
  have ⟨es, ep, t, ⟨o, ho, r⟩, q⟩ := R.ex
  refine ⟨R, ⟨o, ho⟩, fun h1 h2 p k => ?_⟩
  have ⟨es', ep', t', ⟨o', ho', r'⟩, q'⟩ := SetQ.ex p
  exact ⟨es', ep', t', ⟨o', k o' ho', r'⟩, q'⟩
theorem refs_vals : ∀ {bs : List Addr} {us : List Value}, Vals (bs.map V.ref) us → us = bs.map Value.ref
  | [], _, .nil => rfl
  | b :: bs, _, .cons r t => by
    cases r
    rw [refs_vals t] <;> rfl
theorem vals_refs : ∀ bs : List Addr, Vals (bs.map V.ref) (bs.map Value.ref)
  | [] => .nil
  | b :: bs => .cons rfl (vals_refs bs)
theorem refs_of {rows : List (Int × Addr)} : ∀ {vs : List Value}, (∀ v ∈ vs, ∃ r ∈ rows, v = .ref r.2) → ∃ cs : List Addr, vs = cs.map Value.ref ∧ ∀ c ∈ cs, ∃ r ∈ rows, c = r.2
  | [], _ => ⟨[], rfl, fun c hc => (by cases hc)⟩
  | v :: vs, h => by
    obtain ⟨r, hr, rfl⟩ := h _ List.mem_cons_self
    obtain ⟨cs, e, hc⟩ := refs_of fun u hu => h u (List.mem_cons_of_mem _ hu)
    refine ⟨r.2 :: cs, by rw [List.map_cons, e], fun c h2 => ?_⟩
    rcases List.mem_cons.mp h2 with rfl | h2
    · exact ⟨r, hr, rfl⟩
    · exact hc c h2
section
variable {X : Cx}
theorem inv_tk {pins : List (Addr × Obj)} {σ : L2.St} {H : Hp} {s : Shared} {b : Addr} {k : List Key} (I : Inv X pins σ H s) (h : SqT X.K H b (k.map kV)) : TkA X.prog X.w s.heap k b := by
  obtain ⟨its, r, ⟨o, ho, hc, n, hd⟩, _⟩ := I.tuple h
  exact ⟨o, its.toArray, n, ho, hc, hd, by simpa using items_are r⟩
def rSetK (K : PySem.W.Frag) (P : Program) (w : World) : List V → Hp → VK → Prop := fun xs H Q => ∃ (l : Addr) (bs : List Addr), xs = [V.ref l] ∧ SqL K H l (bs.map V.ref) ∧ (∀ b ∈ bs, ∃ k : List Key, SqT K H b (k.map kV)) ∧ bs.length < 64 ∧
  ∀ a rows, H a = none → (∀ r ∈ rows, r.2 ∈ bs) → rows.length ≤ bs.length → Q (.ref a) (upd H a (setO P w a rows))
theorem cr_setK (hc : X.calm = true) (hu : X.A.units + 64 < cLine) : CallR X (.type "set") (rSetK X.K X.prog X.w) := by
  intro pins s σ H xs us Q I r h
  obtain ⟨l, bs, rfl, hl, hk, hf, q⟩ := h
  rw [Vals.ref1 r]
  obtain ⟨its, rv, pl, hz⟩ := I.list hl
  have hn : H s.heap.objs.size = none := I.hok.fresh (Nat.le_refl _)
  refine call_set_tk (P := X.prog) (w := X.w) bs (I.ok.hd hc) pl.isList (by simpa using refs_vals rv) (fun b hb => by
    obtain ⟨k, hk⟩ := hk b hb
    exact ⟨k, inv_tk I hk⟩) hf (by omega) fun h' tk rows es ep t R mem len k => ?_
  exact ⟨.ref s.heap.objs.size, upd H s.heap.objs.size (setO X.prog X.w s.heap.objs.size rows), I.laid (t' := tk) k (Nat.le_refl _) (setO_ok R.q), rfl, q _ rows hn mem len⟩
def rSortedK (K : PySem.W.Frag) (P : Program) (w : World) : List V → Hp → VK → Prop := fun vs H Q => ∃ (a : Addr) (rows : List (Int × Addr)) (sig : List Bool), vs = [V.ref a] ∧ H a = some (setO P w a rows) ∧ sig ≠ [] ∧ (∀ r ∈ rows, ∃ k : List Key, SqT K H r.2 (k.map kV) ∧ k.map isI = sig) ∧ rows.length < 64 ∧
  ∀ (p : Addr) (cs : List Addr), H p = none → (∀ c ∈ cs, ∃ r ∈ rows, c = r.2) → cs.length = rows.length → Q (.ref p) (upd H p (.lst (cs.map V.ref)))
theorem cr_sortedK (hc : X.calm = true) (hu : X.A.units + 64 < cLine) : CallR X (.builtin "sorted") (rSortedK X.K X.prog X.w) := by
  intro pins s σ H vs us Q I r h
  obtain ⟨a, rows, sig, rfl, ha, sg, hk, few, q⟩ := h
  have R0 : SetQ X.prog X.w s.heap a rows := (I.hok a _ ha).1
  obtain ⟨es, ep, t, h1, h2, h3, h4, h5⟩ := R0.ex
  have hk2 : ∀ r ∈ rows, ∃ k, TkA X.prog X.w s.heap k r.2 ∧ k.map isI = sig := fun r hr => by
    obtain ⟨k, k1, k2⟩ := hk r hr
    exact ⟨k, inv_tk I k1, k2⟩
  have R : SetR X.prog X.w s.heap a rows es ep t := ⟨h1, h2, h3, fun r hr => by
    obtain ⟨k, k1, _⟩ := hk2 r hr
    exact ⟨k, k1⟩, h4, h5⟩
  rw [Vals.ref1 r]
  refine sorted_set_tk R (I.ok.hd hc) few sg hk2 (by omega) fun s' p out c k g o hp hg mem len => ?_
  obtain ⟨cs, e, hcs⟩ := refs_of mem
  have cl : cs.length = rows.length := by rw [← len, e, List.length_map]
  have hlen : (cs.map V.ref).length ≤ sizeLine := by rw [List.length_map, sizeLine_eq]; omega
  have hn : H p = none := I.hok.fresh hp
  have hv : Vals (cs.map V.ref) out.toList := by rw [e]; exact vals_refs cs
  have J : Inv X pins σ (upd H p (.lst (cs.map V.ref))) { s with heap := s'.heap, gens := s'.gens, drawn := s'.drawn, toks := s'.toks } :=
    I.call (ch := []) (Un.laid k hp hn) (I.hok.laid k hp ⟨hlen, out.toList, c, hv, hg⟩) (by rw [g]; exact I.bare) (fun _ z => nomatch z)
  have e2 : s' = { s with heap := s'.heap, gens := s'.gens, drawn := s'.drawn, toks := s'.toks } := by
    cases s'
    cases s
    cases o
    rfl
  rw [e2]
  exact ⟨.ref p, _, J, rfl, q p cs hn hcs cl⟩
end
end K10
end
section
set_option maxHeartbeats 4000000
/-! LF: the law's pairs. -/
namespace K10
open PySem PySem.Spec PyProof.Rows L2
theorem setKK {X : Cx} {K : PySem.W.Frag} {P : Program} {w : World} (hc : X.calm = true) (hu : X.A.units + 64 < cLine) (h1 : X.K = K := by rfl) (h2 : X.prog = P := by rfl) (h3 : X.w = w := by rfl) : CallR X (.type "set") (rSetK K P w) := by
  subst h1 h2 h3
  exact cr_setK hc hu
theorem sortKK {X : Cx} {K : PySem.W.Frag} {P : Program} {w : World} (hc : X.calm = true) (hu : X.A.units + 64 < cLine) (h1 : X.K = K := by rfl) (h2 : X.prog = P := by rfl) (h3 : X.w = w := by rfl) : CallR X (.builtin "sorted") (rSortedK K P w) := by
  subst h1 h2 h3
  exact cr_sortedK hc hu
def okP (d : Str × Str) : Prop := okS d.1 = true ∧ okS d.2 = true
theorem pairs_data {K : PySem.W.Frag} {H : Hp} : ∀ {cs : List Addr}, (∀ c ∈ cs, ∃ d : Str × Str, H c = some (.tup [.str d.1, .str d.2]) ∧ okP d) → ∃ ds : List (Str × Str), DpAll K H (cs.map V.ref) (ds.map dfD) ∧ ds.length = cs.length ∧ ∀ d ∈ ds, okP d
  | [], _ => ⟨[], .nil, rfl, fun d hd => (by cases hd)⟩
  | c :: cs, h => by
    obtain ⟨d, hd, od⟩ := h c List.mem_cons_self
    obtain ⟨ds, h1, h2, h3⟩ := pairs_data (K := K) fun x hx => h x (List.mem_cons_of_mem _ hx)
    refine ⟨d :: ds, .cons (.tup (SqT.of hd) (.cons (.str _) (.cons (.str _) .nil))) h1, by rw [List.length_cons, List.length_cons, h2], fun e he => ?_⟩
    rcases List.mem_cons.mp he with rfl | he
    · exact od
    · exact h3 e he
section
variable {P : Program} {w : World} {K : PySem.W.Frag} {mg : Str → Option Value} {base : Heap}
abbrev sPairs : Stmt := top 45
theorem scPairs : FnScope ["_law_box_here", "_law_most", "_law_found", "_law_time"] ["_law_box_here", "_law_most"] (defScope sPairs) := ⟨rfl, rfl, rfl, by decide +kernel, rfl, by decide +kernel, by decide +kernel⟩
def spPairs (K : PySem.W.Frag) : Sp := fun vs H Q _ => ∃ (b : Addr) (m n : Nat), vs = [.ref b, .int (m : Int)] ∧ BoxAt n H b ∧ n ≤ 900000 ∧ m ≤ 8 ∧
  ∀ H' l (us : List V) (ds : List (Str × Str)), Kb b H H' → BoxAt (n + (1 + 2 * m)) H' b → H l = none → H' l = some (.lst us) → DpAll K H' us (ds.map dfD) → ds.length ≤ m → (∀ d ∈ ds, okP d) → Q (.ref l) H'
theorem fghs : ∀ v ∈ [V.str "f", V.str "f", V.str "g", V.str "h"], ∃ x, v = V.str x ∧ okS x = true := fun v hv => by
  simp only [List.mem_cons, List.not_mem_nil, or_false] at hv
  rcases hv with rfl | rfl | rfl | rfl <;> exact ⟨_, rfl, by decide +kernel⟩
theorem eabs : ∀ v ∈ [V.str "", V.str "", V.str "a", V.str "b"], ∃ x, v = V.str x ∧ okS x = true := fun v hv => by
  simp only [List.mem_cons, List.not_mem_nil, or_false] at hv
  rcases hv with rfl | rfl | rfl | rfl <;> exact ⟨_, rfl, by decide +kernel⟩
theorem ok_pairs {f : Addr} {fd : FuncData} (B : Bl mg) (F : DefAt K "_law_pairs" "_law_pairs" sPairs f fd) (GT : Glb P w K mg base CX0 1 "_law_take" ["_law_box_here", "_law_many"] spTake) (GP : Glb P w K mg base CX0 2 "_law_pick" ["_law_box_here", "_law_some_here"] spPick) : FnOk P w K mg base CX0 3 f fd ["_law_box_here", "_law_most"] (spPairs K) := by
  obtain ⟨fT, fdT, GT, gT, kT, bT⟩ := GT.ex
  obtain ⟨fP, fdP, GP, gP, kP, bP⟩ := GP.ex
  refine F.ok scPairs (fun vs H Q E h => ?_) (fun cdv A outer s H vs Q E hr h => ?_)
  · obtain ⟨b, m, n, rfl, _⟩ := h
    rfl
  · obtain ⟨b, m, n, rfl, hb, n6, m8, k⟩ := h
    have hr1 : Room 1 _ := hr.mono (by decide)
    refine ⟨_, PSs.nox (pss_cons (ps_set (i := 2) scPairs.nd rfl (Or.inl rfl) (pe_lst pa_nil))
      (pss_cons (ps_for PassesOwn.never rfl (pi_range1 rfl B.range (pa_cons (pe_call GT hr1 rfl gT kT bT .nil pass0 (pa_cons (pv 0) (pa_cons (pe_op op_add (pv 1) pe_int) pa_nil))) pa_nil)) (pg_name (i := 3) scPairs.nd rfl (Or.inl rfl))
        (pss_one (ps_expr (pe_bm PySem.F.plainAttrs_list PySem.F.slot_list_append PySem.F.type_list_append mt_append (pv 2) (pa_cons
          (pe_tup (pa_cons (pe_call GP hr rfl gP kP bP .nil pass0 (pa_cons (pv 0) (pa_cons (pe_lst (pa_cons pe_str (pa_cons pe_str (pa_cons pe_str (pa_cons pe_str pa_nil))))) pa_nil)))
            (pa_cons (pe_call GP hr rfl gP kP bP .nil pass0 (pa_cons (pv 0) (pa_cons (pe_lst (pa_cons pe_str (pa_cons pe_str (pa_cons pe_str (pa_cons pe_str pa_nil))))) pa_nil))) pa_nil))) pa_nil)))))
      (pss_one (ps_ret (pe_callB (sortKK (K := K) (P := P) (w := w) rfl hr.units) (by rfl) B.sorted bt_sorted (pa_cons (pe_callTy (setKK (K := K) (P := P) (w := w) rfl hr.units) (by rfl) B.set bt_set (pa_cons (pv 2) pa_nil)) pa_nil)))))), ?_⟩
    refine ⟨Nat.zero_le _, fun lf nf => ?_⟩
    have s1 : Same H (upd H lf (.lst [])) := same_new nf
    have hlf := upd_same (H := H) (a := lf) (o := .lst [])
    have nfb : lf ≠ b := lst_ne hb nf
    refine ⟨_, rfl, _, rfl, _, _, rfl, rfl, b, m + 1, n, rfl, hb.same s1, by omega, by omega, by omega, fun H0 t kb0 hb0 ht => ?_⟩
    have kb00 : Kb b H H0 := Kb.trans (Kp.same s1) kb0
    refine ⟨_, rfl, by omega, by omega, for_range (lo := 0) (n := t) (fun i σ H' => ∃ (v : Option V) (bs : List Addr), σ = [some (.ref b), some (.int (m : Int)), some (.ref lf), v] ∧ Kb b H H' ∧ BoxAt (n + 1 + 2 * i) H' b ∧ H' lf = some (.lst (bs.map V.ref)) ∧ (∀ c ∈ bs, ∃ d : Str × Str, H' c = some (.tup [.str d.1, .str d.2]) ∧ okP d) ∧ bs.length = i)
      ⟨none, [], rfl, kb00, hb0, kb0.keep _ _ nfb hlf, fun _ h => (by cases h), rfl⟩ ?_ ?_⟩
    · rintro i σ H' hi ⟨v, bs, rfl, kb, hb', hf', hbs, bl⟩
      refine ⟨_, rfl, .inl ⟨rfl, _, SqL.of hf'⟩, _, rfl, (by show 4 ≤ sizeLine; decide), fun l1 n1 => ⟨b, l1, n + 1 + 2 * i, _, rfl, hb'.same (same_new n1), by omega, lst_ne hb' n1, upd_same, List.cons_ne_nil _ _, (by show 4 ≤ 1000; decide), fun H2 v1 kb2 hb2 hv1 => ?_⟩⟩
      obtain ⟨x, rfl, ox⟩ := fghs v1 hv1
      refine ⟨_, rfl, (by show 4 ≤ sizeLine; decide), fun l2 n2 => ⟨b, l2, n + 1 + 2 * i + 1, _, rfl, hb2.same (same_new n2), by omega, lst_ne hb2 n2, upd_same, List.cons_ne_nil _ _, (by show 4 ≤ 1000; decide), fun H3 v2 kb3 hb3 hv2 => ?_⟩⟩
      obtain ⟨y, rfl, oy⟩ := eabs v2 hv2
      have kb03 : Kb b H' H3 := Kb.trans (Kb.trans (Kb.trans (Kp.same (same_new n1)) kb2) (Kp.same (same_new n2))) kb3
      refine ⟨(by show 2 ≤ sizeLine; decide), fun T nT => ?_⟩
      have hf3 := kb03.keep _ _ nfb hf'
      have s4 : Same H3 (upd H3 T (.tup [.str x, .str y])) := same_new nT
      have hf4 := s4 _ _ hf3
      refine ⟨lf, _, _, rfl, rfl, hf4, sz1000 (by rw [List.length_map]; omega), ?_⟩
      have e1 : bs.map V.ref ++ [V.ref T] = (bs ++ [T]).map V.ref := by rw [List.map_append] <;> rfl
      rw [e1]
      have kbA : Kb b H (upd H3 T (.tup [.str x, .str y])) := Kb.trans kb (Kb.trans kb03 (Kp.same s4))
      have m4 := kp_at (o := .lst ((bs ++ [T]).map V.ref)) (mut_lst hf4)
      refine ⟨_, bs ++ [T], rfl, Kp.trans kbA m4 (fun c hc => .inr (by rw [hc]; exact nf)), ?_, upd_same, fun c hc => ?_, by rw [List.length_append, bl] <;> rfl⟩
      · obtain ⟨x0, y0, c0, e0, r0, r1, r2, r3, r4⟩ := hb3.same s4
        exact ⟨x0, y0, c0, by rw [upd_ne (Ne.symm nfb)]; exact e0, r0, r1, r2, r3, by omega⟩
      · rcases List.mem_append.mp hc with hc | hc
        · obtain ⟨d, hd, od⟩ := hbs c hc
          exact ⟨d, m4.tup _ _ (s4 _ _ (kb03.tup _ _ hd)), od⟩
        · rw [List.mem_singleton.mp hc]
          exact ⟨(x, y), m4.tup _ _ upd_same, ox, oy⟩
    · rintro σ H' ⟨v, bs, rfl, kb, hb', hf', hbs, bl⟩
      have key : ∀ c ∈ bs, ∃ k : List Key, SqT K H' c (k.map kV) ∧ k.map isI = [false, false] := fun c hc => by
        obtain ⟨d, hd, _⟩ := hbs c hc
        exact ⟨[.inr d.1, .inr d.2], SqT.of hd, rfl⟩
      refine ⟨_, rfl, lf, bs, rfl, SqL.of hf', fun c hc => (key c hc).imp fun k h => h.1, by omega, fun S rows nS mem len => ?_⟩
      have s5 : Same H' (upd H' S (setO P w S rows)) := same_new nS
      refine ⟨S, rows, [false, false], rfl, upd_same, by decide, fun r hr => ?_, by omega, fun p cs np hcs cl => ?_⟩
      · obtain ⟨kk, h1, h2⟩ := key _ (mem r hr)
        exact ⟨kk, same_sqT s5 h1, h2⟩
      · have s6 : Same (upd H' S (setO P w S rows)) (upd (upd H' S (setO P w S rows)) p (.lst (cs.map V.ref))) := same_new np
        obtain ⟨ds, d1, d2, d3⟩ := pairs_data (K := K) (H := upd (upd H' S (setO P w S rows)) p (.lst (cs.map V.ref))) (cs := cs) fun c hc => by
          obtain ⟨r, hr, rfl⟩ := hcs c hc
          obtain ⟨d, hd, od⟩ := hbs _ (mem r hr)
          exact ⟨d, s6 _ _ (s5 _ _ hd), od⟩
        have kb9 : Kb b H (upd (upd H' S (setO P w S rows)) p (.lst (cs.map V.ref))) := Kb.trans kb (Kp.same (s5.trans s6))
        refine k _ p _ ds kb9 ((hb'.same (s5.trans s6)).mono (by omega)) ?_ upd_same d1 (by omega) d3
        have np2 := s5.free np
        cases q : H p with
        | none => rfl
        | some o =>
          by_cases e : p = b
          · obtain ⟨xs, z⟩ := hb'.at
            rw [e, z] at np2
            cases np2
          · rw [kb.keep _ _ e q] at np2
            cases np2
end
end K10
end
section
set_option maxHeartbeats 4000000
/-! LG: the law's lib. -/
namespace K10
open PySem PySem.Spec PyProof.Rows L2
theorem free_b {b p : Addr} {n : Nat} {H H' : Hp} (k : Kb b H H') (hb : BoxAt n H' b) (np : H' p = none) : H p = none := by
  cases q : H p with
  | none => rfl
  | some o =>
    by_cases e : p = b
    · obtain ⟨xs, z⟩ := hb.at
      rw [e, z] at np
      cases np
    · rw [k.keep _ _ e q] at np
      cases np
theorem catTK {X : Cx} {K : PySem.W.Frag} (h : X.K = K := by rfl) : OpR X (binaryOp .Add) (rCatT K) := h ▸ op_catT
def okU (u : Str × Str × Bool) : Prop := okS u.1 = true ∧ okS u.2.1 = true
section
variable {P : Program} {w : World} {K : PySem.W.Frag} {mg : Str → Option Value} {base : Heap}
abbrev sLib : Stmt := top 46
theorem scLib : FnScope ["_law_box_here", "_law_own", "_law_others", "_law_is_main", "_law_needs", "_law_defs", "_law_uses", "_law_one", "_law_pair"] ["_law_box_here", "_law_own", "_law_others", "_law_is_main"] (defScope sLib) := ⟨rfl, rfl, rfl, by decide +kernel, rfl, by decide +kernel, by decide +kernel⟩
def spLib (K : PySem.W.Frag) : Sp := fun vs H Q _ => ∃ (b lo : Addr) (own : Str) (isM : Bool) (n : Nat) (others : List Str), vs = [.ref b, .str own, .ref lo, .bl isM] ∧ BoxAt n H b ∧ n ≤ 800000 ∧ H lo = some (.lst (others.map V.str)) ∧ lo ≠ b ∧ others.length ≤ 8 ∧ (∀ x ∈ others, okS x = true) ∧
  ∀ H' v (l : Lib), Kb b H H' → BoxAt (n + 20) H' b → Dp K H' v (lbD l) → l.name = own → (∀ x ∈ l.needs, x ∈ others) → l.needs.length ≤ 8 → l.defs.length ≤ 8 → l.uses.length ≤ 8 → (∀ d ∈ l.defs, okP d) → (∀ u ∈ l.uses, okU u) → Q v H'
theorem ok_lib {f : Addr} {fd : FuncData} (B : Bl mg) (F : DefAt K "_law_lib" "_law_lib" sLib f fd) (GT : Glb P w K mg base CX0 1 "_law_take" ["_law_box_here", "_law_many"] spTake)
    (GS : Glb P w K mg base CX0 2 "_law_some" ["_law_box_here", "_law_some_here", "_law_most"] spSome) (GP : Glb P w K mg base CX0 3 "_law_pairs" ["_law_box_here", "_law_most"] (spPairs K)) :
    FnOk P w K mg base CX0 4 f fd ["_law_box_here", "_law_own", "_law_others", "_law_is_main"] (spLib K) := by
  obtain ⟨fT, fdT, GT, gT, kT, bT⟩ := GT.ex
  obtain ⟨fS, fdS, GS, gS, kS, bS⟩ := GS.ex
  obtain ⟨fP, fdP, GP, gP, kP, bP⟩ := GP.ex
  refine F.ok scLib (fun vs H Q E h => ?_) (fun cdv A outer s H vs Q E hr h => ?_)
  · obtain ⟨b, lo, own, isM, n, others, rfl, _⟩ := h
    rfl
  · obtain ⟨b, lo, own, isM, n, others, rfl, hb, n6, hlo, nlo, o8, ook, k⟩ := h
    have hr1 : Room 1 _ := hr.mono (by decide)
    have hr2 : Room 2 _ := hr.mono (by decide)
    obtain ⟨t2, w2, r2⟩ : ∃ t2, PSs (cxOf CX0 P w K mg base ["_law_box_here", "_law_own", "_law_others", "_law_is_main", "_law_needs", "_law_defs", "_law_uses", "_law_one", "_law_pair"] "_law_lib" (defScope sLib) f cdv A outer s H E).nox ((defBody sLib).drop 2) t2 ∧
        ∀ H1 (tn tdf : Addr) (needs : List Str) (defs : List (Str × Str)), Kb b H H1 → BoxAt (n + 10) H1 b → Dp K H1 (.ref tn) (.tuple (needs.map .str)) → Dp K H1 (.ref tdf) (.tuple (defs.map dfD)) → (∀ x ∈ needs, x ∈ others) → needs.length ≤ 8 → defs.length ≤ 8 → (∀ d ∈ defs, okP d) →
          t2 { nx := fun _ H' => Q .non H', rt := Q } [some (.ref b), some (.str own), some (.ref lo), some (.bl isM), some (.ref tn), some (.ref tdf), none, none, none] H1 := by
      refine ⟨_, pss_cons (ps_set (i := 6) scLib.nd rfl (Or.inl rfl) (pe_callTy (tupK (K := K)) (by rfl) B.tuple bt_tuple (pa_cons
          (pe_lc (own := [("_law_pair", 8)]) (g := gName 8) (tt := tYes) rfl scLib.nd (pi_listK (K := K) (pe_call GP hr rfl gP kP bP .nil pass0 (pa_cons (pv 0) (pa_cons pe_int pa_nil))))
            (blkOk_by (N := ["_law_box_here", "_law_own", "_law_others", "_law_is_main", "_law_needs", "_law_defs", "_law_uses", "_law_one", "_law_pair"]) (sc := defScope sLib) (by decide +kernel)) (fun _ _ _ _ _ => pg_name (i := 8) scLib.nd rfl (Or.inl rfl)) (fun _ _ _ _ _ => pts_nil)
            (fun _ _ _ _ _ => pe_op (catTK (K := K)) (pv 8) (pe_tup (pa_cons (pe_cmpR op_eq (pe_call GT hr1 rfl gT kT bT .nil pass0 (pa_cons (pv 0) (pa_cons pe_int pa_nil))) pe_int (nomark _)) pa_nil)))) pa_nil)))
        (pss_one (ps_ret (pe_tup (pa_cons (pv 1) (pa_cons (pv 4) (pa_cons (pv 5) (pa_cons (pv 6) pa_nil))))))), ?_⟩
      intro H1 tn tdf needs defs kb1 hb1 hn hdf nsub n8 d8 dok
      refine ⟨_, rfl, b, 3, n + 10, rfl, hb1, by omega, by decide, fun H2 lp us ps kb2 hb2 nlp hlp hps pl pok => ?_⟩
      refine ⟨lp, rfl, ⟨_, SqL.of hlp⟩, fun D hD => ?_⟩
      have nDb : D ≠ b := lst_ne hb2 hD
      have nlpb : lp ≠ b := lst_ne hb1 nlp
      refine lc_list (K := K) (a := lp) (xs := us) (fun i H' => Kb b H2 H' ∧ BoxAt (n + 17 + i) H' b ∧ ∃ (acc : List V) (ul : List (Str × Str × Bool)), H' D = some (.lst acc) ∧ DpAll K H' acc (ul.map usD) ∧ ul.length = i ∧ ∀ u ∈ ul, okU u) ?_ (fun i H' _ h => SqL.of (h.1.keep _ _ nlpb hlp)) ?_ ?_
      · exact ⟨Kp.same (same_new hD), (hb2.same (same_new hD)).mono (by omega), [], [], upd_same, .nil, rfl, fun _ h => (by cases h)⟩
      · rintro i v H' hv ⟨kb3, hb3, acc, ul, hacc, hul, ull, uok⟩
        obtain ⟨d, hd1, hd2⟩ := dpa_at hps hv
        rw [List.getElem?_map] at hd1
        obtain ⟨pr, hpr, rfl⟩ := Option.map_eq_some_iff.mp hd1
        have il : i < ps.length := (List.getElem?_eq_some_iff.mp hpr).1
        obtain ⟨ta, xs, rfl, hs, hxs⟩ := dp_tupE hd2
        have hs3 := kb3.sqT hs
        refine ⟨rfl, _, rfl, _, rfl, b, 4, n + 17 + i, rfl, hb3, by omega, by decide, by decide, fun H4 j kb4 hb4 hj => ⟨rfl, (by show 1 ≤ sizeLine; decide), fun T nT => ?_⟩⟩
        have s5 : Same H4 (upd H4 T (.tup [.bl (decide (V.int (j : Int) = V.int 0))])) := same_new nT
        have hs4 := kb4.sqT hs3
        have xl := dpa_length hxs
        cases xs with
        | nil => exact absurd xl (by show ¬ (0 : Nat) = 2; decide)
        | cons x0 xr =>
        refine ⟨ta, T, _, _, rfl, rfl, same_sqT s5 hs4, SqT.of upd_same, List.cons_ne_nil _ _, ?_, (fun e => nomatch e), fun _ T2 nT2 => ?_⟩
        · have e2 : (x0 :: xr).length = 2 := xl
          rw [e2, sizeLine_eq]
          exact Nat.le_of_ble_eq_true rfl
        have s6 : Same (upd H4 T (.tup [.bl (decide (V.int (j : Int) = V.int 0))])) (upd (upd H4 T (.tup [.bl (decide (V.int (j : Int) = V.int 0))])) T2 (.tup ((x0 :: xr) ++ [.bl (decide (V.int (j : Int) = V.int 0))]))) := same_new nT2
        generalize decide (V.int (j : Int) = V.int 0) = opt at *
        have kb6 : Kb b H' (upd (upd H4 T (.tup [.bl opt])) T2 (.tup ((x0 :: xr) ++ [.bl opt]))) := Kb.trans kb4 (Kp.same (s5.trans s6))
        have hacc6 := kb6.keep _ _ nDb hacc
        have m := kp_at (o := .lst (acc ++ [V.ref T2])) (mut_lst hacc6)
        refine ⟨acc, hacc6, sz1000 ?_, Kp.trans (Kb.trans kb3 kb6) m (fun c hc => .inr (by rw [hc]; exact hD)), ?_, acc ++ [V.ref T2], ul ++ [(pr.1, pr.2, opt)], upd_same, ?_, by rw [List.length_append, ull] <;> rfl, fun u hu => ?_⟩
        · rw [dpa_length hul, List.length_map]
          omega
        · obtain ⟨x1, y1, c1, e1, r0, r1, r2, r3, r4⟩ := hb4.same (s5.trans s6)
          exact ⟨x1, y1, c1, by rw [upd_ne (Ne.symm nDb)]; exact e1, r0, r1, r2, r3, by omega⟩
        · rw [List.map_append]
          have tdu : ∀ d ∈ ul.map usD, td 1 d := fun d hd => by
            obtain ⟨u, _, rfl⟩ := List.mem_map.mp hd
            exact td_us u
          refine dpa_app (dpa_kp m (n := 1) tdu (dpa_kp kb6 (n := 1) tdu hul)) (.cons ?_ .nil)
          have h2 : DpAll K H2 (x0 :: xr) [.str pr.1, .str pr.2] := hxs
          have e3 : (x0 :: xr : List V) = [V.str pr.1, V.str pr.2] := dpa_strs_eq (xs := [pr.1, pr.2]) h2
          refine Dp.tup (xs := (x0 :: xr) ++ [.bl opt]) (m.sqT (SqT.of upd_same)) ?_
          rw [e3]
          exact .cons (.str _) (.cons (.str _) (.cons (.bl _) .nil))
        · rcases List.mem_append.mp hu with hu | hu
          · exact uok u hu
          · rw [List.mem_singleton.mp hu]
            exact pok pr (List.mem_of_getElem? hpr)
      · rintro H3 ⟨kb3, hb3, acc, ul, hacc, hul, ull, uok⟩
        have ul3 : ul.length ≤ 3 := by
          rw [ull, dpa_length hps, List.length_map]
          exact pl
        refine ⟨D, acc, rfl, .inl ⟨SqL.of hacc, fun tu ntu => ?_⟩⟩
        have s4 : Same H3 (upd H3 tu (.tup acc)) := same_new ntu
        have kb4 : Kb b H1 (upd H3 tu (.tup acc)) := Kb.trans (Kb.trans kb2 kb3) (Kp.same s4)
        refine ⟨_, rfl, _, rfl, _, rfl, _, rfl, (by show 4 ≤ sizeLine; decide), fun T nT => ?_⟩
        have s5 : Same (upd H3 tu (.tup acc)) (upd (upd H3 tu (.tup acc)) T (.tup [.str own, .ref tn, .ref tdf, .ref tu])) := same_new nT
        have kb5 := Kb.trans kb4 (Kp.same s5)
        have tdn : td 2 (.tuple (needs.map .str)) := td_strs (by omega)
        have tdd : td 2 (.tuple (defs.map dfD)) := td_map (by omega) fun d _ => td_df d
        refine k _ _ ⟨own, needs, defs, ul⟩ (Kb.trans kb1 kb5) ?_ (.tup (SqT.of upd_same) (.cons (.str own) (.cons (dp_kp kb5 tdn hn) (.cons (dp_kp kb5 tdd hdf) (.cons ?_ .nil))))) rfl nsub n8 d8 (by show ul.length ≤ 8; omega) dok uok
        · refine (hb3.same (s4.trans s5)).mono ?_
          rw [dpa_length hps, List.length_map]
          omega
        · exact .tup (same_sqT s5 (SqT.of upd_same)) (dpa_same (s4.trans s5) hul)
    refine ⟨_, PSs.nox (pss_cons (ps_set (i := 4) scLib.nd rfl (Or.inl rfl) (pe_callTy (tupK (K := K)) (by rfl) B.tuple bt_tuple (pa_cons (pe_call GS hr2 rfl gS kS bS .nil pass0 (pa_cons (pv 0) (pa_cons
          (pe_lc (own := [("_law_one", 7)]) (g := gName 7) rfl scLib.nd (pi_listK (K := K) (pv 2)) (blkOk_by (N := ["_law_box_here", "_law_own", "_law_others", "_law_is_main", "_law_needs", "_law_defs", "_law_uses", "_law_one", "_law_pair"]) (sc := defScope sLib) (by decide +kernel))
            (fun _ _ _ _ _ => pg_name (i := 7) scLib.nd rfl (Or.inl rfl)) (fun _ _ _ _ _ => pts_one (pt_cmpR op_ne (pv 7) (pv 1) (nomark _))) (fun _ _ _ _ _ => pv 7)) (pa_cons pe_int pa_nil)))) pa_nil)))
      (pss_cons (ps_set (i := 5) scLib.nd rfl (Or.inl rfl) (pe_callTy (tupK (K := K)) (by rfl) B.tuple bt_tuple (pa_cons (pe_call GP hr rfl gP kP bP .nil pass0 (pa_cons (pv 0) (pa_cons (pe_ifExp (pt_val (pv 3)) pe_int pe_int) pa_nil))) pa_nil))) w2)), ?_⟩
    refine ⟨_, rfl, _, rfl, lo, rfl, ⟨_, SqL.of hlo⟩, fun D hD => ?_⟩
    refine rd_filter (f := fun x => !decide (x = own)) hD hlo (by omega) (fun x H2 R s2 kr => ⟨_, rfl, _, rfl, rfl, _, rfl, ?_⟩) (Nat.le_of_ble_eq_true rfl) (fun H1 s1 e1 => ?_)
    · have e : (!decide (V.str x = V.str own)) = !decide (x = own) := by rw [dec_str]
      rw [e]
      exact kr _ (Same.refl _)
    refine ⟨b, D, 2, n, _, rfl, hb.same s1, by omega, by decide, e1, Nat.le_trans (List.length_filter_le _ _) (by omega), fun x hx => ook x (List.mem_filter.mp hx).1, fun H2 ln needs kb2 hb2 nln hln nl nsub => ?_⟩
    refine ⟨ln, _, rfl, .inl ⟨SqL.of hln, fun tn ntn => ?_⟩⟩
    have s3 : Same H2 (upd H2 tn (.tup (needs.map V.str))) := same_new ntn
    have kb3 : Kb b H (upd H2 tn (.tup (needs.map V.str))) := Kb.trans (Kb.trans (Kp.same s1) kb2) (Kp.same s3)
    have hb3 := hb2.same s3
    have hn3 : Dp K (upd H2 tn (.tup (needs.map V.str))) (.ref tn) (.tuple (needs.map .str)) := .tup (SqT.of upd_same) (dpa_strs needs)
    generalize upd H2 tn (.tup (needs.map V.str)) = H3 at kb3 hb3 hn3 ⊢
    have fin : ∀ m : Nat, m ≤ 3 → spPairs K [.ref b, .int (m : Int)] H3 (fun x H1 => rTupO K [x] H1 fun x H1 => t2 { nx := fun _ H' => Q .non H', rt := Q } [some (.ref b), some (.str own), some (.ref lo), some (.bl isM), some (.ref tn), some x, none, none, none] H1) E0 := fun m m3 =>
      ⟨b, m, n + 3, rfl, hb3, by omega, by omega, fun H4 lp us ds kb4 hb4 nlp hlp hds dl dok => ⟨lp, _, rfl, .inl ⟨SqL.of hlp, fun td ntd => by
        have s5 : Same H4 (upd H4 td (.tup us)) := same_new ntd
        have kb5 : Kb b H3 (upd H4 td (.tup us)) := Kb.trans kb4 (Kp.same s5)
        have nsub2 : ∀ x ∈ needs, x ∈ others := fun x hx => (List.mem_filter.mp (nsub x hx)).1
        exact r2 _ tn td needs ds (Kb.trans kb3 kb5) ((hb4.same s5).mono (by omega)) (dp_kp kb5 (n := 1) (td_strs (by omega)) hn3) (.tup (SqT.of upd_same) (dpa_same s5 hds)) nsub2 (by omega) (by omega) dok⟩⟩⟩
    cases isM with
    | true => exact ⟨_, rfl, _, rfl, _, rfl, iteT (fin 1 (by decide))⟩
    | false => exact ⟨_, rfl, _, rfl, _, rfl, iteF (fin 3 (by decide))⟩
end
end K10
end
section
set_option maxHeartbeats 4000000
/-! LH: the law's program. -/
namespace K10
open PySem PySem.Spec PyProof.Rows L2
def LibGood (others : List Str) (l : Lib) : Prop := (∀ x ∈ l.needs, x ∈ others) ∧ l.needs.length ≤ 8 ∧ l.defs.length ≤ 8 ∧ l.uses.length ≤ 8 ∧ (∀ d ∈ l.defs, okP d) ∧ (∀ u ∈ l.uses, okU u)
theorem prg_ok {n0 : Str} {others : List Str} {ls : List Lib} {early : List Str} {doors : List (Str × Str)} (hn : ls.map (·.name) = n0 :: others) (nd : (n0 :: others).Nodup) (pool : ∀ y ∈ n0 :: others, y ∈ pool10) (l8 : (n0 :: others).length ≤ 8) (g : ∀ l ∈ ls, LibGood others l) (es : ∀ x ∈ early, x ∈ others) (e8 : early.length ≤ 8) (ds : ∀ d ∈ doors, d.1 ∈ others) (d8 : doors.length ≤ 8) : Prg.Ok ⟨ls, early, doors⟩ := by
  have names : Prg.names ⟨ls, early, doors⟩ = n0 :: others := hn
  have sub : ∀ x ∈ others, x ∈ Prg.names ⟨ls, early, doors⟩ := fun x hx => by rw [names]; exact List.mem_cons_of_mem _ hx
  refine ⟨fun e => ?_, ?_, by rw [names]; exact nd, fun l hl x hx => sub x ((g l hl).1 x hx), fun x hx => sub x (es x hx), fun d hd => sub _ (ds d hd), e8, d8, fun l hl => ⟨(g l hl).2.1, (g l hl).2.2.1, (g l hl).2.2.2.1⟩, fun l hl => ⟨?_, (g l hl).2.2.2.2.1, (g l hl).2.2.2.2.2⟩⟩
  · have e : ls = [] := e
    rw [e] at hn
    cases hn
  · show ls.length ≤ 8
    rw [← List.length_map (f := (·.name)) , hn]
    exact l8
  · exact pool_ok _ (pool _ (by rw [← hn]; exact List.mem_map.mpr ⟨l, hl, rfl⟩))
theorem td_good {others : List Str} {l : Lib} (h : LibGood others l) : td 3 (lbD l) := td_lb ⟨h.2.1, h.2.2.1, h.2.2.2.1⟩
theorem td_goods {others : List Str} {ls : List Lib} (h : ∀ l ∈ ls, LibGood others l) : ∀ d ∈ ls.map lbD, td 3 d := fun d hd => by
  obtain ⟨l, hl, rfl⟩ := List.mem_map.mp hd
  exact td_good (h l hl)
/-- doors so far: pairs at addresses -/
def DrAt (others : List Str) (H : Hp) (cs : List Addr) (ds : List (Str × Str)) : Prop := Paired (fun c d => H c = some (.tup [.str d.1, .str d.2]) ∧ d.1 ∈ others ∧ okP d) cs ds
theorem DrAt.dp {K : PySem.W.Frag} {others : List Str} {H : Hp} : ∀ {cs : List Addr} {ds : List (Str × Str)}, DrAt others H cs ds → DpAll K H (cs.map V.ref) (ds.map dfD)
  | _, _, .nil => .nil
  | _, _, .cons h t => .cons (.tup (SqT.of h.1) (.cons (.str _) (.cons (.str _) .nil))) (DrAt.dp t)
theorem DrAt.kp {others : List Str} {F : Addr → Prop} {H H' : Hp} {cs : List Addr} {ds : List (Str × Str)} (k : Kp F H H') (h : DrAt others H cs ds) : DrAt others H' cs ds := paired_imp (fun c d z => ⟨k.tup _ _ z.1, z.2⟩) h
theorem DrAt.ok {others : List Str} {H : Hp} : ∀ {cs : List Addr} {ds : List (Str × Str)}, DrAt others H cs ds → ∀ d ∈ ds, d.1 ∈ others ∧ okP d
  | _, _, .cons h t, d, hd => by
    rcases List.mem_cons.mp hd with rfl | hd
    · exact h.2
    · exact DrAt.ok t d hd
theorem shp_df {n : Nat} {d : Str × Str} (h : okP d) : shp (n + 1) (dfD d) := shp_tuple fun e he => by
  simp only [List.mem_cons, List.not_mem_nil, or_false] at he
  rcases he with rfl | rfl
  · exact shp_str h.1
  · exact shp_str h.2
theorem rep1 (b : Bool) (x : V) : (List.replicate (if b = true then (1 : Int) else 0).toNat [x]).flatten = if b = true then [x] else [] := by cases b <;> rfl
section
variable {P : Program} {w : World} {K : PySem.W.Frag} {mg : Str → Option Value} {base : Heap}
abbrev sProg : Stmt := top 47
abbrev nProg : List Str := ["_law_box_here", "_law_most", "_law_gates", "_law_folk", "_law_others", "_law_libs", "_law_own", "_law_doors", "_law_time", "_law_door", "_law_early"]
theorem scProg : FnScope ["_law_box_here", "_law_most", "_law_gates", "_law_folk", "_law_others", "_law_libs", "_law_own", "_law_doors", "_law_time", "_law_door", "_law_early"] ["_law_box_here", "_law_most", "_law_gates"] (defScope sProg) := ⟨rfl, rfl, rfl, by decide +kernel, rfl, by decide +kernel, by decide +kernel⟩
def spProg (K : PySem.W.Frag) : Sp := fun vs H Q _ => ∃ (b : Addr) (n : Nat), vs = [.ref b, .int 5, .int 4] ∧ BoxAt n H b ∧ n ≤ 700000 ∧
  ∀ H' v (p : Prg), Kb b H H' → BoxAt (n + 200) H' b → Dp K H' v (prD p) → p.Ok → p.doors ≠ [] → p.doors.length ≤ 4 → Q v H'
theorem modes : ∀ v ∈ [V.str "global", V.str "local", V.str "deep", V.str "global"], ∃ x, v = V.str x ∧ okS x = true := fun v hv => by
  simp only [List.mem_cons, List.not_mem_nil, or_false] at hv
  rcases hv with rfl | rfl | rfl | rfl <;> exact ⟨_, rfl, by decide +kernel⟩
theorem un65 {k : Nat} {A : Around} (r : Room k A) : A.units + 65 < cLine := by have := r.un; omega
theorem ok_prog {f : Addr} {fd : FuncData} (B : Bl mg) (F : DefAt K "_law_program" "_law_program" sProg f fd) (GT : Glb P w K mg base CX0 1 "_law_take" ["_law_box_here", "_law_many"] spTake)
    (GN : Glb P w K mg base CX0 2 "_law_names" ["_law_box_here", "_law_many"] spNames) (GP : Glb P w K mg base CX0 2 "_law_pick" ["_law_box_here", "_law_some_here"] spPick) (GS : Glb P w K mg base CX0 2 "_law_some" ["_law_box_here", "_law_some_here", "_law_most"] spSome)
    (GL : Glb P w K mg base CX0 4 "_law_lib" ["_law_box_here", "_law_own", "_law_others", "_law_is_main"] (spLib K)) : FnOk P w K mg base CX0 5 f fd ["_law_box_here", "_law_most", "_law_gates"] (spProg K) := by
  obtain ⟨fT, fdT, GT, gT, kT, bT⟩ := GT.ex
  obtain ⟨fN, fdN, GN, gN, kN, bN⟩ := GN.ex
  obtain ⟨fP, fdP, GP, gP, kP, bP⟩ := GP.ex
  obtain ⟨fS, fdS, GS, gS, kS, bS⟩ := GS.ex
  obtain ⟨fL, fdL, GL, gL, kL, bL⟩ := GL.ex
  refine F.ok scProg (fun vs H Q E h => ?_) (fun cdv A outer s H vs Q E hr h => ?_)
  · obtain ⟨b, n, rfl, _⟩ := h
    rfl
  · obtain ⟨b, n, rfl, hb, n6, k⟩ := h
    have hr1 : Room 1 _ := hr.mono (by decide)
    have hr2 : Room 2 _ := hr.mono (by decide)
    -- the end: early, the tuple
    obtain ⟨t3, w3, r3⟩ : ∃ t3, PSs (cxOf CX0 P w K mg base nProg "_law_program" (defScope sProg) f cdv A outer s H E).nox ((defBody sProg).drop 5) t3 ∧
        ∀ H1 v6 v8 v9 (lf lo ll ld : Addr) (n0 : Str) (others : List Str) (ls : List Lib) (lv : List V) (cs : List Addr) (ds : List (Str × Str)), Kb b H H1 → BoxAt (n + 140) H1 b → lo ≠ b → H1 lo = some (.lst (others.map V.str)) → ll ≠ b → H1 ll = some (.lst lv) → DpAll K H1 lv (ls.map lbD) → ld ≠ b → H1 ld = some (.lst (cs.map V.ref)) → DrAt others H1 cs ds →
          ls.map (·.name) = n0 :: others → (n0 :: others).Nodup → (∀ y ∈ n0 :: others, y ∈ pool10) → (n0 :: others).length ≤ 8 → (∀ l ∈ ls, LibGood others l) → ds ≠ [] → ds.length ≤ 4 →
          t3 { nx := fun _ H' => Q .non H', rt := Q } [some (.ref b), some (.int 5), some (.int 4), some (.ref lf), some (.ref lo), some (.ref ll), v6, some (.ref ld), v8, v9, none] H1 := by
      refine ⟨_, pss_cons (ps_set (i := 10) scProg.nd rfl (Or.inl rfl) (pe_ifExp (pt_cmpR op_eq (pe_call GT hr1 rfl gT kT bT .nil pass0 (pa_cons (pv 0) (pa_cons pe_int pa_nil))) pe_int (nomark _))
          (pe_call GS hr2 rfl gS kS bS .nil pass0 (pa_cons (pv 0) (pa_cons (pv 4) (pa_cons (pe_op op_add pe_int (pe_callTy call_int1 (by rfl) B.int bt_int (pa_cons (pe_cmpR op_eq (pe_call GT hr1 rfl gT kT bT .nil pass0 (pa_cons (pv 0) (pa_cons pe_int pa_nil))) pe_int (nomark _)) pa_nil))) pa_nil)))) (pe_lst pa_nil)))
        (pss_one (ps_ret (pe_tup (pa_cons (pe_callTy (tupK (K := K)) (by rfl) B.tuple bt_tuple (pa_cons (pv 5) pa_nil)) (pa_cons (pe_callTy (tupK (K := K)) (by rfl) B.tuple bt_tuple (pa_cons (pv 10) pa_nil)) (pa_cons (pe_callTy (tupK (K := K)) (by rfl) B.tuple bt_tuple (pa_cons (pv 7) pa_nil)) pa_nil)))))), ?_⟩
      intro H1 v6 v8 v9 lf lo ll ld n0 others ls lv cs ds kb1 hb1 nlo hlo nll hll hlv nld hld hdr hnm hnd hpool hl8 hgood dne d4
      -- behind early
      have fin : ∀ H2 (le : Addr) (ys : List Str), Kb b H1 H2 → BoxAt (n + 150) H2 b → H2 le = some (.lst (ys.map V.str)) → ys.length ≤ 8 → (∀ y ∈ ys, y ∈ others) →
          tTup (tCons (tCB (rTupO K) (tCons (tVar 5) tNil)) (tCons (tCB (rTupO K) (tCons (tVar 10) tNil)) (tCons (tCB (rTupO K) (tCons (tVar 7) tNil)) tNil))) [some (.ref b), some (.int 5), some (.int 4), some (.ref lf), some (.ref lo), some (.ref ll), v6, some (.ref ld), v8, v9, some (.ref le)] H2 Q := by
        intro H2 le ys kb2 hb2 hle y8 ysub
        refine ⟨_, rfl, ll, _, rfl, .inl ⟨SqL.of (kb2.keep _ _ nll hll), fun t1 n1 => ?_⟩⟩
        have s1 : Same H2 (upd H2 t1 (.tup lv)) := same_new n1
        refine ⟨_, rfl, le, _, rfl, .inl ⟨SqL.of (s1 _ _ hle), fun t2 n2 => ?_⟩⟩
        have s2 : Same (upd H2 t1 (.tup lv)) (upd (upd H2 t1 (.tup lv)) t2 (.tup (ys.map V.str))) := same_new n2
        refine ⟨_, rfl, ld, _, rfl, .inl ⟨SqL.of (s2 _ _ (s1 _ _ (kb2.keep _ _ nld hld))), fun t3 n3 => ?_⟩⟩
        have s3 : Same (upd (upd H2 t1 (.tup lv)) t2 (.tup (ys.map V.str))) (upd (upd (upd H2 t1 (.tup lv)) t2 (.tup (ys.map V.str))) t3 (.tup (cs.map V.ref))) := same_new n3
        refine ⟨(by show 3 ≤ sizeLine; decide), fun T nT => ?_⟩
        have s4 : Same (upd (upd (upd H2 t1 (.tup lv)) t2 (.tup (ys.map V.str))) t3 (.tup (cs.map V.ref))) (upd (upd (upd (upd H2 t1 (.tup lv)) t2 (.tup (ys.map V.str))) t3 (.tup (cs.map V.ref))) T (.tup [.ref t1, .ref t2, .ref t3])) := same_new nT
        have s14 := ((s1.trans s2).trans s3).trans s4
        have kbT := Kb.trans (Kb.trans kb1 kb2) (Kp.same s14)
        refine k _ _ ⟨ls, ys, ds⟩ kbT ((hb2.same s14).mono (by omega)) (.tup (SqT.of upd_same) (.cons (.tup (same_sqT ((s2.trans s3).trans s4) (SqT.of upd_same)) ?_) (.cons (.tup (same_sqT (s3.trans s4) (SqT.of upd_same)) (dpa_strs ys)) (.cons (.tup (same_sqT s4 (SqT.of upd_same)) ?_) .nil)))) (prg_ok hnm hnd hpool hl8 hgood ysub y8 (fun d hd => (hdr.ok d hd).1) (by omega)) dne d4
        · exact dpa_same s14 (dpa_kp kb2 (n := 3) (td_goods hgood) hlv)
        · exact dpa_same s14 (DrAt.dp (hdr.kp kb2))
      have ook : ∀ x ∈ others, okS x = true := fun x hx => pool_ok x (hpool x (List.mem_cons_of_mem _ hx))
      have o8 : others.length ≤ 8 := by rw [List.length_cons] at hl8; omega
      refine ⟨_, rfl, b, 2, n + 140, rfl, hb1, by omega, by decide, by decide, fun H2 j kb2 hb2 hj => ⟨rfl, _, rfl, ?_⟩⟩
      generalize decide (V.int (j : Int) = V.int 0) = c1
      cases c1 with
      | false =>
        refine iteF ⟨Nat.zero_le _, fun le ne => ?_⟩
        exact fin _ le [] (Kb.trans kb2 (Kp.same (same_new ne))) ((hb2.same (same_new ne)).mono (by omega)) upd_same (Nat.zero_le _) fun _ h => (by cases h)
      | true =>
        refine iteT ⟨_, rfl, _, rfl, _, rfl, b, 4, n + 140 + 1, rfl, hb2, by omega, by decide, by decide, fun H3 j3 kb3 hb3 hj3 => ⟨rfl, .inr ⟨_, rfl, ?_⟩⟩⟩
        generalize decide (V.int (j3 : Int) = V.int 0) = c2
        have kb13 := Kb.trans kb2 kb3
        have go : ∀ m : Nat, m ≤ 2 → spSome [.ref b, .ref lo, .int (m : Int)] H3 (fun x H4 => tTup (tCons (tCB (rTupO K) (tCons (tVar 5) tNil)) (tCons (tCB (rTupO K) (tCons (tVar 10) tNil)) (tCons (tCB (rTupO K) (tCons (tVar 7) tNil)) tNil))) [some (.ref b), some (.int 5), some (.int 4), some (.ref lf), some (.ref lo), some (.ref ll), v6, some (.ref ld), v8, v9, some x] H4 Q) E0 := fun m m2 =>
          ⟨b, lo, m, n + 142, others, rfl, hb3, by omega, by omega, kb13.keep _ _ nlo hlo, by omega, ook, fun H4 le ys kb4 hb4 _ hle yl ysub => fin H4 le ys (Kb.trans kb13 kb4) (hb4.mono (by omega)) hle (by omega) ysub⟩
        cases c2 with
        | true => exact ⟨_, _, rfl, rfl, go 2 (by decide)⟩
        | false => exact ⟨_, _, rfl, rfl, go 1 (by decide)⟩
    -- the doors
    obtain ⟨t2, w2, r2⟩ : ∃ t2, PSs (cxOf CX0 P w K mg base nProg "_law_program" (defScope sProg) f cdv A outer s H E).nox ((defBody sProg).drop 3) t2 ∧
        ∀ H1 v6 (lf lo ll : Addr) (n0 : Str) (others : List Str) (ls : List Lib) (lv : List V), Kb b H H1 → BoxAt (n + 128) H1 b → lo ≠ b → H1 lo = some (.lst (others.map V.str)) → others ≠ [] → ll ≠ b → H1 ll = some (.lst lv) → DpAll K H1 lv (ls.map lbD) →
          ls.map (·.name) = n0 :: others → (n0 :: others).Nodup → (∀ y ∈ n0 :: others, y ∈ pool10) → (n0 :: others).length ≤ 8 → (∀ l ∈ ls, LibGood others l) →
          t2 { nx := fun _ H' => Q .non H', rt := Q } [some (.ref b), some (.int 5), some (.int 4), some (.ref lf), some (.ref lo), some (.ref ll), v6, none, none, none, none] H1 := by
      refine ⟨_, pss_cons (ps_set (i := 7) scProg.nd rfl (Or.inl rfl) (pe_lst pa_nil)) (pss_cons (ps_for PassesOwn.never rfl (pi_range1 rfl B.range (pa_cons (pe_op op_add pe_int (pe_call GT hr1 rfl gT kT bT .nil pass0 (pa_cons (pv 0) (pa_cons (pv 2) pa_nil)))) pa_nil)) (pg_name (i := 8) scProg.nd rfl (Or.inl rfl))
          (pss_cons (ps_set (i := 9) scProg.nd rfl (Or.inl rfl) (pe_tup (pa_cons (pe_call GP hr2 rfl gP kP bP .nil pass0 (pa_cons (pv 0) (pa_cons (pv 4) pa_nil))) (pa_cons (pe_call GP hr2 rfl gP kP bP .nil pass0 (pa_cons (pv 0) (pa_cons (pe_lst (pa_cons pe_str (pa_cons pe_str (pa_cons pe_str (pa_cons pe_str pa_nil))))) pa_nil))) pa_nil))))
          (pss_one (ps_set (i := 7) scProg.nd rfl (Or.inl rfl) (pe_op op_cat (pv 7) (pe_op op_rep (pe_lst (pa_cons (pv 9) pa_nil)) (pe_callTy call_int1 (by rfl) B.int bt_int (pa_cons (pe_cmpR (op_notInD (un65 hr)) (pv 9) (pv 7) (by rfl)) pa_nil)))))))) w3), ?_⟩
      intro H1 v6 lf lo ll n0 others ls lv kb1 hb1 nlo hlo one nll hll hlv hnm hnd hpool hl8 hgood
      have ook : ∀ x ∈ others, okS x = true := fun x hx => pool_ok x (hpool x (List.mem_cons_of_mem _ hx))
      have o8 : others.length ≤ 8 := by rw [List.length_cons] at hl8; omega
      refine ⟨Nat.zero_le _, fun d0 nd0 => ?_⟩
      have s0 : Same H1 (upd H1 d0 (.lst [])) := same_new nd0
      have hd0 := upd_same (H := H1) (a := d0) (o := .lst [])
      refine ⟨_, rfl, _, rfl, b, 4, n + 128, rfl, hb1.same s0, by omega, by decide, by decide, fun H2 t kb2 hb2 ht => ⟨_, _, rfl, rfl, ?_⟩⟩
      have nd0b : d0 ≠ b := lst_ne hb1 nd0
      have kb12 : Kb b H1 H2 := Kb.trans (Kp.same s0) kb2
      refine ⟨_, rfl, by omega, by omega, for_range (lo := 0) (n := (1 + (t : Int)).toNat) (fun i σ H' => ∃ (v8 v9 : Option V) (ld : Addr) (cs : List Addr) (ds : List (Str × Str)), σ = [some (.ref b), some (.int 5), some (.int 4), some (.ref lf), some (.ref lo), some (.ref ll), v6, some (.ref ld), v8, v9, none] ∧ Kb b H1 H' ∧ BoxAt (n + 129 + 2 * i) H' b ∧ ld ≠ b ∧ H' ld = some (.lst (cs.map V.ref)) ∧ DrAt others H' cs ds ∧ ds.length ≤ i ∧ (i ≠ 0 → ds ≠ []))
        ⟨none, none, d0, [], [], rfl, kb12, hb2, nd0b, kb2.keep _ _ nd0b hd0, .nil, Nat.le_refl _, fun z => absurd rfl z⟩ ?_ ?_⟩
      · rintro i σ H' hi ⟨v8, v9, ld, cs, ds, rfl, kb, hb', nld, hld, hdr, dl, dne⟩
        have i4 : i < 4 := by omega
        refine ⟨_, rfl, _, rfl, b, lo, n + 129 + 2 * i, _, rfl, hb', by omega, nlo, kb.keep _ _ nlo hlo, by simpa using one, (by rw [List.length_map]; omega), fun H3 v1 kb3 hb3 hv1 => ?_⟩
        obtain ⟨x, hx, rfl⟩ := List.mem_map.mp hv1
        refine ⟨_, rfl, (by show 4 ≤ sizeLine; decide), fun l2 n2 => ⟨b, l2, n + 129 + 2 * i + 1, _, rfl, hb3.same (same_new n2), by omega, lst_ne hb3 n2, upd_same, List.cons_ne_nil _ _, (by show 4 ≤ 1000; decide), fun H4 v2 kb4 hb4 hv2 => ?_⟩⟩
        obtain ⟨y, rfl, oy⟩ := modes v2 hv2
        have kb34 : Kb b H' H4 := Kb.trans (Kb.trans kb3 (Kp.same (same_new n2))) kb4
        refine ⟨(by show 2 ≤ sizeLine; decide), fun T nT => ?_⟩
        have sT : Same H4 (upd H4 T (.tup [.str x, .str y])) := same_new nT
        have hT := upd_same (H := H4) (a := T) (o := .tup [.str x, .str y])
        have kbT : Kb b H' (upd H4 T (.tup [.str x, .str y])) := Kb.trans kb34 (Kp.same sT)
        have hbT := hb4.same sT
        generalize upd H4 T (.tup [.str x, .str y]) = H5 at kbT hbT hT ⊢
        have hld5 := kbT.keep _ _ nld hld
        have hdr5 := hdr.kp kbT
        have od : okP (x, y) := ⟨ook x hx, oy⟩
        refine ⟨_, rfl, _, rfl, (by show 1 ≤ sizeLine; decide), fun L1 nL1 => ?_⟩
        have sL : Same H5 (upd H5 L1 (.lst [.ref T])) := same_new nL1
        have hL1 := upd_same (H := H5) (a := L1) (o := .lst [.ref T])
        generalize upd H5 L1 (.lst [.ref T]) = H6 at sL hL1 ⊢
        have hld6 := sL _ _ hld5
        have hdr6 := hdr5.kp (Kp.same (F := fun c => c = b) sL)
        refine ⟨_, rfl, _, rfl, dfD (x, y), ds.map dfD, .tup (SqT.of (sL _ _ hT)) (.cons (.str _) (.cons (.str _) .nil)), .lst (SqL.of hld6) hdr6.dp, shp_ok (shp_df (n := 0) od) (by decide), shp_ok (n := 2) (shp_list fun d hd => by
          obtain ⟨e, he, rfl⟩ := List.mem_map.mp hd
          exact shp_df (n := 0) (hdr6.ok e he).2) (by decide), .inr ⟨_, rfl, ?_⟩⟩
        generalize hin : (!(ds.map dfD).any fun z => PyData.eqv z (dfD (x, y))) = isin
        refine ⟨L1, _, _, rfl, rfl, hL1, (by cases isin <;> decide), (by cases isin <;> decide), Nat.le_trans (m := 1) (by cases isin <;> exact Nat.le_of_ble_eq_true rfl) (by decide), fun L2 nL2 => ?_⟩
        rw [rep1]
        have sL2 : Same H6 (upd H6 L2 (.lst (if isin = true then [V.ref T] else []))) := same_new nL2
        refine ⟨ld, L2, _, _, rfl, rfl, sL2 _ _ hld6, upd_same, ?_, fun L3 nL3 => ?_⟩
        · have q := Paired.length hdr
          rw [List.length_map, sizeLine_eq]
          cases isin <;> simp <;> omega
        · have sL3 : Same (upd H6 L2 (.lst (if isin = true then [V.ref T] else []))) (upd (upd H6 L2 (.lst (if isin = true then [V.ref T] else []))) L3 (.lst (cs.map V.ref ++ if isin = true then [V.ref T] else []))) := same_new nL3
          have sA := (sL.trans sL2).trans sL3
          have kbA : Kb b H1 (upd (upd H6 L2 (.lst (if isin = true then [V.ref T] else []))) L3 (.lst (cs.map V.ref ++ if isin = true then [V.ref T] else []))) := Kb.trans kb (Kb.trans kbT (Kp.same sA))
          have nL3b : L3 ≠ b := lst_ne ((hbT.same sL).same sL2) nL3
          refine ⟨_, _, L3, if isin = true then cs ++ [T] else cs, if isin = true then ds ++ [(x, y)] else ds, rfl, kbA, (hbT.same sA).mono (by omega), nL3b, ?_, ?_, ?_, fun _ => ?_⟩
          · rw [upd_same]
            cases isin
            · simp
            · simp
          · have hdA := hdr5.kp (Kp.same (F := fun c => c = b) sA)
            cases isin with
            | false => exact hdA
            | true => exact paired_snoc hdA ⟨sA _ _ hT, hx, od⟩
          · cases isin with
            | false => exact Nat.le_succ_of_le dl
            | true =>
              show (ds ++ [(x, y)]).length ≤ i + 1
              rw [List.length_append]
              exact Nat.succ_le_succ dl
          · cases isin with
            | true => exact fun z => by simp at z
            | false =>
              intro z
              have z : ds = [] := z
              rw [z] at hin
              simp at hin
      · rintro σ H' ⟨v8, v9, ld, cs, ds, rfl, kb, hb', nld, hld, hdr, dl, dne⟩
        exact r3 H' v6 v8 v9 lf lo ll ld n0 others ls lv cs ds (Kb.trans kb1 kb) (hb'.mono (by omega)) nlo (kb.keep _ _ nlo hlo) nll (kb.keep _ _ nll hll) (dpa_kp kb (n := 3) (td_goods hgood) hlv) nld hld hdr hnm hnd hpool hl8 hgood (dne (by omega)) (by omega)
    -- the names, the libraries
    refine ⟨_, PSs.nox (pss_cons (ps_set (i := 3) scProg.nd rfl (Or.inl rfl) (pe_call GN hr2 rfl gN kN bN .nil pass0 (pa_cons (pv 0) (pa_cons (pe_op op_add pe_int (pe_call GT hr1 rfl gT kT bT .nil pass0 (pa_cons (pv 0) (pa_cons (pv 1) pa_nil)))) pa_nil))))
      (pss_cons (ps_par (i := 4) (j := 5) rfl scProg.nd rfl rfl (by decide) rfl rfl (pa_cons (pe_slice sl_list (pv 3) (po_some pe_int) po_none) (pa_cons (pe_lst pa_nil) pa_nil)) (by rfl))
      (pss_cons (ps_for PassesOwn.never rfl (pi_listK (K := K) (pv 3)) (pg_name (i := 6) scProg.nd rfl (Or.inl rfl))
        (pss_one (ps_expr (pe_bm PySem.F.plainAttrs_list PySem.F.slot_list_append PySem.F.type_list_append mt_append (pv 5) (pa_cons
          (pe_call GL hr rfl gL kL bL .nil pass0 (pa_cons (pv 0) (pa_cons (pv 6) (pa_cons (pv 4) (pa_cons (pe_cmpR op_eq (pv 6) (pe_ix (ixlK (K := K)) (pv 3) pe_int (fun _ _ => rfl)) (nomark _)) pa_nil))))) pa_nil))))) w2))), ?_⟩
    refine ⟨_, rfl, _, rfl, _, rfl, b, 5, n, rfl, hb, by omega, by decide, by decide, fun H1 t kb1 hb1 ht => ⟨_, _, rfl, rfl, ?_⟩⟩
    refine ⟨b, 2 + t, n + 1, (by rw [Int.natCast_add] <;> rfl), hb1, by omega, by omega, fun H2 lf folk kb2 hb2 nlf hlf fl fnd fpool => ?_⟩
    cases folk with
    | nil => exact absurd fl (by show ¬ (0 : Nat) = 2 + t; omega)
    | cons n0 others =>
    have ol : others.length = 1 + t := by rw [List.length_cons] at fl; omega
    have one : others ≠ [] := fun e => by rw [e] at ol; simp at ol; omega
    have cut : cutV ((n0 :: others).map V.str) (some 1) none = others.map V.str := by
      unfold cutV HT.sIx
      simp
      exact List.take_of_length_le (by simp)
    refine ⟨_, rfl, _, rfl, lf, _, rfl, SqL.of hlf, fun lo nlo => ?_⟩
    rw [cut]
    refine ⟨Nat.zero_le _, fun ll nll => ⟨_, _, rfl, ?_⟩⟩
    have so : Same H2 (upd H2 lo (.lst (others.map V.str))) := same_new nlo
    have sl : Same (upd H2 lo (.lst (others.map V.str))) (upd (upd H2 lo (.lst (others.map V.str))) ll (.lst [])) := same_new nll
    have hlo := sl _ _ (upd_same (H := H2) (a := lo) (o := .lst (others.map V.str)))
    have hll := upd_same (H := upd H2 lo (.lst (others.map V.str))) (a := ll) (o := .lst [])
    have nlob : lo ≠ b := lst_ne hb2 nlo
    have nllb : ll ≠ b := lst_ne (hb2.same so) nll
    have nlfb : lf ≠ b := lst_ne hb1 nlf
    have nlol : lo ≠ ll := fun z => by rw [← z, upd_same] at nll; cases nll
    have hlf3 := sl _ _ (so _ _ hlf)
    have nlfl : lf ≠ ll := fun z => by rw [← z, so _ _ hlf] at nll; cases nll
    have kb3 : Kb b H (upd (upd H2 lo (.lst (others.map V.str))) ll (.lst [])) := Kb.trans (Kb.trans kb1 kb2) (Kp.same (so.trans sl))
    have hb3 := hb2.same (so.trans sl)
    have nllH : H ll = none := free_b (Kb.trans kb1 kb2) hb2 (so.free nll)
    have ook : ∀ x ∈ others, okS x = true := fun x hx => pool_ok x (fpool x (List.mem_cons_of_mem _ hx))
    refine ⟨_, rfl, lf, rfl, ⟨_, SqL.of hlf3⟩, for_list (K := K) (a := lf) (xs := (n0 :: others).map V.str) (fun i σ H' => ∃ (v6 : Option V) (lv : List V) (ls : List Lib), σ = [some (.ref b), some (.int 5), some (.int 4), some (.ref lf), some (.ref lo), some (.ref ll), v6, none, none, none, none] ∧ Kb b H H' ∧ BoxAt (n + 1 + (2 + t) + 20 * i) H' b ∧ H' lf = some (.lst ((n0 :: others).map V.str)) ∧ H' lo = some (.lst (others.map V.str)) ∧
        H' ll = some (.lst lv) ∧ DpAll K H' lv (ls.map lbD) ∧ ls.map (·.name) = (n0 :: others).take i ∧ ∀ l ∈ ls, LibGood others l)
      ⟨none, [], [], rfl, kb3, hb3, hlf3, hlo, hll, .nil, rfl, fun _ h => (by cases h)⟩ (fun i σ H' _ h => by
        obtain ⟨_, _, _, _, _, _, z, _⟩ := h
        exact SqL.of z) ?_ ?_⟩
    · rintro i x σ H' hx ⟨v6, lv, ls, rfl, kb, hb', hlf', hlo', hll', hlv, hnm, hgood⟩
      rw [List.getElem?_map] at hx
      obtain ⟨own, ho, rfl⟩ := Option.map_eq_some_iff.mp hx
      have il : i < (n0 :: others).length := (List.getElem?_eq_some_iff.mp ho).1
      have i7 : i < 7 := by rw [List.length_cons] at il; omega
      refine ⟨_, rfl, .inl ⟨rfl, _, SqL.of hll'⟩, _, rfl, _, rfl, _, rfl, _, rfl, _, rfl, lf, _, _, .str n0, rfl, rfl, SqL.of hlf', atI_nat (j := 0) rfl, rfl, b, lo, own, _, n + 1 + (2 + t) + 20 * i, others, rfl, hb', by omega, hlo', nlob, by omega, ook, fun H4 v l kb4 hb4 hl e1 e2 e3 e4 e5 e6 e7 => ?_⟩
      have hll4 := kb4.keep _ _ nllb hll'
      have good : LibGood others l := ⟨e2, e3, e4, e5, e6, e7⟩
      have lvl : lv.length = ls.length := by rw [dpa_length hlv, List.length_map]
      have lsl : ls.length = i := by
        have q := congrArg List.length hnm
        rw [List.length_map, List.length_take] at q
        omega
      refine ⟨ll, _, _, rfl, rfl, hll4, sz1000 (by omega), ?_⟩
      have m := kp_at (o := .lst (lv ++ [v])) (mut_lst hll4)
      refine ⟨_, lv ++ [v], ls ++ [l], rfl, Kp.trans (Kb.trans kb kb4) m (fun c hc => .inr (by rw [hc]; exact nllH)), ?_, ?_, ?_, upd_same, ?_, ?_, fun l2 h2 => ?_⟩
      · obtain ⟨x1, y1, c1, f1, r0, r1, r2, r3, r4⟩ := hb4
        exact ⟨x1, y1, c1, by rw [upd_ne (Ne.symm nllb)]; exact f1, r0, r1, r2, r3, by omega⟩
      · rw [upd_ne nlfl]
        exact kb4.keep _ _ nlfb hlf'
      · rw [upd_ne nlol]
        exact kb4.keep _ _ nlob hlo'
      · rw [List.map_append]
        exact dpa_app (dpa_kp m (n := 3) (td_goods hgood) (dpa_kp kb4 (n := 3) (td_goods hgood) hlv)) (.cons (dp_kp m (td_good good) hl) .nil)
      · rw [List.map_append, hnm, List.take_succ, ho, List.map_cons, e1] <;> rfl
      · rcases List.mem_append.mp h2 with h2 | h2
        · exact hgood l2 h2
        · rw [List.mem_singleton.mp h2]
          exact good
    · rintro σ H' ⟨v6, lv, ls, rfl, kb, hb', hlf', hlo', hll', hlv, hnm, hgood⟩
      rw [List.length_map, List.take_length] at hnm
      have l6 : (n0 :: others).length ≤ 6 := by omega
      refine r2 H' v6 lf lo ll n0 others ls lv kb (hb'.mono ?_) nlob hlo' one nllb hll' hlv hnm fnd fpool (by omega) hgood
      rw [List.length_map]
      omega
end
end K10
end
section
set_option maxHeartbeats 4000000
/-! LI: the law's step. -/
namespace K10
open PySem PySem.Spec PyProof.Rows L2
def CallOk (p : Prg) (t : Stp) : Prop := StpOk p t ∧ t.isCall = true
theorem td_stps {ts : List Stp} : ∀ d ∈ ts.map stpD, td 1 d := fun d hd => by
  obtain ⟨t, _, rfl⟩ := List.mem_map.mp hd
  exact td_stp t
theorem name_ok {p : Prg} (ok : p.Ok) {x : Str} (h : x ∈ p.names) : okS x = true := by
  obtain ⟨l, hl, rfl⟩ := List.mem_map.mp h
  exact (ok.sn l hl).1
theorem stp_shp {p : Prg} (ok : p.Ok) {t : Stp} (h : StpOk p t) : shp 1 (stpD t) := by
  have sO : okS "open" = true := by decide +kernel
  have sC : okS "close" = true := by decide +kernel
  have sL : okS "call" = true := by decide +kernel
  cases t with
  | opn k =>
    refine shp_tuple fun e he => ?_
    simp only [List.mem_cons, List.not_mem_nil, or_false] at he
    rcases he with rfl | rfl
    · exact shp_str sO
    · exact shp_int _
  | cls k =>
    refine shp_tuple fun e he => ?_
    simp only [List.mem_cons, List.not_mem_nil, or_false] at he
    rcases he with rfl | rfl
    · exact shp_str sC
    · exact shp_int _
  | call x i =>
    obtain ⟨u, hu⟩ := Option.isSome_iff_exists.mp h
    have ox := name_ok ok (use_name hu)
    refine shp_tuple fun e he => ?_
    simp only [List.mem_cons, List.not_mem_nil, or_false] at he
    rcases he with rfl | rfl | rfl
    · exact shp_str sL
    · exact shp_str ox
    · exact shp_int _
/-- a library of the program, by its place -/
theorem lib_own {p : Prg} (ok : p.Ok) {l : Lib} (h : l ∈ p.libs) : p.libOf l.name = some l := by
  have nd := ok.nd
  unfold Prg.names at nd
  unfold Prg.libOf
  generalize p.libs = ls at h nd
  induction ls with
  | nil => cases h
  | cons a ls ih =>
    rw [List.map_cons, List.nodup_cons] at nd
    rcases List.mem_cons.mp h with rfl | h
    · rw [List.find?_cons_of_pos (by simp)]
    · have ne : ¬ a.name = l.name := fun e => nd.1 (by rw [e]; exact List.mem_map.mpr ⟨l, h, rfl⟩)
      rw [List.find?_cons_of_neg (by simpa using ne)]
      exact ih h nd.2
theorem call_ok {p : Prg} (ok : p.Ok) {l : Lib} (h : l ∈ p.libs) {i : Nat} (hi : i < l.uses.length) : CallOk p (.call l.name i) := by
  refine ⟨?_, rfl⟩
  show ((p.libOf l.name).bind fun l => l.uses[i]?).isSome = true
  rw [lib_own ok h]
  show (l.uses[i]?).isSome = true
  rw [List.getElem?_eq_getElem hi] <;> rfl
section
variable {P : Program} {w : World} {K : PySem.W.Frag} {mg : Str → Option Value} {base : Heap}
abbrev sStep : Stmt := top 48
abbrev nStep : List Str := ["_law_box_here", "_law_plot", "_law_calls", "_law_lib_here", "_law_way", "_law_gate", "_law_spot"]
theorem scStep : FnScope ["_law_box_here", "_law_plot", "_law_calls", "_law_lib_here", "_law_way", "_law_gate", "_law_spot"] ["_law_box_here", "_law_plot"] (defScope sStep) := ⟨rfl, rfl, rfl, by decide +kernel, rfl, by decide +kernel, by decide +kernel⟩
def spStep (K : PySem.W.Frag) : Sp := fun vs H Q _ => ∃ (b : Addr) (vp : V) (n : Nat) (p : Prg), vs = [.ref b, vp] ∧ BoxAt n H b ∧ n ≤ 600000 ∧ Dp K H vp (prD p) ∧ p.Ok ∧ p.doors ≠ [] ∧
  ∀ H' v (t : Stp), Kb b H H' → BoxAt (n + 3) H' b → Dp K H' v (stpD t) → StpOk p t → Q v H'
theorem ocs : ∀ v ∈ [V.str "open", V.str "open", V.str "close"], v = V.str "open" ∨ v = V.str "close" := fun v hv => by
  simp only [List.mem_cons, List.not_mem_nil, or_false] at hv
  rcases hv with rfl | rfl | rfl
  · exact .inl rfl
  · exact .inl rfl
  · exact .inr rfl
theorem ok_step {f : Addr} {fd : FuncData} (B : Bl mg) (F : DefAt K "_law_step" "_law_step" sStep f fd) (GT : Glb P w K mg base CX0 1 "_law_take" ["_law_box_here", "_law_many"] spTake)
    (GP : Glb P w K mg base CX0 2 "_law_pick" ["_law_box_here", "_law_some_here"] spPick) : FnOk P w K mg base CX0 3 f fd ["_law_box_here", "_law_plot"] (spStep K) := by
  obtain ⟨fT, fdT, GT, gT, kT, bT⟩ := GT.ex
  obtain ⟨fP, fdP, GP, gP, kP, bP⟩ := GP.ex
  refine F.ok scStep (fun vs H Q E h => ?_) (fun cdv A outer s H vs Q E hr h => ?_)
  · obtain ⟨b, vp, n, p, rfl, _⟩ := h
    rfl
  · obtain ⟨b, vp, n, p, rfl, hb, n6, hp, ok, dne, k⟩ := h
    have hr1 : Room 1 _ := hr.mono (by decide)
    refine ⟨_, PSs.nox (pss_cons (ps_set (i := 2) scStep.nd rfl (Or.inl rfl) (pe_lst pa_nil))
      (pss_cons (ps_for PassesOwn.never rfl (pi_tupK (K := K) (pe_ix (ixtK (K := K)) (pv 1) pe_int (fun _ _ => rfl))) (pg_name (i := 3) scStep.nd rfl (Or.inr rfl))
        (pss_one (ps_set (i := 2) scStep.nd rfl (Or.inl rfl) (pe_op op_cat (pv 2) (pe_lc (own := [("_law_spot", 6)]) (g := gName 6) (tt := tYes) rfl scStep.nd (pi_range1 rfl B.range (pa_cons (pe_callB (lenK (K := K)) (by rfl) B.len bt_len (pa_cons (pe_ix (ixtK (K := K)) (pv 3) pe_int (fun _ _ => rfl)) pa_nil)) pa_nil))
          (blkOk_by (N := nStep) (sc := defScope sStep) (by decide +kernel)) (fun _ _ _ _ _ => pg_name (i := 6) scStep.nd rfl (Or.inl rfl)) (fun _ _ _ _ _ => pts_nil)
          (fun _ _ _ _ _ => pe_tup (pa_cons pe_str (pa_cons (pe_ix (ixtK (K := K)) (pv 3) pe_int (fun _ _ => rfl)) (pa_cons (pv 6) pa_nil)))))))))
      (pss_cons (ps_par (i := 4) (j := 5) rfl scStep.nd rfl rfl (by decide) rfl rfl (pa_cons (pe_call GT hr1 rfl gT kT bT .nil pass0 (pa_cons (pv 0) (pa_cons pe_int pa_nil)))
          (pa_cons (pe_call GT hr1 rfl gT kT bT .nil pass0 (pa_cons (pv 0) (pa_cons (pe_callB (lenK (K := K)) (by rfl) B.len bt_len (pa_cons (pe_ix (ixtK (K := K)) (pv 1) pe_int (fun _ _ => rfl)) pa_nil)) pa_nil))) pa_nil)) (by rfl))
      (pss_cons (ps_if (pw_and (pt_cmpR op_gt (pv 4) pe_int (nomark _)) (pw_and1 (pt_cmpR (neDK (K := K) hr.units) (pv 2) (pe_lst pa_nil) (nomark _)))).pt (pss_one (ps_ret (pe_call GP hr rfl gP kP bP .nil pass0 (pa_cons (pv 0) (pa_cons (pv 2) pa_nil))))) pss_nil)
      (pss_one (ps_ret (pe_tup (pa_cons (pe_call GP hr rfl gP kP bP .nil pass0 (pa_cons (pv 0) (pa_cons (pe_lst (pa_cons pe_str (pa_cons pe_str (pa_cons pe_str pa_nil)))) pa_nil))) (pa_cons (pv 5) pa_nil))))))))), ?_⟩
    refine ⟨Nat.zero_le _, fun c0 nc0 => ?_⟩
    have s0 : Same H (upd H c0 (.lst [])) := same_new nc0
    have hc0 := upd_same (H := H) (a := c0) (o := .lst [])
    refine ⟨_, rfl, ixT0 (dp_same s0 hp) fun vl hl => ?_⟩
    obtain ⟨al, xl, rfl, hsl, hal⟩ := dp_tupE hl
    have sl0 := hsl
    refine ⟨al, rfl, ⟨_, hsl⟩, for_tup (K := K) (a := al) (xs := xl) (fun i σ H' => ∃ (v3 : Option V) (lc : Addr) (us : List V) (cs : List Stp), σ = [some (.ref b), some vp, some (.ref lc), v3, none, none, none] ∧ Same (upd H c0 (.lst [])) H' ∧ H lc = none ∧ H' lc = some (.lst us) ∧ DpAll K H' us (cs.map stpD) ∧ (∀ c ∈ cs, CallOk p c) ∧ cs.length ≤ 8 * i)
      ⟨none, c0, [], [], rfl, Same.refl _, nc0, hc0, .nil, fun _ h => (by cases h), Nat.le_refl _⟩ (fun i σ H' _ h => by
        obtain ⟨_, _, _, _, _, s, _⟩ := h
        exact same_sqT s hsl) ?_ ?_⟩
    · rintro i v σ H' hv ⟨v3, lc, us, cs, rfl, s1, nlc, hlc, hus, hcs, cl⟩
      obtain ⟨d, hd1, hd2⟩ := dpa_at hal hv
      rw [List.getElem?_map] at hd1
      obtain ⟨l, hl1, rfl⟩ := Option.map_eq_some_iff.mp hd1
      have lm := List.mem_of_getElem? hl1
      have u8 := (ok.l8 l lm).2.2
      have i8 : i < 8 := by
        have q := (List.getElem?_eq_some_iff.mp hl1).1
        have := ok.n8
        omega
      have hv1 := dp_same s1 hd2
      refine ⟨_, rfl, _, rfl, ixT3 hv1 fun vu hu => ?_⟩
      obtain ⟨au, xu, rfl, hsu, hau⟩ := dp_tupE hu
      have xul := dpa_length hau
      rw [List.length_map] at xul
      refine ⟨au, xu, rfl, .inr hsu, _, rfl, by omega, by omega, fun D hD => ?_⟩
      refine lc_range (lo := 0) (n := ((xu.length : Nat) : Int).toNat) (fun j H2 => Same H' H2 ∧ ∃ (acc : List V) (ks : List Stp), H2 D = some (.lst acc) ∧ DpAll K H2 acc (ks.map stpD) ∧ ks.length = j ∧ ∀ c ∈ ks, CallOk p c) ⟨same_new hD, [], [], upd_same, .nil, rfl, fun _ h => (by cases h)⟩ ?_ ?_
      · rintro j H2 hj ⟨s2, acc, ks, hacc, hks, kl, kok⟩
        refine ⟨rfl, _, rfl, ixT0 (dp_same s2 hv1) fun vn hn => ?_⟩
        obtain rfl := dp_strE hn
        refine ⟨_, rfl, (by show 3 ≤ sizeLine; decide), fun T nT => ?_⟩
        have s3 : Same H2 (upd H2 T (.tup [.str "call", .str l.name, .int (0 + (j : Int))])) := same_new nT
        have hacc3 := s3 _ _ hacc
        have m := kp_at (o := .lst (acc ++ [V.ref T])) (mut_lst hacc3)
        have al2 : acc.length = j := by rw [dpa_length hks, List.length_map, kl]
        refine ⟨acc, hacc3, sz1000 (by omega), same_at (s2.trans s3) hD, acc ++ [V.ref T], ks ++ [.call l.name j], upd_same, ?_, by rw [List.length_append, kl] <;> rfl, fun c hc => ?_⟩
        · rw [List.map_append]
          refine dpa_app (dpa_kp m td_stps (dpa_same s3 hks)) (.cons ?_ .nil)
          have hT : SqT K (upd (upd H2 T (.tup [.str "call", .str l.name, .int (0 + (j : Int))])) D (.lst (acc ++ [V.ref T]))) T [.str "call", .str l.name, .int (0 + (j : Int))] := m.sqT (SqT.of upd_same)
          have e0 : PyData.int (0 + (j : Int)) = PyData.int (j : Int) := by rw [Int.zero_add]
          exact .tup hT (.cons (.str _) (.cons (.str _) (.cons (by rw [← e0]; exact .int _) .nil)))
        · rcases List.mem_append.mp hc with hc | hc
          · exact kok c hc
          · rw [List.mem_singleton.mp hc]
            exact call_ok ok lm (by omega)
      · rintro H2 ⟨s2, acc, ks, hacc, hks, kl, kok⟩
        have hlc2 := s2 _ _ hlc
        refine ⟨lc, D, _, _, rfl, rfl, hlc2, hacc, ?_, fun L nL => ?_⟩
        · rw [dpa_length hus, List.length_map, dpa_length hks, List.length_map, sizeLine_eq]
          omega
        · have s3 : Same H2 (upd H2 L (.lst (us ++ acc))) := same_new nL
          have s13 := (s1.trans s2).trans s3
          refine ⟨_, L, us ++ acc, cs ++ ks, rfl, s13, (s0.trans (s1.trans s2)).free nL, upd_same, ?_, fun c hc => (List.mem_append.mp hc).elim (hcs c) (kok c), by rw [List.length_append]; omega⟩
          rw [List.map_append]
          exact dpa_app (dpa_same (s2.trans s3) hus) (dpa_same s3 hks)
    · rintro σ H' ⟨v3, lc, us, cs, rfl, s1, nlc, hlc, hus, hcs, cl⟩
      have xll : xl.length ≤ 8 := by
        have q := dpa_length hal
        rw [List.length_map] at q
        have := ok.n8
        omega
      have c64 : cs.length ≤ 64 := by omega
      have s01 := s0.trans s1
      have hb1 := hb.same s01
      have hp1 := dp_same s01 hp
      have nlb : lc ≠ b := lst_ne hb nlc
      refine ⟨_, rfl, b, 5, n, rfl, hb1, by omega, by decide, by decide, fun H2 j kb2 hb2 hj => ?_⟩
      have hp2 := dp_kp kb2 (td_pr ok) hp1
      refine ⟨_, rfl, _, rfl, ixT2 hp2 fun vd hd => ?_⟩
      obtain ⟨ad, xd, rfl, hsd, had⟩ := dp_tupE hd
      have xdl := dpa_length had
      rw [List.length_map] at xdl
      have d8 := ok.d8
      have dp0 : 0 < p.doors.length := List.length_pos_iff.mpr dne
      refine ⟨ad, xd, rfl, .inr hsd, b, xd.length, n + 1, rfl, hb2, by omega, by omega, by omega, fun H3 g kb3 hb3 hg => ⟨_, _, rfl, ?_⟩⟩
      have kb03 : Kb b H H3 := Kb.trans (Kb.trans (Kp.same s01) kb2) kb3
      have gok : g < p.doors.length := by omega
      -- a door's step
      have door : ∀ H4, Kb b H H4 → BoxAt (n + 2) H4 b → tTup (tCons (tCall spPick [] E0 (tCons (tVar 0) (tCons (tLst (tCons (tC (.str "open")) (tCons (tC (.str "open")) (tCons (tC (.str "close")) tNil)))) tNil))) (tCons (tVar 5) tNil)) [some (.ref b), some vp, some (.ref lc), v3, some (.int (j : Int)), some (.int (g : Int)), none] H4 Q := by
        intro H4 kb4 hb4
        refine ⟨_, rfl, (by show 3 ≤ sizeLine; decide), fun l2 n2 => ⟨b, l2, n + 2, _, rfl, hb4.same (same_new n2), by omega, lst_ne hb4 n2, upd_same, List.cons_ne_nil _ _, (by show 3 ≤ 1000; decide), fun H5 v kb5 hb5 hv => ⟨_, rfl, (by show 2 ≤ sizeLine; decide), fun T nT => ?_⟩⟩⟩
        have sT : Same H5 (upd H5 T (.tup [v, .int (g : Int)])) := same_new nT
        have kbT : Kb b H (upd H5 T (.tup [v, .int (g : Int)])) := Kb.trans kb4 (Kb.trans (Kb.trans (Kp.same (same_new n2)) kb5) (Kp.same sT))
        rcases ocs v hv with rfl | rfl
        · exact k _ _ (.opn g) kbT (hb5.same sT) (.tup (SqT.of upd_same) (.cons (.str _) (.cons (.int _) .nil))) gok
        · exact k _ _ (.cls g) kbT (hb5.same sT) (.tup (SqT.of upd_same) (.cons (.str _) (.cons (.int _) .nil))) gok
      refine ⟨_, rfl, _, _, rfl, rfl, _, rfl, ?_⟩
      generalize decide ((1 : Int) < (j : Int)) = c1
      cases c1 with
      | false => exact iteF (iteF (door H3 kb03 hb3))
      | true =>
        have hlc3 := kb3.keep _ _ nlb (kb2.keep _ _ nlb hlc)
        have hus3 := dpa_kp kb3 td_stps (dpa_kp kb2 td_stps hus)
        refine iteT ⟨_, rfl, Nat.zero_le _, fun e ne => ?_⟩
        have se : Same H3 (upd H3 e (.lst [])) := same_new ne
        refine ⟨_, _, .lst (SqL.of (se _ _ hlc3)) (dpa_same se hus3), .lst (SqL.of upd_same) .nil, shp_ok (shp_list (n := 1) fun d hd => by
          obtain ⟨t, ht, rfl⟩ := List.mem_map.mp hd
          exact stp_shp ok (hcs t ht).1) (by decide), shp_ok (n := 1) (shp_list fun _ h => (by cases h)) (by decide), _, rfl, ?_⟩
        rw [eqv_nil]
        have kbe : Kb b H (upd H3 e (.lst [])) := Kb.trans kb03 (Kp.same se)
        cases cs with
        | nil => exact iteF (door _ kbe (hb3.same se))
        | cons c0' cr =>
          have ul : us.length = (c0' :: cr).length := by rw [dpa_length hus, List.length_map]
          refine iteT ⟨_, rfl, _, rfl, b, lc, n + 2, us, rfl, hb3.same se, by omega, nlb, se _ _ hlc3, (fun z => by rw [z] at ul; cases ul), by omega, fun H5 v kb5 hb5 hv => ?_⟩
          obtain ⟨jx, hjx⟩ := List.getElem?_of_mem hv
          obtain ⟨d, hd1, hd2⟩ := dpa_at (dpa_same se hus3) hjx
          rw [List.getElem?_map] at hd1
          obtain ⟨t, ht1, rfl⟩ := Option.map_eq_some_iff.mp hd1
          exact k H5 v t (Kb.trans kbe kb5) hb5 (dp_kp kb5 (td_stp (n := 0) t) hd2) (hcs t (List.mem_of_getElem? ht1)).1
end
end K10
end
section
set_option maxHeartbeats 4000000
/-! LJ: the law's went, strewn. -/
namespace K10
open PySem PySem.Spec PyProof.Rows L2
section
variable {P : Program} {w : World} {K : PySem.W.Frag} {mg : Str → Option Value} {base : Heap}
abbrev sWent : Stmt := top 49
theorem scWent : FnScope ["_law_plot", "_law_strides", "_law_host", "_law_stride"] ["_law_plot", "_law_strides"] (defScope sWent) := ⟨rfl, rfl, rfl, by decide +kernel, rfl, by decide +kernel, by decide +kernel⟩
def spWent (K : PySem.W.Frag) (C : Addr) : Sp := fun vs H Q _ => ∃ (vp : V) (l : Addr) (p : Prg) (ts : List Stp), vs = [vp, .ref l] ∧ Dp K H vp (prD p) ∧ p.Ok ∧ StepsAt K H l ts ∧ (∀ t ∈ ts, StpOk p t) ∧
  ∀ H' A, Same H H' → New K C H H' A p (behindM p (St.begin p) ts) → Q (.ref A.p) H'
theorem away_step {p : Prg} {st : St} {t : Stp} (h : thereS p st t = false) : (stepM p st t).1 = st := by
  cases t with
  | opn j => cases h
  | cls j => cases h
  | call x i =>
    have h : thereM p st.opened x = false := h
    show (if thereM p st.opened x = true then callM p st x i else (st, .away)).1 = _
    rw [h]
    rfl
theorem ok_went {f C N : Addr} {fd : FuncData} (T : ClsF K C pK) (F : DefAt K "_law_went" "_law_went" sWent f fd) (MP : MkC P w K mg base 14 "Process" C (spPInit K C)) (MT : Mth P w K mg base CX0 1 C "there" ["self"] (spThere K C))
    (MD : Mth P w K mg base (L2.CX P w) 7 C "do" ["self", "step"] (spDo K C N)) : FnOk P w K mg base CX0 16 f fd ["_law_plot", "_law_strides"] (spWent K C) := by
  obtain ⟨fP, fdP, mkP, eP, GP, bP⟩ := MP.ex
  obtain ⟨fT, fdT, GT, mT, bT⟩ := MT.ex
  obtain ⟨fD, fdD, GD, mD, bD⟩ := MD.ex
  refine F.ok scWent (fun vs H Q E h => ?_) (fun cdv A outer s H vs Q E hr h => ?_)
  · obtain ⟨vp, l, p, ts, rfl, _⟩ := h
    rfl
  · obtain ⟨vp, l, p, ts, rfl, hp, ok, ⟨us, hl, hd⟩, hts, k⟩ := h
    have hr1 : Room 1 _ := hr.mono (by decide)
    have hr7 : Room 7 _ := hr.mono (by decide)
    refine ⟨_, PSs.nox (pss_cons (ps_set (i := 2) scWent.nd rfl (Or.inl rfl) (pe_make mkP GP hr (by rfl) eP bP .nil pass0 (pa_cons (pv 0) pa_nil)))
      (pss_cons (ps_for PassesOwn.never rfl (pi_listK (K := K) (pv 1)) (pg_name (i := 3) scWent.nd rfl (Or.inl rfl))
        (pss_one (ps_if (pw_or (pt_cmpR op_ne (pe_ix (ixtK (K := K)) (pv 3) pe_int (fun _ _ => rfl)) pe_str (nomark _)) (pw_or1 (pt_cmpR (inK (K := K)) (pe_ix (ixtK (K := K)) (pv 3) pe_int (fun _ _ => rfl)) (pe_meth0 (pv 2) T.cl mT GT hr1 bT .nil pass0) (by rfl)))).pt
          (pss_one (ps_expr (pe_meth (E := E0) (pv 2) T.cl mD GD hr7 bD .nil passL (pa_cons (pv 3) pa_nil)))) pss_nil)))
      (pss_one (ps_ret (pv 2))))), ?_⟩
    refine ⟨_, rfl, mk_new (C := C) (vp := vp) hp ok fun H1 a s1 n1 => ?_⟩
    refine ⟨_, rfl, l, rfl, ⟨_, SqL.of (s1 _ _ hl)⟩, for_list (K := K) (a := l) (xs := us) (fun i σ H' => ∃ (v : Option V) (A : Adr), σ = [some vp, some (.ref l), some (.ref a.p), v] ∧ A.p = a.p ∧ Same H H' ∧ New K C H H' A p (behindM p (St.begin p) (ts.take i)))
      ⟨none, a, rfl, rfl, s1, n1⟩ (fun i σ H' _ h => by
        obtain ⟨_, _, _, _, s, _⟩ := h
        exact SqL.of (s _ _ hl)) ?_ ?_⟩
    · rintro i x σ H' hx ⟨v, A, rfl, eA, s2, n2⟩
      obtain ⟨d, hd1, hd2⟩ := dpa_at hd hx
      rw [List.getElem?_map] at hd1
      obtain ⟨t, ht, rfl⟩ := Option.map_eq_some_iff.mp hd1
      have so : StG p (behindM p (St.begin p) (ts.take i)) := (StG.begin ok).behind ok fun u hu => hts u (List.mem_of_mem_take hu)
      have to := hts t (List.mem_of_getElem? ht)
      have hx2 := dp_same s2 hd2
      have st1 : behindM p (St.begin p) (ts.take (i + 1)) = (stepM p (behindM p (St.begin p) (ts.take i)) t).1 := by
        rw [List.take_succ, ht]
        exact behind_snoc _ _ _ _
      rw [st1]
      generalize behindM p (St.begin p) (ts.take i) = st at so n2 ⊢
      -- the step is done
      have go : ∀ H2, Same H' H2 → thereS p st t = true → tMeth C "do" (spDo K C N) [] E0 (tVar 2) (tCons (tVar 3) tNil) [some vp, some (.ref l), some (.ref a.p), some x] H2 (fun _ H3 => ∃ (v : Option V) (A : Adr), [some vp, some (.ref l), some (.ref a.p), some x] = [some vp, some (.ref l), some (.ref a.p), v] ∧ A.p = a.p ∧ Same H H3 ∧ New K C H H3 A p (stepM p st t).1) := by
        intro H2 s3 e
        have n3 : New K C H H2 A p st := ⟨n2.at_.same ok s3, n2.f, n2.r⟩
        refine ⟨_, rfl, a.p, A.dx, _, rfl, by rw [← eA]; exact n3.at_.ins, lookup_zip_none (by decide +kernel), _, rfl, A, p, st, x, t, by rw [eA] <;> rfl, n3.at_, ok, so.toStOk, dp_same s3 hx2, to, fun _ H3 A3 v3 nx kk h3 _ => ?_, fun z => by rw [e] at z; cases z⟩
        exact ⟨_, A3, rfl, by rw [nx.p, eA], same_kp (s2.trans s3) n2.f kk, n3.step (s2.trans s3) nx h3⟩
      cases t with
      | opn j =>
        refine ⟨_, rfl, ixT0 hx2 fun v0 h0 => ?_⟩
        obtain rfl := dp_strE h0
        refine ⟨rfl, _, rfl, ?_⟩
        rw [decide_eq_false (by intro z; injection z with z; exact absurd z (by decide +kernel))]
        exact iteT (iteT (go H' (Same.refl _) rfl))
      | cls j =>
        refine ⟨_, rfl, ixT0 hx2 fun v0 h0 => ?_⟩
        obtain rfl := dp_strE h0
        refine ⟨rfl, _, rfl, ?_⟩
        rw [decide_eq_false (by intro z; injection z with z; exact absurd z (by decide +kernel))]
        exact iteT (iteT (go H' (Same.refl _) rfl))
      | call y j =>
        refine ⟨_, rfl, ixT0 hx2 fun v0 h0 => ?_⟩
        obtain rfl := dp_strE h0
        refine ⟨rfl, _, rfl, ?_⟩
        rw [decide_eq_true rfl]
        refine iteF ⟨_, rfl, ixT1 hx2 fun v1 h1 => ?_⟩
        obtain rfl := dp_strE h1
        refine ⟨_, rfl, a.p, A.dx, _, rfl, by rw [← eA]; exact n2.at_.ins, lookup_zip_none (by decide +kernel), A, p, st, by rw [eA] <;> rfl, n2.at_, fun H2 ly ys s3 _ hly mem => rIn_strs (SqL.of hly) ⟨_, rfl, ?_⟩⟩
        cases e : thereM p st.opened y with
        | true =>
          rw [decide_eq_true ((mem y).mpr e)]
          exact iteT (go H2 s3 e)
        | false =>
          rw [decide_eq_false (fun z => by rw [(mem y).mp z] at e; cases e)]
          refine iteF ⟨_, A, rfl, eA, s2.trans s3, ?_⟩
          rw [away_step (p := p) (st := st) (t := .call y j) e]
          exact ⟨n2.at_.same ok s3, n2.f, n2.r⟩
    · rintro σ H' ⟨v, A, rfl, eA, s2, n2⟩
      have e : ts.take us.length = ts := by
        have q := dpa_length hd
        rw [List.length_map] at q
        rw [q, List.take_length]
      rw [e] at n2
      refine ⟨_, rfl, ?_⟩
      rw [← eA]
      exact k H' A s2 n2
end
end K10
end
section
set_option maxHeartbeats 4000000
/-! LK: the law's strewn. -/
namespace K10
open PySem PySem.Spec PyProof.Rows L2
def nocall (ts : List Stp) : List Stp := ts.filter fun t => !t.isCall
theorem nocall_app (a b : List Stp) : nocall (a ++ b) = nocall a ++ nocall b := List.filter_append ..
theorem dec_call (t : Stp) : ∃ x, (∀ {K : PySem.W.Frag} {H : Hp} {σ : L2.St} {v : V} {Q : VK}, Dp K H v (stpD t) → Q (V.str x) H → tC (.int 0) σ H (fun y H2 => rIxT K v y H2 Q)) ∧ decide (V.str x = V.str "call") = t.isCall := by
  cases t with
  | opn j => exact ⟨"open", fun {K H σ v Q} h q => ixT0 h fun v0 h0 => by rw [dp_strE h0]; exact q, decide_eq_false (by intro z; injection z with z; exact absurd z (by decide +kernel))⟩
  | cls j => exact ⟨"close", fun {K H σ v Q} h q => ixT0 h fun v0 h0 => by rw [dp_strE h0]; exact q, decide_eq_false (by intro z; injection z with z; exact absurd z (by decide +kernel))⟩
  | call y j => exact ⟨"call", fun {K H σ v Q} h q => ixT0 h fun v0 h0 => by rw [dp_strE h0]; exact q, decide_eq_true rfl⟩
section
variable {P : Program} {w : World} {K : PySem.W.Frag} {mg : Str → Option Value} {base : Heap}
abbrev sStrewn : Stmt := top 50
theorem scStrewn : FnScope ["_law_box_here", "_law_plot", "_law_strides", "_law_found", "_law_stride", "_law_more"] ["_law_box_here", "_law_plot", "_law_strides"] (defScope sStrewn) := ⟨rfl, rfl, rfl, by decide +kernel, rfl, by decide +kernel, by decide +kernel⟩
def spStrewn (K : PySem.W.Frag) : Sp := fun vs H Q _ => ∃ (b : Addr) (vp : V) (l : Addr) (n : Nat) (p : Prg) (ts : List Stp), vs = [.ref b, vp, .ref l] ∧ BoxAt n H b ∧ n ≤ 500000 ∧ Dp K H vp (prD p) ∧ p.Ok ∧ p.doors ≠ [] ∧ l ≠ b ∧ StepsAt K H l ts ∧ (∀ t ∈ ts, StpOk p t) ∧ ts.length ≤ 100 ∧
  ∀ H' l' ms, Kb b H H' → BoxAt (n + 3 * ts.length) H' b → H l' = none → StepsAt K H' l' ms → nocall ms = nocall ts → (∀ t ∈ ms, StpOk p t) → ms.length ≤ 2 * ts.length → Q (.ref l') H'
theorem ok_strewn {f : Addr} {fd : FuncData} (F : DefAt K "_law_strewn" "_law_strewn" sStrewn f fd) (GS : Glb P w K mg base CX0 3 "_law_step" ["_law_box_here", "_law_plot"] (spStep K)) : FnOk P w K mg base CX0 4 f fd ["_law_box_here", "_law_plot", "_law_strides"] (spStrewn K) := by
  obtain ⟨fS, fdS, GS, gS, kS, bS⟩ := GS.ex
  refine F.ok scStrewn (fun vs H Q E h => ?_) (fun cdv A outer s H vs Q E hr h => ?_)
  · obtain ⟨b, vp, l, n, p, ts, rfl, _⟩ := h
    rfl
  · obtain ⟨b, vp, l, n, p, ts, rfl, hb, n6, hp, ok, dne, nlb, ⟨us, hl, hd⟩, hts, t100, k⟩ := h
    refine ⟨_, PSs.nox (pss_cons (ps_set (i := 3) scStrewn.nd rfl (Or.inl rfl) (pe_lst pa_nil))
      (pss_cons (ps_for PassesOwn.never rfl (pi_listK (K := K) (pv 2)) (pg_name (i := 4) scStrewn.nd rfl (Or.inl rfl))
        (pss_cons (ps_set (i := 5) scStrewn.nd rfl (Or.inl rfl) (pe_call GS hr rfl gS kS bS .nil pass0 (pa_cons (pv 0) (pa_cons (pv 1) pa_nil))))
        (pss_one (ps_set (i := 3) scStrewn.nd rfl (Or.inl rfl) (pe_op op_cat (pe_op op_cat (pv 3) (pe_ifExp (pt_cmpR op_eq (pe_ix (ixtK (K := K)) (pv 5) pe_int (fun _ _ => rfl)) pe_str (nomark _)) (pe_lst (pa_cons (pv 5) pa_nil)) (pe_lst pa_nil))) (pe_lst (pa_cons (pv 4) pa_nil)))))))
      (pss_one (ps_ret (pv 3))))), ?_⟩
    refine ⟨Nat.zero_le _, fun f0 nf0 => ?_⟩
    have s0 : Same H (upd H f0 (.lst [])) := same_new nf0
    have hf0 := upd_same (H := H) (a := f0) (o := .lst [])
    refine ⟨_, rfl, l, rfl, ⟨_, SqL.of (s0 _ _ hl)⟩, for_list (K := K) (a := l) (xs := us) (fun i σ H' => ∃ (v4 v5 : Option V) (lf : Addr) (ws : List V) (ms : List Stp), σ = [some (.ref b), some vp, some (.ref l), some (.ref lf), v4, v5] ∧ Kb b H H' ∧ BoxAt (n + 3 * i) H' b ∧ lf ≠ b ∧ H lf = none ∧ H' lf = some (.lst ws) ∧ DpAll K H' ws (ms.map stpD) ∧ nocall ms = nocall (ts.take i) ∧ (∀ t ∈ ms, StpOk p t) ∧ ms.length ≤ 2 * i)
      ⟨none, none, f0, [], [], rfl, Kp.same s0, hb.same s0, lst_ne hb nf0, nf0, hf0, .nil, rfl, fun _ h => (by cases h), Nat.le_refl _⟩ (fun i σ H' _ h => by
        obtain ⟨_, _, _, _, _, _, kb, _⟩ := h
        exact SqL.of (kb.keep _ _ nlb hl)) ?_ ?_⟩
    · rintro i x σ H' hx ⟨v4, v5, lf, ws, ms, rfl, kb, hb', nlf, nlH, hlf, hws, hn, hms, ml⟩
      have usl := dpa_length hd
      rw [List.length_map] at usl
      have il : i < ts.length := by
        have q := (List.getElem?_eq_some_iff.mp hx).1
        omega
      obtain ⟨d, hd1, hd2⟩ := dpa_at hd hx
      rw [List.getElem?_map] at hd1
      obtain ⟨t, ht, rfl⟩ := Option.map_eq_some_iff.mp hd1
      have to := hts t (List.mem_of_getElem? ht)
      have hx1 := dp_kp kb (td_stp (n := 0) t) hd2
      refine ⟨_, rfl, _, rfl, b, vp, n + 3 * i, p, rfl, hb', by omega, dp_kp kb (td_pr ok) hp, ok, dne, fun H2 v m kb2 hb2 hv mo => ?_⟩
      obtain ⟨c, rd, ec⟩ := dec_call m
      have hlf2 := kb2.keep _ _ nlf hlf
      have hws2 := dpa_kp kb2 td_stps hws
      have hx2 := dp_kp kb2 (td_stp (n := 0) t) hx1
      have wl : ws.length = ms.length := by rw [dpa_length hws, List.length_map]
      have kb02 := Kb.trans kb kb2
      have step1 : ts.take (i + 1) = ts.take i ++ [t] := by rw [List.take_succ, ht] <;> rfl
      -- what is put behind
      have fin : ∀ (H3 : Hp) (L : Addr) (xs : List V) (cs : List Stp), Same H2 H3 → H3 L = some (.lst xs) → DpAll K H3 xs (cs.map stpD) → nocall cs = [] → (∀ u ∈ cs, StpOk p u) → cs.length ≤ 1 →
          rCat (.ref lf) (.ref L) H3 (fun y H4 => tLst (tCons (tVar 4) tNil) [some (.ref b), some vp, some (.ref l), some (.ref lf), some x, some v] H4 fun z H5 => rCat y z H5 fun r H6 => ∃ (v4 v5 : Option V) (lf' : Addr) (ws : List V) (ms : List Stp), [some (.ref b), some vp, some (.ref l), some r, some x, some v] = [some (.ref b), some vp, some (.ref l), some (.ref lf'), v4, v5] ∧ Kb b H H6 ∧ BoxAt (n + 3 * (i + 1)) H6 b ∧ lf' ≠ b ∧ H lf' = none ∧ H6 lf' = some (.lst ws) ∧ DpAll K H6 ws (ms.map stpD) ∧ nocall ms = nocall (ts.take (i + 1)) ∧ (∀ t ∈ ms, StpOk p t) ∧ ms.length ≤ 2 * (i + 1)) := by
        intro H3 L xs cs s3 hL hxs hno hok c1
        have xsl : xs.length = cs.length := by rw [dpa_length hxs, List.length_map]
        refine ⟨lf, L, _, _, rfl, rfl, s3 _ _ hlf2, hL, by rw [sizeLine_eq]; omega, fun L4 n4 => ⟨_, rfl, (by show 1 ≤ sizeLine; decide), fun L5 n5 => ⟨L4, L5, _, _, rfl, rfl, same_new n5 _ _ upd_same, upd_same, ?_, fun L6 n6 => ?_⟩⟩⟩
        · rw [List.length_append, sizeLine_eq]
          show ws.length + xs.length + 1 ≤ _
          omega
        have s4 : Same H3 (upd H3 L4 (.lst (ws ++ xs))) := same_new n4
        have s5 : Same (upd H3 L4 (.lst (ws ++ xs))) (upd (upd H3 L4 (.lst (ws ++ xs))) L5 (.lst [x])) := same_new n5
        have s6 : Same (upd (upd H3 L4 (.lst (ws ++ xs))) L5 (.lst [x])) (upd (upd (upd H3 L4 (.lst (ws ++ xs))) L5 (.lst [x])) L6 (.lst ((ws ++ xs) ++ [x]))) := same_new n6
        have s36 := (s4.trans s5).trans s6
        have s26 := s3.trans s36
        have kb6 := Kb.trans kb02 (Kp.same s26)
        refine ⟨_, _, L6, (ws ++ xs) ++ [x], (ms ++ cs) ++ [t], rfl, kb6, (hb2.same s26).mono (by omega), lst_ne (hb2.same ((s3.trans s4).trans s5)) n6, free_b (Kb.trans kb02 (Kp.same ((s3.trans s4).trans s5))) (hb2.same ((s3.trans s4).trans s5)) n6, upd_same, ?_, ?_, fun u hu => ?_, ?_⟩
        · rw [List.map_append, List.map_append]
          exact dpa_app (dpa_app (dpa_same s26 hws2) (dpa_same s36 hxs)) (.cons (dp_same s26 hx2) .nil)
        · rw [step1, nocall_app, nocall_app, nocall_app, hn, hno, List.append_nil]
        · rcases List.mem_append.mp hu with hu | hu
          · exact (List.mem_append.mp hu).elim (hms u) (hok u)
          · rw [List.mem_singleton.mp hu]
            exact to
        · rw [List.length_append, List.length_append]
          show ms.length + cs.length + 1 ≤ _
          omega
      refine ⟨_, rfl, _, rfl, rd hv ⟨rfl, _, rfl, ?_⟩⟩
      rw [ec]
      cases e : m.isCall with
      | true =>
        refine iteT ⟨_, rfl, (by show 1 ≤ sizeLine; decide), fun L nL => ?_⟩
        exact fin _ L [v] [m] (same_new nL) upd_same (.cons (dp_same (same_new nL) hv) .nil) (by unfold nocall; rw [List.filter_cons_of_neg (by simp [e])] <;> rfl) (fun u hu => by rw [List.mem_singleton.mp hu]; exact mo) (Nat.le_refl _)
      | false =>
        refine iteF ⟨Nat.zero_le _, fun L nL => ?_⟩
        exact fin _ L [] [] (same_new nL) upd_same .nil rfl (fun u hu => by cases hu) (Nat.zero_le _)
    · rintro σ H' ⟨v4, v5, lf, ws, ms, rfl, kb, hb', nlf, nlH, hlf, hws, hn, hms, ml⟩
      have usl := dpa_length hd
      rw [List.length_map] at usl
      rw [usl, List.take_length] at hn
      rw [usl] at ml hb'
      exact ⟨_, rfl, k H' lf ms kb hb' nlH ⟨ws, hlf, hws⟩ hn hms ml⟩
end
end K10
end
section
set_option maxHeartbeats 4000000
/-! P1: the law's mathematics: what hangs on the doors alone; one place's answers. -/
namespace K10
open PySem L2
/-- equal but for the slots -/
structure Core (s s' : St) : Prop where
  c : s.counts = s'.counts
  o : s.opened = s'.opened
  p : s.pub = s'.pub
  d : s.deep = s'.deep
theorem Core.refl (s : St) : Core s s := ⟨rfl, rfl, rfl, rfl⟩
theorem Core.symm {s s' : St} (h : Core s s') : Core s' s := ⟨h.c.symm, h.o.symm, h.p.symm, h.d.symm⟩
theorem Core.trans {s s' s'' : St} (h : Core s s') (h' : Core s' s'') : Core s s'' := ⟨h.c.trans h'.c, h.o.trans h'.o, h.p.trans h'.p, h.d.trans h'.d⟩
theorem core_call (p : Prg) (s : St) (x : Str) (i : Nat) : Core (callM p s x i).1 s := by
  unfold callM
  split
  · exact Core.refl s
  · show Core (if foundM p s x i = .lost then s else { s with slots := s.slots ++ [((x, i), foundM p s x i)] }) s
    split
    · exact Core.refl s
    · exact ⟨rfl, rfl, rfl, rfl⟩
theorem core_away (p : Prg) (s : St) (x : Str) (i : Nat) : Core (stepM p s (.call x i)).1 s := by
  show Core (if thereM p s.opened x = true then callM p s x i else (s, .away)).1 s
  split
  · exact core_call p s x i
  · exact Core.refl s
theorem Core.cnt {s s' : St} (h : Core s s') (k : Nat) : cntAt s k = cntAt s' k := by unfold cntAt; rw [h.c]
theorem core_open {p : Prg} {s s' : St} (h : Core s s') (k : Nat) : Core (openM p s k).1 (openM p s' k).1 ∧ (openM p s k).2 = (openM p s' k).2 := by
  unfold openM
  rw [h.cnt k]
  split
  · exact ⟨h, rfl⟩
  · refine ⟨?_, rfl⟩
    show Core (if cntAt s' k + 1 = 1 then comeM p { s with counts := s.counts.set k (cntAt s' k + 1) } k else { s with counts := s.counts.set k (cntAt s' k + 1) }) (if cntAt s' k + 1 = 1 then comeM p { s' with counts := s'.counts.set k (cntAt s' k + 1) } k else { s' with counts := s'.counts.set k (cntAt s' k + 1) })
    split
    · refine ⟨?_, ?_, ?_, ?_⟩
      · show s.counts.set k _ = s'.counts.set k _
        rw [h.c]
      · show s.opened ++ [k] = s'.opened ++ [k]
        rw [h.o]
      · show (if modeAt p k = "global" then s.pub ++ (rowAt p k).filter (fun x => !decide (x ∈ s.pub)) else s.pub) = (if modeAt p k = "global" then s'.pub ++ (rowAt p k).filter (fun x => !decide (x ∈ s'.pub)) else s'.pub)
        rw [h.p]
      · show (if modeAt p k = "deep" then s.deep ++ (rowAt p k).filter (fun x => !thereM p s.opened x) else s.deep) = (if modeAt p k = "deep" then s'.deep ++ (rowAt p k).filter (fun x => !thereM p s'.opened x) else s'.deep)
        rw [h.d, h.o]
    · exact ⟨by show s.counts.set k _ = s'.counts.set k _; rw [h.c], h.o, h.p, h.d⟩
theorem core_close {p : Prg} {s s' : St} (h : Core s s') (k : Nat) : Core (closeM p s k).1 (closeM p s' k).1 ∧ (closeM p s k).2 = (closeM p s' k).2 := by
  unfold closeM
  rw [h.cnt k]
  split
  · exact ⟨h, rfl⟩
  · refine ⟨?_, rfl⟩
    show Core (if cntAt s' k - 1 = 0 then goM p { s with counts := s.counts.set k (cntAt s' k - 1), opened := s.opened.erase k } else { s with counts := s.counts.set k (cntAt s' k - 1) }) (if cntAt s' k - 1 = 0 then goM p { s' with counts := s'.counts.set k (cntAt s' k - 1), opened := s'.opened.erase k } else { s' with counts := s'.counts.set k (cntAt s' k - 1) })
    split
    · refine ⟨?_, ?_, ?_, ?_⟩
      · show s.counts.set k _ = s'.counts.set k _
        rw [h.c]
      · show s.opened.erase k = s'.opened.erase k
        rw [h.o]
      · show s.pub.filter (fun x => thereM p (s.opened.erase k) x) = s'.pub.filter (fun x => thereM p (s'.opened.erase k) x)
        rw [h.p, h.o]
      · show s.deep.filter (fun x => thereM p (s.opened.erase k) x) = s'.deep.filter (fun x => thereM p (s'.opened.erase k) x)
        rw [h.d, h.o]
    · exact ⟨by show s.counts.set k _ = s'.counts.set k _; rw [h.c], h.o, h.p, h.d⟩
theorem core_step {p : Prg} {s s' : St} (h : Core s s') {t : Stp} (n : t.isCall = false) : Core (stepM p s t).1 (stepM p s' t).1 ∧ (stepM p s t).2 = (stepM p s' t).2 := by
  cases t with
  | opn k => exact core_open h k
  | cls k => exact core_close h k
  | call x i => cases n
theorem core_callS {p : Prg} {s : St} {t : Stp} (n : t.isCall = true) : Core (stepM p s t).1 s := by
  cases t with
  | opn k => cases n
  | cls k => cases n
  | call x i => exact core_away p s x i
/-- the doors' steps alone lead to the same, but for the slots -/
theorem core_behind {p : Prg} : ∀ {ts : List Stp} {s s' : St}, Core s s' → Core (behindM p s ts) (behindM p s' (nocall ts))
  | [], _, _, h => h
  | t :: ts, s, s', h => by
    show Core (behindM p (stepM p s t).1 ts) _
    unfold nocall
    cases e : t.isCall with
    | true =>
      rw [List.filter_cons_of_neg (by simp [e])]
      exact core_behind ((core_callS e).trans h)
    | false =>
      rw [List.filter_cons_of_pos (by simp [e])]
      exact core_behind (core_step h e).1
/-- the answers of the doors' steps -/
def doorAns (ts : List Stp) (as : List Ans) : List Ans := ((ts.zip as).filter fun q => !q.1.isCall).map (·.2)
theorem door_ans {p : Prg} : ∀ {ts : List Stp} {s s' : St}, Core s s' → doorAns ts (runM p s ts) = runM p s' (nocall ts)
  | [], _, _, _ => rfl
  | t :: ts, s, s', h => by
    have e0 : doorAns (t :: ts) (runM p s (t :: ts)) = (if t.isCall = true then doorAns ts (runM p (stepM p s t).1 ts) else (stepM p s t).2 :: doorAns ts (runM p (stepM p s t).1 ts)) := by
      show ((((t, (stepM p s t).2) :: ts.zip (runM p (stepM p s t).1 ts)).filter fun q => !q.1.isCall).map (·.2)) = _
      cases e : t.isCall with
      | true => rw [List.filter_cons_of_neg (by simp [e])] <;> rfl
      | false => rw [List.filter_cons_of_pos (by simp [e])] <;> rfl
    rw [e0]
    unfold nocall
    cases e : t.isCall with
    | true =>
      rw [List.filter_cons_of_neg (by simp [e]), if_pos rfl]
      exact door_ans ((core_callS e).trans h)
    | false =>
      rw [List.filter_cons_of_pos (by simp [e]), if_neg (by decide)]
      show _ = (stepM p s' t).2 :: runM p (stepM p s' t).1 (nocall ts)
      rw [(core_step h e).2, door_ans (core_step h e).1]
theorem core_found {p : Prg} {s s' : St} (h : Core s s') (x : Str) (i : Nat) : foundM p s x i = foundM p s' x i := by
  have e : looksM p s x = looksM p s' x := by
    unfold looksM nearM
    rw [h.p, h.d, h.o]
  unfold foundM
  rw [e]
/-! ### one place's slot -/
theorem slot_go {x : Str} {i : Nat} (f : Str → Bool) (g : Ans → Ans) : ∀ l : List ((Str × Nat) × Ans), (((l.filter fun q => f q.1.1).map fun q => (q.1, g q.2)).find? fun q => decide (q.1 = (x, i))).map (·.2) = if f x = true then ((l.find? fun q => decide (q.1 = (x, i))).map (·.2)).map g else none
  | [] => by cases f x <;> rfl
  | q :: l => by
    have ih := slot_go (x := x) (i := i) f g l
    by_cases e : q.1 = (x, i)
    · have e1 : q.1.1 = x := by rw [e]
      cases c : f x with
      | true =>
        rw [List.filter_cons_of_pos (by rw [e1]; exact c), List.map_cons, List.find?_cons_of_pos (by simp [e]), List.find?_cons_of_pos (by simp [e]), if_pos rfl] <;> rfl
      | false =>
        rw [List.filter_cons_of_neg (by rw [e1, c]; decide), if_neg (by decide)]
        rw [c, if_neg (by decide)] at ih
        exact ih
    · rw [List.find?_cons_of_neg (by simp [e])]
      by_cases c : f q.1.1 = true
      · rw [List.filter_cons_of_pos (p := fun q : (Str × Nat) × Ans => f q.1.1) c, List.map_cons, List.find?_cons_of_neg (by simp [e])]
        exact ih
      · rw [List.filter_cons_of_neg (p := fun q : (Str × Nat) × Ans => f q.1.1) c]
        exact ih
theorem slot_goM (p : Prg) (s : St) (x : Str) (i : Nat) : slotM (goM p s) x i = if thereM p s.opened x = true then (slotM s x i).map (leftM p s.opened) else none :=
  slot_go (fun y => thereM p s.opened y) (leftM p s.opened) s.slots
/-- equal but for the other places' slots -/
structure CoreS (x : Str) (i : Nat) (s s' : St) : Prop extends Core s s' where
  sl : slotM s x i = slotM s' x i
theorem slot_open (p : Prg) (s : St) (k : Nat) (x : Str) (i : Nat) : slotM (openM p s k).1 x i = slotM s x i := by
  unfold openM
  split
  · rfl
  · show slotM (if cntAt s k + 1 = 1 then comeM p { s with counts := s.counts.set k (cntAt s k + 1) } k else { s with counts := s.counts.set k (cntAt s k + 1) }) x i = _
    split <;> rfl
theorem slot_close {p : Prg} {x : Str} {i : Nat} {s s' : St} (h : CoreS x i s s') (k : Nat) : slotM (closeM p s k).1 x i = slotM (closeM p s' k).1 x i := by
  unfold closeM
  rw [h.toCore.cnt k]
  split
  · exact h.sl
  · show slotM (if cntAt s' k - 1 = 0 then goM p { s with counts := s.counts.set k (cntAt s' k - 1), opened := s.opened.erase k } else { s with counts := s.counts.set k (cntAt s' k - 1) }) x i = slotM (if cntAt s' k - 1 = 0 then goM p { s' with counts := s'.counts.set k (cntAt s' k - 1), opened := s'.opened.erase k } else { s' with counts := s'.counts.set k (cntAt s' k - 1) }) x i
    split
    · rw [slot_goM, slot_goM]
      show (if thereM p (s.opened.erase k) x = true then (slotM s x i).map (leftM p (s.opened.erase k)) else none) = (if thereM p (s'.opened.erase k) x = true then (slotM s' x i).map (leftM p (s'.opened.erase k)) else none)
      rw [h.o, h.sl]
    · exact h.sl
theorem coreS_door {p : Prg} {x : Str} {i : Nat} {s s' : St} (h : CoreS x i s s') {t : Stp} (n : t.isCall = false) : CoreS x i (stepM p s t).1 (stepM p s' t).1 := by
  refine ⟨(core_step h.toCore n).1, ?_⟩
  cases t with
  | opn k =>
    show slotM (openM p s k).1 x i = slotM (openM p s' k).1 x i
    rw [slot_open, slot_open, h.sl]
  | cls k => exact slot_close h k
  | call y j => cases n
theorem slot_put {s : St} {x y : Str} {i j : Nat} {a : Ans} (ne : (y, j) ≠ (x, i)) : slotM { s with slots := s.slots ++ [((y, j), a)] } x i = slotM s x i := by
  unfold slotM
  show ((s.slots ++ [((y, j), a)]).find? fun q => decide (q.1 = (x, i))).map (·.2) = _
  rw [List.find?_append, List.find?_cons_of_neg (by simpa using ne), List.find?_nil, Option.or_none]
theorem slot_other {p : Prg} {s : St} {x y : Str} {i j : Nat} (ne : (y, j) ≠ (x, i)) : slotM (stepM p s (.call y j)).1 x i = slotM s x i := by
  show slotM (if thereM p s.opened y = true then callM p s y j else (s, .away)).1 x i = _
  split
  · unfold callM
    split
    · rfl
    · show slotM (if foundM p s y j = .lost then s else { s with slots := s.slots ++ [((y, j), foundM p s y j)] }) x i = _
      split
      · rfl
      · exact slot_put ne
  · rfl
theorem slot_new {s : St} {x : Str} {i : Nat} {a : Ans} (h : slotM s x i = none) : slotM { s with slots := s.slots ++ [((x, i), a)] } x i = some a := by
  unfold slotM at h ⊢
  show ((s.slots ++ [((x, i), a)]).find? fun q => decide (q.1 = (x, i))).map (·.2) = _
  rw [List.find?_append, Option.map_eq_none_iff.mp h, List.find?_cons_of_pos (by simp)] <;> rfl
theorem coreS_call {p : Prg} {x : Str} {i : Nat} {s s' : St} (h : CoreS x i s s') : CoreS x i (stepM p s (.call x i)).1 (stepM p s' (.call x i)).1 ∧ (stepM p s (.call x i)).2 = (stepM p s' (.call x i)).2 := by
  show CoreS x i (if thereM p s.opened x = true then callM p s x i else (s, .away)).1 (if thereM p s'.opened x = true then callM p s' x i else (s', .away)).1 ∧ (if thereM p s.opened x = true then callM p s x i else (s, .away)).2 = (if thereM p s'.opened x = true then callM p s' x i else (s', .away)).2
  rw [h.o]
  split
  · have c1 := core_call p s x i
    have c2 := core_call p s' x i
    have cc := (c1.trans h.toCore).trans c2.symm
    have hf := core_found (p := p) h.toCore x i
    have sl := h.sl
    refine ⟨⟨cc, ?_⟩, ?_⟩
    · unfold callM
      rw [sl]
      cases e : slotM s' x i with
      | some a => exact sl
      | none =>
        show slotM (if foundM p s x i = .lost then s else { s with slots := s.slots ++ [((x, i), foundM p s x i)] }) x i = slotM (if foundM p s' x i = .lost then s' else { s' with slots := s'.slots ++ [((x, i), foundM p s' x i)] }) x i
        rw [hf]
        split
        · exact sl
        · rw [slot_new (sl.trans e), slot_new e]
    · unfold callM
      rw [sl]
      cases e : slotM s' x i with
      | some a => rfl
      | none => exact hf
  · exact ⟨h, rfl⟩
/-- the answers at one place -/
def placeAns (pl : Stp) (ts : List Stp) (as : List Ans) : List Ans := ((ts.zip as).filter fun q => decide (q.1 = pl)).map (·.2)
def lone (pl : Stp) (ts : List Stp) : List Stp := ts.filter fun t => !t.isCall || decide (t = pl)
theorem place_cons (pl t : Stp) (ts : List Stp) (a : Ans) (as : List Ans) : placeAns pl (t :: ts) (a :: as) = if t = pl then a :: placeAns pl ts as else placeAns pl ts as := by
  show ((((t, a) :: ts.zip as).filter fun q => decide (q.1 = pl)).map (·.2)) = _
  by_cases e : t = pl
  · rw [List.filter_cons_of_pos (by simp [e]), if_pos e] <;> rfl
  · rw [List.filter_cons_of_neg (by simp [e]), if_neg e] <;> rfl
theorem place_ans {p : Prg} {x : Str} {i : Nat} : ∀ {ts : List Stp} {s s' : St}, CoreS x i s s' → placeAns (.call x i) ts (runM p s ts) = placeAns (.call x i) (lone (.call x i) ts) (runM p s' (lone (.call x i) ts))
  | [], _, _, _ => rfl
  | t :: ts, s, s', h => by
    show placeAns (.call x i) (t :: ts) ((stepM p s t).2 :: runM p (stepM p s t).1 ts) = _
    rw [place_cons]
    unfold lone
    by_cases e : t = .call x i
    · subst e
      rw [if_pos rfl, List.filter_cons_of_pos (by simp)]
      show _ = placeAns (.call x i) (.call x i :: lone (.call x i) ts) ((stepM p s' (.call x i)).2 :: runM p (stepM p s' (.call x i)).1 (lone (.call x i) ts))
      rw [place_cons, if_pos rfl, (coreS_call (p := p) h).2, place_ans (coreS_call (p := p) h).1]
    · rw [if_neg e]
      cases c : t.isCall with
      | false =>
        rw [List.filter_cons_of_pos (by simp [c])]
        show _ = placeAns (.call x i) (t :: lone (.call x i) ts) ((stepM p s' t).2 :: runM p (stepM p s' t).1 (lone (.call x i) ts))
        rw [place_cons, if_neg e]
        exact place_ans (coreS_door h c)
      | true =>
        rw [List.filter_cons_of_neg (by simp [c, e])]
        have h2 : CoreS x i (stepM p s t).1 s' := by
          cases t with
          | opn k => cases c
          | cls k => cases c
          | call y j =>
            have ne : (y, j) ≠ (x, i) := fun z => e (by injection z with z1 z2; rw [z1, z2])
            exact ⟨(core_away p s y j).trans h.toCore, (slot_other ne).trans h.sl⟩
        exact place_ans h2
/-! ### fresh slots -/
def Fresh (p : Prg) (s : St) : Prop := ∀ x i a, slotM s x i = some a → a = foundM p s x i
theorem fresh_call {p : Prg} {s : St} (h : Fresh p s) (x : Str) (i : Nat) : (callM p s x i).2 = foundM p s x i ∧ Fresh p (callM p s x i).1 := by
  have cc := core_call p s x i
  refine ⟨?_, fun y j a e => ?_⟩
  · unfold callM
    cases e : slotM s x i with
    | some a => exact h x i a e
    | none => rfl
  · rw [core_found cc]
    unfold callM at e
    cases e2 : slotM s x i with
    | some b =>
      rw [e2] at e
      exact h y j a e
    | none =>
      rw [e2] at e
      have e : slotM (if foundM p s x i = .lost then s else { s with slots := s.slots ++ [((x, i), foundM p s x i)] }) y j = some a := e
      split at e
      · exact h y j a e
      · by_cases c : (x, i) = (y, j)
        · injection c with c1 c2
          subst c1 c2
          rw [slot_new e2] at e
          exact (Option.some.inj e).symm
        · rw [slot_put c] at e
          exact h y j a e
theorem slots_doors {p : Prg} : ∀ {ts : List Stp} {s : St}, s.slots = [] → (behindM p s (nocall ts)).slots = []
  | [], _, h => h
  | t :: ts, s, h => by
    unfold nocall
    cases e : t.isCall with
    | true =>
      rw [List.filter_cons_of_neg (by simp [e])]
      exact slots_doors h
    | false =>
      rw [List.filter_cons_of_pos (by simp [e])]
      show (behindM p (stepM p s t).1 (nocall ts)).slots = []
      refine slots_doors ?_
      cases t with
      | call x i => cases e
      | opn k =>
        show (openM p s k).1.slots = []
        unfold openM
        split
        · exact h
        · show (if cntAt s k + 1 = 1 then comeM p { s with counts := s.counts.set k (cntAt s k + 1) } k else { s with counts := s.counts.set k (cntAt s k + 1) }).slots = []
          split <;> exact h
      | cls k =>
        show (closeM p s k).1.slots = []
        unfold closeM
        split
        · exact h
        · show (if cntAt s k - 1 = 0 then goM p { s with counts := s.counts.set k (cntAt s k - 1), opened := s.opened.erase k } else { s with counts := s.counts.set k (cntAt s k - 1) }).slots = []
          split
          · show (s.slots.filter _).map _ = []
            rw [h] <;> rfl
          · exact h
theorem fresh_nil {p : Prg} {s : St} (h : s.slots = []) : Fresh p s := fun x i a e => by
  unfold slotM at e
  rw [h] at e
  cases e
theorem core_base {s s' : St} (h : Core s s') : baseD s = baseD s' := by
  unfold baseD
  rw [h.c, h.o, h.p, h.d]
end K10
end
section
set_option maxHeartbeats 4000000
/-! G1: defs that want to know that nothing is being shown around them; repr. -/
namespace K10
open PySem PySem.Spec PyProof.Rows L2
/-- a def's promise where no repr runs around the call -/
structure FnOkG (P : Program) (w : World) (K : PySem.W.Frag) (mg : Str → Option Value) (base : Heap) (CX : CXT) (k : Nat) (f : Addr) (fd : FuncData) (ps : List Str) (sp : Sp) : Prop where
  len : ∀ vs H Q E, sp vs H Q E → vs.length = ps.length
  run : ∀ (A : Around) (outer : List Env) (s : Shared) (H : Hp) (args : Args) (us : List Value) (vs : List V) (Q : VK) (E : XK), Room k A → A.guards = some [] → Env0 P w K mg base A outer s H → BindsTo s fd args (ps.zip us) → Vals vs us → sp vs H Q E →
    codeAny (model P w) A (.call (.ref f) args) (CR CX outer P w H s Q E) s
section
variable {P : Program} {w : World} {K : PySem.W.Frag} {mg : Str → Option Value} {base : Heap}
theorem okG {CX : CXT} {x qual : Str} {st : Stmt} {N ps : List Str} {k : Nat} {sp : Sp} {f : Addr} {fd : FuncData} (F : DefAt K x qual st f fd) (S : FnScope N ps (defScope st)) (len : ∀ vs H Q E, sp vs H Q E → vs.length = ps.length)
    (hbody : ∀ (cdv : Value) (A : Around) (outer : List Env) (s : Shared) (H : Hp) (vs : List V) (Q : VK) (E : XK), Room k (A.deeper (envOfC qual (defScope st) s.heap.objs.size f cdv)) → A.guards = some [] → sp vs H Q E →
      ∃ t, PSs (cxOf CX P w K mg base N qual (defScope st) f cdv A outer s H E) (defBody st) t ∧ t { nx := fun _ H' => Q .non H', rt := Q } (L2.start N vs) H) : FnOkG P w K mg base CX (k + 1) f fd ps sp := by
  obtain ⟨oc, od, dV, kV, doc, pm, an, cdv, ct, osl, rfl, lk, hcd, _, _⟩ := F.ex
  refine ⟨len, fun A outer s H args us vs Q E room guard env bind rel want => ?_⟩
  have keep : ∀ b o, base.get? b = some o → s.heap.get? b = some o := fun b o e => (env.bs b o e).1
  have kin : K.In s.heap := env.mod.kin.keeps keep
  have kinds : ∀ y ∈ ps.zip us, (defScope st).names.lookup y.1 = some .local ∨ ((defScope st).names.lookup y.1 = some .cell ∧ ((cellsFrom (s.heap.objs.size + 1) (defScope st).names []).lookup y.1).isSome = true) := by
    rintro ⟨n, v⟩ hy
    exact (S.par n (List.of_mem_zip hy).1).imp id fun q => ⟨q, PySem.W.cellsFrom_some _ _ _ (.inl q)⟩
  refine codeAny_call_function room.depth (kin _ _ lk) rfl S.co S.gen rfl (PySem.W.codeRec_of kin hcd) (bind _ _ _ _ (wpAny_newFunctionEnv_cells S.kind kinds fun e he s1 in1 => ?_))
  subst he
  refine ⟨(env.mod.nolimit.keeps keep).keeps in1.toInCall.keep, codeAny_func ?_⟩
  obtain ⟨t, reads, post⟩ := hbody cdv A outer s H vs Q E (room.deeper _) guard want
  refine wpAny_mono (reads.run [] s1 (L2.start N vs) H _ (inv_start S room.hd env (len _ _ _ _ want) rel in1) post) (fun fl s' z => ?_) fun _ _ z => z
  match fl, z with
  | .ret u, ⟨v, _, H', J, r, q⟩ => exact ⟨v, H', J.os, J.bare, J.base, J.hok, r, q⟩
  | .next, ⟨_, H', J, q⟩ => exact ⟨.non, H', J.os, J.bare, J.base, J.hok, rfl, q⟩
  | .brk, ⟨_, _, _, q⟩ => exact q.elim
  | .cont, ⟨_, _, _, q⟩ => exact q.elim
/-- by its name -/
structure GlbG (P : Program) (w : World) (K : PySem.W.Frag) (mg : Str → Option Value) (base : Heap) (CX : CXT) (k : Nat) (x : Str) (ps : List Str) (sp : Sp) : Prop where
  ex : ∃ f fd, FnOkG P w K mg base CX k f fd ps sp ∧ mg x = some (.ref f) ∧ PySem.W.keepIn K (.ref f) = true ∧ Binds K fd ps []
end
section
variable {X : Cx} {CX : CXT} {k : Nat} {f : Addr} {fd : FuncData} {ps : List Str} {sp : Sp} {E : XK} {x : Str} {p pos : Pos} {e : Expr} {es : List Expr} {t : TA}
theorem pe_callG (F : FnOkG X.prog X.w X.K X.mg X.base CX k f fd ps sp) (hr : Room k X.A) (g : X.A.guards = some []) (hg : Gl X x) (hm : X.mg x = some (.ref f)) (hk : PySem.W.keepIn X.K (.ref f) = true) (hb : Binds X.K fd ps []) (hx : Passes CX X E) (ha : PA X (e :: es) t)
    (hdb : (x == ("__debug__" : Str)) = false := by decide) (he : starEach (e :: es) X.env = (false, eval e X.env) :: starEach es X.env := by rfl) (hpl : (backTo pos (starEach es X.env)).any (·.1) = false := by rfl) : PE X (.Call (.Name x p) (e :: es) [] pos) (tCall sp [] E t) := by
  refine ⟨fun pins s σ H Q I h => wpAny_Call_Name_kw (ld_glob I hg hm (PySem.W.callWith_K (h₀ := X.base) I.ok.mod.kin hk (thn (ha.run pos pins s σ H _ I h) fun us s1 z => ?_) he hpl) hdb)⟩
  obtain ⟨vs, H1, I1, r, q⟩ := z
  refine ⟨I1.kIn, ?_⟩
  rw [List.append_nil] at q
  have hl : us.length = ps.length := r.length.symm.trans (F.len _ _ _ _ q)
  have b := hb s1 us I1.kIn (by rw [List.append_nil]; exact hl)
  rw [List.append_nil] at b
  refine wpAny_call (codeAny_mono (F.run X.A X.stack s1 H1 ⟨us, []⟩ us vs Q E hr g I1.env0 b r q) fun rs s' z => ?_)
  match rs, z with
  | .error e, z => exact hx pins σ H1 s1 e s' I1 z
  | .ok (.ret u), z => exact I1.after z
  | .ok .next, z => exact z.elim
  | .ok .brk, z => exact z.elim
  | .ok .cont, z => exact z.elim
/-- data that can be shown -/
structure Shw (d : PyData) : Prop where
  lay : d.layable0 = true
  int : d.intsShort 13 = true
  shw : d.showable = true
def rRepr (K : PySem.W.Frag) : List V → Hp → VK → Prop := fun xs H Q => ∃ (a : Addr) (d : PyData), xs = [.ref a] ∧ Dp K H (.ref a) d ∧ Shw d ∧ Q (.str d.shown) H
theorem cr_repr {K : PySem.W.Frag} (g : X.A.guards = some []) (hu : X.A.units + 66 < cLine) (h : X.K = K := by rfl) : CallR X (.builtin "repr") (rRepr K) := by
  subst h
  intro pins s σ H xs us Q I r h
  obtain ⟨a, d, rfl, hd, ok, q⟩ := h
  rw [Vals.ref1 r]
  obtain ⟨as, rd⟩ := Dp.reads I d _ (.ref a) hd rfl
  have dp : d.depth ≤ 64 := by
    have z := ok.lay
    unfold PyData.layable0 at z
    simp only [Bool.and_eq_true, decide_eq_true_eq] at z
    exact z.1.2
  exact repr_of_reads' rd ok.shw (PyData.noDict_hsm (PyData.hasDict_of_layable ok.lay)) g (by omega) (fun _ _ e => e) (fun h' u tk k => ⟨.str d.shown, H, I.kept k, ⟨u, rfl⟩, q⟩) (PyData.shown_fits_of_layable0 (B := 13) (by decide) (by decide) ok.lay ok.int)
end
section
variable {P : Program} {w : World} {K : PySem.W.Frag} {mg : Str → Option Value} {base : Heap}
abbrev sSame : Stmt := top 42
theorem scSame : FnScope ["_law_found", "_law_due"] ["_law_found", "_law_due"] (defScope sSame) := ⟨rfl, rfl, rfl, by decide +kernel, rfl, by decide +kernel, by decide +kernel⟩
def spSame (K : PySem.W.Frag) : Sp := fun vs H Q _ => ∃ (a1 a2 : Addr) (d : PyData), vs = [.ref a1, .ref a2] ∧ Dp K H (.ref a1) d ∧ Dp K H (.ref a2) d ∧ Shw d ∧ Q (.bl true) H
theorem ok_same {f : Addr} {fd : FuncData} (B : Bl mg) (F : DefAt K "_law_same" "_law_same" sSame f fd) : FnOkG P w K mg base CX0 1 f fd ["_law_found", "_law_due"] (spSame K) := by
  refine okG F scSame (fun vs H Q E h => ?_) (fun cdv A outer s H vs Q E hr g h => ?_)
  · obtain ⟨a1, a2, d, rfl, _⟩ := h
    rfl
  · obtain ⟨a1, a2, d, rfl, h1, h2, ok, q⟩ := h
    have hu : (A.deeper (envOfC "_law_same" (defScope sSame) s.heap.objs.size f cdv)).units + 66 < cLine := by have := hr.un; omega
    refine ⟨_, PSs.nox (pss_one (ps_ret (pe_cmpR op_eq (pe_callB (cr_repr (K := K) g hu) (by rfl) B.repr bt_repr (pa_cons (pv 0) pa_nil)) (pe_callB (cr_repr (K := K) g hu) (by rfl) B.repr bt_repr (pa_cons (pv 1) pa_nil)) (nomark _)))), ?_⟩
    refine ⟨_, rfl, a1, d, rfl, h1, ok, _, rfl, a2, d, rfl, h2, ok, rfl, ?_⟩
    rw [decide_eq_true rfl]
    exact q
end
end K10
end
section
set_option maxHeartbeats 4000000
/-! LL0: comprehensions over lists of steps, over zip(steps, answers); what can be shown. -/
namespace K10
open PySem PySem.Spec PyProof.Rows L2
section
variable {K : PySem.W.Frag}
/-- [t for t in a list of steps if ..] -/
theorem rd_fstp {i : Nat} {σ : L2.St} {H1 : Hp} {a D : Addr} {us : List V} {ts : List Stp} {f : Stp → Bool} {tt : TT} {Qd : Hp → Prop} (hD : H1 D = none) (ha : H1 a = some (.lst us)) (hd : DpAll K H1 us (ts.map stpD)) (hz : ts.length ≤ 1000)
    (ht : ∀ t x H2 R, t ∈ ts → Same H1 H2 → Dp K H2 x (stpD t) → (∀ H3, Same H2 H3 → R (f t) H3) → tt ((σ.set i none).set i (some x)) H2 R) (hi : i < σ.length) (k : ∀ H' acc, Same H1 H' → H' D = some (.lst acc) → DpAll K H' acc ((ts.filter f).map stpD) → Qd H') :
    ∃ W : Nat → Nat → Hp → Prop, (∃ m, W 0 m (upd H1 D (.lst []))) ∧ ∀ j m H, W j m H →
      ((Itl K a).stop j H ∧ Qd H) ∨ ((Itl K a).go j H ∧ ∃ Nx : Hp → Prop, (∀ H', Nx H' → ∃ m', m' < m ∧ W (j + 1) m' H') ∧ ∀ x H', (Itl K a).yld j H x H' → gName i x (wipe σ [i]) H' fun σ2 H2 => wipe σ2 [i] = wipe σ [i] ∧ tt σ2 H2 fun b H3 =>
        if b = true then tVar i σ2 H3 fun y H4 => ∃ acc, H4 D = some (.lst acc) ∧ acc.length < sizeLine ∧ Nx (upd H4 D (.lst (acc ++ [y]))) else Nx H3) := by
  refine it_list (K := K) (a := a) (xs := us) (fun j H' => Same H1 H' ∧ ∃ acc, H' D = some (.lst acc) ∧ DpAll K H' acc (((ts.take j).filter f).map stpD)) ⟨same_new hD, [], upd_same, .nil⟩ (fun j H' _ z => SqL.of (z.1 _ _ ha)) ?_ ?_
  · rintro j v H' hv ⟨s1, acc, hacc, hda⟩
    obtain ⟨d, hd1, hd2⟩ := dpa_at hd hv
    rw [List.getElem?_map] at hd1
    obtain ⟨t, ht1, rfl⟩ := Option.map_eq_some_iff.mp hd1
    have step : ts.take (j + 1) = ts.take j ++ [t] := by rw [List.take_succ, ht1] <;> rfl
    refine ⟨?_, ht t v H' _ (List.mem_of_getElem? ht1) s1 (dp_same s1 hd2) fun H3 s3 => ?_⟩
    · show ((σ.set i none).set i (some v)).set i none = σ.set i none
      rw [List.set_set, List.set_set]
    · cases c : f t with
      | true =>
        have hacc3 := s3 _ _ hacc
        have m := kp_at (o := .lst (acc ++ [v])) (mut_lst hacc3)
        refine iteT ⟨v, ?_, acc, hacc3, ?_, same_at (s1.trans s3) hD, acc ++ [v], upd_same, ?_⟩
        · show ((σ.set i none).set i (some v))[i]? = _
          rw [List.getElem?_set_self (by rw [List.length_set]; exact hi)]
        · rw [dpa_length hda, List.length_map]
          have := List.length_filter_le f (ts.take j)
          rw [List.length_take] at this
          rw [sizeLine_eq]
          omega
        · rw [step, List.filter_append, List.filter_cons_of_pos c, List.map_append]
          exact dpa_app (dpa_kp m td_stps (dpa_same s3 hda)) (.cons (dp_kp m (td_stp (n := 0) t) (dp_same (s1.trans s3) hd2)) .nil)
      | false =>
        refine iteF ⟨s1.trans s3, acc, s3 _ _ hacc, ?_⟩
        rw [step, List.filter_append, List.filter_cons_of_neg (by simp [c]), List.filter_nil, List.append_nil]
        exact dpa_same s3 hda
  · rintro H' ⟨s1, acc, hacc, hda⟩
    have e : ts.take us.length = ts := by
      have q := dpa_length hd
      rw [List.length_map] at q
      rw [q, List.take_length]
    rw [e] at hda
    exact k H' acc s1 hacc hda
theorem it_zip {a b : Addr} {xs ys : List V} {H0 : Hp} {Qd : Hp → Prop} {step : V → Hp → (Hp → Prop) → Prop} (Pv : Nat → Hp → Prop) (h0 : Pv 0 H0) (len : xs.length = ys.length) (hl : ∀ i H, i ≤ xs.length → Pv i H → SqL K H a xs ∧ SqL K H b ys)
    (hs : ∀ i x y T H, xs[i]? = some x → ys[i]? = some y → Pv i H → H T = none → step (.ref T) (upd H T (.tup [x, y])) (Pv (i + 1))) (hd : ∀ H, Pv xs.length H → Qd H) :
    ∃ W : Nat → Nat → Hp → Prop, (∃ m, W 0 m H0) ∧ ∀ i m H, W i m H →
      ((Itz K a b).stop i H ∧ Qd H) ∨ ((Itz K a b).go i H ∧ ∃ Nx : Hp → Prop, (∀ H', Nx H' → ∃ m', m' < m ∧ W (i + 1) m' H') ∧ ∀ x H', (Itz K a b).yld i H x H' → step x H' Nx) := by
  refine ⟨fun i m H => m + i = xs.length ∧ Pv i H, ⟨xs.length, rfl, h0⟩, fun i m H w => ?_⟩
  obtain ⟨e, p⟩ := w
  obtain ⟨qa, qb⟩ := hl i H (by omega) p
  rcases Nat.lt_or_ge i xs.length with lt | ge
  · have ex := List.getElem?_eq_getElem lt
    have ey := List.getElem?_eq_getElem (show i < ys.length by omega)
    refine .inr ⟨⟨xs, ys, _, _, qa, qb, ex, ey⟩, Pv (i + 1), fun H' p' => ⟨m - 1, by omega, by omega, p'⟩, fun x H' z => ?_⟩
    obtain ⟨T, x', y', rfl, hT, rfl, f1, f2⟩ := z
    exact hs i x' y' T H (f1 xs qa) (f2 ys qb) p hT
  · obtain rfl : i = xs.length := by omega
    exact .inl ⟨⟨xs, ys, qa, qb, .inl (Nat.le_refl _)⟩, hd H p⟩
/-- [answer for stride, answer in zip(steps, answers) if ..] -/
theorem rd_zip {i j : Nat} {σ : L2.St} {H1 : Hp} {a b D : Addr} {us ws : List V} {ts : List Stp} {as : List Ans} {f : Stp → Bool} {tt : TT} {Qd : Hp → Prop} (hD : H1 D = none) (ha : H1 a = some (.lst us)) (hd : DpAll K H1 us (ts.map stpD)) (hb : H1 b = some (.lst ws)) (he : DpAll K H1 ws (as.map ansD)) (len : ts.length = as.length) (hz : ts.length ≤ 1000)
    (ht : ∀ t x y H2 R, t ∈ ts → Same H1 H2 → Dp K H2 x (stpD t) → (∀ H3, Same H2 H3 → R (f t) H3) → tt (((wipe σ [i, j]).set i (some x)).set j (some y)) H2 R)
    (hw : ∀ x y, wipe (((wipe σ [i, j]).set i (some x)).set j (some y)) [i, j] = wipe σ [i, j]) (hj : ∀ x y, (((wipe σ [i, j]).set i (some x)).set j (some y))[j]? = some (some y)) (k : ∀ H' acc, Same H1 H' → H' D = some (.lst acc) → DpAll K H' acc ((((ts.zip as).filter fun q => f q.1).map (·.2)).map ansD) → Qd H') :
    ∃ W : Nat → Nat → Hp → Prop, (∃ m, W 0 m (upd H1 D (.lst []))) ∧ ∀ n m H, W n m H →
      ((Itz K a b).stop n H ∧ Qd H) ∨ ((Itz K a b).go n H ∧ ∃ Nx : Hp → Prop, (∀ H', Nx H' → ∃ m', m' < m ∧ W (n + 1) m' H') ∧ ∀ x H', (Itz K a b).yld n H x H' → gTup K 2 (gCons (gName i) (gCons (gName j) gNil)) x (wipe σ [i, j]) H' fun σ2 H2 => wipe σ2 [i, j] = wipe σ [i, j] ∧ tt σ2 H2 fun b H3 =>
        if b = true then tVar j σ2 H3 fun y H4 => ∃ acc, H4 D = some (.lst acc) ∧ acc.length < sizeLine ∧ Nx (upd H4 D (.lst (acc ++ [y]))) else Nx H3) := by
  have usl := dpa_length hd
  have wsl := dpa_length he
  rw [List.length_map] at usl wsl
  refine it_zip (K := K) (a := a) (b := b) (xs := us) (ys := ws) (fun n H' => Same H1 H' ∧ ∃ acc, H' D = some (.lst acc) ∧ DpAll K H' acc (((((ts.zip as).take n).filter fun q => f q.1).map (·.2)).map ansD)) ⟨same_new hD, [], upd_same, .nil⟩ (by omega) (fun n H' _ z => ⟨SqL.of (z.1 _ _ ha), SqL.of (z.1 _ _ hb)⟩) ?_ ?_
  · rintro n x y T H' hx hy ⟨s1, acc, hacc, hda⟩ hT
    obtain ⟨d, hd1, hd2⟩ := dpa_at hd hx
    rw [List.getElem?_map] at hd1
    obtain ⟨t, ht1, rfl⟩ := Option.map_eq_some_iff.mp hd1
    obtain ⟨e, he1, he2⟩ := dpa_at he hy
    rw [List.getElem?_map] at he1
    obtain ⟨an, ha1, rfl⟩ := Option.map_eq_some_iff.mp he1
    have sT : Same H' (upd H' T (.tup [x, y])) := same_new hT
    have s2 := s1.trans sT
    have step : (ts.zip as).take (n + 1) = (ts.zip as).take n ++ [(t, an)] := by
      have q : (ts.zip as)[n]? = some (t, an) := by rw [List.getElem?_zip_eq_some]; exact ⟨ht1, ha1⟩
      rw [List.take_succ, q] <;> rfl
    refine ⟨T, [x, y], rfl, SqT.of upd_same, rfl, x, [y], rfl, y, [], rfl, rfl, hw x y, ht t x y _ _ (List.mem_of_getElem? ht1) s2 (dp_same s2 hd2) fun H3 s3 => ?_⟩
    have hacc3 := s3 _ _ (sT _ _ hacc)
    have tda : ∀ d ∈ (((((ts.zip as).take n).filter fun q => f q.1).map (·.2)).map ansD), td 1 d := ans_td
    cases c : f t with
    | true =>
      have m := kp_at (o := .lst (acc ++ [y])) (mut_lst hacc3)
      refine iteT ⟨y, hj x y, acc, hacc3, ?_, same_at (s2.trans s3) hD, acc ++ [y], upd_same, ?_⟩
      · rw [dpa_length hda, List.length_map, List.length_map]
        have h1 := List.length_filter_le (fun q : Stp × Ans => f q.1) ((ts.zip as).take n)
        rw [List.length_take, List.length_zip] at h1
        rw [sizeLine_eq]
        omega
      · rw [step, List.filter_append, List.filter_cons_of_pos (by exact c), List.map_append, List.map_append]
        exact dpa_app (dpa_kp m tda (dpa_same (sT.trans s3) hda)) (.cons (dp_kp m (td_ans an) (dp_same (s2.trans s3) he2)) .nil)
    | false =>
      refine iteF ⟨s2.trans s3, acc, hacc3, ?_⟩
      rw [step, List.filter_append, List.filter_cons_of_neg (by simp [c]), List.filter_nil, List.append_nil]
      exact dpa_same (sT.trans s3) hda
  · rintro H' ⟨s1, acc, hacc, hda⟩
    have e : (ts.zip as).take us.length = ts.zip as := by
      rw [List.take_of_length_le]
      rw [List.length_zip]
      omega
    rw [e] at hda
    exact k H' acc s1 hacc hda
end
/-! ### what can be shown -/
structure Sh (n W : Nat) (d : PyData) : Prop where
  lay : d.canLay0 = true
  dep : d.depth ≤ n
  wt : d.weight ≤ W
  int : d.intsShort 13 = true
  shw : d.showable = true
theorem Sh.ok {n W : Nat} {d : PyData} (h : Sh n W d) (l : n ≤ 64) (lw : W ≤ 1048576) : Shw d := by
  refine ⟨?_, h.int, h.shw⟩
  unfold PyData.layable0
  rw [h.lay, decide_eq_true (Nat.le_trans h.dep l), decide_eq_true (show d.weight ≤ 2 ^ 20 from Nat.le_trans h.wt lw)] <;> rfl
theorem shAll {n W : Nat} : ∀ {ds : List PyData}, (∀ d ∈ ds, Sh n W d) → PyData.canLayAll0 ds = true ∧ PyData.depthAll ds ≤ n ∧ PyData.weightAll ds ≤ ds.length * (W + 1) ∧ PyData.intsShortAll 13 ds = true ∧ PyData.showableAll ds = true
  | [], _ => ⟨by simp [PyData.canLayAll0], by simp [PyData.depthAll], by simp [PyData.weightAll], by simp [PyData.intsShortAll], by simp [PyData.showableAll]⟩
  | d :: ds, h => by
    have h1 := h d List.mem_cons_self
    obtain ⟨a1, a2, a3, a4, a5⟩ := shAll fun e he => h e (List.mem_cons_of_mem _ he)
    refine ⟨by simp [PyData.canLayAll0, h1.lay, a1], ?_, ?_, by simp [PyData.intsShortAll, h1.int, a4], by simp [PyData.showableAll, h1.shw, a5]⟩
    · have := h1.dep
      simp only [PyData.depthAll]
      omega
    · have := h1.wt
      simp only [PyData.weightAll, List.length_cons]
      rw [Nat.add_mul]
      omega
theorem Sh.list {n W L : Nat} {ds : List PyData} (h : ∀ d ∈ ds, Sh n W d) (l : ds.length ≤ L) : Sh (n + 1) (L * (W + 1)) (.list ds) := by
  obtain ⟨a1, a2, a3, a4, a5⟩ := shAll h
  exact ⟨by simp [PyData.canLay0, a1], by simp only [PyData.depth]; omega, by simp only [PyData.weight]; exact Nat.le_trans a3 (Nat.mul_le_mul_right _ l), by simp [PyData.intsShort, a4], by simp [PyData.showable, a5]⟩
theorem Sh.tuple {n W L : Nat} {ds : List PyData} (h : ∀ d ∈ ds, Sh n W d) (l : ds.length ≤ L) : Sh (n + 1) (L * (W + 1)) (.tuple ds) := by
  obtain ⟨a1, a2, a3, a4, a5⟩ := shAll h
  exact ⟨by simp [PyData.canLay0, a1], by simp only [PyData.depth]; omega, by simp only [PyData.weight]; exact Nat.le_trans a3 (Nat.mul_le_mul_right _ l), by simp [PyData.intsShort, a4], by simp [PyData.showable, a5]⟩
theorem Sh.mono {n m W X : Nat} {d : PyData} (h : Sh n W d) (l : n ≤ m) (l2 : W ≤ X) : Sh m X d := ⟨h.lay, Nat.le_trans h.dep l, Nat.le_trans h.wt l2, h.int, h.shw⟩
theorem Sh.str {n : Nat} {x : Str} (h : okS x = true) : Sh n 8 (.str x) := by
  refine ⟨lay_okS h, by simp [PyData.depth], ?_, by simp [PyData.intsShort], by simp [PyData.showable]⟩
  unfold okS at h
  rw [Bool.and_eq_true, decide_eq_true_eq] at h
  simp only [PyData.weight]
  exact h.1
theorem Sh.num {n : Nat} {i : Int} (h : i.natAbs < 1000) : Sh n 10 (.int i) := by
  refine ⟨by simp [PyData.canLay0], by simp [PyData.depth], ?_, ?_, ?_⟩
  · have q : i.natAbs ≠ 0 → i.natAbs.log2 < 10 := fun z => (Nat.log2_lt z).mpr (Nat.lt_of_lt_of_le h (by decide))
    by_cases z : i = 0
    · subst z
      simp [PyData.weight]
    · have q2 := q (by omega)
      simp [PyData.weight, z]
      omega
  · have q := PyData.shown_int_le (i := i) (by omega)
    simpa [PyData.intsShort] using q
  · simp only [PyData.showable, decide_eq_true_eq]
    have := Nat.log2_le_self i.natAbs
    omega
theorem sh_ans {p : Prg} (ok : p.Ok) {a : Ans} (h : ansOk p a) : Sh 1 27 (ansD a) := by
  have s0 : okS "bound" = true := by decide +kernel
  have one : ∀ x : Str, okS x = true → Sh 1 27 (.tuple [.str x]) := fun x hx => (Sh.tuple (n := 0) (W := 8) (L := 1) (fun d hd => by rw [List.mem_singleton.mp hd]; exact Sh.str hx) (Nat.le_refl _)).mono (Nat.le_refl _) (by decide)
  cases a with
  | bound n v =>
    refine Sh.tuple (n := 0) (W := 8) (L := 3) (fun d hd => ?_) (Nat.le_refl _)
    simp only [List.mem_cons, List.not_mem_nil, or_false] at hd
    rcases hd with rfl | rfl | rfl
    · exact Sh.str s0
    · exact Sh.str (name_okS ok h.1)
    · exact Sh.str h.2
  | opened => exact one _ (by decide +kernel)
  | closed => exact one _ (by decide +kernel)
  | full => exact one _ (by decide +kernel)
  | shut => exact one _ (by decide +kernel)
  | away => exact one _ (by decide +kernel)
  | nobody => exact one _ (by decide +kernel)
  | lost => exact one _ (by decide +kernel)
  | torn => exact one _ (by decide +kernel)
end K10
end
section
set_option maxHeartbeats 4000000
/-! LL: the law's slots_right. -/
namespace K10
open PySem PySem.Spec PyProof.Rows L2
theorem pi_zipK {X : Cx} {K : PySem.W.Frag} {e e2 : Expr} {ta : TA} {p pos tpos : Pos} {elts : List Expr} {kk : Nat} (hg : Gl X "zip") (hm : X.mg "zip" = none) (ha : PA X [e, e2] ta) (h : X.K = K := by rfl)
    (hs : starEach [e, e2] X.env = (false, eval e X.env) :: starEach [e2] X.env := by rfl) (hpl : (backTo pos (starEach [e2] X.env)).any (·.1) = false := by rfl) :
    PI X (.Tuple elts kk tpos) (.Call (.Name "zip" p) [e, e2] [] pos) (iZip K ta) := h ▸ pi_zip hg hm ha hs hpl
theorem pg_tupKK {X : Cx} {K : PySem.W.Frag} {es : List Expr} {k : Nat} {t : TGs} {n : Nat} {pos : Pos} (hc : X.calm = true) (h : PGs X es t) (hn : (assignEach es X.env).length = n := by rfl) (hst : (assignEach es X.env).findIdx? (·.1) = none := by rfl) (e : X.K = K := by rfl) : PG X (.Tuple es k pos) (gTup K n t) := e ▸ pg_tup hc h hn hst
theorem str_beq (a b : Str) : PyData.eqv (.str a) (.str b) = decide (a = b) := by
  simp only [PyData.eqv]
  by_cases e : a = b
  · subst e; simp
  · rw [decide_eq_false e]; simpa using e
theorem stp_eqv (t u : Stp) : PyData.eqv (stpD t) (stpD u) = decide (t = u) := by
  have n1 : decide (("open" : Str) = "close") = false := by decide +kernel
  have n2 : decide (("open" : Str) = "call") = false := by decide +kernel
  have n3 : decide (("close" : Str) = "open") = false := by decide +kernel
  have n4 : decide (("close" : Str) = "call") = false := by decide +kernel
  have n5 : decide (("call" : Str) = "open") = false := by decide +kernel
  have n6 : decide (("call" : Str) = "close") = false := by decide +kernel
  have i1 : ∀ a b : Nat, PyData.eqv (.int (a : Int)) (.int (b : Int)) = decide (a = b) := fun a b => by
    simp only [PyData.eqv]
    rw [Bool.eq_iff_iff, beq_iff_eq, decide_eq_true_eq]
    omega
  cases t <;> cases u <;> (show PyData.eqvAll _ _ = _) <;> simp only [PyData.eqvAll, str_beq, i1, n1, n2, n3, n4, n5, n6, Bool.false_and] <;> simp
theorem step_ans {p : Prg} (ok : p.Ok) {st : St} (h : StG p st) {t : Stp} : ansOk p (stepM p st t).2 := by
  cases t with
  | opn k =>
    show ansOk p (openM p st k).2
    unfold openM
    split <;> trivial
  | cls k =>
    show ansOk p (closeM p st k).2
    unfold closeM
    split <;> trivial
  | call x i =>
    show ansOk p (if thereM p st.opened x = true then callM p st x i else (st, .away)).2
    split
    · unfold callM
      cases e : slotM st x i with
      | none => exact found_ok ok
      | some a =>
        unfold slotM at e
        obtain ⟨q, hq, rfl⟩ := Option.map_eq_some_iff.mp e
        exact (h.sin q (List.mem_of_find?_eq_some hq)).2.2
    · trivial
theorem run_ok {p : Prg} (ok : p.Ok) : ∀ {ts : List Stp} {st : St}, StG p st → (∀ t ∈ ts, StpOk p t) → ∀ a ∈ runM p st ts, ansOk p a
  | [], _, _, _, a, ha => by cases ha
  | t :: ts, st, h, ht, a, ha => by
    rcases List.mem_cons.mp ha with rfl | ha
    · exact step_ans ok h
    · exact run_ok ok (h.step ok (ht t List.mem_cons_self)) (fun u hu => ht u (List.mem_cons_of_mem _ hu)) a ha
theorem shw_answers {p : Prg} (ok : p.Ok) {as : List Ans} (h : ∀ a ∈ as, ansOk p a) (l : as.length ≤ 1000) : Shw (.list (as.map ansD)) := by
  refine (Sh.list (n := 1) (W := 27) (L := 1000) (fun d hd => ?_) (by rw [List.length_map]; exact l)).ok (by decide) (by decide)
  obtain ⟨a, ha, rfl⟩ := List.mem_map.mp hd
  exact sh_ans ok (h a ha)
theorem calls_at {K : PySem.W.Frag} {H : Hp} : ∀ {acc : List V} {cs : List Stp}, DpAll K H acc (cs.map stpD) → (∀ c ∈ cs, c.isCall = true) → ∃ bs : List Addr, acc = bs.map V.ref ∧ bs.length = cs.length ∧ ∀ b ∈ bs, ∃ x i, Stp.call x i ∈ cs ∧ SqT K H b [.str "call", .str x, .int (i : Int)]
  | [], [], _, _ => ⟨[], rfl, rfl, fun _ h => (by cases h)⟩
  | v :: acc, c :: cs, .cons h t, hc => by
    obtain ⟨bs, e, l, hb⟩ := calls_at t fun u hu => hc u (List.mem_cons_of_mem _ hu)
    cases c with
    | opn k => cases hc _ List.mem_cons_self
    | cls k => cases hc _ List.mem_cons_self
    | call x i =>
      have h : Dp K H v (.tuple [.str "call", .str x, .int (i : Int)]) := h
      cases h with
      | @tup a xs _ hs ha =>
        have e2 : xs = [.str "call", .str x, .int (i : Int)] := by
          cases ha with
          | cons h1 r1 =>
            cases h1
            cases r1 with
            | cons h2 r2 =>
              cases h2
              cases r2 with
              | cons h3 r3 =>
                cases h3
                cases r3
                rfl
        subst e2
        refine ⟨a :: bs, by rw [List.map_cons, e], by rw [List.length_cons, List.length_cons, l], fun b hb2 => ?_⟩
        rcases List.mem_cons.mp hb2 with rfl | hb2
        · exact ⟨x, i, List.mem_cons_self, hs⟩
        · obtain ⟨y, j, h1, h2⟩ := hb b hb2
          exact ⟨y, j, List.mem_cons_of_mem _ h1, h2⟩
theorem place_sub {pl : Stp} {ts : List Stp} {as : List Ans} : ∀ a ∈ placeAns pl ts as, a ∈ as := fun a ha => by
  obtain ⟨q, hq, rfl⟩ := List.mem_map.mp ha
  exact (List.of_mem_zip (show (q.1, q.2) ∈ ts.zip as from (List.mem_filter.mp hq).1)).2
theorem place_len {pl : Stp} {ts : List Stp} {as : List Ans} : (placeAns pl ts as).length ≤ ts.length := by
  unfold placeAns
  rw [List.length_map]
  refine Nat.le_trans (List.length_filter_le _ _) ?_
  rw [List.length_zip]
  exact Nat.min_le_left _ _
section
variable {P : Program} {w : World} {K : PySem.W.Frag} {mg : Str → Option Value} {base : Heap}
abbrev sSlots : Stmt := top 51
abbrev nSlots : List Str := ["_law_plot", "_law_strides", "_law_more", "_law_heard", "_law_wide", "_law_place", "_law_lone", "_law_due", "_law_plain", "_law_stride", "_law_answer"]
theorem scSlots : FnScope ["_law_plot", "_law_strides", "_law_more", "_law_heard", "_law_wide", "_law_place", "_law_lone", "_law_due", "_law_plain", "_law_stride", "_law_answer"] ["_law_plot", "_law_strides", "_law_more"] (defScope sSlots) := ⟨rfl, rfl, rfl, by decide +kernel, rfl, by decide +kernel, by decide +kernel⟩
def spSlots (K : PySem.W.Frag) : Sp := fun vs H Q _ => ∃ (vp : V) (l1 l2 : Addr) (p : Prg) (ts ms : List Stp), vs = [vp, .ref l1, .ref l2] ∧ Dp K H vp (prD p) ∧ p.Ok ∧ StepsAt K H l1 ts ∧ StepsAt K H l2 ms ∧ (∀ t ∈ ts, StpOk p t) ∧ (∀ t ∈ ms, StpOk p t) ∧ nocall ms = nocall ts ∧ ts.length ≤ 60 ∧ ms.length ≤ 60 ∧
  ∀ H', Same H H' → Q (.bl true) H'
theorem ok_slots {f : Addr} {fd : FuncData} (B : Bl mg) (F : DefAt K "_law_slots_right" "_law_slots_right" sSlots f fd) (GR : Glb P w K mg base CX0 16 "run" ["program", "steps"] (spRun K)) (GS : GlbG P w K mg base CX0 1 "_law_same" ["_law_found", "_law_due"] (spSame K)) :
    FnOkG P w K mg base CX0 17 f fd ["_law_plot", "_law_strides", "_law_more"] (spSlots K) := by
  obtain ⟨fR, fdR, GR, gR, kR, bR⟩ := GR.ex
  obtain ⟨fS, fdS, GS, gS, kS, bS⟩ := GS.ex
  refine okG F scSlots (fun vs H Q E h => ?_) (fun cdv A outer s H vs Q E hr g h => ?_)
  · obtain ⟨vp, l1, l2, p, ts, ms, rfl, _⟩ := h
    rfl
  · obtain ⟨vp, l1, l2, p, ts, ms, rfl, hp, ok, ⟨us1, hl1, hd1⟩, ⟨us2, hl2, hd2⟩, ht1, ht2, hnc, len1, len2, k⟩ := h
    have hr1 : Room 1 _ := hr.mono (by decide)
    refine ⟨_, PSs.nox (pss_cons (ps_par (i := 3) (j := 4) rfl scSlots.nd rfl rfl (by decide) rfl rfl (pa_cons (pe_call GR hr rfl gR kR bR .nil pass0 (pa_cons (pv 0) (pa_cons (pv 1) pa_nil))) (pa_cons (pe_call GR hr rfl gR kR bR .nil pass0 (pa_cons (pv 0) (pa_cons (pv 2) pa_nil))) pa_nil)) (by rfl))
      (pss_cons (ps_for PassesOwn.never rfl (pi_listK (K := K) (pe_callB (sortKK (K := K) (P := P) (w := w) rfl hr.units) (by rfl) B.sorted bt_sorted (pa_cons (pe_callTy (setKK (K := K) (P := P) (w := w) rfl hr.units) (by rfl) B.set bt_set (pa_cons
          (pe_lc (own := [("_law_stride", 9)]) (g := gName 9) rfl scSlots.nd (pi_listK (K := K) (pv 2)) (blkOk_by (N := nSlots) (sc := defScope sSlots) (by decide +kernel)) (fun _ _ _ _ _ => pg_name (i := 9) scSlots.nd rfl (Or.inl rfl))
            (fun _ _ _ _ _ => pts_one (pt_cmpR op_eq (pe_ix (ixtK (K := K)) (pv 9) pe_int (fun _ _ => rfl)) pe_str (nomark _))) (fun _ _ _ _ _ => pv 9)) pa_nil)) pa_nil))) (pg_name (i := 5) scSlots.nd rfl (Or.inr rfl))
        (pss_cons (ps_setLc (i := 6) (own := [("_law_stride", 9)]) (g := gName 9) rfl scSlots.nd rfl rfl (sw_true rfl rfl rfl (by decide +kernel)) (pi_listK (K := K) (pv 2)) (blkOk_by (N := nSlots) (sc := defScope sSlots) (by decide +kernel)) (fun _ _ _ _ _ => pg_name (i := 9) scSlots.nd rfl (Or.inl rfl))
            (fun _ _ _ _ _ => pts_one (pw_or (pt_cmpR op_ne (pe_ix (ixtK (K := K)) (pv 9) pe_int (fun _ _ => rfl)) pe_str (nomark _)) (pw_or1 (pt_cmpR (eqDK (K := K) hr.units) (pv 9) (pv 5) (nomark _)))).pt) (fun _ _ _ _ _ => pv 9))
        (pss_cons (ps_setLc (i := 7) (own := [("_law_stride", 9), ("_law_answer", 10)]) (g := gTup K 2 (gCons (gName 9) (gCons (gName 10) gNil))) rfl scSlots.nd rfl rfl (sw_true rfl rfl rfl (by decide +kernel)) (pi_zipK (K := K) (by rfl) B.zip (pa_cons (pv 2) (pa_cons (pv 4) pa_nil))) (blkOk_by (N := nSlots) (sc := defScope sSlots) (by decide +kernel))
            (fun _ _ _ _ _ => pg_tupKK (K := K) rfl (pgs_cons (pg_name (i := 9) scSlots.nd rfl (Or.inl rfl)) (pgs_cons (pg_name (i := 10) scSlots.nd rfl (Or.inl rfl)) pgs_nil)))
            (fun _ _ _ _ _ => pts_one (pt_cmpR (eqDK (K := K) hr.units) (pv 9) (pv 5) (nomark _))) (fun _ _ _ _ _ => pv 10))
        (pss_one (ps_if (pt_not (pt_val (pe_callG GS hr1 g rfl gS kS bS pass0 (pa_cons (pe_lc (own := [("_law_stride", 9), ("_law_answer", 10)]) (g := gTup K 2 (gCons (gName 9) (gCons (gName 10) gNil))) rfl scSlots.nd (pi_zipK (K := K) (by rfl) B.zip (pa_cons (pv 6) (pa_cons (pe_call GR hr rfl gR kR bR .nil pass0 (pa_cons (pv 0) (pa_cons (pv 6) pa_nil))) pa_nil))) (blkOk_by (N := nSlots) (sc := defScope sSlots) (by decide +kernel))
            (fun _ _ _ _ _ => pg_tupKK (K := K) rfl (pgs_cons (pg_name (i := 9) scSlots.nd rfl (Or.inl rfl)) (pgs_cons (pg_name (i := 10) scSlots.nd rfl (Or.inl rfl)) pgs_nil)))
            (fun _ _ _ _ _ => pts_one (pt_cmpR (eqDK (K := K) hr.units) (pv 9) (pv 5) (nomark _))) (fun _ _ _ _ _ => pv 10)) (pa_cons (pv 7) pa_nil))))) (pss_one (ps_ret pe_bl)) pss_nil)))))
      (pss_cons (ps_setLc (i := 8) (own := [("_law_stride", 9), ("_law_answer", 10)]) (g := gTup K 2 (gCons (gName 9) (gCons (gName 10) gNil))) rfl scSlots.nd rfl rfl (sw_true rfl rfl rfl (by decide +kernel)) (pi_zipK (K := K) (by rfl) B.zip (pa_cons (pv 1) (pa_cons (pv 3) pa_nil))) (blkOk_by (N := nSlots) (sc := defScope sSlots) (by decide +kernel))
            (fun _ _ _ _ _ => pg_tupKK (K := K) rfl (pgs_cons (pg_name (i := 9) scSlots.nd rfl (Or.inl rfl)) (pgs_cons (pg_name (i := 10) scSlots.nd rfl (Or.inl rfl)) pgs_nil)))
            (fun _ _ _ _ _ => pts_one (pt_cmpR op_ne (pe_ix (ixtK (K := K)) (pv 9) pe_int (fun _ _ => rfl)) pe_str (nomark _))) (fun _ _ _ _ _ => pv 10))
      (pss_one (ps_ret (pe_callG GS hr1 g rfl gS kS bS pass0 (pa_cons (pe_lc (own := [("_law_stride", 9), ("_law_answer", 10)]) (g := gTup K 2 (gCons (gName 9) (gCons (gName 10) gNil))) rfl scSlots.nd (pi_zipK (K := K) (by rfl) B.zip (pa_cons (pv 2) (pa_cons (pv 4) pa_nil))) (blkOk_by (N := nSlots) (sc := defScope sSlots) (by decide +kernel))
            (fun _ _ _ _ _ => pg_tupKK (K := K) rfl (pgs_cons (pg_name (i := 9) scSlots.nd rfl (Or.inl rfl)) (pgs_cons (pg_name (i := 10) scSlots.nd rfl (Or.inl rfl)) pgs_nil)))
            (fun _ _ _ _ _ => pts_one (pt_cmpR op_ne (pe_ix (ixtK (K := K)) (pv 9) pe_int (fun _ _ => rfl)) pe_str (nomark _))) (fun _ _ _ _ _ => pv 10)) (pa_cons (pv 8) pa_nil)))))))), ?_⟩
    refine ⟨_, rfl, _, rfl, vp, l1, p, ts, rfl, hp, ok, ⟨us1, hl1, hd1⟩, ht1, by omega, fun H1 h1 s1 nh1 ⟨w1, hh1, hda1⟩ => ?_⟩
    refine ⟨_, rfl, _, rfl, vp, l2, p, ms, rfl, dp_same s1 hp, ok, ⟨us2, s1 _ _ hl2, dpa_same s1 hd2⟩, ht2, by omega, fun H2 h2 s2 nh2 ⟨w2, hh2, hda2⟩ => ⟨_, _, rfl, ?_⟩⟩
    have s12 := s1.trans s2
    have hl2' := s12 _ _ hl2
    have hd2' := dpa_same s12 hd2
    have hh1' := s2 _ _ hh1
    have hda1' := dpa_same s2 hda1
    have rl1 := run_len p ts (St.begin p)
    have rl2 := run_len p ms (St.begin p)
    have g0 := StG.begin ok
    -- the places
    refine ⟨_, rfl, l2, rfl, ⟨_, SqL.of hl2'⟩, fun D hD => ?_⟩
    refine rd_fstp (f := Stp.isCall) hD hl2' hd2' (by omega) (fun t x H3 R _ s3 hx kr => ?_) (Nat.le_of_ble_eq_true rfl) (fun H3 acc s3 hacc hca => ?_)
    · obtain ⟨c, rd, ec⟩ := dec_call t
      refine ⟨_, rfl, rd hx ⟨rfl, _, rfl, ?_⟩⟩
      rw [ec]
      exact kr _ (Same.refl _)
    obtain ⟨bs, rfl, bl, hbs⟩ := calls_at hca fun c hc => (List.mem_filter.mp hc).2
    have b60 : bs.length ≤ 60 := by
      rw [bl]
      exact Nat.le_trans (List.length_filter_le _ _) len2
    refine ⟨D, bs, rfl, SqL.of hacc, fun b hb => ?_, by omega, fun S rows nS mem rlen => ?_⟩
    · obtain ⟨x, i, _, hs⟩ := hbs b hb
      exact ⟨[.inr "call", .inr x, .inl (i : Int)], hs⟩
    have sS : Same H3 (upd H3 S (setO P w S rows)) := same_new nS
    refine ⟨S, rows, [false, false, true], rfl, upd_same, by decide, fun r hr2 => ?_, by omega, fun q cs nq hcs clen => ?_⟩
    · obtain ⟨x, i, _, hs⟩ := hbs _ (mem r hr2)
      exact ⟨[.inr "call", .inr x, .inl (i : Int)], same_sqT sS hs, rfl⟩
    have sQ : Same (upd H3 S (setO P w S rows)) (upd (upd H3 S (setO P w S rows)) q (.lst (cs.map V.ref))) := same_new nq
    have hq := upd_same (H := upd H3 S (setO P w S rows)) (a := q) (o := .lst (cs.map V.ref))
    have s3Q := sS.trans sQ
    have hplace : ∀ c ∈ cs, ∃ x i, Stp.call x i ∈ ms ∧ Dp K (upd (upd H3 S (setO P w S rows)) q (.lst (cs.map V.ref))) (.ref c) (stpD (.call x i)) := fun c hc => by
      obtain ⟨r, hr2, rfl⟩ := hcs c hc
      obtain ⟨x, i, hm, hs⟩ := hbs _ (mem r hr2)
      exact ⟨x, i, (List.mem_filter.mp hm).1, .tup (same_sqT s3Q hs) (.cons (.str _) (.cons (.str _) (.cons (.int _) .nil)))⟩
    have s2Q := s3.trans s3Q
    refine ⟨q, rfl, ⟨_, SqL.of hq⟩, for_list (K := K) (a := q) (xs := cs.map V.ref) (fun i σ H' => ∃ (v5 v6 v7 : Option V), σ = [some vp, some (.ref l1), some (.ref l2), some (.ref h1), some (.ref h2), v5, v6, v7, none, none, none] ∧ Same (upd (upd H3 S (setO P w S rows)) q (.lst (cs.map V.ref))) H') ⟨none, none, none, rfl, Same.refl _⟩ (fun i σ H' _ h => by
        obtain ⟨_, _, _, _, s⟩ := h
        exact SqL.of (s _ _ hq)) ?_ ?_⟩
    · rintro i v σ H' hv ⟨v5, v6, v7, rfl, s4⟩
      rw [List.getElem?_map] at hv
      obtain ⟨c, hc, rfl⟩ := Option.map_eq_some_iff.mp hv
      obtain ⟨px, pi, pm, hpl0⟩ := hplace c (List.mem_of_getElem? hc)
      have hpl := dp_same s4 hpl0
      have po := ht2 _ pm
      have s24 := s2Q.trans s4
      have hl2a := s24 _ _ hl2'
      have hd2a := dpa_same s24 hd2'
      have shp_pl := shp_ok (stp_shp ok po) (by decide)
      -- lone
      refine ⟨_, rfl, l2, rfl, ⟨_, SqL.of hl2a⟩, fun D1 hD1 => ?_⟩
      refine rd_fstp (f := fun t => !t.isCall || decide (t = .call px pi)) hD1 hl2a hd2a (by omega) (fun t x H5 R tm s5 hx kr => ?_) (Nat.le_of_ble_eq_true rfl) (fun H5 acc1 s5 hacc1 hd5 => ?_)
      · obtain ⟨z, rd, ez⟩ := dec_call t
        refine ⟨_, rfl, rd hx ⟨rfl, _, rfl, ?_⟩⟩
        rw [ez]
        cases e : t.isCall with
        | false =>
          have := kr H5 (Same.refl _)
          rw [e] at this
          exact iteT this
        | true =>
          refine iteF ⟨_, rfl, _, rfl, stpD t, stpD (.call px pi), hx, dp_same s5 hpl, shp_ok (stp_shp ok (ht2 t tm)) (by decide), shp_pl, _, rfl, ?_⟩
          rw [stp_eqv]
          have := kr H5 (Same.refl _)
          rw [e] at this
          exact this
      -- due
      have s25 := s24.trans s5
      refine ⟨_, rfl, _, rfl, l2, h2, _, _, rfl, SqL.of (s25 _ _ hl2'), SqL.of (s25 _ _ hh2), fun D2 hD2 => ?_⟩
      refine rd_zip (f := fun t => decide (t = .call px pi)) hD2 (s25 _ _ hl2') (dpa_same s25 hd2') (s25 _ _ hh2) (dpa_same s25 hda2) (by omega) (by omega) (fun t x y H6 R tm s6 hx kr => ?_) (fun _ _ => rfl) (fun _ _ => rfl) (fun H6 acc2 s6 hacc2 hd6 => ?_)
      · refine ⟨_, rfl, _, rfl, stpD t, stpD (.call px pi), hx, dp_same (s5.trans s6) hpl, shp_ok (stp_shp ok (ht2 t tm)) (by decide), shp_pl, _, rfl, ?_⟩
        rw [stp_eqv]
        exact kr H6 (Same.refl _)
      -- the lone run
      have s26 := s25.trans s6
      have lsub : ∀ t ∈ lone (.call px pi) ms, StpOk p t := fun t ht => ht2 t (List.mem_filter.mp ht).1
      have llen : (lone (.call px pi) ms).length ≤ 60 := Nat.le_trans (List.length_filter_le _ _) len2
      refine ⟨_, rfl, _, rfl, _, rfl, vp, D1, p, lone (.call px pi) ms, rfl, dp_same (s12.trans s26) hp, ok, ⟨acc1, s6 _ _ hacc1, dpa_same s6 hd5⟩, lsub, by omega, fun H7 hL s7 nhL ⟨wL, hhL, hdaL⟩ => ?_⟩
      have rlL := run_len p (lone (.call px pi) ms) (St.begin p)
      refine ⟨D1, hL, _, _, rfl, SqL.of (s7 _ _ (s6 _ _ hacc1)), SqL.of hhL, fun D3 hD3 => ?_⟩
      refine rd_zip (f := fun t => decide (t = .call px pi)) hD3 (s7 _ _ (s6 _ _ hacc1)) (dpa_same (s6.trans s7) hd5) hhL hdaL rlL.symm (Nat.le_trans llen (by decide)) (fun t x y H8 R tm s8 hx kr => ?_) (fun _ _ => rfl) (fun _ _ => rfl) (fun H8 acc3 s8 hacc3 hd8 => ?_)
      · refine ⟨_, rfl, _, rfl, stpD t, stpD (.call px pi), hx, dp_same (((s5.trans s6).trans s7).trans s8) hpl, shp_ok (stp_shp ok (lsub t tm)) (by decide), shp_pl, _, rfl, ?_⟩
        rw [stp_eqv]
        exact kr H8 (Same.refl _)
      have eq1 : placeAns (.call px pi) ms (runM p (St.begin p) ms) = placeAns (.call px pi) (lone (.call px pi) ms) (runM p (St.begin p) (lone (.call px pi) ms)) := place_ans ⟨Core.refl _, rfl⟩
      have hd8' : DpAll K H8 acc3 ((placeAns (.call px pi) (lone (.call px pi) ms) (runM p (St.begin p) (lone (.call px pi) ms))).map ansD) := hd8
      have hd6' : DpAll K H6 acc2 ((placeAns (.call px pi) ms (runM p (St.begin p) ms)).map ansD) := hd6
      rw [← eq1] at hd8'
      refine ⟨_, rfl, D3, D2, _, rfl, .lst (SqL.of hacc3) hd8', .lst (SqL.of (s8 _ _ (s7 _ _ hacc2))) (dpa_same (s7.trans s8) hd6'), shw_answers ok (fun a ha => run_ok ok g0 ht2 a (place_sub a ha)) (Nat.le_trans place_len (by omega)), ?_⟩
      refine ⟨_, rfl, iteF ⟨_, _, _, rfl, ((s4.trans (s5.trans s6)).trans s7).trans s8⟩⟩
    · rintro σ H' ⟨v5, v6, v7, rfl, s4⟩
      have s24 := s2Q.trans s4
      have s14 := s2.trans s24
      refine ⟨_, rfl, _, rfl, l1, h1, _, _, rfl, SqL.of ((s1.trans s14) _ _ hl1), SqL.of (s14 _ _ hh1), fun D1 hD1 => ?_⟩
      refine rd_zip (f := fun t => !t.isCall) hD1 ((s1.trans s14) _ _ hl1) (dpa_same (s1.trans s14) hd1) (s14 _ _ hh1) (dpa_same s14 hda1) (by omega) (by omega) (fun t x y H5 R tm s5 hx kr => ?_) (fun _ _ => rfl) (fun _ _ => rfl) (fun H5 acc1 s5 hacc1 hd5 => ?_)
      · obtain ⟨z, rd, ez⟩ := dec_call t
        refine ⟨_, rfl, rd hx ⟨rfl, _, rfl, ?_⟩⟩
        rw [ez]
        exact kr H5 (Same.refl _)
      have s25 := s24.trans s5
      refine ⟨_, rfl, _, rfl, l2, h2, _, _, rfl, SqL.of (s25 _ _ hl2'), SqL.of (s25 _ _ hh2), fun D2 hD2 => ?_⟩
      refine rd_zip (f := fun t => !t.isCall) hD2 (s25 _ _ hl2') (dpa_same s25 hd2') (s25 _ _ hh2) (dpa_same s25 hda2) (by omega) (by omega) (fun t x y H6 R tm s6 hx kr => ?_) (fun _ _ => rfl) (fun _ _ => rfl) (fun H6 acc2 s6 hacc2 hd6 => ?_)
      · obtain ⟨z, rd, ez⟩ := dec_call t
        refine ⟨_, rfl, rd hx ⟨rfl, _, rfl, ?_⟩⟩
        rw [ez]
        exact kr H6 (Same.refl _)
      have e1 : doorAns ts (runM p (St.begin p) ts) = runM p (St.begin p) (nocall ts) := door_ans (Core.refl _)
      have e2 : doorAns ms (runM p (St.begin p) ms) = runM p (St.begin p) (nocall ts) := by rw [← hnc]; exact door_ans (Core.refl _)
      have hd5' : DpAll K H5 acc1 ((doorAns ts (runM p (St.begin p) ts)).map ansD) := hd5
      have hd6' : DpAll K H6 acc2 ((doorAns ms (runM p (St.begin p) ms)).map ansD) := hd6
      rw [e1] at hd5'
      rw [e2] at hd6'
      have ncl : (runM p (St.begin p) (nocall ts)).length ≤ 1000 := by
        rw [run_len]
        exact Nat.le_trans (List.length_filter_le _ _) (by omega)
      refine ⟨_, rfl, D2, D1, _, rfl, .lst (SqL.of hacc2) hd6', .lst (SqL.of (s6 _ _ hacc1)) (dpa_same s6 hd5'), shw_answers ok (run_ok ok g0 fun t ht => ht1 t (List.mem_filter.mp ht).1) ncl, ?_⟩
      exact k H6 (((s12.trans s24).trans s5).trans s6)
end
end K10
end
section
set_option maxHeartbeats 4000000
/-! P2: the counts are small; a base can be shown. -/
namespace K10
open PySem PySem.Spec PyProof.Rows L2
def CB (st : St) : Prop := ∀ c ∈ st.counts, 0 ≤ c ∧ c ≤ 2
theorem CB.cnt {st : St} (h : CB st) (k : Nat) : 0 ≤ cntAt st k ∧ cntAt st k ≤ 2 := by
  unfold cntAt
  rw [List.getD_eq_getElem?_getD]
  cases e : st.counts[k]? with
  | none => exact ⟨Int.le_refl _, by decide⟩
  | some c => exact h c (List.mem_of_getElem? e)
theorem cb_set {l : List Int} {k : Nat} {v : Int} (h : ∀ c ∈ l, 0 ≤ c ∧ c ≤ 2) (hv : 0 ≤ v ∧ v ≤ 2) : ∀ c ∈ l.set k v, 0 ≤ c ∧ c ≤ 2 := fun c hc => by
  rcases List.mem_or_eq_of_mem_set hc with z | z
  · exact h c z
  · rw [z]; exact hv
theorem CB.step {p : Prg} {st : St} (h : CB st) (t : Stp) : CB (stepM p st t).1 := by
  cases t with
  | opn k =>
    show CB (openM p st k).1
    have q := h.cnt k
    unfold openM
    split
    · exact h
    · rename_i n2
      show CB (if cntAt st k + 1 = 1 then comeM p { st with counts := st.counts.set k (cntAt st k + 1) } k else { st with counts := st.counts.set k (cntAt st k + 1) })
      have z : ∀ c ∈ st.counts.set k (cntAt st k + 1), 0 ≤ c ∧ c ≤ 2 := cb_set h (by omega)
      split <;> exact z
  | cls k =>
    show CB (closeM p st k).1
    have q := h.cnt k
    unfold closeM
    split
    · exact h
    · rename_i n0
      show CB (if cntAt st k - 1 = 0 then goM p { st with counts := st.counts.set k (cntAt st k - 1), opened := st.opened.erase k } else { st with counts := st.counts.set k (cntAt st k - 1) })
      have z : ∀ c ∈ st.counts.set k (cntAt st k - 1), 0 ≤ c ∧ c ≤ 2 := cb_set h (by omega)
      split <;> exact z
  | call x i =>
    have c := (core_away p st x i).c
    intro y hy
    rw [c] at hy
    exact h y hy
theorem CB.behind {p : Prg} : ∀ {ts : List Stp} {st : St}, CB st → CB (behindM p st ts)
  | [], _, h => h
  | t :: ts, st, h => CB.behind (ts := ts) (h.step t)
theorem CB.begin (p : Prg) : CB (St.begin p) := fun c hc => by
  obtain ⟨d, _, rfl⟩ := List.mem_map.mp hc
  exact ⟨Int.le_refl _, by decide⟩
theorem sh_base {p : Prg} (ok : p.Ok) {st : St} (so : StOk p st) (cb : CB st) : Sh 2 356 (baseD st) := by
  have shInts : ∀ is : List Int, is.length ≤ 8 → (∀ i ∈ is, i.natAbs < 1000) → Sh 1 88 (.tuple (is.map .int)) := fun is l h => Sh.tuple (n := 0) (W := 10) (L := 8) (fun d hd => by
    obtain ⟨i, hi, rfl⟩ := List.mem_map.mp hd
    exact Sh.num (h i hi)) (by rw [List.length_map]; exact l)
  have shStrs : ∀ xs : List Str, xs.length ≤ 8 → (∀ x ∈ xs, x ∈ p.names) → Sh 1 88 (.tuple (xs.map .str)) := fun xs l h => (Sh.tuple (n := 0) (W := 8) (L := 8) (fun d hd => by
    obtain ⟨x, hx, rfl⟩ := List.mem_map.mp hd
    exact Sh.str (name_ok ok (h x hx))) (by rw [List.length_map]; exact l)).mono (Nat.le_refl _) (by decide)
  have d8 := ok.d8
  have h1 := shInts st.counts (by rw [so.cl]; exact d8) fun i hi => by
    have := cb i hi
    omega
  have h2 := shInts (st.opened.map fun k : Nat => (k : Int)) (by rw [List.length_map]; exact so.o8 ok) fun i hi => by
    obtain ⟨k, hk, rfl⟩ := List.mem_map.mp hi
    have := so.lt hk
    omega
  have e2 : (st.opened.map fun k : Nat => (k : Int)).map PyData.int = st.opened.map fun k : Nat => PyData.int (k : Int) := by rw [List.map_map] <;> rfl
  rw [e2] at h2
  have h3 := shStrs st.pub (so.p8 ok) so.pub.sub
  have h4 := shStrs (srt st.deep) (by rw [srt_len]; exact so.de8 ok) fun x hx => so.deep.sub x (srt_mem.mp hx)
  refine Sh.tuple (n := 1) (W := 88) (L := 4) (fun d hd => ?_) (Nat.le_refl _)
  simp only [List.mem_cons, List.not_mem_nil, or_false] at hd
  rcases hd with rfl | rfl | rfl | rfl
  · exact h1
  · exact h2
  · exact h3
  · exact h4
end K10
end
section
set_option maxHeartbeats 4000000
/-! LM: the law's right. -/
namespace K10
open PySem PySem.Spec PyProof.Rows L2
/-- host and mate, side by side -/
structure Two (K : PySem.W.Frag) (C b : Addr) (n : Nat) (Hs H : Hp) (vp : V) (p : Prg) (A M : Adr) (sh sm : St) : Prop where
  kb : Kb b Hs H
  bx : BoxAt n H b
  hp : Dp K H vp (prD p)
  ha : PAt K C H A p sh
  hm : PAt K C H M p sm
  gh : StG p sh
  gm : StG p sm
  co : Core sh sm
  fr : Fresh p sm
  fa : ∀ c, A.F c → Hs c = none
  fm : ∀ c, M.F c → Hs c = none
  d1 : ∀ c, A.F c → ¬ M.F c
  d2 : ∀ c, A.F c → ¬ M.R c
  d3 : ∀ c, M.F c → ¬ A.R c
theorem Two.same {K : PySem.W.Frag} {C b : Addr} {n : Nat} {Hs H H' : Hp} {vp : V} {p : Prg} {A M : Adr} {sh sm : St} (t : Two K C b n Hs H vp p A M sh sm) (ok : p.Ok) (s : Same H H') : Two K C b n Hs H' vp p A M sh sm :=
  ⟨Kb.trans t.kb (Kp.same s), t.bx.same s, dp_same s t.hp, t.ha.same ok s, t.hm.same ok s, t.gh, t.gm, t.co, t.fr, t.fa, t.fm, t.d1, t.d2, t.d3⟩
theorem box_kp {F : Addr → Prop} {n : Nat} {H H' : Hp} {b : Addr} (h : BoxAt n H b) (k : Kp F H H') (nb : ¬ F b) : BoxAt n H' b := by
  obtain ⟨x, y, c, e, r⟩ := h
  exact ⟨x, y, c, k.keep _ _ nb e, r⟩
theorem live_b {n : Nat} {Hs : Hp} {b : Addr} {F : Addr → Prop} (h : BoxAt n Hs b) (f : ∀ c, F c → Hs c = none) : ¬ F b := fun z => by
  obtain ⟨xs, e⟩ := h.at
  rw [f b z] at e
  cases e
/-- both are called at one place: one answer -/
theorem Two.host {K : PySem.W.Frag} {C b : Addr} {n n0 : Nat} {Hs H H1 : Hp} {vp : V} {p : Prg} {A M : Adr} {sh sm : St} (t : Two K C b n Hs H vp p A M sh sm) (ok : p.Ok) (hb : BoxAt n0 Hs b) {x : Str} {i : Nat} (hu : (useAt p x i).isSome = true) (k : Kp A.F H H1) (h : PAt K C H1 A p (callM p sh x i).1) :
    Two K C b n Hs H1 vp p A M (callM p sh x i).1 sm :=
  ⟨Kp.trans t.kb k fun c hc => .inr (t.fa c hc), box_kp t.bx k (live_b hb t.fa), dp_kp k (td_pr ok) t.hp, h, t.hm.kp ok k (fun c hc z => t.d1 c z hc) (fun c hc z => t.d2 c z hc), t.gh.call ok hu, t.gm, (core_call p sh x i).trans t.co, t.fr, t.fa, t.fm, t.d1, t.d2, t.d3⟩
theorem Two.mate {K : PySem.W.Frag} {C b : Addr} {n n0 : Nat} {Hs H H1 : Hp} {vp : V} {p : Prg} {A M : Adr} {sh sm : St} (t : Two K C b n Hs H vp p A M sh sm) (ok : p.Ok) (hb : BoxAt n0 Hs b) {x : Str} {i : Nat} (hu : (useAt p x i).isSome = true) (k : Kp M.F H H1) (h : PAt K C H1 M p (callM p sm x i).1) :
    Two K C b n Hs H1 vp p A M sh (callM p sm x i).1 :=
  ⟨Kp.trans t.kb k fun c hc => .inr (t.fm c hc), box_kp t.bx k (live_b hb t.fm), dp_kp k (td_pr ok) t.hp, t.ha.kp ok k (fun c hc z => t.d1 c hc z) (fun c hc z => t.d3 c z hc), h, t.gh, t.gm.call ok hu, t.co.trans (core_call p sm x i).symm, (fresh_call t.fr x i).2, t.fa, t.fm, t.d1, t.d2, t.d3⟩
theorem ans_ref {K : PySem.W.Frag} {H : Hp} {v : V} {a : Ans} (h : Dp K H v (ansD a)) : ∃ q, v = .ref q := by
  obtain ⟨q, _, e, _⟩ := dp_tupE (ds := match ansD a with | .tuple ds => ds | _ => []) (by cases a <;> exact h)
  exact ⟨q, e⟩
/-- the slots behind a turn -/
def ShapeR (b : Addr) (σ : L2.St) : Prop := ∃ v1 v2 v3 v4 v5 v6 v7 v8 v9 v10 : Option V, σ = [some (.ref b), v1, v2, v3, v4, v5, v6, v7, v8, v9, v10, none, none, none]
section
variable {P : Program} {w : World} {K : PySem.W.Frag} {mg : Str → Option Value} {base : Heap}
abbrev sRight : Stmt := top 52
abbrev nRight : List Str := ["_law_box_here", "_law_turn", "_law_plot", "_law_strides", "_law_more", "_law_bare", "_law_grounds", "_law_host", "_law_mate", "_law_lib_here", "_law_spot", "_law_time", "_law_stride", "_law_some_here"]
def forBody : Stmt → List Stmt
  | .For _ _ body _ _ => body
  | _ => []
abbrev bRight : List Stmt := forBody ((defBody sRight).getD 0 (.Pass ⟨0, 0, 0, 0⟩))
theorem scRight : FnScope ["_law_box_here", "_law_turn", "_law_plot", "_law_strides", "_law_more", "_law_bare", "_law_grounds", "_law_host", "_law_mate", "_law_lib_here", "_law_spot", "_law_time", "_law_stride", "_law_some_here"] ["_law_box_here"] (defScope sRight) := ⟨rfl, rfl, rfl, by decide +kernel, rfl, by decide +kernel, by decide +kernel⟩
def spRight : Sp := fun vs H Q _ => ∃ (b : Addr) (n : Nat), vs = [.ref b] ∧ BoxAt n H b ∧ n ≤ 100000 ∧ ∀ H', Kb b H H' → Q (.bl true) H'
theorem ok_right {f C N : Addr} {fd : FuncData} (B : Bl mg) (T : ClsF K C pK) (F : DefAt K "_law_right" "_law_right" sRight f fd) (GPr : Glb P w K mg base CX0 5 "_law_program" ["_law_box_here", "_law_most", "_law_gates"] (spProg K)) (GSt : Glb P w K mg base CX0 3 "_law_step" ["_law_box_here", "_law_plot"] (spStep K))
    (GSw : Glb P w K mg base CX0 4 "_law_strewn" ["_law_box_here", "_law_plot", "_law_strides"] (spStrewn K)) (GW : Glb P w K mg base CX0 16 "_law_went" ["_law_plot", "_law_strides"] (spWent K C)) (GS : GlbG P w K mg base CX0 1 "_law_same" ["_law_found", "_law_due"] (spSame K))
    (GR : GlbG P w K mg base CX0 17 "_law_slots_right" ["_law_plot", "_law_strides", "_law_more"] (spSlots K)) (MB : Mth P w K mg base CX0 2 C "base" ["self"] (spBase K C)) (MT : Mth P w K mg base CX0 1 C "there" ["self"] (spThere K C))
    (MSl : Mth P w K mg base (L2.CX P w) 4 C "slot" ["self", "name", "i"] (spSlot K C N)) (MC : Mth P w K mg base (L2.CX P w) 6 C "call" ["self", "name", "i"] (spCall K C N)) : FnOkG P w K mg base CX0 18 f fd ["_law_box_here"] spRight := by
  obtain ⟨fPr, fdPr, GPr, gPr, kPr, bPr⟩ := GPr.ex
  obtain ⟨fSt, fdSt, GSt, gSt, kSt, bSt⟩ := GSt.ex
  obtain ⟨fSw, fdSw, GSw, gSw, kSw, bSw⟩ := GSw.ex
  obtain ⟨fW, fdW, GW, gW, kW, bW⟩ := GW.ex
  obtain ⟨fS, fdS, GS, gS, kS, bS⟩ := GS.ex
  obtain ⟨fR, fdR, GR, gR, kR, bR⟩ := GR.ex
  obtain ⟨fB, fdB, GB, mB, bB⟩ := MB.ex
  obtain ⟨fT, fdT, GT, mT, bT⟩ := MT.ex
  obtain ⟨fL, fdL, GL, mL, bL⟩ := MSl.ex
  obtain ⟨fC, fdC, GC, mC, bC⟩ := MC.ex
  refine okG F scRight (fun vs H Q E h => ?_) (fun cdv A outer s H vs Q E hr g h => ?_)
  · obtain ⟨b, n, rfl, _⟩ := h
    rfl
  · obtain ⟨b, n, rfl, hb, n6, k⟩ := h
    have hr1 : Room 1 _ := hr.mono (by decide)
    have hr2 : Room 2 _ := hr.mono (by decide)
    have hr3 : Room 3 _ := hr.mono (by decide)
    have hr4 : Room 4 _ := hr.mono (by decide)
    have hr5 : Room 5 _ := hr.mono (by decide)
    have hr6 : Room 6 _ := hr.mono (by decide)
    have hr16 : Room 16 _ := hr.mono (by decide)
    obtain ⟨t6, w6, r6⟩ : ∃ t6, PSs (cxOf CX0 P w K mg base nRight "_law_right" (defScope sRight) f cdv A outer s H E).nox (bRight.drop 6) t6 ∧ ∀ (D : Ends) (H1 : Hp) (v1 v3 v4 v5 v6 v9 v10 : Option V) (vp : V) (p : Prg) (Ah Am : Adr) (sh sm : St) (n1 : Nat), Two K C b n1 H H1 vp p Ah Am sh sm → p.Ok →
          (∀ σ' H', ShapeR b σ' → Kb b H H' → BoxAt n1 H' b → D.nx σ' H') → t6 D [some (.ref b), v1, some vp, v3, v4, v5, v6, some (.ref Ah.p), some (.ref Am.p), v9, v10, none, none, none] H1 := by
      refine ⟨_, pss_one (ps_for PassesOwn.never rfl (pi_tupK (K := K) (pe_ix (ixtK (K := K)) (pv 2) pe_int (fun _ _ => rfl))) (pg_name (i := 9) scRight.nd rfl (Or.inl rfl))
          (pss_one (ps_for PassesOwn.never rfl (pi_range1 rfl B.range (pa_cons (pe_ifExp (pt_cmpR (inK (K := K)) (pe_ix (ixtK (K := K)) (pv 9) pe_int (fun _ _ => rfl)) (pe_meth0 (pv 8) T.cl mT GT hr1 bT .nil pass0) (by rfl))
              (pe_callB (lenK (K := K)) (by rfl) B.len bt_len (pa_cons (pe_ix (ixtK (K := K)) (pv 9) pe_int (fun _ _ => rfl)) pa_nil)) pe_int) pa_nil)) (pg_name (i := 10) scRight.nd rfl (Or.inl rfl))
            (pss_one (ps_if (pt_cmpR op_isN (pe_meth (E := E0) (pv 7) T.cl mL GL hr4 bL .nil passL (pa_cons (pe_ix (ixtK (K := K)) (pv 9) pe_int (fun _ _ => rfl)) (pa_cons (pv 10) pa_nil))) pe_non (nomark _))
              (pss_one (ps_if (pt_not (pt_val (pe_callG GS hr1 g rfl gS kS bS pass0 (pa_cons (pe_meth (E := E0) (pv 7) T.cl mC GC hr6 bC .nil passL (pa_cons (pe_ix (ixtK (K := K)) (pv 9) pe_int (fun _ _ => rfl)) (pa_cons (pv 10) pa_nil)))
                (pa_cons (pe_meth (E := E0) (pv 8) T.cl mC GC hr6 bC .nil passL (pa_cons (pe_ix (ixtK (K := K)) (pv 9) pe_int (fun _ _ => rfl)) (pa_cons (pv 10) pa_nil))) pa_nil))))) (pss_one (ps_ret pe_bl)) pss_nil)) pss_nil))))), ?_⟩
      intro D H1 v1 v3 v4 v5 v6 v9 v10 vp p Ah Am sh sm n1 t ok nxt
      refine ⟨_, rfl, ixT0 t.hp fun vl hl => ?_⟩
      obtain ⟨al, xl, rfl, hsl, hal⟩ := dp_tupE hl
      refine ⟨al, rfl, ⟨_, hsl⟩, for_tup (K := K) (a := al) (xs := xl) (fun i σ H' => ∃ (v9 v10 : Option V) (sh sm : St), σ = [some (.ref b), v1, some vp, v3, v4, v5, v6, some (.ref Ah.p), some (.ref Am.p), v9, v10, none, none, none] ∧ Kp (fun c => Ah.F c ∨ Am.F c) H1 H' ∧ Two K C b n1 H H' vp p Ah Am sh sm)
        ⟨v9, v10, sh, sm, rfl, Kp.refl _ _, t⟩ (fun i σ H' _ h => by
          obtain ⟨_, _, _, _, _, kk, _⟩ := h
          exact kk.sqT hsl) ?_ ?_⟩
      · rintro i x σ H' hx ⟨v9, v10, sh, sm, rfl, kk, t⟩
        obtain ⟨d, hd1, hd2⟩ := dpa_at hal hx
        rw [List.getElem?_map] at hd1
        obtain ⟨l, hl1, rfl⟩ := Option.map_eq_some_iff.mp hd1
        have lm := List.mem_of_getElem? hl1
        have l8 := ok.l8 l lm
        have tdl : td 3 (lbD l) := td_lb l8
        have hx1 := dp_kp kk tdl hd2
        refine ⟨_, rfl, ixT0 hx1 fun vn hn => ?_⟩
        obtain rfl := dp_strE hn
        refine ⟨_, rfl, Am.p, Am.dx, _, rfl, t.hm.ins, lookup_zip_none (by decide +kernel), Am, p, sm, rfl, t.hm, fun H2 ly ys s2 _ hly mem => rIn_strs (SqL.of hly) ⟨_, rfl, ?_⟩⟩
        have hx2 := dp_same s2 hx1
        have t2 := t.same ok s2
        have kk2 : Kp (fun c => Ah.F c ∨ Am.F c) H1 H2 := kk.trans (Kp.same (F := fun c => Ah.F c ∨ Am.F c) s2) fun c hc => .inl hc
        cases e : thereM p sm.opened l.name with
        | false =>
          rw [decide_eq_false (fun z => by rw [(mem _).mp z] at e; cases e)]
          exact iteF ⟨_, rfl, by decide, by decide, for_range (lo := 0) (n := 0) (fun i σ H' => σ = [some (.ref b), v1, some vp, v3, v4, v5, v6, some (.ref Ah.p), some (.ref Am.p), some x, v10, none, none, none] ∧ H' = H2) ⟨rfl, rfl⟩ (fun i σ H' z => absurd z (Nat.not_lt_zero _)) (fun σ H' ⟨e1, e2⟩ => by
            subst e1 e2
            exact ⟨_, _, sh, sm, rfl, kk2, t2⟩)⟩
        | true =>
          rw [decide_eq_true ((mem _).mpr e)]
          refine iteT ⟨_, rfl, ixT3 hx2 fun vu hu => ?_⟩
          obtain ⟨au, xu, rfl, hsu, hau⟩ := dp_tupE hu
          have xul := dpa_length hau
          rw [List.length_map] at xul
          have u8 := l8.2.2
          refine ⟨au, xu, rfl, .inr hsu, _, rfl, by omega, by omega, for_range (lo := 0) (n := ((xu.length : Nat) : Int).toNat) (fun i σ H' => ∃ (v10 : Option V) (sh sm : St), σ = [some (.ref b), v1, some vp, v3, v4, v5, v6, some (.ref Ah.p), some (.ref Am.p), some x, v10, none, none, none] ∧ Kp (fun c => Ah.F c ∨ Am.F c) H1 H' ∧ Two K C b n1 H H' vp p Ah Am sh sm ∧ thereM p sh.opened l.name = true ∧ thereM p sm.opened l.name = true)
            ⟨v10, sh, sm, rfl, kk2, t2, by rw [t.co.o]; exact e, e⟩ ?_ ?_⟩
          · rintro j σ H3 hj ⟨v10, sh, sm, rfl, kk3, t3, e1, e2⟩
            have hx3 := dp_kp kk3 tdl hd2
            have ju : j < l.uses.length := by omega
            have hu2 : useAt p l.name j = some l.uses[j] := by
              show (p.libOf l.name).bind (fun l => l.uses[j]?) = _
              rw [lib_own ok lm]
              exact List.getElem?_eq_getElem ju
            have hus : (useAt p l.name j).isSome = true := by rw [hu2] <;> rfl
            refine ⟨_, rfl, Ah.p, Ah.dx, _, rfl, t3.ha.ins, lookup_zip_none (by decide +kernel), _, rfl, ixT0 hx3 fun vn hn => ?_⟩
            obtain rfl := dp_strE hn
            refine ⟨_, rfl, Ah, p, sh, l.name, j, l.uses[j], by rw [Int.zero_add] <;> rfl, t3.ha, ok, hu2, fun _ H4 v s4 hv => ⟨rfl, _, rfl, ?_⟩, fun z => by rw [e1] at z; cases z⟩
            have t4 := t3.same ok s4
            have kk4 : Kp (fun c => Ah.F c ∨ Am.F c) H1 H4 := kk3.trans (Kp.same (F := fun c => Ah.F c ∨ Am.F c) s4) fun c hc => .inl hc
            cases es : slotM sh l.name j with
            | some a =>
              rw [es] at hv
              obtain ⟨q, rfl⟩ := ans_ref hv
              rw [decide_eq_false (by intro z; cases z)]
              exact iteF ⟨_, sh, sm, rfl, kk4, t4, e1, e2⟩
            | none =>
              rw [es] at hv
              have hv : v = .non := hv
              rw [decide_eq_true hv]
              have hx4 := dp_same s4 hx3
              refine iteT ⟨_, rfl, Ah.p, Ah.dx, _, rfl, t4.ha.ins, lookup_zip_none (by decide +kernel), _, rfl, ixT0 hx4 fun vn hn => ?_⟩
              obtain rfl := dp_strE hn
              refine ⟨_, rfl, Ah, p, sh, l.name, j, l.uses[j], by rw [Int.zero_add] <;> rfl, t4.ha, ok, t4.gh.toStOk, hu2, fun _ H5 va k5 h5 hva => ?_, fun z => by rw [e1] at z; cases z⟩
              have t5' := t4.host ok hb hus k5 h5
              have kk5 : Kp (fun c => Ah.F c ∨ Am.F c) H1 H5 := kk4.trans k5 fun c hc => .inl (.inl hc)
              have hx5 := dp_kp k5 tdl hx4
              refine ⟨_, rfl, Am.p, Am.dx, _, rfl, t5'.hm.ins, lookup_zip_none (by decide +kernel), _, rfl, ixT0 hx5 fun vn hn => ?_⟩
              obtain rfl := dp_strE hn
              refine ⟨_, rfl, Am, p, sm, l.name, j, l.uses[j], by rw [Int.zero_add] <;> rfl, t5'.hm, ok, t5'.gm.toStOk, hu2, fun _ H6 vb k6 h6 hvb => ?_, fun z => by rw [e2] at z; cases z⟩
              have t6' := t5'.mate ok hb hus k6 h6
              have kk6 : Kp (fun c => Ah.F c ∨ Am.F c) H1 H6 := kk5.trans k6 fun c hc => .inl (.inr hc)
              have hva6 := dp_kp k6 (td_ans _) hva
              have ea : (callM p sh l.name j).2 = foundM p sh l.name j := by unfold callM; rw [es]
              have eb : (callM p sm l.name j).2 = foundM p sh l.name j := by rw [(fresh_call t5'.fr l.name j).1, core_found t4.co]
              rw [ea] at hva6
              rw [eb] at hvb
              obtain ⟨qa, rfl⟩ := ans_ref hva6
              obtain ⟨qb, rfl⟩ := ans_ref hvb
              refine ⟨qa, qb, _, rfl, hva6, hvb, (sh_ans ok (found_ok ok)).ok (by decide) (by decide), _, rfl, iteF ⟨_, _, _, rfl, kk6, t6', ?_, ?_⟩⟩
              · rw [(core_call p sh l.name j).o]; exact e1
              · rw [(core_call p sm l.name j).o]; exact e2
          · rintro σ H3 ⟨v10, sh, sm, rfl, kk3, t3, e1, e2⟩
            exact ⟨_, _, sh, sm, rfl, kk3, t3⟩
      · rintro σ H' ⟨v9, v10, sh, sm, rfl, kk, t⟩
        exact nxt _ _ ⟨_, _, _, _, _, _, _, _, _, _, rfl⟩ t.kb t.bx
    obtain ⟨t5, w5, r5⟩ : ∃ t5, PSs (cxOf CX0 P w K mg base nRight "_law_right" (defScope sRight) f cdv A outer s H E).nox (bRight.drop 5) t5 ∧ ∀ (D : Ends) (H1 : Hp) (v1 v6 v7 v8 v9 v10 : Option V) (vp : V) (l1 l2 l3 : Addr) (p : Prg) (ts ms : List Stp) (n1 : Nat), Kb b H H1 → BoxAt n1 H1 b → Dp K H1 vp (prD p) → p.Ok → StepsAt K H1 l1 ts → StepsAt K H1 l2 ms → StepsAt K H1 l3 (nocall ts) → (∀ t ∈ ts, StpOk p t) → (∀ t ∈ ms, StpOk p t) → nocall ms = nocall ts → ts.length ≤ 60 → ms.length ≤ 60 →
          (∀ σ' H', ShapeR b σ' → Kb b H H' → BoxAt n1 H' b → D.nx σ' H') → t5 D [some (.ref b), v1, some vp, some (.ref l1), some (.ref l2), some (.ref l3), v6, v7, v8, v9, v10, none, none, none] H1 := by
      refine ⟨_, pss_cons (ps_par (i := 7) (j := 8) rfl scRight.nd rfl rfl (by decide) rfl rfl (pa_cons (pe_call GW hr16 rfl gW kW bW .nil pass0 (pa_cons (pv 2) (pa_cons (pv 4) pa_nil))) (pa_cons (pe_call GW hr16 rfl gW kW bW .nil pass0 (pa_cons (pv 2) (pa_cons (pv 5) pa_nil))) pa_nil)) (by rfl)) w6, ?_⟩
      intro D H1 v1 v6 v7 v8 v9 v10 vp l1 l2 l3 p ts ms n1 kb1 bx1 hp ok st1 st2 st3 ok1 ok2 hnc len1 len2 nxt
      have ok3 : ∀ t ∈ nocall ts, StpOk p t := fun t ht => ok1 t (List.mem_filter.mp ht).1
      refine ⟨_, rfl, _, rfl, vp, l2, p, ms, rfl, hp, ok, st2, ok2, fun H2 Ah s2 n2 => ?_⟩
      obtain ⟨us3, hl3, hd3⟩ := st3
      refine ⟨_, rfl, _, rfl, vp, l3, p, nocall ts, rfl, dp_same s2 hp, ok, ⟨us3, s2 _ _ hl3, dpa_same s2 hd3⟩, ok3, fun H3 Am s3 n3 => ⟨_, _, rfl, ?_⟩⟩
      have s13 := s2.trans s3
      have g0 := StG.begin ok
      have lv : ∀ c, Ah.F c ∨ Ah.R c → H2 c ≠ none := fun c hc z => by
        obtain ⟨o, e⟩ := n2.at_.live hc
        rw [z] at e
        cases e
      refine r6 D H3 _ _ _ _ _ _ _ vp p Ah Am (behindM p (St.begin p) ms) (behindM p (St.begin p) (nocall ts)) n1 ⟨Kb.trans kb1 (Kp.same s13), bx1.same s13, dp_same s13 hp, n2.at_.same ok s3, n3.at_, g0.behind ok ok2, g0.behind ok ok3, ?_, fresh_nil (slots_doors rfl),
        fun c hc => free_b kb1 bx1 (n2.f c hc), fun c hc => free_b kb1 bx1 (s2.free (n3.f c hc)), fun c hc z => lv c (.inl hc) (n3.f c z), fun c hc z => lv c (.inl hc) (n3.r c z), fun c hc z => lv c (.inr z) (n3.f c hc)⟩ ok nxt
      rw [← hnc]
      exact core_behind (Core.refl _)
    obtain ⟨t4, w4, r4⟩ : ∃ t4, PSs (cxOf CX0 P w K mg base nRight "_law_right" (defScope sRight) f cdv A outer s H E).nox (bRight.drop 4) t4 ∧ ∀ (D : Ends) (H1 : Hp) (v1 v7 v8 v9 v10 : Option V) (vp : V) (l1 l2 l3 lg : Addr) (p : Prg) (ts ms : List Stp) (n1 : Nat) (acc : List V) (st0 : St), Kb b H H1 → BoxAt n1 H1 b → Dp K H1 vp (prD p) → p.Ok → StepsAt K H1 l1 ts → StepsAt K H1 l2 ms → StepsAt K H1 l3 (nocall ts) → (∀ t ∈ ts, StpOk p t) → (∀ t ∈ ms, StpOk p t) → nocall ms = nocall ts → ts.length ≤ 60 → ms.length ≤ 60 →
          H1 lg = some (.lst acc) → DpAll K H1 acc [baseD st0, baseD st0, baseD st0] → StOk p st0 → CB st0 → (∀ σ' H', ShapeR b σ' → Kb b H H' → BoxAt n1 H' b → D.nx σ' H') → t4 D [some (.ref b), v1, some vp, some (.ref l1), some (.ref l2), some (.ref l3), some (.ref lg), v7, v8, v9, v10, none, none, none] H1 := by
      refine ⟨_, pss_cons (ps_if (PW.pt (pw_or (pt_not (pt_val (pe_callG GS hr1 g (by rfl) gS kS bS pass0 (pa_cons (pv 6) (pa_cons (pe_op op_rep (pe_lst (pa_cons (pe_ix (ixlK (K := K)) (pv 6) pe_int (fun _ _ => rfl)) pa_nil)) pe_int) pa_nil)))))
            (pw_or1 (pt_not (pt_val (pe_callG GR hr g (by rfl) gR kR bR pass0 (pa_cons (pv 2) (pa_cons (pv 3) (pa_cons (pv 4) pa_nil))))))))) (pss_one (ps_ret pe_bl)) pss_nil) w5, ?_⟩
      intro D H1 v1 v7 v8 v9 v10 vp l1 l2 l3 lg p ts ms n1 acc st0 kb1 bx1 hp ok st1 st2 st3 ok1 ok2 hnc len1 len2 hlg hac so0 cb0 nxt
      obtain ⟨v0, e0, d0⟩ := dpa_get hac (i := 0) rfl
      refine ⟨_, rfl, _, rfl, lg, acc, _, v0, rfl, rfl, SqL.of hlg, atI_nat (j := 0) e0, (by show 1 ≤ sizeLine; decide), fun L nL => ?_⟩
      have sL : Same H1 (upd H1 L (.lst [v0])) := same_new nL
      refine ⟨L, 3, [v0], rfl, rfl, upd_same, by decide, by decide, (by show 1 * 3 ≤ sizeLine; decide), fun L2 nL2 => ?_⟩
      have sL2 : Same (upd H1 L (.lst [v0])) (upd (upd H1 L (.lst [v0])) L2 (.lst (List.replicate (3 : Int).toNat [v0]).flatten)) := same_new nL2
      have s2 := sL.trans sL2
      have h3 : upd (upd H1 L (.lst [v0])) L2 (.lst (List.replicate (3 : Int).toNat [v0]).flatten) L2 = some (.lst [v0, v0, v0]) := upd_same
      generalize upd (upd H1 L (.lst [v0])) L2 (.lst (List.replicate (3 : Int).toNat [v0]).flatten) = H2 at s2 h3 ⊢
      have d2 := dp_same s2 d0
      refine ⟨lg, L2, .list [baseD st0, baseD st0, baseD st0], rfl, .lst (SqL.of (s2 _ _ hlg)) (dpa_same s2 hac), .lst (SqL.of h3) (.cons d2 (.cons d2 (.cons d2 .nil))), (Sh.list (n := 2) (W := 356) (L := 3) (fun d hd => ?_) (Nat.le_refl _)).ok (by decide) (by decide), _, rfl, iteF ?_⟩
      · simp only [List.mem_cons, List.not_mem_nil, or_false] at hd
        rcases hd with rfl | rfl | rfl <;> exact sh_base ok so0 cb0
      obtain ⟨us1, hl1, hd1⟩ := st1
      obtain ⟨us2, hl2, hd2⟩ := st2
      obtain ⟨us3, hl3, hd3⟩ := st3
      have st1' : StepsAt K H2 l1 ts := ⟨us1, s2 _ _ hl1, dpa_same s2 hd1⟩
      have st2' : StepsAt K H2 l2 ms := ⟨us2, s2 _ _ hl2, dpa_same s2 hd2⟩
      refine ⟨_, rfl, _, rfl, _, rfl, vp, l1, l2, p, ts, ms, rfl, dp_same s2 hp, ok, st1', st2', ok1, ok2, hnc, len1, len2, fun H3 s3 => ⟨_, rfl, iteF ?_⟩⟩
      have s13 := s2.trans s3
      exact r5 D H3 _ _ _ _ _ _ vp l1 l2 l3 p ts ms n1 (Kb.trans kb1 (Kp.same s13)) (bx1.same s13) (dp_same s13 hp) ok ⟨us1, s13 _ _ hl1, dpa_same s13 hd1⟩ ⟨us2, s13 _ _ hl2, dpa_same s13 hd2⟩ ⟨us3, s13 _ _ hl3, dpa_same s13 hd3⟩ ok1 ok2 hnc len1 len2 nxt
    obtain ⟨t3, w3, r3⟩ : ∃ t3, PSs (cxOf CX0 P w K mg base nRight "_law_right" (defScope sRight) f cdv A outer s H E).nox (bRight.drop 3) t3 ∧ ∀ (D : Ends) (H1 : Hp) (v1 v6 v7 v8 v9 v10 : Option V) (vp : V) (l1 l2 l3 : Addr) (p : Prg) (ts ms : List Stp) (n1 : Nat), Kb b H H1 → BoxAt n1 H1 b → Dp K H1 vp (prD p) → p.Ok → StepsAt K H1 l1 ts → StepsAt K H1 l2 ms → StepsAt K H1 l3 (nocall ts) → (∀ t ∈ ts, StpOk p t) → (∀ t ∈ ms, StpOk p t) → nocall ms = nocall ts → ts.length ≤ 60 → ms.length ≤ 60 →
          (∀ σ' H', ShapeR b σ' → Kb b H H' → BoxAt n1 H' b → D.nx σ' H') → t3 D [some (.ref b), v1, some vp, some (.ref l1), some (.ref l2), some (.ref l3), v6, v7, v8, v9, v10, none, none, none] H1 := by
      refine ⟨_, pss_cons (ps_setLc (i := 6) (own := [("_law_some_here", 13)]) (g := gName 13) (tt := tYes) rfl scRight.nd rfl rfl (sw_true rfl rfl rfl (by decide +kernel)) (pi_tupK (K := K) (pe_tup (pa_cons (pv 3) (pa_cons (pv 4) (pa_cons (pv 5) pa_nil))))) (blkOk_by (N := nRight) (sc := defScope sRight) (by decide +kernel)) (fun _ _ _ _ _ => pg_name (i := 13) scRight.nd rfl (Or.inl rfl))
            (fun _ _ _ _ _ => pts_nil) (fun _ _ _ _ _ => pe_meth0 (pe_call GW hr16 rfl gW kW bW .nil pass0 (pa_cons (pv 2) (pa_cons (pv 13) pa_nil))) T.cl mB GB hr2 bB .nil pass0)) w4, ?_⟩
      intro D H1 v1 v6 v7 v8 v9 v10 vp l1 l2 l3 p ts ms n1 kb1 bx1 hp ok st1 st2 st3 ok1 ok2 hnc len1 len2 nxt
      have ok3 : ∀ t ∈ nocall ts, StpOk p t := fun t ht => ok1 t (List.mem_filter.mp ht).1
      have g0 := StG.begin ok
      refine ⟨_, rfl, _, rfl, _, rfl, (by show 3 ≤ sizeLine; decide), fun T0 nT0 => ?_⟩
      have sT : Same H1 (upd H1 T0 (.tup [.ref l1, .ref l2, .ref l3])) := same_new nT0
      have hT := upd_same (H := H1) (a := T0) (o := .tup [V.ref l1, V.ref l2, V.ref l3])
      generalize upd H1 T0 (.tup [.ref l1, .ref l2, .ref l3]) = H2 at sT hT ⊢
      refine ⟨T0, rfl, ⟨_, SqT.of hT⟩, fun D0 nD0 => ?_⟩
      have items : ∀ (i : Nat) (x : V), [V.ref l1, V.ref l2, V.ref l3][i]? = some x → ∃ l us, x = .ref l ∧ StepsAt K H2 l us ∧ (∀ t ∈ us, StpOk p t) ∧ baseD (behindM p (St.begin p) us) = baseD (behindM p (St.begin p) ts) := by
        have up : ∀ {l : Addr} {us : List Stp}, StepsAt K H1 l us → StepsAt K H2 l us := fun ⟨v, a, b⟩ => ⟨v, sT _ _ a, dpa_same sT b⟩
        have c0 : Core (behindM p (St.begin p) ts) (behindM p (St.begin p) (nocall ts)) := core_behind (Core.refl _)
        have c1 : Core (behindM p (St.begin p) ms) (behindM p (St.begin p) (nocall ts)) := by rw [← hnc]; exact core_behind (Core.refl _)
        intro i x hx
        match i, hx with
        | 0, hx => cases hx; exact ⟨l1, ts, rfl, up st1, ok1, rfl⟩
        | 1, hx => cases hx; exact ⟨l2, ms, rfl, up st2, ok2, core_base (c1.trans c0.symm)⟩
        | 2, hx => cases hx; exact ⟨l3, nocall ts, rfl, up st3, ok3, core_base c0.symm⟩
        | i + 3, hx => simp at hx
      refine lc_tup (K := K) (a := T0) (xs := [V.ref l1, V.ref l2, V.ref l3]) (fun i H' => Same H2 H' ∧ ∃ acc, H' D0 = some (.lst acc) ∧ DpAll K H' acc (List.replicate i (baseD (behindM p (St.begin p) ts)))) ⟨same_new nD0, [], upd_same, .nil⟩ (fun i H' _ h => same_sqT h.1 (SqT.of hT)) ?_ ?_
      · rintro i x H' hx ⟨s3, acc, hacc, hda⟩
        obtain ⟨l, us, rfl, ⟨ws, hl, hd⟩, oku, eb⟩ := items i x hx
        have i3 : i < 3 := (List.getElem?_eq_some_iff.mp hx).1
        refine ⟨rfl, _, rfl, _, rfl, vp, l, p, us, rfl, dp_same (sT.trans s3) hp, ok, ⟨ws, s3 _ _ hl, dpa_same s3 hd⟩, oku, fun H4 Aw s4 n4 => ?_⟩
        refine ⟨Aw.p, Aw.dx, _, rfl, n4.at_.ins, lookup_zip_none (by decide +kernel), Aw, p, _, rfl, n4.at_, ok, (g0.behind ok oku).toStOk, fun H5 v s5 hv => ?_⟩
        rw [eb] at hv
        have hacc5 := s5 _ _ (s4 _ _ hacc)
        have m := kp_at (o := .lst (acc ++ [v])) (mut_lst hacc5)
        have tdb : td 2 (baseD (behindM p (St.begin p) ts)) := by
          have so := (g0.behind ok ok1).toStOk
          have d8 := ok.d8
          refine ⟨(by show 4 ≤ 1000; decide), fun d hd => ?_⟩
          simp only [List.mem_cons, List.not_mem_nil, or_false] at hd
          rcases hd with rfl | rfl | rfl | rfl
          · exact td_map (n := 0) (by rw [so.cl]; omega) fun _ _ => trivial
          · exact td_map (n := 0) (f := fun k : Nat => PyData.int (k : Int)) (by have := so.o8 ok; omega) fun _ _ => trivial
          · exact td_strs (by have := so.p8 ok; omega)
          · exact td_strs (by rw [srt_len]; have := so.de8 ok; omega)
        have al : acc.length = i := by rw [dpa_length hda, List.length_replicate]
        refine ⟨acc, hacc5, sz1000 (by omega), same_at ((s3.trans s4).trans s5) nD0, acc ++ [v], upd_same, ?_⟩
        rw [List.replicate_succ']
        exact dpa_app (dpa_kp m (n := 2) (fun d hd => by rw [(List.mem_replicate.mp hd).2]; exact tdb) (dpa_same (s4.trans s5) hda)) (.cons (dp_kp m tdb hv) .nil)
      · rintro H' ⟨s3, acc, hacc, hda⟩
        have s13 := sT.trans s3
        obtain ⟨us1, hl1, hd1⟩ := st1
        obtain ⟨us2, hl2, hd2⟩ := st2
        obtain ⟨us3, hl3, hd3⟩ := st3
        exact r4 D H' _ _ _ _ _ vp l1 l2 l3 D0 p ts ms n1 acc (behindM p (St.begin p) ts) (Kb.trans kb1 (Kp.same s13)) (bx1.same s13) (dp_same s13 hp) ok ⟨us1, s13 _ _ hl1, dpa_same s13 hd1⟩ ⟨us2, s13 _ _ hl2, dpa_same s13 hd2⟩ ⟨us3, s13 _ _ hl3, dpa_same s13 hd3⟩ ok1 ok2 hnc len1 len2 hacc hda (g0.behind ok ok1).toStOk (CB.begin p).behind nxt
    refine ⟨_, PSs.nox (pss_cons (ps_for PassesOwn.never rfl (pi_range1 rfl B.range (pa_cons pe_int pa_nil)) (pg_name (i := 1) scRight.nd rfl (Or.inl rfl))
        (pss_cons (ps_set (i := 2) scRight.nd rfl (Or.inr rfl) (pe_call GPr hr5 rfl gPr kPr bPr .nil pass0 (pa_cons (pv 0) (pa_cons pe_int (pa_cons pe_int pa_nil)))))
        (pss_cons (ps_setLc (i := 3) (own := [("_law_time", 11)]) (g := gName 11) (tt := tYes) rfl scRight.nd rfl rfl (sw_true rfl rfl rfl (by decide +kernel)) (pi_range1 rfl B.range (pa_cons pe_int pa_nil)) (blkOk_by (N := nRight) (sc := defScope sRight) (by decide +kernel)) (fun _ _ _ _ _ => pg_name (i := 11) scRight.nd rfl (Or.inl rfl))
            (fun _ _ _ _ _ => pts_nil) (fun _ _ _ _ _ => pe_call GSt hr3 rfl gSt kSt bSt .nil pass0 (pa_cons (pv 0) (pa_cons (pv 2) pa_nil))))
        (pss_cons (ps_par (i := 4) (j := 5) rfl scRight.nd rfl rfl (by decide) rfl rfl (pa_cons (pe_call GSw hr4 rfl gSw kSw bSw .nil pass0 (pa_cons (pv 0) (pa_cons (pv 2) (pa_cons (pv 3) pa_nil))))
            (pa_cons (pe_lc (own := [("_law_stride", 12)]) (g := gName 12) rfl scRight.nd (pi_listK (K := K) (pv 3)) (blkOk_by (N := nRight) (sc := defScope sRight) (by decide +kernel)) (fun _ _ _ _ _ => pg_name (i := 12) scRight.nd rfl (Or.inl rfl))
              (fun _ _ _ _ _ => pts_one (pt_cmpR op_ne (pe_ix (ixtK (K := K)) (pv 12) pe_int (fun _ _ => rfl)) pe_str (nomark _))) (fun _ _ _ _ _ => pv 12)) pa_nil)) (by rfl)) w3))))
      (pss_one (ps_ret pe_bl))), ?_⟩
    refine ⟨_, rfl, by decide, by decide, for_range (lo := 0) (n := 2) (fun i σ H' => ShapeR b σ ∧ Kb b H H' ∧ BoxAt (n + 400 * i) H' b) ⟨⟨none, none, none, none, none, none, none, none, none, none, rfl⟩, Kp.refl _ _, hb⟩ ?_ ?_⟩
    · rintro i σ H' hi ⟨⟨v1, v2, v3, v4, v5, v6, v7, v8, v9, v10, rfl⟩, kb, hb'⟩
      refine ⟨_, rfl, b, n + 400 * i, rfl, hb', by omega, fun H2 vp p kb2 hb2 hp ok dne d4 => ?_⟩
      refine ⟨_, rfl, by decide, by decide, fun D hD => ?_⟩
      have nDb : D ≠ b := lst_ne hb2 hD
      refine lc_range (lo := 0) (n := 30) (fun j H3 => Kb b H2 H3 ∧ BoxAt (n + 400 * i + 200 + 3 * j) H3 b ∧ ∃ (acc : List V) (ts : List Stp), H3 D = some (.lst acc) ∧ DpAll K H3 acc (ts.map stpD) ∧ ts.length = j ∧ ∀ t ∈ ts, StpOk p t) ⟨Kp.same (same_new hD), hb2.same (same_new hD), [], [], upd_same, .nil, rfl, fun _ h => (by cases h)⟩ ?_ ?_
      · rintro j H3 hj ⟨kb3, hb3, acc, ts, hacc, hts, tl, tok⟩
        refine ⟨rfl, _, rfl, _, rfl, b, vp, n + 400 * i + 200 + 3 * j, p, rfl, hb3, by omega, dp_kp kb3 (td_pr ok) hp, ok, dne, fun H4 v t kb4 hb4 hv to => ?_⟩
        have hacc4 := kb4.keep _ _ nDb hacc
        have m := kp_at (o := .lst (acc ++ [v])) (mut_lst hacc4)
        have al : acc.length = j := by rw [dpa_length hts, List.length_map, tl]
        refine ⟨acc, hacc4, sz1000 (by omega), Kp.trans (Kb.trans kb3 kb4) m (fun c hc => .inr (by rw [hc]; exact hD)), ?_, acc ++ [v], ts ++ [t], upd_same, ?_, by rw [List.length_append, tl] <;> rfl, fun u hu => ?_⟩
        · obtain ⟨x1, y1, c1, f1, q0, q1, q2, q3, q4⟩ := hb4
          exact ⟨x1, y1, c1, by rw [upd_ne (Ne.symm nDb)]; exact f1, q0, q1, q2, q3, by omega⟩
        · rw [List.map_append]
          exact dpa_app (dpa_kp m td_stps (dpa_kp kb4 td_stps hts)) (.cons (dp_kp m (td_stp (n := 0) t) hv) .nil)
        · rcases List.mem_append.mp hu with hu | hu
          · exact tok u hu
          · rw [List.mem_singleton.mp hu]
            exact to
      · rintro H3 ⟨kb3, hb3, acc, ts, hacc, hts, tl, tok⟩
        refine ⟨_, rfl, _, rfl, _, rfl, b, vp, D, n + 400 * i + 200 + 3 * 30, p, ts, rfl, hb3, by omega, dp_kp kb3 (td_pr ok) hp, ok, dne, nDb, ⟨acc, hacc, hts⟩, tok, by omega, fun H4 l' ms kb4 hb4 nl' st4 hnc mok ml => ?_⟩
        have hacc4 := kb4.keep _ _ nDb hacc
        have hts4 := dpa_kp kb4 td_stps hts
        refine ⟨_, rfl, D, rfl, ⟨_, SqL.of hacc4⟩, fun D3 hD3 => ?_⟩
        refine rd_fstp (f := fun t => !t.isCall) hD3 hacc4 hts4 (by omega) (fun t x H5 R _ s5 hx kr => ?_) (Nat.le_of_ble_eq_true rfl) (fun H5 acc3 s5 hacc3 hd5 => ⟨_, _, rfl, ?_⟩)
        · obtain ⟨z, rd, ez⟩ := dec_call t
          refine ⟨_, rfl, rd hx ⟨rfl, _, rfl, ?_⟩⟩
          rw [ez]
          exact kr H5 (Same.refl _)
        obtain ⟨us2, hl2, hd2⟩ := st4
        have kb35 := Kb.trans kb4 (Kp.same (F := fun c => c = b) s5)
        have kb05 := Kb.trans (Kb.trans kb kb2) (Kb.trans kb3 kb35)
        have hb5 := hb4.same s5
        exact r3 _ H5 _ _ _ _ _ _ vp D l' D3 p ts ms (n + 400 * i + 200 + 3 * 30 + 3 * ts.length) kb05 hb5 (dp_kp (Kb.trans kb3 kb35) (td_pr ok) hp) ok ⟨acc, s5 _ _ hacc4, dpa_same s5 hts4⟩ ⟨us2, s5 _ _ hl2, dpa_same s5 hd2⟩ ⟨acc3, hacc3, hd5⟩ tok mok hnc (by omega) (by omega) fun σ' H' sh kb' bx' => ⟨sh, kb', bx'.mono (by omega)⟩
    · rintro σ H' ⟨_, kb, _⟩
      exact k H' kb
end
end K10
end
section
set_option maxHeartbeats 4000000
/-! LN: the law. -/
namespace K10
open PySem PySem.Spec PyProof.Rows L2
theorem allK {X : Cx} {K : PySem.W.Frag} (hc : X.calm = true) (h : X.K = K := by rfl) : CallR X (.builtin "all") (rAll K) := h ▸ cr_all hc
section
variable {P : Program} {w : World} {K : PySem.W.Frag} {mg : Str → Option Value} {base : Heap}
abbrev sLaw : Stmt := top 53
abbrev nLaw : List Str := ["_law_script", "_law_gate", "_law_box_here", "_law_time"]
theorem scLaw : FnScope ["_law_script", "_law_gate", "_law_box_here", "_law_time"] ["_law_script"] (defScope sLaw) := ⟨rfl, rfl, rfl, by decide +kernel, rfl, by decide +kernel, by decide +kernel⟩
def spLaw (K : PySem.W.Frag) : Sp := fun vs H Q _ => ∃ (l : Addr) (ns : List Int), vs = [.ref l] ∧ SqL K H l (ns.map V.int) ∧ ∀ H', Q (.bl true) H'
theorem ok_law {f : Addr} {fd : FuncData} (B : Bl mg) (F : DefAt K "law" "law" sLaw f fd) (GB : Glb P w K mg base CX0 2 "_law_box" ["_law_script", "_law_gate"] (spBox K)) (GR : GlbG P w K mg base CX0 18 "_law_right" ["_law_box_here"] spRight) : FnOkG P w K mg base CX0 19 f fd ["_law_script"] (spLaw K) := by
  obtain ⟨fB, fdB, GB, gB, kB, bB⟩ := GB.ex
  obtain ⟨fR, fdR, GR, gR, kR, bR⟩ := GR.ex
  refine okG F scLaw (fun vs H Q E h => ?_) (fun cdv A outer s H vs Q E hr g h => ?_)
  · obtain ⟨l, ns, rfl, _⟩ := h
    rfl
  · obtain ⟨l, ns, rfl, hl, k⟩ := h
    have hr2 : Room 2 _ := hr.mono (by decide)
    refine ⟨_, PSs.nox (pss_cons (ps_for PassesOwn.never rfl (pi_range1 rfl B.range (pa_cons (pe_op op_add pe_int (pe_callB (call_min2 rfl) (by rfl) B.min bt_min (pa_cons pe_int (pa_cons (pe_callB (lenK (K := K)) (by rfl) B.len bt_len (pa_cons (pv 0) pa_nil)) pa_nil)))) pa_nil)) (pg_name (i := 1) scLaw.nd rfl (Or.inl rfl))
        (pss_cons (ps_set (i := 2) scLaw.nd rfl (Or.inr rfl) (pe_call GB hr2 rfl gB kB bB .nil pass0 (pa_cons (pv 0) (pa_cons (pv 1) pa_nil))))
        (pss_one (ps_if (pt_not (pt_val (pe_callB (allK (K := K) rfl) (by rfl) B.all bt_all (pa_cons (pe_lc (own := [("_law_time", 3)]) (g := gName 3) (tt := tYes) rfl scLaw.nd (pi_range1 rfl B.range (pa_cons pe_int pa_nil)) (blkOk_by (N := nLaw) (sc := defScope sLaw) (by decide +kernel)) (fun _ _ _ _ _ => pg_name (i := 3) scLaw.nd rfl (Or.inl rfl))
            (fun _ _ _ _ _ => pts_nil) (fun _ _ _ _ _ => pe_callG GR hr g rfl gR kR bR pass0 (pa_cons (pv 2) pa_nil))) pa_nil)))) (pss_one (ps_ret pe_bl)) pss_nil))))
      (pss_one (ps_ret pe_bl))), ?_⟩
    refine ⟨_, rfl, l, _, rfl, .inl hl, _, _, rfl, _, _, rfl, rfl, ?_⟩
    have e1 : (ns.map V.int).length = ns.length := List.length_map ..
    generalize hm : (if ((ns.map V.int).length : Int) < 3 then ((ns.map V.int).length : Int) else 3) = m
    have m3 : 0 ≤ m ∧ m ≤ 3 := by split at hm <;> omega
    refine ⟨_, rfl, by omega, by omega, for_range (lo := 0) (n := (1 + m).toNat) (fun i σ H' => ∃ v1 v2 : Option V, σ = [some (.ref l), v1, v2, none] ∧ Same H H') ⟨none, none, rfl, Same.refl _⟩ ?_ ?_⟩
    · rintro i σ H' hi ⟨v1, v2, rfl, s1⟩
      refine ⟨_, rfl, _, rfl, l, ns, i, by rw [Int.zero_add] <;> rfl, s1.seq hl, by omega, fun H2 b s2 nb hb => ?_⟩
      have s12 := s1.trans s2
      have nbH : H b = none := s1.free nb
      refine ⟨_, rfl, by decide, by decide, fun D hD => ?_⟩
      have nDb : D ≠ b := lst_ne hb hD
      refine lc_range (lo := 0) (n := 1) (fun j H3 => Same H H3 ∧ BoxAt 0 H2 b ∧ (j = 0 → BoxAt 0 H3 b) ∧ ∃ bs : List Bool, H3 D = some (.lst (bs.map V.bl)) ∧ bs.all id = true ∧ bs.length = j) ⟨s12.trans (same_new hD), hb, fun _ => hb.same (same_new hD), [], upd_same, rfl, rfl⟩ ?_ ?_
      · rintro j H3 hj ⟨s3, _, hb3, bs, hbs, ball, bl⟩
        obtain rfl : j = 0 := by omega
        refine ⟨rfl, _, rfl, b, 0, rfl, hb3 rfl, by decide, fun H4 kb => ?_⟩
        have hbs4 := kb.keep _ _ nDb hbs
        have s4 : Same H H4 := fun c o e => kb.keep _ _ (fun z => by rw [z, nbH] at e; cases e) (s3 _ _ e)
        refine ⟨_, hbs4, sz1000 (by rw [List.length_map]; omega), same_at s4 (s12.free hD), hb, (fun z => by cases z), bs ++ [true], ?_, by simp [ball], by rw [List.length_append, bl] <;> rfl⟩
        rw [upd_same, List.map_append] <;> rfl
      · rintro H3 ⟨s3, _, _, bs, hbs, ball, bl⟩
        refine ⟨D, bs, rfl, SqL.of hbs, _, rfl, ?_⟩
        rw [ball]
        exact iteF ⟨_, _, rfl, s3⟩
    · rintro σ H' ⟨v1, v2, rfl, s1⟩
      exact k H'
end
end K10
end
section
set_option maxHeartbeats 4000000
/-! LO: the end: from the law's promise to the row. -/
namespace K10
open PySem PySem.Spec PyProof.Rows L2
theorem law_callG {P : Program} {w : World} {K : PySem.W.Frag} {mg mb : Str → Option Value} {k : Nat} {fa a : Addr} {fd : FuncData} {x : Str} {sp : Sp} {s : Shared} {vs : List Value} {ns : List Int}
    (kin : K.In s.heap) (gl : s.heap.Ns mainGlobals mg) (bn : s.heap.Ns builtinsNs mb) (bb : ∀ x : Str, x ≠ "__name__" → mb x = bootBuiltins x) (lim : s.heap.NoLimit) (gens : s.gens = #[])
    (ha : s.heap.get? a = some { cls := .type "list", data := .seq vs.toArray }) (hi : IntsAre vs ns) (hl : ns.length ≤ sizeLine) (room : Room k callerA)
    (F : ∀ base : Heap, K.In base → base.Ns mainGlobals mg → FnOkG P w K mg base CX0 k fa fd [x] sp) (bind : ∀ (s : Shared) (u : Value), BindsTo s fd ⟨[u], []⟩ [(x, u)])
    (want : ∀ H : Hp, SqL K H a (ns.map V.int) → sp [.ref a] H (fun v _ => v = .bl true) fun _ _ _ => False) :
    codeAny (model P w) callerA (.call (.ref fa) ⟨[.ref a], []⟩) (fun r s' => r = .ok (.ret (.bool true)) ∧ OldK s.heap s'.heap ∧ s'.os = s.os ∧ AllBare s'.gens) s := by
  have rv := vals_ints hi
  -- an abstract heap that tracks at most the script, locked
  have core : ∀ H : Hp, (∀ b, H b = none ∨ (b = a ∧ ∃ o xs, H b = some (.frz o (.lst xs)))) → SqL K H a (ns.map V.int) → HOk P w H s.heap → (H a ≠ none → K.lookup a = none) →
      codeAny (model P w) callerA (.call (.ref fa) ⟨[.ref a], []⟩) (fun r s' => r = .ok (.ret (.bool true)) ∧ OldK s.heap s'.heap ∧ s'.os = s.os ∧ AllBare s'.gens) s := by
    intro H only seq ok free
    have dict : ∀ {b : Addr} {m : Str → Option Value}, s.heap.Ns b m → (hidT s.heap H).Ns b m := fun {b m} n => by
      obtain ⟨o, es, ep, e, d, r⟩ := n
      refine ⟨o, es, ep, hidT_get e ?_, d, r⟩
      rcases only b with z | ⟨rfl, _⟩
      · exact z
      · rw [ha] at e
        cases e
        cases d
    have kb : K.In (hidT s.heap H) := fun b o e => hidT_get (kin b o e) (by
      cases q : H b with
      | none => rfl
      | some u =>
        rcases only b with z | ⟨rfl, _⟩
        · rw [z] at q; cases q
        · rw [free (by rw [q]; exact fun z => nomatch z)] at e
          cases e)
    obtain ⟨mc, l1, l2⟩ := lim
    have env : Env0 P w K mg (hidT s.heap H) callerA [] s H := ⟨rfl, ⟨kb, dict gl, ⟨mb, dict bn, bb⟩, ⟨mc, dict l1, l2⟩⟩, fun b o e => of_hidT e, Nat.le_of_eq (hidT_size _ _), trivial, fun b hb => absurd (show b ∈ ([] : List Addr) from hb) (by simp), ok, .of_eq gens⟩
    refine codeAny_mono ((F _ kb (dict gl)).run callerA [] s H ⟨[.ref a], []⟩ [.ref a] [.ref a] _ _ room rfl env (bind s (.ref a)) (.cons rfl .nil) (want H seq)) fun r s' z => ?_
    match r, z with
    | .ok (.ret u), ⟨v, H', os, bare, un, ok', rel, q⟩ =>
      have q : v = .bl true := q
      subst q
      obtain rfl : u = Value.bool true := rel
      refine ⟨rfl, OldK.of_keep fun b o e => ?_, os, bare⟩
      rcases only b with n | ⟨_, ob, xs, n⟩
      · exact un.keep b o e n (fun z => absurd (show b ∈ ([] : List Addr) from z) (by simp)) (by simp)
      · have e1 := (ok b _ n).1
        rw [e] at e1
        cases e1
        exact (ok' b _ (un.frzs b _ _ n)).1
    | .ok .next, z => exact z.elim
    | .ok .brk, z => exact z.elim
    | .ok .cont, z => exact z.elim
    | .error e, z => exact False.elim z
  cases hk : K.lookup a with
  | some o =>
    have e := kin a o hk
    rw [ha] at e
    cases e
    exact core (fun _ => none) (fun _ => .inl rfl) (.inr ⟨_, vs.toArray, _, hk, rfl, rfl, rfl, by rw [List.size_toArray, hi.length]; exact hl, by simpa using rv⟩) (fun b u z => nomatch (show (none : Option HO) = some u from z)) fun z => absurd rfl z
  | none =>
    have at_a : (fun b => if b = a then some (HO.frz { cls := .type "list", data := .seq vs.toArray } (.lst (ns.map V.int))) else none) a = some (HO.frz { cls := .type "list", data := .seq vs.toArray } (.lst (ns.map V.int))) := if_pos rfl
    refine core (fun b => if b = a then some (.frz { cls := .type "list", data := .seq vs.toArray } (.lst (ns.map V.int))) else none) (fun b => ?_) (.inl (.inr ⟨_, at_a⟩)) (fun b u z => ?_) fun _ => hk
    · by_cases c : b = a
      · exact .inr ⟨c, _, _, if_pos c⟩
      · exact .inl (if_neg c)
    · by_cases c : b = a
      · subst c
        rw [at_a] at z
        cases z
        exact ⟨ha, by rw [List.length_map]; exact hl, vs, _, rv, ha⟩
      · have z2 : (none : Option HO) = some u := (if_neg c).symm.trans z
        cases z2
theorem walk_ofG {l : PySem.W.OpenLaw} {n k : Nat} {q : Program} {loose : List Str} {XP : (Str → Option Value) → Heap → Prop} {YP : World → Heap → Prop} {d : DefRec} {x : Str}
    (hn : l.most = some n) (hn2 : n ≤ sizeLine) (hdf : d.params.defaults = []) (hr : Room k callerA)
    (F : ∀ (w : World) (mg : Str → Option Value) (fa : Addr) (h : Heap), YP w h → h.Ns mainGlobals mg → mg d.name = some (.ref fa) →
      ∃ (K : PySem.W.Frag) (fd : FuncData) (sp : Sp), K.In h ∧ (∀ (s : Shared) (u : Value), BindsTo s fd ⟨[u], []⟩ [(x, u)]) ∧
        (∀ (H : Hp) (a : Addr) (ns : List Int), SqL K H a (ns.map V.int) → sp [.ref a] H (fun v _ => v = .bl true) fun _ _ _ => False) ∧
        ∀ base : Heap, K.In base → base.Ns mainGlobals mg → FnOkG l.prog w K mg base CX0 k fa fd [x] sp) :
    PySem.W.WalkO q loose XP YP l.row.toRowW d [] (fun f vs => PySem.call f vs) := by
  refine Att.attach_call hn hdf fun w s₀ s₁ mg mb fa o pm cd doc a vs ns G Y ho hd hcd hmg hobj hints hlen hg => ?_
  obtain ⟨K, fd, sp, KX, hb, hsp, hF⟩ := F w mg fa _ Y G.T.g hmg
  exact law_callG KX G.T.g G.T.b G.T.builtins G.T.nolimit hg hobj hints (Nat.le_trans hlen hn2) hr hF hb fun H hS => hsp H a ns hS
end K10
end
section
set_option maxHeartbeats 4000000
/-! HU: the facts by names; what the head looks at (printed by gen.py, but for the hook). -/
namespace K10
open PySem PySem.Spec PyProof.Rows L2
def hfa0 : List He.Fa := [.glo "as_tuples", .glo "lib_of", .glo "lib_at", .glo "use_at", .glo "row", .glo "first_row", .glo "door_row", .glo "serves", .glo "version_of", .glo "answer_of", .glo "run", .glo "_law_cell_at", .glo "_law_box", .glo "_law_take", .glo "_law_pick", .glo "_law_same", .glo "_law_names", .glo "_law_some", .glo "_law_pairs", .glo "_law_lib", .glo "_law_program", .glo "_law_step", .glo "_law_went", .glo "_law_strewn", .glo "_law_slots_right", .glo "_law_right", .glo "law", .glo "Ground", .glo "Process", .glo "NotThere"]
def hfa1 : List He.Fa := [.glo "OPENED", .glo "CLOSED", .glo "FULL", .glo "SHUT", .glo "NOBODY", .glo "LOST", .glo "TORN", .glo "AWAY", .free "isinstance", .free "tuple", .free "list", .free "len", .free "range", .free "min", .free "sorted", .free "set", .free "abs", .free "int", .free "all", .free "zip", .free "repr", .free "super", .str "BOUND" "bound", .str "GLOBAL" "global", .str "DEEP" "deep", .str "OPEN" "open", .str "CALL" "call", .int "MOST" 2, .cls "Process", .mkr "Process"]
def hfa2 : List He.Fa := [.cls "Ground", .mkr "Ground", .noat "Process" "own_ground", .noat "Process" "own_program", .noat "Process" "own_first", .noat "Process" "own_rows", .noat "Process" "own_counts", .noat "Process" "own_opened", .noat "Process" "own_public", .noat "Process" "own_deep", .noat "Process" "own_slots", .noat "Process" "own_here", .noat "Ground" "own_program", .noat "Ground" "own_first", .noat "Ground" "own_rows", .meth "Process" "all_here", .meth "Process" "is_there", .meth "Process" "there", .meth "Process" "deep", .meth "Process" "look_there", .meth "Process" "looks", .meth "Process" "slot", .meth "Process" "base", .meth "Process" "look_door", .meth "Process" "open_door", .meth "Process" "come", .meth "Process" "close_door", .meth "Process" "go", .meth "Process" "left", .meth "Process" "found"]
def hfa3 : List He.Fa := [.meth "Process" "call", .meth "Process" "do"]
def hfa : List He.Fa := hfa0 ++ hfa1 ++ hfa2 ++ hfa3
def hfn0 : List He.DefD := [⟨("as_tuples", none), "as_tuples", "as_tuples", defArgs sAsT, defBody sAsT, defScope sAsT, [], []⟩, ⟨("lib_of", none), "lib_of", "lib_of", defArgs sLibOf, defBody sLibOf, defScope sLibOf, [], []⟩, ⟨("lib_at", none), "lib_at", "lib_at", defArgs sLibAt, defBody sLibAt, defScope sLibAt, [], []⟩, ⟨("use_at", none), "use_at", "use_at", defArgs sUseAt, defBody sUseAt, defScope sUseAt, [], []⟩, ⟨("row", none), "row", "row", defArgs sRow, defBody sRow, defScope sRow, [], []⟩, ⟨("first_row", none), "first_row", "first_row", defArgs sFirst, defBody sFirst, defScope sFirst, [], []⟩, ⟨("door_row", none), "door_row", "door_row", defArgs sDoorRow, defBody sDoorRow, defScope sDoorRow, [], []⟩, ⟨("serves", none), "serves", "serves", defArgs sServes, defBody sServes, defScope sServes, [], []⟩, ⟨("version_of", none), "version_of", "version_of", defArgs sVersOf, defBody sVersOf, defScope sVersOf, [], []⟩, ⟨("answer_of", none), "answer_of", "answer_of", defArgs sAns, defBody sAns, defScope sAns, [], []⟩, ⟨("run", none), "run", "run", defArgs sRun, defBody sRun, defScope sRun, [], []⟩, ⟨("_law_cell_at", none), "_law_cell_at", "_law_cell_at", defArgs sCell, defBody sCell, defScope sCell, [], []⟩]
def hfn1 : List He.DefD := [⟨("_law_box", none), "_law_box", "_law_box", defArgs sBox, defBody sBox, defScope sBox, [], []⟩, ⟨("_law_take", none), "_law_take", "_law_take", defArgs sTake, defBody sTake, defScope sTake, [], []⟩, ⟨("_law_pick", none), "_law_pick", "_law_pick", defArgs sPick, defBody sPick, defScope sPick, [], []⟩, ⟨("_law_same", none), "_law_same", "_law_same", defArgs sSame, defBody sSame, defScope sSame, [], []⟩, ⟨("_law_names", none), "_law_names", "_law_names", defArgs sNames, defBody sNames, defScope sNames, [], []⟩, ⟨("_law_some", none), "_law_some", "_law_some", defArgs sSome, defBody sSome, defScope sSome, [], []⟩, ⟨("_law_pairs", none), "_law_pairs", "_law_pairs", defArgs sPairs, defBody sPairs, defScope sPairs, [], []⟩, ⟨("_law_lib", none), "_law_lib", "_law_lib", defArgs sLib, defBody sLib, defScope sLib, [], []⟩, ⟨("_law_program", none), "_law_program", "_law_program", defArgs sProg, defBody sProg, defScope sProg, [], []⟩, ⟨("_law_step", none), "_law_step", "_law_step", defArgs sStep, defBody sStep, defScope sStep, [], []⟩, ⟨("_law_went", none), "_law_went", "_law_went", defArgs sWent, defBody sWent, defScope sWent, [], []⟩, ⟨("_law_strewn", none), "_law_strewn", "_law_strewn", defArgs sStrewn, defBody sStrewn, defScope sStrewn, [], []⟩]
def hfn2 : List He.DefD := [⟨("_law_slots_right", none), "_law_slots_right", "_law_slots_right", defArgs sSlots, defBody sSlots, defScope sSlots, [], []⟩, ⟨("_law_right", none), "_law_right", "_law_right", defArgs sRight, defBody sRight, defScope sRight, [], []⟩, ⟨("law", none), "law", "law", defArgs sLaw, defBody sLaw, defScope sLaw, [], []⟩, ⟨("Ground", some "__init__"), "__init__", "Ground.__init__", defArgs sGInit, defBody sGInit, defScope sGInit, [], []⟩, ⟨("Process", some "__init__"), "__init__", "Process.__init__", defArgs sPInit, defBody sPInit, defScope sPInit, [], []⟩, ⟨("Process", some "all_here"), "all_here", "Process.all_here", defArgs sAllHere, defBody sAllHere, defScope sAllHere, [], []⟩, ⟨("Process", some "is_there"), "is_there", "Process.is_there", defArgs sIsThere, defBody sIsThere, defScope sIsThere, [], []⟩, ⟨("Process", some "there"), "there", "Process.there", defArgs sThere, defBody sThere, defScope sThere, [], []⟩, ⟨("Process", some "deep"), "deep", "Process.deep", defArgs sDeep, defBody sDeep, defScope sDeep, [], []⟩, ⟨("Process", some "look_there"), "look_there", "Process.look_there", defArgs sLook, defBody sLook, defScope sLook, [], []⟩, ⟨("Process", some "looks"), "looks", "Process.looks", defArgs sLooks, defBody sLooks, defScope sLooks, [], []⟩, ⟨("Process", some "slot"), "slot", "Process.slot", defArgs sSlot, defBody sSlot, defScope sSlot, [], []⟩]
def hfn3 : List He.DefD := [⟨("Process", some "base"), "base", "Process.base", defArgs sBase, defBody sBase, defScope sBase, [], []⟩, ⟨("Process", some "look_door"), "look_door", "Process.look_door", defArgs sLookD, defBody sLookD, defScope sLookD, [], []⟩, ⟨("Process", some "open_door"), "open_door", "Process.open_door", defArgs sOpenD, defBody sOpenD, defScope sOpenD, [], []⟩, ⟨("Process", some "come"), "come", "Process.come", defArgs sCome, defBody sCome, defScope sCome, [], []⟩, ⟨("Process", some "close_door"), "close_door", "Process.close_door", defArgs sCloseD, defBody sCloseD, defScope sCloseD, [], []⟩, ⟨("Process", some "go"), "go", "Process.go", defArgs sGo, defBody sGo, defScope sGo, [], []⟩, ⟨("Process", some "left"), "left", "Process.left", defArgs sLeft, defBody sLeft, defScope sLeft, [], []⟩, ⟨("Process", some "found"), "found", "Process.found", defArgs sFound, defBody sFound, defScope sFound, [], []⟩, ⟨("Process", some "call"), "call", "Process.call", defArgs sCall, defBody sCall, defScope sCall, [], []⟩, ⟨("Process", some "do"), "do", "Process.do", defArgs sDo, defBody sDo, defScope sDo, [], []⟩]
def hfn : List He.DefD := hfn0 ++ hfn1 ++ hfn2 ++ hfn3
/-- the error's own __init__, as it stands in the heap -/
abbrev NtV : Type := Option (Str × Str × Arguments × FuncBody × Scope × Addr × List Str × Value × Addr)
def ntF (K : PySem.W.Frag) : Addr := He.ma K (He.ga K "NotThere") "__init__"
def ntObs (K : PySem.W.Frag) : NtV := match K.lookup (ntF K) with
  | some ⟨_, _, .func fd, _⟩ => some (fd.name, fd.qualname, fd.params, fd.body, fd.scope, fd.globals, fd.closure.map (·.1), fd.defaults, fd.builtins)
  | _ => none
def ntVal : NtV := some ("__init__", "NotThere.__init__", defArgs sNT, .stmts (defBody sNT), defScope sNT, mainGlobals, ["__class__"], .none, builtinsNs)
def ntCode (file : Str) (K : PySem.W.Frag) : Bool := match K.lookup (ntF K) with
  | some ⟨_, _, .func fd, _⟩ => PySem.W.codeIn K fd.code "NotThere.__init__" && (match fd.code with
    | .ref c => (match K.lookup c with
      | some ⟨_, _, .fields vs, _⟩ => (match vs[2]? with
        | some (PySem.Value.str f _) => file == f
        | _ => false)
      | _ => false)
    | _ => false)
  | _ => false
def ntCell (K : PySem.W.Frag) : Bool := match K.lookup (ntF K) with
  | some ⟨_, _, .func fd, _⟩ => (match fd.closure with
    | [(_, c)] => (match K.lookup c with
      | some ⟨_, _, .cell (some (.ref a)), _⟩ => decide (a = He.ga K "NotThere")
      | _ => false)
    | _ => false)
  | _ => false
abbrev hN (K : PySem.W.Frag) : Addr := He.ga K "NotThere"
/-- facts of another kind -/
def hex (file : Str) : List (PySem.W.Frag → Bool) := [
  fun K => PySem.W.excInitIn K (hN K) rtM "RuntimeError.__new__",
  fun K => PySem.W.excOver K (hN K) rtM,
  fun K => He.eqO (PySem.W.findIn K (.ref (hN K)) "__setattr__") (some (some (.builtin "object.__setattr__"))),
  fun K => He.eqO (PySem.W.takerIn K (hN K) "name") (some none),
  fun K => PySem.W.hasDictIn K (hN K),
  fun K => He.eqO (PySem.W.findIn K (.ref (hN K)) "__init__") (some (some (.ref (ntF K)))),
  fun K => decide (PySem.W.typeIn K (.ref (ntF K)) = some (.type "function")),
  fun K => PySem.W.keepIn K (.ref (hN K)),
  fun K => decide (PySem.W.subIn K (.ref (hN K)) (.type "BaseException") = some true),
  fun K => decide (PySem.W.subIn K (.ref (hN K)) (.type "RuntimeError") = some true),
  fun K => decide (PySem.W.typeIn K (.ref (hN K)) = some (.type "type")),
  fun K => decide (PySem.W.exmOne K (.ref (hN K)) (.ref (hN K)) = some true),
  fun K => decide (PySem.W.mroIn K (hN K) (.ref (hN K)) = some true),
  fun K => He.eqO (PySem.W.nsIn K cStatics "thirdparty.any") (some none),
  fun K => He.eqO (PySem.W.ks_superIn K (hN K) (hN K) "__init__") (some (some (.builtin "RuntimeError.__init__"))),
  ntCode file, ntCell,
  fun K => decide (PySem.W.kitOne K (.type "tuple") (.ref (He.ga K "Ground")) = some false),
  fun K => He.tupB K "OPENED" [He.Dv.str "opened"],
  fun K => He.tupB K "CLOSED" [He.Dv.str "closed"],
  fun K => He.tupB K "FULL" [He.Dv.str "full"],
  fun K => He.tupB K "SHUT" [He.Dv.str "shut"],
  fun K => He.tupB K "NOBODY" [He.Dv.str "nobody"],
  fun K => He.tupB K "LOST" [He.Dv.str "lost"],
  fun K => He.tupB K "TORN" [He.Dv.str "torn"],
  fun K => He.tupB K "AWAY" [He.Dv.str "away"]]
def hasY (g : Addr → Option Obj) : List Addr := cStatics :: He.asD g 6
abbrev AlY : Type := He.AlD × (NtV × Bool)
def obsY (fa : List He.Fa) (fn : List He.DefD) (ex : List (PySem.W.Frag → Bool)) (K : PySem.W.Frag) : AlY := (He.obsD fa fn K, (ntObs K, ex.all fun f => f K))
def valY (fn : List He.DefD) : AlY := (He.valD fn, (ntVal, true))
def obsYG (fa : List He.Fa) (fn : List He.DefD) (ex : List (PySem.W.Frag → Bool)) (g : Addr → Option Obj) : AlY := obsY fa fn ex (He.frG g (hasY g))
def SaysY (fa : List He.Fa) (fn : List He.DefD) (ex : List (PySem.W.Frag → Bool)) (K : PySem.W.Frag) : Prop := obsY fa fn ex K = valY fn
def hookY (fa : List He.Fa) (fn : List He.DefD) (ex : List (PySem.W.Frag → Bool)) : PySem.W.Hook where
  α := AlY
  obs := fun s => obsYG fa fn ex s.heap.get?
  val := fun _ => valY fn
  says := fun _ h => ∃ K : PySem.W.Frag, K.In h ∧ SaysY fa fn ex K
  of := fun _ _ e => ⟨_, He.frG_in, e⟩
  keeps := fun _ _ _ ⟨K, hK, c⟩ k => ⟨K, PySem.W.Frag.In.keeps hK k, c⟩
theorem obsYG_eq {fa : List He.Fa} {fn : List He.DefD} {ex : List (PySem.W.Frag → Bool)} {g : Addr → Option Obj} {s : Shared} (h : ∀ a, g a = s.heap.get? a) : obsYG fa fn ex g = (hookY fa fn ex).obs s := by
  have e : g = s.heap.get? := funext h
  rw [e] <;> rfl
section
variable {fa : List He.Fa} {fn : List He.DefD} {ex : List (PySem.W.Frag → Bool)} {K : PySem.W.Frag}
theorem SaysY.d (c : SaysY fa fn ex K) : He.SaysD fa fn K := congrArg (fun z : AlY => z.1) c
theorem SaysY.nt (c : SaysY fa fn ex K) : ntObs K = ntVal := congrArg (fun z : AlY => z.2.1) c
theorem SaysY.x (c : SaysY fa fn ex K) (i : Nat) {f : PySem.W.Frag → Bool} (h : ex[i]? = some f := by rfl) : f K = true :=
  List.all_eq_true.mp (show (ex.all fun f => f K) = true from congrArg (fun z : AlY => z.2.2) c) f (List.mem_of_getElem? h)
end
theorem nt_fn {K : PySem.W.Frag} {file : Str} (h1 : ntObs K = ntVal) (h2 : ntCode file K = true) (h3 : ntCell K = true) :
    ∃ (oc : Value) (od : Option Addr) (kV doc pm : Value) (an : Option Addr) (cda cc : Addr) (ct : Value) (osl : Array (Option Value)) (ccl cl : Value) (cdd cld : Option Addr) (vs : Array Value) (ccs csl : Array (Option Value)) (f : Str) (tf : Tok),
    K.lookup (ntF K) = some ⟨oc, od, .func (PySem.W.ksFn "__init__" "NotThere.__init__" (defArgs sNT) (defBody sNT) (defScope sNT) .none kV doc pm an (.ref cda) ct cc), osl⟩ ∧ PySem.W.codeIn K (.ref cda) "NotThere.__init__" = true ∧
    K.lookup cda = some ⟨ccl, cdd, .fields vs, ccs⟩ ∧ vs[2]? = some (.str f tf) ∧ (file == f) = true ∧ K.lookup cc = some ⟨cl, cld, .cell (some (.ref (hN K))), csl⟩ := by
  unfold ntObs at h1
  unfold ntCode at h2
  unfold ntCell at h3
  cases q : K.lookup (ntF K) with
  | none => rw [q] at h1; cases h1
  | some o =>
    obtain ⟨oc, od, dt, osl⟩ := o
    rw [q] at h1 h2 h3
    cases dt with
    | func fd =>
      obtain ⟨n1, n2, n3, n4, n5, n6, n7, n8, n9, n10, n11, n12, n13, n14, n15⟩ := fd
      have e : (some (n1, n2, n3, n4, n5, n6, n7.map (·.1), n8, n15) : NtV) = ntVal := h1
      unfold ntVal at e
      simp only [Option.some.injEq, Prod.mk.injEq] at e
      obtain ⟨e1, e2, e3, e4, e5, e6, e7, e8, e9⟩ := e
      subst e1 e2 e3 e4 e5 e6 e8 e9
      obtain ⟨c1, c2⟩ := He.ba h2
      dsimp only at c1 c2 h3
      cases n13 with
      | ref c =>
        dsimp only at c2
        cases q2 : K.lookup c with
        | none => rw [q2] at c2; cases c2
        | some o2 =>
          obtain ⟨a1, a2, a3, a4⟩ := o2
          rw [q2] at c2
          cases a3 with
          | fields vs =>
            dsimp only at c2
            cases q3 : vs[2]? with
            | none => rw [q3] at c2; cases c2
            | some v =>
              rw [q3] at c2
              cases v with
              | str f tf =>
                match n7, e7, h3 with
                | [(n, cc)], e7, h3 =>
                  have e7 : [n] = [("__class__" : Str)] := e7
                  injection e7 with e7 _
                  subst e7
                  dsimp only at h3
                  cases q4 : K.lookup cc with
                  | none => rw [q4] at h3; cases h3
                  | some o4 =>
                    obtain ⟨b1, b2, b3, b4⟩ := o4
                    rw [q4] at h3
                    cases b3 with
                    | cell w =>
                      cases w with
                      | none => cases h3
                      | some u =>
                        cases u with
                        | ref a =>
                          have ea : a = He.ga K "NotThere" := of_decide_eq_true h3
                          subst ea
                          exact ⟨oc, od, n9, n10, n11, n12, c, cc, n14, osl, a1, b1, a2, b2, vs, a4, b4, f, tf, rfl, c1, q2, q3, c2, q4⟩
                        | _ => cases h3
                    | _ => cases h3
              | _ => cases c2
          | _ => cases c2
      | _ => cases c2
    | _ => cases h1
end K10
end
section
set_option maxHeartbeats 4000000
/-! HV: the facts give the law's promise (printed by gen.py). -/
namespace K10
open PySem PySem.Spec PyProof.Rows L2
theorem glbD_str {K : PySem.W.Frag} {mg : Str → Option Value} {x z : Str} (h : ∃ t, mg x = some (.str z t)) : GlbD K mg x (.str z) := by
  obtain ⟨t, e⟩ := h
  exact ⟨.str z, _, e, ⟨t, rfl⟩, fun H => .str z⟩
theorem glbD_int {K : PySem.W.Frag} {mg : Str → Option Value} {x : Str} {i : Int} (h : ∃ t, mg x = some (.int i t)) : GlbD K mg x (.int i) := by
  obtain ⟨t, e⟩ := h
  exact ⟨.int i, _, e, ⟨t, rfl⟩, fun H => .int i⟩
theorem glbD_tup {K : PySem.W.Frag} {mg : Str → Option Value} {x z : Str} (e : mg x = some (.ref (He.ga K x))) (h : He.tupB K x [.str z] = true) : GlbD K mg x (.tuple [.str z]) :=
  ⟨.ref (He.ga K x), _, e, rfl, fun H => .tup (He.tupB_ok h H) (.cons (.str z) .nil)⟩
theorem all_ok {P : Program} {w : World} {K : PySem.W.Frag} {h : Heap} {mg : Str → Option Value} (X : K.In h) (G : h.Ns mainGlobals mg) (top : (P.main.scope.names.lookup ("super" : Str)).isSome = false) (c : SaysY hfa hfn (hex P.main.file) K) :
    ∃ fd : FuncData, (∀ (s : Shared) (u : Value), BindsTo s fd ⟨[u], []⟩ [("_law_script", u)]) ∧ ∀ base : Heap, FnOkG P w K mg base CX0 19 (He.ga K "law") fd ["_law_script"] (spLaw K) := by
  obtain ⟨d_as_tuples, F_as_tuples⟩ : ∃ fd, DefAt K "as_tuples" "as_tuples" sAsT (He.ga K "as_tuples") fd := c.d.def_ 0 (d := ⟨("as_tuples", none), "as_tuples", "as_tuples", defArgs sAsT, defBody sAsT, defScope sAsT, [], []⟩) rfl
  have b_as_tuples : Binds K d_as_tuples ["thing"] [] := F_as_tuples.bindsN (ps := ["thing"]) fun _ _ _ _ _ _ us hl => match us, hl with | [_], _ => rfl
  have g_as_tuples : mg "as_tuples" = some (.ref (He.ga K "as_tuples")) := He.glo_ok X G (c.d.fact 0 (f := (He.Fa.glo "as_tuples")) rfl)
  obtain ⟨d_lib_of, F_lib_of⟩ : ∃ fd, DefAt K "lib_of" "lib_of" sLibOf (He.ga K "lib_of") fd := c.d.def_ 1 (d := ⟨("lib_of", none), "lib_of", "lib_of", defArgs sLibOf, defBody sLibOf, defScope sLibOf, [], []⟩) rfl
  have b_lib_of : Binds K d_lib_of ["program", "name"] [] := F_lib_of.bindsN (ps := ["program", "name"]) fun _ _ _ _ _ _ us hl => match us, hl with | [_, _], _ => rfl
  have g_lib_of : mg "lib_of" = some (.ref (He.ga K "lib_of")) := He.glo_ok X G (c.d.fact 1 (f := (He.Fa.glo "lib_of")) rfl)
  obtain ⟨d_lib_at, F_lib_at⟩ : ∃ fd, DefAt K "lib_at" "lib_at" sLibAt (He.ga K "lib_at") fd := c.d.def_ 2 (d := ⟨("lib_at", none), "lib_at", "lib_at", defArgs sLibAt, defBody sLibAt, defScope sLibAt, [], []⟩) rfl
  have b_lib_at : Binds K d_lib_at ["program", "name"] [] := F_lib_at.bindsN (ps := ["program", "name"]) fun _ _ _ _ _ _ us hl => match us, hl with | [_, _], _ => rfl
  have g_lib_at : mg "lib_at" = some (.ref (He.ga K "lib_at")) := He.glo_ok X G (c.d.fact 2 (f := (He.Fa.glo "lib_at")) rfl)
  obtain ⟨d_use_at, F_use_at⟩ : ∃ fd, DefAt K "use_at" "use_at" sUseAt (He.ga K "use_at") fd := c.d.def_ 3 (d := ⟨("use_at", none), "use_at", "use_at", defArgs sUseAt, defBody sUseAt, defScope sUseAt, [], []⟩) rfl
  have b_use_at : Binds K d_use_at ["program", "name", "number"] [] := F_use_at.bindsN (ps := ["program", "name", "number"]) fun _ _ _ _ _ _ us hl => match us, hl with | [_, _, _], _ => rfl
  have g_use_at : mg "use_at" = some (.ref (He.ga K "use_at")) := He.glo_ok X G (c.d.fact 3 (f := (He.Fa.glo "use_at")) rfl)
  obtain ⟨d_row, F_row⟩ : ∃ fd, DefAt K "row" "row" sRow (He.ga K "row") fd := c.d.def_ 4 (d := ⟨("row", none), "row", "row", defArgs sRow, defBody sRow, defScope sRow, [], []⟩) rfl
  have b_row : Binds K d_row ["program", "names"] [] := F_row.bindsN (ps := ["program", "names"]) fun _ _ _ _ _ _ us hl => match us, hl with | [_, _], _ => rfl
  have g_row : mg "row" = some (.ref (He.ga K "row")) := He.glo_ok X G (c.d.fact 4 (f := (He.Fa.glo "row")) rfl)
  obtain ⟨d_first_row, F_first_row⟩ : ∃ fd, DefAt K "first_row" "first_row" sFirst (He.ga K "first_row") fd := c.d.def_ 5 (d := ⟨("first_row", none), "first_row", "first_row", defArgs sFirst, defBody sFirst, defScope sFirst, [], []⟩) rfl
  have b_first_row : Binds K d_first_row ["program"] [] := F_first_row.bindsN (ps := ["program"]) fun _ _ _ _ _ _ us hl => match us, hl with | [_], _ => rfl
  have g_first_row : mg "first_row" = some (.ref (He.ga K "first_row")) := He.glo_ok X G (c.d.fact 5 (f := (He.Fa.glo "first_row")) rfl)
  obtain ⟨d_door_row, F_door_row⟩ : ∃ fd, DefAt K "door_row" "door_row" sDoorRow (He.ga K "door_row") fd := c.d.def_ 6 (d := ⟨("door_row", none), "door_row", "door_row", defArgs sDoorRow, defBody sDoorRow, defScope sDoorRow, [], []⟩) rfl
  have b_door_row : Binds K d_door_row ["program", "number"] [] := F_door_row.bindsN (ps := ["program", "number"]) fun _ _ _ _ _ _ us hl => match us, hl with | [_, _], _ => rfl
  have g_door_row : mg "door_row" = some (.ref (He.ga K "door_row")) := He.glo_ok X G (c.d.fact 6 (f := (He.Fa.glo "door_row")) rfl)
  obtain ⟨d_serves, F_serves⟩ : ∃ fd, DefAt K "serves" "serves" sServes (He.ga K "serves") fd := c.d.def_ 7 (d := ⟨("serves", none), "serves", "serves", defArgs sServes, defBody sServes, defScope sServes, [], []⟩) rfl
  have b_serves : Binds K d_serves ["definition", "use"] [] := F_serves.bindsN (ps := ["definition", "use"]) fun _ _ _ _ _ _ us hl => match us, hl with | [_, _], _ => rfl
  have g_serves : mg "serves" = some (.ref (He.ga K "serves")) := He.glo_ok X G (c.d.fact 7 (f := (He.Fa.glo "serves")) rfl)
  obtain ⟨d_version_of, F_version_of⟩ : ∃ fd, DefAt K "version_of" "version_of" sVersOf (He.ga K "version_of") fd := c.d.def_ 8 (d := ⟨("version_of", none), "version_of", "version_of", defArgs sVersOf, defBody sVersOf, defScope sVersOf, [], []⟩) rfl
  have b_version_of : Binds K d_version_of ["lib", "use"] [] := F_version_of.bindsN (ps := ["lib", "use"]) fun _ _ _ _ _ _ us hl => match us, hl with | [_, _], _ => rfl
  have g_version_of : mg "version_of" = some (.ref (He.ga K "version_of")) := He.glo_ok X G (c.d.fact 8 (f := (He.Fa.glo "version_of")) rfl)
  obtain ⟨d_answer_of, F_answer_of⟩ : ∃ fd, DefAt K "answer_of" "answer_of" sAns (He.ga K "answer_of") fd := c.d.def_ 9 (d := ⟨("answer_of", none), "answer_of", "answer_of", defArgs sAns, defBody sAns, defScope sAns, [], []⟩) rfl
  have b_answer_of : Binds K d_answer_of ["process", "step"] [] := F_answer_of.bindsN (ps := ["process", "step"]) fun _ _ _ _ _ _ us hl => match us, hl with | [_, _], _ => rfl
  have g_answer_of : mg "answer_of" = some (.ref (He.ga K "answer_of")) := He.glo_ok X G (c.d.fact 9 (f := (He.Fa.glo "answer_of")) rfl)
  obtain ⟨d_run, F_run⟩ : ∃ fd, DefAt K "run" "run" sRun (He.ga K "run") fd := c.d.def_ 10 (d := ⟨("run", none), "run", "run", defArgs sRun, defBody sRun, defScope sRun, [], []⟩) rfl
  have b_run : Binds K d_run ["program", "steps"] [] := F_run.bindsN (ps := ["program", "steps"]) fun _ _ _ _ _ _ us hl => match us, hl with | [_, _], _ => rfl
  have g_run : mg "run" = some (.ref (He.ga K "run")) := He.glo_ok X G (c.d.fact 10 (f := (He.Fa.glo "run")) rfl)
  obtain ⟨d__law_cell_at, F__law_cell_at⟩ : ∃ fd, DefAt K "_law_cell_at" "_law_cell_at" sCell (He.ga K "_law_cell_at") fd := c.d.def_ 11 (d := ⟨("_law_cell_at", none), "_law_cell_at", "_law_cell_at", defArgs sCell, defBody sCell, defScope sCell, [], []⟩) rfl
  have b__law_cell_at : Binds K d__law_cell_at ["_law_script", "_law_gate"] [] := F__law_cell_at.bindsN (ps := ["_law_script", "_law_gate"]) fun _ _ _ _ _ _ us hl => match us, hl with | [_, _], _ => rfl
  have g__law_cell_at : mg "_law_cell_at" = some (.ref (He.ga K "_law_cell_at")) := He.glo_ok X G (c.d.fact 11 (f := (He.Fa.glo "_law_cell_at")) rfl)
  obtain ⟨d__law_box, F__law_box⟩ : ∃ fd, DefAt K "_law_box" "_law_box" sBox (He.ga K "_law_box") fd := c.d.def_ 12 (d := ⟨("_law_box", none), "_law_box", "_law_box", defArgs sBox, defBody sBox, defScope sBox, [], []⟩) rfl
  have b__law_box : Binds K d__law_box ["_law_script", "_law_gate"] [] := F__law_box.bindsN (ps := ["_law_script", "_law_gate"]) fun _ _ _ _ _ _ us hl => match us, hl with | [_, _], _ => rfl
  have g__law_box : mg "_law_box" = some (.ref (He.ga K "_law_box")) := He.glo_ok X G (c.d.fact 12 (f := (He.Fa.glo "_law_box")) rfl)
  obtain ⟨d__law_take, F__law_take⟩ : ∃ fd, DefAt K "_law_take" "_law_take" sTake (He.ga K "_law_take") fd := c.d.def_ 13 (d := ⟨("_law_take", none), "_law_take", "_law_take", defArgs sTake, defBody sTake, defScope sTake, [], []⟩) rfl
  have b__law_take : Binds K d__law_take ["_law_box_here", "_law_many"] [] := F__law_take.bindsN (ps := ["_law_box_here", "_law_many"]) fun _ _ _ _ _ _ us hl => match us, hl with | [_, _], _ => rfl
  have g__law_take : mg "_law_take" = some (.ref (He.ga K "_law_take")) := He.glo_ok X G (c.d.fact 13 (f := (He.Fa.glo "_law_take")) rfl)
  obtain ⟨d__law_pick, F__law_pick⟩ : ∃ fd, DefAt K "_law_pick" "_law_pick" sPick (He.ga K "_law_pick") fd := c.d.def_ 14 (d := ⟨("_law_pick", none), "_law_pick", "_law_pick", defArgs sPick, defBody sPick, defScope sPick, [], []⟩) rfl
  have b__law_pick : Binds K d__law_pick ["_law_box_here", "_law_some_here"] [] := F__law_pick.bindsN (ps := ["_law_box_here", "_law_some_here"]) fun _ _ _ _ _ _ us hl => match us, hl with | [_, _], _ => rfl
  have g__law_pick : mg "_law_pick" = some (.ref (He.ga K "_law_pick")) := He.glo_ok X G (c.d.fact 14 (f := (He.Fa.glo "_law_pick")) rfl)
  obtain ⟨d__law_same, F__law_same⟩ : ∃ fd, DefAt K "_law_same" "_law_same" sSame (He.ga K "_law_same") fd := c.d.def_ 15 (d := ⟨("_law_same", none), "_law_same", "_law_same", defArgs sSame, defBody sSame, defScope sSame, [], []⟩) rfl
  have b__law_same : Binds K d__law_same ["_law_found", "_law_due"] [] := F__law_same.bindsN (ps := ["_law_found", "_law_due"]) fun _ _ _ _ _ _ us hl => match us, hl with | [_, _], _ => rfl
  have g__law_same : mg "_law_same" = some (.ref (He.ga K "_law_same")) := He.glo_ok X G (c.d.fact 15 (f := (He.Fa.glo "_law_same")) rfl)
  obtain ⟨d__law_names, F__law_names⟩ : ∃ fd, DefAt K "_law_names" "_law_names" sNames (He.ga K "_law_names") fd := c.d.def_ 16 (d := ⟨("_law_names", none), "_law_names", "_law_names", defArgs sNames, defBody sNames, defScope sNames, [], []⟩) rfl
  have b__law_names : Binds K d__law_names ["_law_box_here", "_law_many"] [] := F__law_names.bindsN (ps := ["_law_box_here", "_law_many"]) fun _ _ _ _ _ _ us hl => match us, hl with | [_, _], _ => rfl
  have g__law_names : mg "_law_names" = some (.ref (He.ga K "_law_names")) := He.glo_ok X G (c.d.fact 16 (f := (He.Fa.glo "_law_names")) rfl)
  obtain ⟨d__law_some, F__law_some⟩ : ∃ fd, DefAt K "_law_some" "_law_some" sSome (He.ga K "_law_some") fd := c.d.def_ 17 (d := ⟨("_law_some", none), "_law_some", "_law_some", defArgs sSome, defBody sSome, defScope sSome, [], []⟩) rfl
  have b__law_some : Binds K d__law_some ["_law_box_here", "_law_some_here", "_law_most"] [] := F__law_some.bindsN (ps := ["_law_box_here", "_law_some_here", "_law_most"]) fun _ _ _ _ _ _ us hl => match us, hl with | [_, _, _], _ => rfl
  have g__law_some : mg "_law_some" = some (.ref (He.ga K "_law_some")) := He.glo_ok X G (c.d.fact 17 (f := (He.Fa.glo "_law_some")) rfl)
  obtain ⟨d__law_pairs, F__law_pairs⟩ : ∃ fd, DefAt K "_law_pairs" "_law_pairs" sPairs (He.ga K "_law_pairs") fd := c.d.def_ 18 (d := ⟨("_law_pairs", none), "_law_pairs", "_law_pairs", defArgs sPairs, defBody sPairs, defScope sPairs, [], []⟩) rfl
  have b__law_pairs : Binds K d__law_pairs ["_law_box_here", "_law_most"] [] := F__law_pairs.bindsN (ps := ["_law_box_here", "_law_most"]) fun _ _ _ _ _ _ us hl => match us, hl with | [_, _], _ => rfl
  have g__law_pairs : mg "_law_pairs" = some (.ref (He.ga K "_law_pairs")) := He.glo_ok X G (c.d.fact 18 (f := (He.Fa.glo "_law_pairs")) rfl)
  obtain ⟨d__law_lib, F__law_lib⟩ : ∃ fd, DefAt K "_law_lib" "_law_lib" sLib (He.ga K "_law_lib") fd := c.d.def_ 19 (d := ⟨("_law_lib", none), "_law_lib", "_law_lib", defArgs sLib, defBody sLib, defScope sLib, [], []⟩) rfl
  have b__law_lib : Binds K d__law_lib ["_law_box_here", "_law_own", "_law_others", "_law_is_main"] [] := F__law_lib.bindsN (ps := ["_law_box_here", "_law_own", "_law_others", "_law_is_main"]) fun _ _ _ _ _ _ us hl => match us, hl with | [_, _, _, _], _ => rfl
  have g__law_lib : mg "_law_lib" = some (.ref (He.ga K "_law_lib")) := He.glo_ok X G (c.d.fact 19 (f := (He.Fa.glo "_law_lib")) rfl)
  obtain ⟨d__law_program, F__law_program⟩ : ∃ fd, DefAt K "_law_program" "_law_program" sProg (He.ga K "_law_program") fd := c.d.def_ 20 (d := ⟨("_law_program", none), "_law_program", "_law_program", defArgs sProg, defBody sProg, defScope sProg, [], []⟩) rfl
  have b__law_program : Binds K d__law_program ["_law_box_here", "_law_most", "_law_gates"] [] := F__law_program.bindsN (ps := ["_law_box_here", "_law_most", "_law_gates"]) fun _ _ _ _ _ _ us hl => match us, hl with | [_, _, _], _ => rfl
  have g__law_program : mg "_law_program" = some (.ref (He.ga K "_law_program")) := He.glo_ok X G (c.d.fact 20 (f := (He.Fa.glo "_law_program")) rfl)
  obtain ⟨d__law_step, F__law_step⟩ : ∃ fd, DefAt K "_law_step" "_law_step" sStep (He.ga K "_law_step") fd := c.d.def_ 21 (d := ⟨("_law_step", none), "_law_step", "_law_step", defArgs sStep, defBody sStep, defScope sStep, [], []⟩) rfl
  have b__law_step : Binds K d__law_step ["_law_box_here", "_law_plot"] [] := F__law_step.bindsN (ps := ["_law_box_here", "_law_plot"]) fun _ _ _ _ _ _ us hl => match us, hl with | [_, _], _ => rfl
  have g__law_step : mg "_law_step" = some (.ref (He.ga K "_law_step")) := He.glo_ok X G (c.d.fact 21 (f := (He.Fa.glo "_law_step")) rfl)
  obtain ⟨d__law_went, F__law_went⟩ : ∃ fd, DefAt K "_law_went" "_law_went" sWent (He.ga K "_law_went") fd := c.d.def_ 22 (d := ⟨("_law_went", none), "_law_went", "_law_went", defArgs sWent, defBody sWent, defScope sWent, [], []⟩) rfl
  have b__law_went : Binds K d__law_went ["_law_plot", "_law_strides"] [] := F__law_went.bindsN (ps := ["_law_plot", "_law_strides"]) fun _ _ _ _ _ _ us hl => match us, hl with | [_, _], _ => rfl
  have g__law_went : mg "_law_went" = some (.ref (He.ga K "_law_went")) := He.glo_ok X G (c.d.fact 22 (f := (He.Fa.glo "_law_went")) rfl)
  obtain ⟨d__law_strewn, F__law_strewn⟩ : ∃ fd, DefAt K "_law_strewn" "_law_strewn" sStrewn (He.ga K "_law_strewn") fd := c.d.def_ 23 (d := ⟨("_law_strewn", none), "_law_strewn", "_law_strewn", defArgs sStrewn, defBody sStrewn, defScope sStrewn, [], []⟩) rfl
  have b__law_strewn : Binds K d__law_strewn ["_law_box_here", "_law_plot", "_law_strides"] [] := F__law_strewn.bindsN (ps := ["_law_box_here", "_law_plot", "_law_strides"]) fun _ _ _ _ _ _ us hl => match us, hl with | [_, _, _], _ => rfl
  have g__law_strewn : mg "_law_strewn" = some (.ref (He.ga K "_law_strewn")) := He.glo_ok X G (c.d.fact 23 (f := (He.Fa.glo "_law_strewn")) rfl)
  obtain ⟨d__law_slots_right, F__law_slots_right⟩ : ∃ fd, DefAt K "_law_slots_right" "_law_slots_right" sSlots (He.ga K "_law_slots_right") fd := c.d.def_ 24 (d := ⟨("_law_slots_right", none), "_law_slots_right", "_law_slots_right", defArgs sSlots, defBody sSlots, defScope sSlots, [], []⟩) rfl
  have b__law_slots_right : Binds K d__law_slots_right ["_law_plot", "_law_strides", "_law_more"] [] := F__law_slots_right.bindsN (ps := ["_law_plot", "_law_strides", "_law_more"]) fun _ _ _ _ _ _ us hl => match us, hl with | [_, _, _], _ => rfl
  have g__law_slots_right : mg "_law_slots_right" = some (.ref (He.ga K "_law_slots_right")) := He.glo_ok X G (c.d.fact 24 (f := (He.Fa.glo "_law_slots_right")) rfl)
  obtain ⟨d__law_right, F__law_right⟩ : ∃ fd, DefAt K "_law_right" "_law_right" sRight (He.ga K "_law_right") fd := c.d.def_ 25 (d := ⟨("_law_right", none), "_law_right", "_law_right", defArgs sRight, defBody sRight, defScope sRight, [], []⟩) rfl
  have b__law_right : Binds K d__law_right ["_law_box_here"] [] := F__law_right.bindsN (ps := ["_law_box_here"]) fun _ _ _ _ _ _ us hl => match us, hl with | [_], _ => rfl
  have g__law_right : mg "_law_right" = some (.ref (He.ga K "_law_right")) := He.glo_ok X G (c.d.fact 25 (f := (He.Fa.glo "_law_right")) rfl)
  obtain ⟨d_law, F_law⟩ : ∃ fd, DefAt K "law" "law" sLaw (He.ga K "law") fd := c.d.def_ 26 (d := ⟨("law", none), "law", "law", defArgs sLaw, defBody sLaw, defScope sLaw, [], []⟩) rfl
  have b_law : Binds K d_law ["_law_script"] [] := F_law.bindsN (ps := ["_law_script"]) fun _ _ _ _ _ _ us hl => match us, hl with | [_], _ => rfl
  have g_law : mg "law" = some (.ref (He.ga K "law")) := He.glo_ok X G (c.d.fact 26 (f := (He.Fa.glo "law")) rfl)
  obtain ⟨d_Ground___init__, F_Ground___init__⟩ : ∃ fd, DefAt K "__init__" "Ground.__init__" sGInit (He.ma K (He.ga K "Ground") "__init__") fd := c.d.def_ 27 (d := ⟨("Ground", some "__init__"), "__init__", "Ground.__init__", defArgs sGInit, defBody sGInit, defScope sGInit, [], []⟩) rfl
  have b_Ground___init__ : Binds K d_Ground___init__ ["self", "program"] [] := F_Ground___init__.bindsN (ps := ["self", "program"]) fun _ _ _ _ _ _ us hl => match us, hl with | [_, _], _ => rfl
  obtain ⟨d_Process___init__, F_Process___init__⟩ : ∃ fd, DefAt K "__init__" "Process.__init__" sPInit (He.ma K (He.ga K "Process") "__init__") fd := c.d.def_ 28 (d := ⟨("Process", some "__init__"), "__init__", "Process.__init__", defArgs sPInit, defBody sPInit, defScope sPInit, [], []⟩) rfl
  have b_Process___init__ : Binds K d_Process___init__ ["self", "program"] [] := F_Process___init__.bindsN (ps := ["self", "program"]) fun _ _ _ _ _ _ us hl => match us, hl with | [_, _], _ => rfl
  obtain ⟨d_Process_all_here, F_Process_all_here⟩ : ∃ fd, DefAt K "all_here" "Process.all_here" sAllHere (He.ma K (He.ga K "Process") "all_here") fd := c.d.def_ 29 (d := ⟨("Process", some "all_here"), "all_here", "Process.all_here", defArgs sAllHere, defBody sAllHere, defScope sAllHere, [], []⟩) rfl
  have b_Process_all_here : Binds K d_Process_all_here ["self"] [] := F_Process_all_here.bindsN (ps := ["self"]) fun _ _ _ _ _ _ us hl => match us, hl with | [_], _ => rfl
  have m_Process_all_here : Meth K (He.ga K "Process") "all_here" (He.ma K (He.ga K "Process") "all_here") := He.meth_ok (c.d.fact 75 (f := (He.Fa.meth "Process" "all_here")) rfl)
  obtain ⟨d_Process_is_there, F_Process_is_there⟩ : ∃ fd, DefAt K "is_there" "Process.is_there" sIsThere (He.ma K (He.ga K "Process") "is_there") fd := c.d.def_ 30 (d := ⟨("Process", some "is_there"), "is_there", "Process.is_there", defArgs sIsThere, defBody sIsThere, defScope sIsThere, [], []⟩) rfl
  have b_Process_is_there : Binds K d_Process_is_there ["self", "name"] [] := F_Process_is_there.bindsN (ps := ["self", "name"]) fun _ _ _ _ _ _ us hl => match us, hl with | [_, _], _ => rfl
  have m_Process_is_there : Meth K (He.ga K "Process") "is_there" (He.ma K (He.ga K "Process") "is_there") := He.meth_ok (c.d.fact 76 (f := (He.Fa.meth "Process" "is_there")) rfl)
  obtain ⟨d_Process_there, F_Process_there⟩ : ∃ fd, DefAt K "there" "Process.there" sThere (He.ma K (He.ga K "Process") "there") fd := c.d.def_ 31 (d := ⟨("Process", some "there"), "there", "Process.there", defArgs sThere, defBody sThere, defScope sThere, [], []⟩) rfl
  have b_Process_there : Binds K d_Process_there ["self"] [] := F_Process_there.bindsN (ps := ["self"]) fun _ _ _ _ _ _ us hl => match us, hl with | [_], _ => rfl
  have m_Process_there : Meth K (He.ga K "Process") "there" (He.ma K (He.ga K "Process") "there") := He.meth_ok (c.d.fact 77 (f := (He.Fa.meth "Process" "there")) rfl)
  obtain ⟨d_Process_deep, F_Process_deep⟩ : ∃ fd, DefAt K "deep" "Process.deep" sDeep (He.ma K (He.ga K "Process") "deep") fd := c.d.def_ 32 (d := ⟨("Process", some "deep"), "deep", "Process.deep", defArgs sDeep, defBody sDeep, defScope sDeep, [], []⟩) rfl
  have b_Process_deep : Binds K d_Process_deep ["self"] [] := F_Process_deep.bindsN (ps := ["self"]) fun _ _ _ _ _ _ us hl => match us, hl with | [_], _ => rfl
  have m_Process_deep : Meth K (He.ga K "Process") "deep" (He.ma K (He.ga K "Process") "deep") := He.meth_ok (c.d.fact 78 (f := (He.Fa.meth "Process" "deep")) rfl)
  obtain ⟨d_Process_look_there, F_Process_look_there⟩ : ∃ fd, DefAt K "look_there" "Process.look_there" sLook (He.ma K (He.ga K "Process") "look_there") fd := c.d.def_ 33 (d := ⟨("Process", some "look_there"), "look_there", "Process.look_there", defArgs sLook, defBody sLook, defScope sLook, [], []⟩) rfl
  have b_Process_look_there : Binds K d_Process_look_there ["self", "name"] [] := F_Process_look_there.bindsN (ps := ["self", "name"]) fun _ _ _ _ _ _ us hl => match us, hl with | [_, _], _ => rfl
  have m_Process_look_there : Meth K (He.ga K "Process") "look_there" (He.ma K (He.ga K "Process") "look_there") := He.meth_ok (c.d.fact 79 (f := (He.Fa.meth "Process" "look_there")) rfl)
  obtain ⟨d_Process_looks, F_Process_looks⟩ : ∃ fd, DefAt K "looks" "Process.looks" sLooks (He.ma K (He.ga K "Process") "looks") fd := c.d.def_ 34 (d := ⟨("Process", some "looks"), "looks", "Process.looks", defArgs sLooks, defBody sLooks, defScope sLooks, [], []⟩) rfl
  have b_Process_looks : Binds K d_Process_looks ["self", "name"] [] := F_Process_looks.bindsN (ps := ["self", "name"]) fun _ _ _ _ _ _ us hl => match us, hl with | [_, _], _ => rfl
  have m_Process_looks : Meth K (He.ga K "Process") "looks" (He.ma K (He.ga K "Process") "looks") := He.meth_ok (c.d.fact 80 (f := (He.Fa.meth "Process" "looks")) rfl)
  obtain ⟨d_Process_slot, F_Process_slot⟩ : ∃ fd, DefAt K "slot" "Process.slot" sSlot (He.ma K (He.ga K "Process") "slot") fd := c.d.def_ 35 (d := ⟨("Process", some "slot"), "slot", "Process.slot", defArgs sSlot, defBody sSlot, defScope sSlot, [], []⟩) rfl
  have b_Process_slot : Binds K d_Process_slot ["self", "name", "i"] [] := F_Process_slot.bindsN (ps := ["self", "name", "i"]) fun _ _ _ _ _ _ us hl => match us, hl with | [_, _, _], _ => rfl
  have m_Process_slot : Meth K (He.ga K "Process") "slot" (He.ma K (He.ga K "Process") "slot") := He.meth_ok (c.d.fact 81 (f := (He.Fa.meth "Process" "slot")) rfl)
  obtain ⟨d_Process_base, F_Process_base⟩ : ∃ fd, DefAt K "base" "Process.base" sBase (He.ma K (He.ga K "Process") "base") fd := c.d.def_ 36 (d := ⟨("Process", some "base"), "base", "Process.base", defArgs sBase, defBody sBase, defScope sBase, [], []⟩) rfl
  have b_Process_base : Binds K d_Process_base ["self"] [] := F_Process_base.bindsN (ps := ["self"]) fun _ _ _ _ _ _ us hl => match us, hl with | [_], _ => rfl
  have m_Process_base : Meth K (He.ga K "Process") "base" (He.ma K (He.ga K "Process") "base") := He.meth_ok (c.d.fact 82 (f := (He.Fa.meth "Process" "base")) rfl)
  obtain ⟨d_Process_look_door, F_Process_look_door⟩ : ∃ fd, DefAt K "look_door" "Process.look_door" sLookD (He.ma K (He.ga K "Process") "look_door") fd := c.d.def_ 37 (d := ⟨("Process", some "look_door"), "look_door", "Process.look_door", defArgs sLookD, defBody sLookD, defScope sLookD, [], []⟩) rfl
  have b_Process_look_door : Binds K d_Process_look_door ["self", "k"] [] := F_Process_look_door.bindsN (ps := ["self", "k"]) fun _ _ _ _ _ _ us hl => match us, hl with | [_, _], _ => rfl
  have m_Process_look_door : Meth K (He.ga K "Process") "look_door" (He.ma K (He.ga K "Process") "look_door") := He.meth_ok (c.d.fact 83 (f := (He.Fa.meth "Process" "look_door")) rfl)
  obtain ⟨d_Process_open_door, F_Process_open_door⟩ : ∃ fd, DefAt K "open_door" "Process.open_door" sOpenD (He.ma K (He.ga K "Process") "open_door") fd := c.d.def_ 38 (d := ⟨("Process", some "open_door"), "open_door", "Process.open_door", defArgs sOpenD, defBody sOpenD, defScope sOpenD, [], []⟩) rfl
  have b_Process_open_door : Binds K d_Process_open_door ["self", "k"] [] := F_Process_open_door.bindsN (ps := ["self", "k"]) fun _ _ _ _ _ _ us hl => match us, hl with | [_, _], _ => rfl
  have m_Process_open_door : Meth K (He.ga K "Process") "open_door" (He.ma K (He.ga K "Process") "open_door") := He.meth_ok (c.d.fact 84 (f := (He.Fa.meth "Process" "open_door")) rfl)
  obtain ⟨d_Process_come, F_Process_come⟩ : ∃ fd, DefAt K "come" "Process.come" sCome (He.ma K (He.ga K "Process") "come") fd := c.d.def_ 39 (d := ⟨("Process", some "come"), "come", "Process.come", defArgs sCome, defBody sCome, defScope sCome, [], []⟩) rfl
  have b_Process_come : Binds K d_Process_come ["self", "k"] [] := F_Process_come.bindsN (ps := ["self", "k"]) fun _ _ _ _ _ _ us hl => match us, hl with | [_, _], _ => rfl
  have m_Process_come : Meth K (He.ga K "Process") "come" (He.ma K (He.ga K "Process") "come") := He.meth_ok (c.d.fact 85 (f := (He.Fa.meth "Process" "come")) rfl)
  obtain ⟨d_Process_close_door, F_Process_close_door⟩ : ∃ fd, DefAt K "close_door" "Process.close_door" sCloseD (He.ma K (He.ga K "Process") "close_door") fd := c.d.def_ 40 (d := ⟨("Process", some "close_door"), "close_door", "Process.close_door", defArgs sCloseD, defBody sCloseD, defScope sCloseD, [], []⟩) rfl
  have b_Process_close_door : Binds K d_Process_close_door ["self", "k"] [] := F_Process_close_door.bindsN (ps := ["self", "k"]) fun _ _ _ _ _ _ us hl => match us, hl with | [_, _], _ => rfl
  have m_Process_close_door : Meth K (He.ga K "Process") "close_door" (He.ma K (He.ga K "Process") "close_door") := He.meth_ok (c.d.fact 86 (f := (He.Fa.meth "Process" "close_door")) rfl)
  obtain ⟨d_Process_go, F_Process_go⟩ : ∃ fd, DefAt K "go" "Process.go" sGo (He.ma K (He.ga K "Process") "go") fd := c.d.def_ 41 (d := ⟨("Process", some "go"), "go", "Process.go", defArgs sGo, defBody sGo, defScope sGo, [], []⟩) rfl
  have b_Process_go : Binds K d_Process_go ["self"] [] := F_Process_go.bindsN (ps := ["self"]) fun _ _ _ _ _ _ us hl => match us, hl with | [_], _ => rfl
  have m_Process_go : Meth K (He.ga K "Process") "go" (He.ma K (He.ga K "Process") "go") := He.meth_ok (c.d.fact 87 (f := (He.Fa.meth "Process" "go")) rfl)
  obtain ⟨d_Process_left, F_Process_left⟩ : ∃ fd, DefAt K "left" "Process.left" sLeft (He.ma K (He.ga K "Process") "left") fd := c.d.def_ 42 (d := ⟨("Process", some "left"), "left", "Process.left", defArgs sLeft, defBody sLeft, defScope sLeft, [], []⟩) rfl
  have b_Process_left : Binds K d_Process_left ["self", "answer"] [] := F_Process_left.bindsN (ps := ["self", "answer"]) fun _ _ _ _ _ _ us hl => match us, hl with | [_, _], _ => rfl
  have m_Process_left : Meth K (He.ga K "Process") "left" (He.ma K (He.ga K "Process") "left") := He.meth_ok (c.d.fact 88 (f := (He.Fa.meth "Process" "left")) rfl)
  obtain ⟨d_Process_found, F_Process_found⟩ : ∃ fd, DefAt K "found" "Process.found" sFound (He.ma K (He.ga K "Process") "found") fd := c.d.def_ 43 (d := ⟨("Process", some "found"), "found", "Process.found", defArgs sFound, defBody sFound, defScope sFound, [], []⟩) rfl
  have b_Process_found : Binds K d_Process_found ["self", "name", "i"] [] := F_Process_found.bindsN (ps := ["self", "name", "i"]) fun _ _ _ _ _ _ us hl => match us, hl with | [_, _, _], _ => rfl
  have m_Process_found : Meth K (He.ga K "Process") "found" (He.ma K (He.ga K "Process") "found") := He.meth_ok (c.d.fact 89 (f := (He.Fa.meth "Process" "found")) rfl)
  obtain ⟨d_Process_call, F_Process_call⟩ : ∃ fd, DefAt K "call" "Process.call" sCall (He.ma K (He.ga K "Process") "call") fd := c.d.def_ 44 (d := ⟨("Process", some "call"), "call", "Process.call", defArgs sCall, defBody sCall, defScope sCall, [], []⟩) rfl
  have b_Process_call : Binds K d_Process_call ["self", "name", "i"] [] := F_Process_call.bindsN (ps := ["self", "name", "i"]) fun _ _ _ _ _ _ us hl => match us, hl with | [_, _, _], _ => rfl
  have m_Process_call : Meth K (He.ga K "Process") "call" (He.ma K (He.ga K "Process") "call") := He.meth_ok (c.d.fact 90 (f := (He.Fa.meth "Process" "call")) rfl)
  obtain ⟨d_Process_do, F_Process_do⟩ : ∃ fd, DefAt K "do" "Process.do" sDo (He.ma K (He.ga K "Process") "do") fd := c.d.def_ 45 (d := ⟨("Process", some "do"), "do", "Process.do", defArgs sDo, defBody sDo, defScope sDo, [], []⟩) rfl
  have b_Process_do : Binds K d_Process_do ["self", "step"] [] := F_Process_do.bindsN (ps := ["self", "step"]) fun _ _ _ _ _ _ us hl => match us, hl with | [_, _], _ => rfl
  have m_Process_do : Meth K (He.ga K "Process") "do" (He.ma K (He.ga K "Process") "do") := He.meth_ok (c.d.fact 91 (f := (He.Fa.meth "Process" "do")) rfl)
  have g_Ground : mg "Ground" = some (.ref (He.ga K "Ground")) := He.glo_ok X G (c.d.fact 27 (f := (He.Fa.glo "Ground")) rfl)
  have g_Process : mg "Process" = some (.ref (He.ga K "Process")) := He.glo_ok X G (c.d.fact 28 (f := (He.Fa.glo "Process")) rfl)
  have g_NotThere : mg "NotThere" = some (.ref (He.ga K "NotThere")) := He.glo_ok X G (c.d.fact 29 (f := (He.Fa.glo "NotThere")) rfl)
  have B : Bl mg := ⟨He.free_ok X G (c.d.fact 38 (f := (He.Fa.free "isinstance")) rfl), He.free_ok X G (c.d.fact 39 (f := (He.Fa.free "tuple")) rfl), He.free_ok X G (c.d.fact 40 (f := (He.Fa.free "list")) rfl), He.free_ok X G (c.d.fact 41 (f := (He.Fa.free "len")) rfl), He.free_ok X G (c.d.fact 42 (f := (He.Fa.free "range")) rfl), He.free_ok X G (c.d.fact 43 (f := (He.Fa.free "min")) rfl), He.free_ok X G (c.d.fact 44 (f := (He.Fa.free "sorted")) rfl), He.free_ok X G (c.d.fact 45 (f := (He.Fa.free "set")) rfl), He.free_ok X G (c.d.fact 46 (f := (He.Fa.free "abs")) rfl), He.free_ok X G (c.d.fact 47 (f := (He.Fa.free "int")) rfl), He.free_ok X G (c.d.fact 48 (f := (He.Fa.free "all")) rfl), He.free_ok X G (c.d.fact 49 (f := (He.Fa.free "zip")) rfl), He.free_ok X G (c.d.fact 50 (f := (He.Fa.free "repr")) rfl)⟩
  have K0 : Cst K mg := ⟨glbD_str (He.str_ok X G (c.d.fact 52 (f := (He.Fa.str "BOUND" "bound")) rfl)),
    glbD_tup (He.glo_ok X G (c.d.fact 30 (f := (He.Fa.glo "OPENED")) rfl)) (c.x 18 rfl),
    glbD_tup (He.glo_ok X G (c.d.fact 31 (f := (He.Fa.glo "CLOSED")) rfl)) (c.x 19 rfl),
    glbD_tup (He.glo_ok X G (c.d.fact 32 (f := (He.Fa.glo "FULL")) rfl)) (c.x 20 rfl),
    glbD_tup (He.glo_ok X G (c.d.fact 33 (f := (He.Fa.glo "SHUT")) rfl)) (c.x 21 rfl),
    glbD_tup (He.glo_ok X G (c.d.fact 34 (f := (He.Fa.glo "NOBODY")) rfl)) (c.x 22 rfl),
    glbD_tup (He.glo_ok X G (c.d.fact 35 (f := (He.Fa.glo "LOST")) rfl)) (c.x 23 rfl),
    glbD_tup (He.glo_ok X G (c.d.fact 36 (f := (He.Fa.glo "TORN")) rfl)) (c.x 24 rfl),
    glbD_tup (He.glo_ok X G (c.d.fact 37 (f := (He.Fa.glo "AWAY")) rfl)) (c.x 25 rfl),
    glbD_int (He.int_ok X G (c.d.fact 57 (f := (He.Fa.int "MOST" 2)) rfl)),
    glbD_str (He.str_ok X G (c.d.fact 53 (f := (He.Fa.str "GLOBAL" "global")) rfl)),
    glbD_str (He.str_ok X G (c.d.fact 54 (f := (He.Fa.str "DEEP" "deep")) rfl)),
    glbD_str (He.str_ok X G (c.d.fact 55 (f := (He.Fa.str "OPEN" "open")) rfl)),
    glbD_str (He.str_ok X G (c.d.fact 56 (f := (He.Fa.str "CALL" "call")) rfl))⟩
  have T : ClsF K (He.ga K "Process") pK := ⟨He.cls_ok (c.d.fact 58 (f := (He.Fa.cls "Process")) rfl), fun f hf => by
    simp only [pK, List.mem_cons, List.not_mem_nil, or_false] at hf
    rcases hf with rfl | rfl | rfl | rfl | rfl | rfl | rfl | rfl | rfl | rfl
    · exact He.noat_ok (c.d.fact 62 (f := (He.Fa.noat "Process" "own_ground")) rfl)
    · exact He.noat_ok (c.d.fact 63 (f := (He.Fa.noat "Process" "own_program")) rfl)
    · exact He.noat_ok (c.d.fact 64 (f := (He.Fa.noat "Process" "own_first")) rfl)
    · exact He.noat_ok (c.d.fact 65 (f := (He.Fa.noat "Process" "own_rows")) rfl)
    · exact He.noat_ok (c.d.fact 66 (f := (He.Fa.noat "Process" "own_counts")) rfl)
    · exact He.noat_ok (c.d.fact 67 (f := (He.Fa.noat "Process" "own_opened")) rfl)
    · exact He.noat_ok (c.d.fact 68 (f := (He.Fa.noat "Process" "own_public")) rfl)
    · exact He.noat_ok (c.d.fact 69 (f := (He.Fa.noat "Process" "own_deep")) rfl)
    · exact He.noat_ok (c.d.fact 70 (f := (He.Fa.noat "Process" "own_slots")) rfl)
    · exact He.noat_ok (c.d.fact 71 (f := (He.Fa.noat "Process" "own_here")) rfl)⟩
  have TG : ClsF K (He.ga K "Ground") gK := ⟨He.cls_ok (c.d.fact 60 (f := (He.Fa.cls "Ground")) rfl), fun f hf => by
    simp only [gK, List.mem_cons, List.not_mem_nil, or_false] at hf
    rcases hf with rfl | rfl | rfl
    · exact He.noat_ok (c.d.fact 72 (f := (He.Fa.noat "Ground" "own_program")) rfl)
    · exact He.noat_ok (c.d.fact 73 (f := (He.Fa.noat "Ground" "own_first")) rfl)
    · exact He.noat_ok (c.d.fact 74 (f := (He.Fa.noat "Ground" "own_rows")) rfl)⟩
  have MkP : Mk K (He.ga K "Process") (He.ma K (He.ga K "Process") "__init__") := He.mkr_ok (c.d.fact 59 (f := (He.Fa.mkr "Process")) rfl)
  have MkG : Mk K (He.ga K "Ground") (He.ma K (He.ga K "Ground") "__init__") := He.mkr_ok (c.d.fact 61 (f := (He.Fa.mkr "Ground")) rfl)
  have TN : NTxt P K mg (hN K) (ntF K) :=
    { gC := g_NotThere, qi := c.x 0 rfl, qo := c.x 1 rfl, sa := He.eqO_ok (c.x 2 rfl), tk := He.eqO_ok (c.x 3 rfl), hd := c.x 4 rfl, iC := He.eqO_ok (c.x 5 rfl), tC := of_decide_eq_true (c.x 6 rfl), kC := c.x 7 rfl, exC := of_decide_eq_true (c.x 8 rfl), rtC := of_decide_eq_true (c.x 9 rfl), tyC := of_decide_eq_true (c.x 10 rfl), te := of_decide_eq_true (c.x 11 rfl),
      mro := of_decide_eq_true (c.x 12 rfl), opq := He.eqO_ok (c.x 13 rfl), su := He.free_ok X G (c.d.fact 51 (f := (He.Fa.free "super")) rfl), ini := He.eqO_ok (c.x 14 rfl), top := top, fn := nt_fn c.nt (c.x 15 rfl) (c.x 16 rfl) }
  refine ⟨d_law, fun s u => F_law.bindsA (ps := ["_law_script"]) (fun _ _ _ _ _ _ us hl => match us, hl with | [_], _ => rfl) s [u] rfl, fun base => ?_⟩
  have G_as_tuples : Glb P w K mg base CX0 6 "as_tuples" ["thing"] (spAsT K 5) := ⟨_, _, ok_asT B F_as_tuples g_as_tuples 5, g_as_tuples, F_as_tuples.kp, b_as_tuples⟩
  have G_lib_of : Glb P w K mg base CX0 1 "lib_of" ["program", "name"] (spLibOf K) := ⟨_, _, ok_libOf B F_lib_of, g_lib_of, F_lib_of.kp, b_lib_of⟩
  have G_lib_at : Glb P w K mg base CX0 2 "lib_at" ["program", "name"] (spLibAt K) := ⟨_, _, ok_libAt F_lib_at G_lib_of, g_lib_at, F_lib_at.kp, b_lib_at⟩
  have G_use_at : Glb P w K mg base CX0 3 "use_at" ["program", "name", "number"] (spUseAt K) := ⟨_, _, ok_useAt B F_use_at G_lib_at, g_use_at, F_use_at.kp, b_use_at⟩
  have G_serves : Glb P w K mg base CX0 1 "serves" ["definition", "use"] (spServes K) := ⟨_, _, ok_serves F_serves, g_serves, F_serves.kp, b_serves⟩
  have G_version_of : Glb P w K mg base CX0 2 "version_of" ["lib", "use"] (spVersOf K) := ⟨_, _, ok_versOf B F_version_of G_serves, g_version_of, F_version_of.kp, b_version_of⟩
  have G_row : Glb P w K mg base CX0 10 "row" ["program", "names"] (spRow K) := ⟨_, _, ok_row B F_row G_as_tuples G_lib_of G_lib_at, g_row, F_row.kp, b_row⟩
  have G_first_row : Glb P w K mg base CX0 11 "first_row" ["program"] (spFirst K) := ⟨_, _, ok_first F_first_row G_as_tuples G_row, g_first_row, F_first_row.kp, b_first_row⟩
  have G_door_row : Glb P w K mg base CX0 11 "door_row" ["program", "number"] (spDoorRow K) := ⟨_, _, ok_doorRow F_door_row G_row, g_door_row, F_door_row.kp, b_door_row⟩
  have OG : FnOk P w K mg base CX0 12 (He.ma K (He.ga K "Ground") "__init__") d_Ground___init__ ["self", "program"] (spGInit K (He.ga K "Ground")) := ok_gInit B TG F_Ground___init__ G_as_tuples G_first_row G_door_row
  have M_all_here : Mth P w K mg base CX0 1 (He.ga K "Process") "all_here" ["self"] (spAllHere K (He.ga K "Process")) := ⟨_, _, ok_allHere T F_Process_all_here, m_Process_all_here, b_Process_all_here⟩
  have M_is_there : Mth P w K mg base CX0 1 (He.ga K "Process") "is_there" ["self", "name"] (spIsThere K (He.ga K "Process")) := ⟨_, _, ok_isThere T F_Process_is_there, m_Process_is_there, b_Process_is_there⟩
  have M_there : Mth P w K mg base CX0 1 (He.ga K "Process") "there" ["self"] (spThere K (He.ga K "Process")) := ⟨_, _, ok_there B T F_Process_there, m_Process_there, b_Process_there⟩
  have M_deep : Mth P w K mg base CX0 1 (He.ga K "Process") "deep" ["self"] (spDeep K (He.ga K "Process")) := ⟨_, _, ok_deep B T F_Process_deep, m_Process_deep, b_Process_deep⟩
  have M_look_there : Mth P w K mg base (L2.CX P w) 3 (He.ga K "Process") "look_there" ["self", "name"] (spLook K (He.ga K "Process") (hN K)) := ⟨_, _, ok_look T TN F_Process_look_there G_lib_at M_is_there, m_Process_look_there, b_Process_look_there⟩
  have M_slot : Mth P w K mg base (L2.CX P w) 4 (He.ga K "Process") "slot" ["self", "name", "i"] (spSlot K (He.ga K "Process") (hN K)) := ⟨_, _, ok_slot (fN := ntF K) T F_Process_slot G_use_at M_look_there, m_Process_slot, b_Process_slot⟩
  have M_base : Mth P w K mg base CX0 2 (He.ga K "Process") "base" ["self"] (spBase K (He.ga K "Process")) := ⟨_, _, ok_base B T F_Process_base M_deep, m_Process_base, b_Process_base⟩
  have M_looks : Mth P w K mg base CX0 4 (He.ga K "Process") "looks" ["self", "name"] (spLooks K (He.ga K "Process")) := ⟨_, _, ok_looks B T F_Process_looks M_look_there, m_Process_looks, b_Process_looks⟩
  have M_found : Mth P w K mg base CX0 5 (He.ga K "Process") "found" ["self", "name", "i"] (spFound K (He.ga K "Process")) := ⟨_, _, ok_found K0 T F_Process_found G_use_at M_looks G_lib_of G_version_of, m_Process_found, b_Process_found⟩
  have M_call : Mth P w K mg base (L2.CX P w) 6 (He.ga K "Process") "call" ["self", "name", "i"] (spCall K (He.ga K "Process") (hN K)) := ⟨_, _, ok_call K0 T F_Process_call M_slot M_found, m_Process_call, b_Process_call⟩
  have M_left : Mth P w K mg base CX0 2 (He.ga K "Process") "left" ["self", "answer"] (spLeft K (He.ga K "Process")) := ⟨_, _, ok_left K0 T F_Process_left M_is_there, m_Process_left, b_Process_left⟩
  have M_look_door : Mth P w K mg base CX0 1 (He.ga K "Process") "look_door" ["self", "k"] (spLookD K (He.ga K "Process")) := ⟨_, _, ok_lookD B T F_Process_look_door, m_Process_look_door, b_Process_look_door⟩
  have M_go : Mth P w K mg base CX0 3 (He.ga K "Process") "go" ["self"] (spGo K (He.ga K "Process")) := ⟨_, _, ok_go T F_Process_go M_is_there M_left, m_Process_go, b_Process_go⟩
  have M_come : Mth P w K mg base CX0 2 (He.ga K "Process") "come" ["self", "k"] (spCome K (He.ga K "Process")) := ⟨_, _, ok_come K0 T F_Process_come M_is_there M_all_here, m_Process_come, b_Process_come⟩
  have M_open_door : Mth P w K mg base CX0 3 (He.ga K "Process") "open_door" ["self", "k"] (spOpenD K (He.ga K "Process")) := ⟨_, _, ok_openD K0 T F_Process_open_door M_look_door M_come, m_Process_open_door, b_Process_open_door⟩
  have M_close_door : Mth P w K mg base CX0 4 (He.ga K "Process") "close_door" ["self", "k"] (spCloseD K (He.ga K "Process")) := ⟨_, _, ok_closeD K0 T F_Process_close_door M_look_door M_all_here M_go, m_Process_close_door, b_Process_close_door⟩
  have M_do : Mth P w K mg base (L2.CX P w) 7 (He.ga K "Process") "do" ["self", "step"] (spDo K (He.ga K "Process") (hN K)) := ⟨_, _, ok_do K0 T F_Process_do M_call M_open_door M_close_door, m_Process_do, b_Process_do⟩
  have MP : MkC P w K mg base 14 "Process" (He.ga K "Process") (spPInit K (He.ga K "Process")) := ⟨_, _, MkP, g_Process, ok_pInit B T TG g_Ground (of_decide_eq_true (c.x 17 rfl)) MkG OG b_Ground___init__ F_Process___init__ M_all_here, b_Process___init__⟩
  have G_answer_of : Glb P w K mg base CX0 8 "answer_of" ["process", "step"] (spAns K (He.ga K "Process")) := ⟨_, _, ok_ans K0 T TN F_answer_of M_do, g_answer_of, F_answer_of.kp, b_answer_of⟩
  have G_run : Glb P w K mg base CX0 16 "run" ["program", "steps"] (spRun K) := ⟨_, _, ok_run F_run MP G_answer_of, g_run, F_run.kp, b_run⟩
  have G__law_cell_at : Glb P w K mg base CX0 1 "_law_cell_at" ["_law_script", "_law_gate"] (spCell K) := ⟨_, _, ok_cell B F__law_cell_at, g__law_cell_at, F__law_cell_at.kp, b__law_cell_at⟩
  have G__law_box : Glb P w K mg base CX0 2 "_law_box" ["_law_script", "_law_gate"] (spBox K) := ⟨_, _, ok_box B F__law_box G__law_cell_at, g__law_box, F__law_box.kp, b__law_box⟩
  have G__law_take : Glb P w K mg base CX0 1 "_law_take" ["_law_box_here", "_law_many"] (spTake) := ⟨_, _, ok_take B F__law_take, g__law_take, F__law_take.kp, b__law_take⟩
  have G__law_pick : Glb P w K mg base CX0 2 "_law_pick" ["_law_box_here", "_law_some_here"] (spPick) := ⟨_, _, ok_pick B F__law_pick G__law_take, g__law_pick, F__law_pick.kp, b__law_pick⟩
  have G__law_same : GlbG P w K mg base CX0 1 "_law_same" ["_law_found", "_law_due"] (spSame K) := ⟨_, _, ok_same B F__law_same, g__law_same, F__law_same.kp, b__law_same⟩
  have G__law_names : Glb P w K mg base CX0 2 "_law_names" ["_law_box_here", "_law_many"] (spNames) := ⟨_, _, ok_names B F__law_names G__law_take, g__law_names, F__law_names.kp, b__law_names⟩
  have G__law_some : Glb P w K mg base CX0 2 "_law_some" ["_law_box_here", "_law_some_here", "_law_most"] (spSome) := ⟨_, _, ok_some B F__law_some G__law_take, g__law_some, F__law_some.kp, b__law_some⟩
  have G__law_pairs : Glb P w K mg base CX0 3 "_law_pairs" ["_law_box_here", "_law_most"] (spPairs K) := ⟨_, _, ok_pairs B F__law_pairs G__law_take G__law_pick, g__law_pairs, F__law_pairs.kp, b__law_pairs⟩
  have G__law_lib : Glb P w K mg base CX0 4 "_law_lib" ["_law_box_here", "_law_own", "_law_others", "_law_is_main"] (spLib K) := ⟨_, _, ok_lib B F__law_lib G__law_take G__law_some G__law_pairs, g__law_lib, F__law_lib.kp, b__law_lib⟩
  have G__law_program : Glb P w K mg base CX0 5 "_law_program" ["_law_box_here", "_law_most", "_law_gates"] (spProg K) := ⟨_, _, ok_prog B F__law_program G__law_take G__law_names G__law_pick G__law_some G__law_lib, g__law_program, F__law_program.kp, b__law_program⟩
  have G__law_step : Glb P w K mg base CX0 3 "_law_step" ["_law_box_here", "_law_plot"] (spStep K) := ⟨_, _, ok_step B F__law_step G__law_take G__law_pick, g__law_step, F__law_step.kp, b__law_step⟩
  have G__law_went : Glb P w K mg base CX0 16 "_law_went" ["_law_plot", "_law_strides"] (spWent K (He.ga K "Process")) := ⟨_, _, ok_went T F__law_went MP M_there M_do, g__law_went, F__law_went.kp, b__law_went⟩
  have G__law_strewn : Glb P w K mg base CX0 4 "_law_strewn" ["_law_box_here", "_law_plot", "_law_strides"] (spStrewn K) := ⟨_, _, ok_strewn F__law_strewn G__law_step, g__law_strewn, F__law_strewn.kp, b__law_strewn⟩
  have G__law_slots_right : GlbG P w K mg base CX0 17 "_law_slots_right" ["_law_plot", "_law_strides", "_law_more"] (spSlots K) := ⟨_, _, ok_slots B F__law_slots_right G_run G__law_same, g__law_slots_right, F__law_slots_right.kp, b__law_slots_right⟩
  have G__law_right : GlbG P w K mg base CX0 18 "_law_right" ["_law_box_here"] (spRight) := ⟨_, _, ok_right B T F__law_right G__law_program G__law_step G__law_strewn G__law_went G__law_same G__law_slots_right M_base M_there M_slot M_call, g__law_right, F__law_right.kp, b__law_right⟩
  exact ok_law B F_law G__law_box G__law_right
end K10
end
section
set_option maxHeartbeats 0
/-! HW: the head's run and the row. -/
namespace K10
open PySem PySem.W PySem.Calls PyProof.Rows
abbrev hR : OpenRow := OpenLaw.row PySem.Challenge.rw_latebound_k10_whole_calls_leave_the_rest
abbrev hxs : List (Frag → Bool) := hex PySem.Challenge.rw_latebound_k10_whole_calls_leave_the_rest.prog.main.file
abbrev hhk : Hook := hookY hfa hfn hxs
def hob (s : SharedT) : AlY := obsYG hfa hfn hxs (HandSHeadRun.getT s)
theorem hob_eq (s : SharedT) : hob s = hhk.obs s.abs := obsYG_eq (HandSHeadRun.getT_eq s)
def looseA : List Str := ["_wall", "__name__", "NoDoor", "NoLib", "NoUse", "NotThere", "GLOBAL", "DEEP", "OPEN", "CALL", "as_tuples", "lib_of", "lib_at", "use_at", "row", "first_row", "door_row", "serves", "version_of", "MOST", "OPENED", "CLOSED", "FULL", "SHUT", "BOUND", "NOBODY", "LOST", "TORN", "Ground", "Process"]
def looseB : List Str := ["AWAY", "answer_of", "run", "_law_cell_at", "_law_box", "_law_take", "_law_pick", "_law_same", "_law_names", "_law_some", "_law_pairs", "_law_lib", "_law_program", "_law_step", "_law_went", "_law_strewn", "_law_slots_right", "_law_right"]
def loose : List Str := looseA ++ looseB
theorem hrun (w : World) : HandSHeadRun.RunEq hR (view hR.prog [53]) hhk hob 4000 loose w := by
  intro os
  kernel_rfl
end K10
open PySem PySem.W PySem.Calls PyProof.Rows
theorem PySem.Challenge.cw_latebound_k10_whole_calls_leave_the_rest_holds : PySem.Challenge.rw_latebound_k10_whole_calls_leave_the_rest.Holds := by
  w_on; o_law
  refine HandSHeadRun.head_any (r := OpenLaw.row PySem.Challenge.rw_latebound_k10_whole_calls_leave_the_rest) (q := view (OpenLaw.row PySem.Challenge.rw_latebound_k10_whole_calls_leave_the_rest).prog [53]) (H := K10.hhk) (ob := K10.hob) (M := 4000) (loose := K10.loose) (d := HandSHeadRun.topDef (OpenLaw.row PySem.Challenge.rw_latebound_k10_whole_calls_leave_the_rest).prog 53) (kwd := []) K10.hob_eq
    (by kernel_rfl) (fun s => by kernel_rfl) K10.hrun (by kernel_rfl) (by kernel_rfl) (by kernel_rfl) (by rfl) (by first | assumption | decide +kernel) (by decide +kernel) ⟨rfl, rfl, rfl, rfl, rfl, by decide +kernel⟩ ?hw ?hc
  case hw => w_witness2
  case hc =>
    refine K10.walk_ofG (l := PySem.Challenge.rw_latebound_k10_whole_calls_leave_the_rest) (n := 63) (k := 19) (x := "_law_script") rfl (by decide) (by kernel_rfl) ⟨rfl, by decide, by decide⟩ ?F
    intro w mg fa h Y G hmg0
    obtain ⟨K, KX, c⟩ := Y
    have hmg : mg ("law" : PySem.Str) = some (.ref fa) := by
      have e : (HandSHeadRun.topDef (OpenLaw.row PySem.Challenge.rw_latebound_k10_whole_calls_leave_the_rest).prog 53).name = ("law" : PySem.Str) := by kernel_rfl
      rw [← e]
      exact hmg0
    obtain ⟨fd, hb, hF⟩ := K10.all_ok (P := (PySem.Challenge.rw_latebound_k10_whole_calls_leave_the_rest).prog) (w := w) KX G (by kernel_rfl) c
    have e := hmg.symm.trans (He.glo_ok KX G (c.d.fact 26 (f := He.Fa.glo "law") rfl))
    cases e
    exact ⟨K, fd, K10.spLaw K, KX, hb, fun H a ns hS => ⟨a, ns, rfl, hS, fun _ => rfl⟩, fun base _ _ => hF base⟩
end
