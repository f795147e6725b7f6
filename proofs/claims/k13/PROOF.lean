import PyProof.Rows.All
import Wide.All
import OpenK.AllK
import Wide.FinOn
import PySem.Challenge.RW_storepages_k13_whole_images
import HandS.Base
import HandS.ForMost
import HandS.ForExc
import HandS.Walk
import HandS.Wide
import HandS.CallSlots
import HandS.Lambda
import HandS.TupAny
import HandS.IsInst
import HandS.Flow
import HandS.SortInts
import HandS.Star
import HandS.Style
import HandS.Small
import HandS.Conv
import HandS.Zip
import KE.GoesEnum
import HandS.WordsExc
import HandS.TryOnly
import HandS.New0
import HandS.Strs
import HandS.SetFor
import HandS.TupSets
import HandS.SlotsOwn
import HandS.OwnEq
import HandS.Records
import HandS.EndTab
set_option Elab.async false
set_option linter.all false
set_option maxRecDepth 100000
set_option maxHeartbeats 8000000
/-! DL, part 0, for k13: the law's lambdas. -/
namespace DL
open PySem
/-- a lambda without parameters and without captured names -/
structure LamI where
  q : PySem.Str
  ps : PySem.Arguments
  body : PySem.Expr
  sc : PySem.Scope
def topS (i : Nat) : Stmt := PySem.Challenge.pw_storepages_k13_whole_images.main.body.getD i (.Pass ⟨0, 0, 0, 0⟩)
def bodyS : Stmt → List Stmt
  | .FunctionDef (body := b) .. => b
  | _ => []
def lamsOf : Stmt → List Expr
  | .Assign _ (.List es _) _ => es
  | .Assign _ (.BinOp _ _ (.List es _) _) _ => es
  | .If (.BoolOp _ [_, .Call _ es _ _] _) _ _ _ => es
  | _ => []
def lamE (l : List Expr) (i : Nat) : LamI := match l.getD i (.Constant .none 0 ⟨0, 0, 0, 0⟩) with
  | .Lambda ps b sc _ => ⟨"law.<locals>.<lambda>", ps, b, sc⟩
  | b => ⟨"", ⟨[], [], none, [], [], none, []⟩, b, { kind := .function, names := [], isGenerator := false, isCoroutine := false }⟩
/-- where the lambda n stands: the statement, the place in it -/
def lamTab (n : Nat) : LamI :=
  if n < 8 then lamE (lamsOf ((bodyS (topS 27)).getD 12 (.Pass ⟨0, 0, 0, 0⟩))) n
  else if n < 13 then lamE (lamsOf ((bodyS (topS 27)).getD 13 (.Pass ⟨0, 0, 0, 0⟩))) (n - 8)
  else lamE (lamsOf ((bodyS (topS 27)).getD 14 (.Pass ⟨0, 0, 0, 0⟩))) (n - 13)
end DL

/-! DL, part 1: data, how the heap bears them, the state of a def, readings by data. -/
namespace DL
open PySem L2

/-- data -/
inductive D where
  | non | bl (b : Bool) | int (i : Int) | str (s : Str)
  | tup (l : List D) | lst (l : List D) | dct (k v : List D) | obj (c : Str) (n : List Str) (v : List D)
  /-- a list that is read alone (the script) -/
  | fls (l : List D)
  /-- the law's lambda of that number -/
  | fn (n : Nat)
instance : Inhabited D := ⟨.non⟩

/-- a slot: nothing known, shared data, data of one's own (may be changed) -/
inductive Slot where
  | un | sh (d : D) | ow (d : D)
instance : Inhabited Slot := ⟨.un⟩
abbrev Env := List Slot

/-- an exception: its class, its fields -/
structure Xn where
  c : Str
  n : List Str
  v : List D
/-- outcomes -/
inductive R (α : Type) where
  | ok (a : α) | er (x : Xn) | no
inductive RM (α : Type) where
  | ok (a : α) (ρ : Env) | er (x : Xn) (ρ : Env) | no
abbrev M (α : Type) := Env → RM α
def R.bind {α β : Type} (r : R α) (k : α → R β) : R β := match r with | .ok a => k a | .er x => .er x | .no => .no
def RM.bind {α β : Type} (r : RM α) (k : α → Env → RM β) : RM β := match r with | .ok a ρ => k a ρ | .er x ρ => .er x ρ | .no => .no
def M.bind {α β : Type} (f : M α) (k : α → M β) : M β := fun ρ => (f ρ).bind k
def M.pure {α : Type} (a : α) : M α := fun ρ => .ok a ρ
/-- a pure outcome, at an environment -/
def R.at {α : Type} (r : R α) (ρ : Env) : RM α := match r with | .ok a => .ok a ρ | .er x => .er x ρ | .no => .no
def M.lift {α : Type} (r : R α) : M α := fun ρ => r.at ρ
/-- exceptions not allowed -/
def RM.quiet {α : Type} (r : RM α) : RM α := match r with | .er _ _ => .no | r => r

/-- the heap without the addresses of O -/
def hid (H : Hp) (O : List Addr) : Hp := fun a => if a ∈ O then none else H a
/-- all that is there stays -/
def Ex (G G' : Hp) : Prop := ∀ a o, G a = some o → G' a = some o
theorem Ex.refl (G : Hp) : Ex G G := fun _ _ h => h
theorem Ex.trans {A B C : Hp} (x : Ex A B) (y : Ex B C) : Ex A C := fun a o h => y a o (x a o h)
theorem hid_in {H : Hp} {O : List Addr} {a : Addr} (h : a ∈ O) : hid H O a = none := by unfold hid; rw [if_pos h]
theorem hid_out {H : Hp} {O : List Addr} {a : Addr} (h : a ∉ O) : hid H O a = H a := by unfold hid; rw [if_neg h]
theorem hid_some {H : Hp} {O : List Addr} {a : Addr} {o : HO} (h : hid H O a = some o) : a ∉ O ∧ H a = some o := by
  unfold hid at h
  split at h
  · cases h
  · exact ⟨by assumption, h⟩
theorem Ex.hid {H H' : Hp} (x : Ex H H') (O : List Addr) : Ex (hid H O) (hid H' O) := fun a o h => by
  obtain ⟨n, e⟩ := hid_some h
  rw [hid_out n]; exact x a o e
theorem ex_hid_sub {H : Hp} {O O' : List Addr} (h : ∀ a ∈ O', a ∈ O) : Ex (hid H O) (hid H O') := fun a o e => by
  obtain ⟨n, e⟩ := hid_some e
  rw [hid_out fun z => n (h a z)]; exact e
theorem Ex.rd {G G' : Hp} (x : Ex G G') {a : Addr} {u : HO} (h : Rd G a u) : Rd G' a u := by
  rcases h with h | ⟨o, h⟩
  · exact .inl (x _ _ h)
  · exact .inr ⟨o, x _ _ h⟩
theorem Ex.sql {K : PySem.W.Frag} {G G' : Hp} (x : Ex G G') {a : Addr} {vs : List V} (h : SqL K G a vs) : SqL K G' a vs := by
  rcases h with h | h
  · exact .inl (x.rd h)
  · exact .inr h
theorem Ex.sqt {K : PySem.W.Frag} {G G' : Hp} (x : Ex G G') {a : Addr} {vs : List V} (h : SqT K G a vs) : SqT K G' a vs := by
  rcases h with h | h
  · exact .inl (x.rd h)
  · exact .inr h
theorem ex_hid (H : Hp) (O : List Addr) : Ex (hid H O) H := fun _ _ h => (hid_some h).2
theorem Ex.upd {H : Hp} {p : Addr} {o : HO} (h : H p = none) : Ex H (upd H p o) := fun a u e => by
  rw [upd_ne (ne_of_none e h)]; exact e

def keyD : Key → D
  | .inl i => .int i
  | .inr x => .str x
def keysD (k : List Key) : D := .tup (k.map keyD)

/-- the function object of a lambda -/
def LamO (f : Addr) (i : LamI) (pm : Value) (c' : Addr) (ctv : Value) : HO := .ext fun h => h.get? f = some (PySem.W.kla_obj "<lambda>" i.q i.ps i.body i.sc [] pm c' ctv)
section
variable (K : PySem.W.Frag) (mg : Str → Option Value) (G : Hp)
mutual
inductive Rep : V → D → Prop
  | non : Rep .non .non
  | bl (b : Bool) : Rep (.bl b) (.bl b)
  | int (i : Int) : Rep (.int i) (.int i)
  | str (s : Str) : Rep (.str s) (.str s)
  | tup {a : Addr} {vs : List V} {ds : List D} : SqT K G a vs → RepL vs ds → ds.length ≤ sizeLine → Rep (.ref a) (.tup ds)
  | lst {a : Addr} {vs : List V} {ds : List D} : G a = some (.lst vs) → RepL vs ds → ds.length ≤ sizeLine → Rep (.ref a) (.lst ds)
  | fls {a : Addr} {vs : List V} {ds : List D} : SqL K G a vs → RepL vs ds → ds.length ≤ sizeLine → Rep (.ref a) (.fls ds)
  | dk {a : Addr} {o : Obj} {kvs : List (Key × V)} {ks ds : List D} : G a = some (.frz o (.dK kvs)) → ks = kvs.map (fun p => keyD p.1) → RepL (kvs.map fun p => p.2) ds → ds.length ≤ sizeLine → Rep (.ref a) (.dct ks ds)
  | dt {a : Addr} {o : Obj} {kvs : List (List Key × V)} {ks ds : List D} : G a = some (.frz o (.dT kvs)) → ks = kvs.map (fun p => keysD p.1) → RepL (kvs.map fun p => p.2) ds → ds.length ≤ sizeLine → Rep (.ref a) (.dct ks ds)
  | obj {a C dx : Addr} {c : Str} {fs : List (Str × V)} {ns : List Str} {ds : List D} : mg c = some (.ref C) → G a = some (.ins C dx fs) → ns = fs.map (fun p => p.1) → RepL (fs.map fun p => p.2) ds → Rep (.ref a) (.obj c ns ds)
  | fn {a c' : Addr} {n : Nat} {pm ctv : Value} : G a = some (LamO a (lamTab n) pm c' ctv) → G c' = some (LamX.CodeO c' (lamTab n).q) → Rep (.ref a) (.fn n)
inductive RepL : List V → List D → Prop
  | nil : RepL [] []
  | cons {v : V} {vs : List V} {d : D} {ds : List D} : Rep v d → RepL vs ds → RepL (v :: vs) (d :: ds)
end
/-- data of one's own at a: the object itself may change, its items are shared -/
def Own (H : Hp) (a : Addr) : D → Prop
  | .lst ds => ∃ vs, H a = some (.lst vs) ∧ RepL K mg G vs ds ∧ ds.length ≤ sizeLine
  | .dct ks ds => (∃ kvs : List (Key × V), H a = some (.dK kvs) ∧ ks = kvs.map (fun p => keyD p.1) ∧ RepL K mg G (kvs.map fun p => p.2) ds ∧ ds.length ≤ sizeLine) ∨
      ∃ kvs : List (List Key × V), H a = some (.dT kvs) ∧ ks = kvs.map (fun p => keysD p.1) ∧ RepL K mg G (kvs.map fun p => p.2) ds ∧ ds.length ≤ sizeLine
  | .obj c ns ds => ∃ C dx fs, mg c = some (.ref C) ∧ H a = some (.ins C dx fs) ∧ ns = fs.map (fun p => p.1) ∧ RepL K mg G (fs.map fun p => p.2) ds
  | _ => False
end

section
variable {K : PySem.W.Frag} {mg : Str → Option Value} {G G' : Hp}
mutual
theorem Rep.mono (x : Ex G G') : ∀ {v : V} {d : D}, Rep K mg G v d → Rep K mg G' v d
  | _, _, .non => .non
  | _, _, .bl b => .bl b
  | _, _, .int i => .int i
  | _, _, .str s => .str s
  | _, _, .tup h r z => .tup (x.sqt h) (RepL.mono x r) z
  | _, _, .lst h r z => .lst (x _ _ h) (RepL.mono x r) z
  | _, _, .fls h r z => .fls (x.sql h) (RepL.mono x r) z
  | _, _, .dk h k r z => .dk (x _ _ h) k (RepL.mono x r) z
  | _, _, .dt h k r z => .dt (x _ _ h) k (RepL.mono x r) z
  | _, _, .obj m h k r => .obj m (x _ _ h) k (RepL.mono x r)
  | _, _, .fn h k => .fn (x _ _ h) (x _ _ k)
theorem RepL.mono (x : Ex G G') : ∀ {vs : List V} {ds : List D}, RepL K mg G vs ds → RepL K mg G' vs ds
  | _, _, .nil => .nil
  | _, _, .cons r t => .cons (Rep.mono x r) (RepL.mono x t)
end
theorem RepL.length : ∀ {vs : List V} {ds : List D}, RepL K mg G vs ds → vs.length = ds.length
  | _, _, .nil => rfl
  | _, _, .cons _ t => by rw [List.length_cons, List.length_cons, RepL.length t]
theorem RepL.get : ∀ {vs : List V} {ds : List D}, RepL K mg G vs ds → ∀ {i : Nat} {d : D}, ds[i]? = some d → ∃ v, vs[i]? = some v ∧ Rep K mg G v d
  | _, _, .nil, _, _, e => by simp at e
  | _, _, .cons r t, 0, _, e => by simp at e; subst e; exact ⟨_, rfl, r⟩
  | _, _, .cons r t, i + 1, _, e => by
    obtain ⟨v, h1, h2⟩ := RepL.get t (i := i) (by simpa using e)
    exact ⟨v, by simpa using h1, h2⟩
theorem RepL.getV : ∀ {vs : List V} {ds : List D}, RepL K mg G vs ds → ∀ {i : Nat} {v : V}, vs[i]? = some v → ∃ d, ds[i]? = some d ∧ Rep K mg G v d
  | _, _, .nil, _, _, e => by simp at e
  | _, _, .cons r t, 0, _, e => by simp at e; subst e; exact ⟨_, rfl, r⟩
  | _, _, .cons r t, i + 1, _, e => by
    obtain ⟨v, h1, h2⟩ := RepL.getV t (i := i) (by simpa using e)
    exact ⟨v, by simpa using h1, h2⟩
theorem RepL.append : ∀ {vs ws : List V} {ds es : List D}, RepL K mg G vs ds → RepL K mg G ws es → RepL K mg G (vs ++ ws) (ds ++ es)
  | _, _, _, _, .nil, s => s
  | _, _, _, _, .cons r t, s => .cons r (RepL.append t s)
theorem RepL.set {v : V} {d : D} (r : Rep K mg G v d) : ∀ {vs : List V} {ds : List D} (i : Nat), RepL K mg G vs ds → RepL K mg G (vs.set i v) (ds.set i d)
  | _, _, _, .nil => .nil
  | _, _, 0, .cons _ t => .cons r t
  | _, _, i + 1, .cons q t => .cons q (RepL.set r i t)
theorem RepL.take : ∀ {vs : List V} {ds : List D} (n : Nat), RepL K mg G vs ds → RepL K mg G (vs.take n) (ds.take n)
  | _, _, 0, _ => .nil
  | _, _, _ + 1, .nil => .nil
  | _, _, n + 1, .cons r t => .cons r (RepL.take n t)
theorem RepL.drop : ∀ {vs : List V} {ds : List D} (n : Nat), RepL K mg G vs ds → RepL K mg G (vs.drop n) (ds.drop n)
  | _, _, 0, r => r
  | _, _, _ + 1, .nil => .nil
  | _, _, n + 1, .cons _ t => RepL.drop n t
theorem RepL.reverse : ∀ {vs : List V} {ds : List D}, RepL K mg G vs ds → RepL K mg G vs.reverse ds.reverse
  | _, _, .nil => .nil
  | _, _, .cons r t => by
    rw [List.reverse_cons, List.reverse_cons]
    exact (RepL.reverse t).append (.cons r .nil)
theorem RepL.ints : ∀ {vs : List V} {ns : List Int}, RepL K mg G vs (ns.map D.int) → vs = ns.map V.int
  | _, [], .nil => rfl
  | _, n :: ns, .cons (.int _) t => by rw [List.map_cons, RepL.ints t]
theorem RepL.ofInts : ∀ (ns : List Int), RepL K mg G (ns.map V.int) (ns.map D.int)
  | [] => .nil
  | n :: ns => .cons (.int n) (RepL.ofInts ns)
theorem RepL.bools : ∀ {vs : List V} {bs : List Bool}, RepL K mg G vs (bs.map D.bl) → vs = bs.map V.bl
  | _, [], .nil => rfl
  | _, n :: ns, .cons (.bl _) t => by rw [List.map_cons, RepL.bools t]
theorem RepL.strs : ∀ {vs : List V} {ss : List Str}, RepL K mg G vs (ss.map D.str) → vs = ss.map V.str
  | _, [], .nil => rfl
  | _, n :: ns, .cons (.str _) t => by rw [List.map_cons, RepL.strs t]
theorem RepL.ofStrs : ∀ (ss : List Str), RepL K mg G (ss.map V.str) (ss.map D.str)
  | [] => .nil
  | n :: ns => .cons (.str n) (RepL.ofStrs ns)
theorem Own.mono (x : Ex G G') {H : Hp} {a : Addr} {d : D} (h : Own K mg G H a d) : Own K mg G' H a d := by
  cases d with
  | lst ds => obtain ⟨vs, e, r, z⟩ := h; exact ⟨vs, e, r.mono x, z⟩
  | dct ks ds =>
    rcases h with ⟨kvs, e, k, r, z⟩ | ⟨kvs, e, k, r, z⟩
    · exact .inl ⟨kvs, e, k, r.mono x, z⟩
    · exact .inr ⟨kvs, e, k, r.mono x, z⟩
  | obj c ns ds => obtain ⟨C, dx, fs, m, e, k, r⟩ := h; exact ⟨C, dx, fs, m, e, k, r.mono x⟩
  | _ => exact h.elim
theorem Own.at {H H' : Hp} {a : Addr} {d : D} (e : H' a = H a) (h : Own K mg G H a d) : Own K mg G H' a d := by
  cases d with
  | lst ds => obtain ⟨vs, e', r, z⟩ := h; exact ⟨vs, e.trans e', r, z⟩
  | dct ks ds =>
    rcases h with ⟨kvs, e', k, r, z⟩ | ⟨kvs, e', k, r, z⟩
    · exact .inl ⟨kvs, e.trans e', k, r, z⟩
    · exact .inr ⟨kvs, e.trans e', k, r, z⟩
  | obj c ns ds => obtain ⟨C, dx, fs, m, e', k, r⟩ := h; exact ⟨C, dx, fs, m, e.trans e', k, r⟩
  | _ => exact h.elim
theorem Own.some {H : Hp} {a : Addr} {d : D} (h : Own K mg G H a d) : ∃ o, H a = .some o := by
  cases d with
  | lst ds => obtain ⟨vs, e', r, z⟩ := h; exact ⟨_, e'⟩
  | dct ks ds =>
    rcases h with ⟨kvs, e', k, r, z⟩ | ⟨kvs, e', k, r, z⟩
    · exact ⟨_, e'⟩
    · exact ⟨_, e'⟩
  | obj c ns ds => obtain ⟨C, dx, fs, m, e', k, r⟩ := h; exact ⟨_, e'⟩
  | _ => exact h.elim
end

/-! ### the state of a def -/
/-- a def's context: the facts of the top, the heap at its entry, what is hidden from it, the address of what it may change for its caller -/
structure C where
  K : PySem.W.Frag
  mg : Str → Option Value
  H0 : Hp
  Oc : List Addr
  J : List Addr
  /-- the law's table of code objects, its lambdas' name -/
  T : List Addr := []
  q : Str := ""

/-- the table at P: the code objects it tells are known -/
def TabG (H G : Hp) (P : Addr) (q : Str) : Prop := ∃ ps : Array Value, H P = some (.tbl ps) ∧ TriplesOk ps.toList ∧ ∀ (pos : Pos) (cv : Value), codeAmong pos ps.toList = some cv → ∃ c, cv = .ref c ∧ G c = some (LamX.CodeO c q)
theorem TabG.of {H H' G G' : Hp} {P : Addr} {q : Str} (h : TabG H G P q) (e : H' P = H P) (x : Ex G G') : TabG H' G' P q := by
  obtain ⟨ps, h1, h2, h3⟩ := h
  refine ⟨ps, e.trans h1, h2, fun pos cv hc => ?_⟩
  obtain ⟨c, e1, e2⟩ := h3 pos cv hc
  exact ⟨c, e1, x _ _ e2⟩
/-- Γ stays true while what is seen stays -/
def Mono (Γ : Hp → Prop) : Prop := ∀ G G', Ex G G' → Γ G → Γ G'

structure SR (c : C) (O : List Addr) (Γ : Hp → Prop) (H : Hp) (σ : L2.St) (ρ : Env) : Prop where
  mo : Mono Γ
  len : ρ.length = σ.length
  keep : ∀ b o, c.H0 b = some o → b ∉ c.J → H b = some o
  sub : ∀ b ∈ c.Oc, b ∈ O
  dom : ∀ b ∈ O, ∃ o, H b = some o
  gh : Γ (hid H O)
  sh : ∀ (i : Nat) d, ρ[i]? = some (.sh d) → ∃ v, σ[i]? = some (some v) ∧ Rep c.K c.mg (hid H O) v d
  ow : ∀ (i : Nat) d, ρ[i]? = some (.ow d) → ∃ a, σ[i]? = some (some (.ref a)) ∧ a ∈ O ∧ (a ∉ c.Oc ∧ c.H0 a = none ∨ a ∈ c.J ∧ i = 0) ∧ Own c.K c.mg (hid H O) H a d
  inj : ∀ (i j : Nat) d e, i ≠ j → ρ[i]? = some (.ow d) → ρ[j]? = some (.ow e) → σ[i]? ≠ σ[j]?
  io : ∀ a ∈ c.J, σ[0]? = some (some (.ref a))
  jo : ∀ a ∈ c.J, a ∈ c.Oc
  tab : ∀ P ∈ c.T, P ∈ c.Oc ∧ P ∉ c.J ∧ c.H0 P = none ∧ TabG H (hid H O) P c.q

section
variable {c : C} {O : List Addr} {Γ : Hp → Prop} {H H' : Hp} {σ : L2.St} {ρ : Env}
theorem SR.fresh (s : SR c O Γ H σ ρ) {p : Addr} (h : H p = none) : p ∉ O := fun z => by
  obtain ⟨o, e⟩ := s.dom p z
  rw [h] at e; cases e
/-- the heap grows -/
theorem SR.ext (s : SR c O Γ H σ ρ) (x : Ex H H') : SR c O Γ H' σ ρ where
  mo := s.mo
  len := s.len
  keep := fun b o h n => x b o (s.keep b o h n)
  sub := s.sub
  dom := fun b hb => let ⟨o, e⟩ := s.dom b hb; ⟨o, x b o e⟩
  gh := s.mo _ _ (x.hid O) s.gh
  sh := fun i d e => let ⟨v, h1, h2⟩ := s.sh i d e; ⟨v, h1, h2.mono (x.hid O)⟩
  ow := fun i d e => by
    obtain ⟨a, h1, h2, h3, h5⟩ := s.ow i d e
    obtain ⟨o, eo⟩ := h5.some
    exact ⟨a, h1, h2, h3, (h5.mono (x.hid O)).at ((x _ _ eo).trans eo.symm)⟩
  inj := s.inj
  io := s.io
  jo := s.jo
  tab := fun P h => let ⟨h1, h2, h3, h4⟩ := s.tab P h; ⟨h1, h2, h3, h4.of (let ⟨_, e, _⟩ := h4; (x _ _ e).trans e.symm) (x.hid O)⟩
/-- the tables behind a step -/
theorem SR.tabOf (s : SR c O Γ H σ ρ) {O' : List Addr} (h1 : ∀ P ∈ c.T, H' P = H P) (x : Ex (hid H O) (hid H' O')) : ∀ P ∈ c.T, P ∈ c.Oc ∧ P ∉ c.J ∧ c.H0 P = none ∧ TabG H' (hid H' O') P c.q :=
  fun P h => let ⟨a1, a2, a3, a4⟩ := s.tab P h; ⟨a1, a2, a3, a4.of (h1 P h) x⟩
/-- no slot owns a table -/
theorem SR.noT (s : SR c O Γ H σ ρ) {i : Nat} {d : D} {a : Addr} (e : ρ[i]? = some (.ow d)) (h : σ[i]? = some (some (.ref a))) : a ∉ c.T := fun z => by
  obtain ⟨b, h1, h2, h3, h4⟩ := s.ow i d e
  rw [h1] at h
  cases h
  obtain ⟨t1, t2, _⟩ := s.tab _ z
  rcases h3 with ⟨n, _⟩ | ⟨n, _⟩
  · exact n t1
  · exact t2 n
end

/-- an exception at hand: class, own dict -/
def XR (K : PySem.W.Frag) (mg : Str → Option Value) (G : Hp) (x : Xn) (cls : Value) (d : Option Addr) : Prop :=
  ∃ C, mg x.c = some (.ref C) ∧ cls = .ref C ∧ ((x.n = [] ∧ x.v = [] ∧ d = none) ∨ ∃ dx fs, d = some dx ∧ G dx = some (.xd fs) ∧ x.n = fs.map (fun p => p.1) ∧ RepL K mg G (fs.map fun p => p.2) x.v)
theorem XR.mono {K : PySem.W.Frag} {mg : Str → Option Value} {G G' : Hp} {x : Xn} {cls : Value} {d : Option Addr} (e : Ex G G') (h : XR K mg G x cls d) : XR K mg G' x cls d := by
  obtain ⟨C, h1, h2, h3⟩ := h
  refine ⟨C, h1, h2, ?_⟩
  rcases h3 with h3 | ⟨dx, fs, h4, h5, h6, h7⟩
  · exact .inl h3
  · exact .inr ⟨dx, fs, h4, e _ _ h5, h6, h7.mono e⟩

/-! ### readings by data -/
/-- a step of an expression: all but what the slots own stays; nothing becomes one's own -/
structure Stp (T : List Addr) (σ : L2.St) (ρ ρ' : Env) (H H' : Hp) : Prop where
  kp : ∀ a o, H a = some o → a ∉ T → (∀ (i : Nat) d, ρ[i]? = some (.ow d) → σ[i]? ≠ some (some (.ref a))) → H' a = some o
  ows : ∀ (i : Nat) d', ρ'[i]? = some (.ow d') → ∃ d, ρ[i]? = some (.ow d)
section
variable {σ : L2.St} {ρ ρ1 ρ2 : Env} {H H1 H2 : Hp} {c : C} {O : List Addr} {Γ : Hp → Prop} {T : List Addr}
theorem Stp.refl : Stp T σ ρ ρ H H := ⟨fun _ _ h _ _ => h, fun _ d h => ⟨d, h⟩⟩
theorem Stp.of (x : Ex H H1) : Stp T σ ρ ρ H H1 := ⟨fun a o h _ _ => x a o h, fun _ d h => ⟨d, h⟩⟩
theorem Stp.trans (x : Stp T σ ρ ρ1 H H1) (y : Stp T σ ρ1 ρ2 H1 H2) : Stp T σ ρ ρ2 H H2 :=
  ⟨fun a o h t n => y.kp a o (x.kp a o h t n) t fun i d e => let ⟨d', e'⟩ := x.ows i d e; n i d' e', fun i d e => let ⟨d', e'⟩ := y.ows i d e; x.ows i d' e'⟩
theorem Stp.ex (x : Stp c.T σ ρ ρ1 H H1) (s : SR c O Γ H σ ρ) : Ex (hid H O) (hid H1 O) := fun a o h => by
  obtain ⟨n, e⟩ := hid_some h
  rw [hid_out n]
  refine x.kp a o e (fun z => n (s.sub a (s.tab a z).1)) fun i d ei q => ?_
  obtain ⟨b, h1, h2, _⟩ := s.ow i d ei
  rw [h1] at q
  cases q
  exact n h2
end
def post (c : C) (W : WX) (O : List Addr) (Γ : Hp → Prop) (σ : L2.St) (H : Hp) (ρ : Env) {α β : Type} (rel : Hp → β → α → Prop) (r : RM α) (Q : β → Hp → Prop) : Prop :=
  match r with
  | .ok a ρ' => ∀ b H', Stp c.T σ ρ ρ' H H' → SR c O Γ H' σ ρ' → rel (hid H' O) b a → Q b H'
  | .er x ρ' => ∀ cls d H', Stp c.T σ ρ ρ' H H' → SR c O Γ H' σ ρ' → XR c.K c.mg (hid H' O) x cls d → W cls d σ H'
  | .no => False
section
variable {c : C} {W : WX} {O : List Addr} {Γ : Hp → Prop} {σ : L2.St} {H H' : Hp} {ρ ρ' : Env} {α β α' β' : Type} {rel : Hp → β → α → Prop} {rel' : Hp → β' → α' → Prop} {r : RM α} {Q Q' : β → Hp → Prop}
theorem post.later (h : post c W O Γ σ H ρ rel r Q) (x : Stp c.T σ ρ ρ' H H') : post c W O Γ σ H' ρ' rel r Q := by
  cases r with
  | ok a ρ1 => exact fun b H1 e s q => h b H1 (x.trans e) s q
  | er y ρ1 => exact fun cls d H1 e s q => h cls d H1 (x.trans e) s q
  | no => exact h
theorem post.imp (h : post c W O Γ σ H ρ rel r Q) (k : ∀ b H', Q b H' → Q' b H') : post c W O Γ σ H ρ rel r Q' := by
  cases r with
  | ok a ρ' => exact fun b H1 e s q => k _ _ (h b H1 e s q)
  | er y ρ' => exact h
  | no => exact h
end

/-- the reading «e gives f» -/
def tX (c : C) (W : WX) {α β : Type} (rel : Hp → β → α → Prop) (f : M α) : L2.St → Hp → (β → Hp → Prop) → Prop :=
  fun σ H Q => ∃ O Γ ρ, SR c O Γ H σ ρ ∧ post c W O Γ σ H ρ rel (f ρ) Q
abbrev tD (c : C) (W : WX) (f : M D) : TE := tX c W (Rep c.K c.mg) f
abbrev tDs (c : C) (W : WX) (f : M (List D)) : TA := tX c W (RepL c.K c.mg) f
abbrev tB (c : C) (W : WX) (f : M Bool) : TT := tX c W (fun _ b a => b = a) f

section
variable {c : C} {W : WX} {O : List Addr} {Γ : Hp → Prop} {σ : L2.St} {H H' : Hp} {α β α' β' : Type} {rel : Hp → β → α → Prop} {rel' : Hp → β' → α' → Prop}
/-- THE STEP: first f, then k -/
theorem bindS {f : M α} {k : α → M α'} {ρ : Env} {Q : β' → Hp → Prop} {R : β → Hp → Prop} (s : SR c O Γ H σ ρ) (h : post c W O Γ σ H ρ rel' (M.bind f k ρ) Q)
    (n : ∀ a ρ1 b H1, f ρ = .ok a ρ1 → Stp c.T σ ρ ρ1 H H1 → SR c O Γ H1 σ ρ1 → rel (hid H1 O) b a → post c W O Γ σ H1 ρ1 rel' (k a ρ1) Q → R b H1) : tX c W rel f σ H R := by
  refine ⟨O, Γ, ρ, s, ?_⟩
  unfold M.bind at h
  cases e : f ρ with
  | ok a ρ1 =>
    rw [e] at h
    exact fun b H1 x s1 q => n a ρ1 b H1 e x s1 q (post.later (show post c W O Γ σ H ρ rel' (k a ρ1) Q from h) x)
  | er y ρ1 =>
    rw [e] at h
    exact h
  | no =>
    rw [e] at h
    exact h
theorem bindX {f : M α} {k : α → M α'} {ρ : Env} {Q : β' → Hp → Prop} {R : β → Hp → Prop} (s : SR c O Γ H σ ρ) (h : post c W O Γ σ H ρ rel' (M.bind f k ρ) Q)
    (n : ∀ a ρ1 b H1, f ρ = .ok a ρ1 → Ex (hid H O) (hid H1 O) → SR c O Γ H1 σ ρ1 → rel (hid H1 O) b a → post c W O Γ σ H1 ρ1 rel' (k a ρ1) Q → R b H1) : tX c W rel f σ H R :=
  bindS s h fun a ρ1 b H1 e x => n a ρ1 b H1 e (x.ex s)
end

/-! ### weaker readings -/
theorem PE.imp {X : Cx} {e : Expr} {t t' : TE} (h : PE X e t) (k : ∀ σ H Q, t' σ H Q → t σ H Q) : PE X e t' := ⟨fun pins s σ H Q I q => h.run pins s σ H Q I (k σ H Q q)⟩
theorem PT.imp {X : Cx} {e : Expr} {t t' : TT} (h : PT X e t) (k : ∀ σ H Q, t' σ H Q → t σ H Q) : PT X e t' := ⟨fun pins s σ H Q I q => h.run pins s σ H Q I (k σ H Q q)⟩
theorem PW.imp {X : Cx} {e : Expr} {t t' : TT} (h : PW X e t) (k : ∀ σ H Q, t' σ H Q → t σ H Q) : PW X e t' := ⟨fun wh pins s σ H Q I q => h.run wh pins s σ H Q I (k σ H Q q)⟩
theorem PA.imp {X : Cx} {e : List Expr} {t t' : TA} (h : PA X e t) (k : ∀ σ H Q, t' σ H Q → t σ H Q) : PA X e t' := ⟨fun pos pins s σ H Q I q => h.run pos pins s σ H Q I (k σ H Q q)⟩
theorem PS.imp {X : Cx} {e : Stmt} {t t' : TS} (h : PS X e t) (k : ∀ D σ H, t' D σ H → t D σ H) : PS X e t' := ⟨fun pins s σ H D I q => h.run pins s σ H D I (k D σ H q)⟩
theorem PSs.imp {X : Cx} {e : List Stmt} {t t' : TS} (h : PSs X e t) (k : ∀ D σ H, t' D σ H → t D σ H) : PSs X e t' := ⟨fun pins s σ H D I q => h.run pins s σ H D I (k D σ H q)⟩
theorem PI.imp {X : Cx} {tg e : Expr} {t t' : TI} (h : PI X tg e t) (k : ∀ σ H R, t' σ H R → t σ H R) : PI X tg e t' := ⟨fun pins s σ H R I q => h.run pins s σ H R I (k σ H R q)⟩
end DL

/-! DL, part 2: expressions. -/
namespace DL
open PySem L2

/-- the def's context and ours agree -/
abbrev Gd (c : C) (X : Cx) : Prop := c.K = X.K ∧ c.mg = X.mg ∧ X.calm = true

section
variable {K : PySem.W.Frag} {mg : Str → Option Value} {H H' : Hp} {O : List Addr}
theorem ok_dom {c : C} {Γ : Hp → Prop} {σ : L2.St} {ρ : Env} (s : SR c O Γ H σ ρ) : ∀ b ∈ O, ∃ o, H b = some o := s.dom
theorem hid_new {p : Addr} {o : HO} (dom : ∀ b ∈ O, ∃ o, H b = some o) (h : H p = none) : hid (upd H p o) O p = some o := by
  rw [hid_out, upd_same]
  intro z
  obtain ⟨u, e⟩ := dom p z
  rw [h] at e; cases e
theorem rep_newT {p : Addr} {vs : List V} {ds : List D} (dom : ∀ b ∈ O, ∃ o, H b = some o) (h : H p = none) (r : RepL K mg (hid H O) vs ds) (z : ds.length ≤ sizeLine) : Rep K mg (hid (upd H p (.tup vs)) O) (.ref p) (.tup ds) :=
  .tup (.inl (.inl (hid_new dom h))) (r.mono ((Ex.upd h).hid O)) z
theorem rep_newL {p : Addr} {vs : List V} {ds : List D} (dom : ∀ b ∈ O, ∃ o, H b = some o) (h : H p = none) (r : RepL K mg (hid H O) vs ds) (z : ds.length ≤ sizeLine) : Rep K mg (hid (upd H p (.lst vs)) O) (.ref p) (.lst ds) :=
  .lst (hid_new dom h) (r.mono ((Ex.upd h).hid O)) z
end

/-! ### names, constants -/
def M.var (i : Nat) : M D := fun ρ => match ρ[i]? with
  | some (.sh d) => .ok d ρ
  | _ => .no
section
variable {c : C} {X : Cx} {W : WX}
theorem de_var (i : Nat) {x : Str} {pos : Pos} (hN : X.N[i]? = some x := by rfl) (hv : Vis X.env.scope x := by first | exact Or.inl rfl | exact Or.inr (Or.inl rfl) | exact Or.inr (Or.inr rfl)) (hd : (x == ("__debug__" : Str)) = false := by decide)
    (hcd : (x == ("__classdict__" : Str)) = false := by decide) : PE X (.Name x pos) (tD c W (M.var i)) := PE.imp (pv i hN hv hd hcd) fun σ H Q ⟨O, Γ, ρ, s, p⟩ => by
  unfold M.var at p
  split at p
  · rename_i d e
    obtain ⟨v, h1, h2⟩ := s.sh i d e
    exact ⟨v, h1, p v H Stp.refl s h2⟩
  · exact p.elim
theorem de_const {e : Expr} {v : V} {d : D} (h : PE X e (tC v)) (r : ∀ G, Rep c.K c.mg G v d) : PE X e (tD c W (M.pure d)) := PE.imp h fun σ H Q ⟨O, Γ, ρ, s, p⟩ => p v H Stp.refl s (r _)
theorem de_int {i j pos} : PE X (.Constant (.int i) j pos) (tD c W (M.pure (.int i))) := de_const pe_int fun _ => .int i
theorem de_bl {b j pos} : PE X (.Constant (.bool b) j pos) (tD c W (M.pure (.bl b))) := de_const pe_bl fun _ => .bl b
theorem de_non {j pos} : PE X (.Constant .none j pos) (tD c W (M.pure .non)) := de_const pe_non fun _ => .non
theorem de_str {x j pos} : PE X (.Constant (.str x) j pos) (tD c W (M.pure (.str x))) := de_const pe_str fun _ => .str x
/-- a constant of the module -/
theorem de_glob {x : Str} {v : V} {d : D} {u : Value} {pos : Pos} (hm : X.mg x = some u) (r : RelV v u) (rd : ∀ G, Rep c.K c.mg G v d) (hg : Gl X x := by rfl) (hd : (x == ("__debug__" : Str)) = false := by decide) :
    PE X (.Name x pos) (tD c W (M.pure d)) := de_const (pe_glob hg hm r hd) rd
end

/-! ### operators by values -/
/-- f on values goes as g on data -/
def OpD (c : C) (X : Cx) (f : Value → Value → Sem Value) (g : D → D → R D) : Prop :=
  ∃ r, OpR X f r ∧ ∀ (O : List Addr) (H : Hp) (x y : V) (dx dy d : D) (Q : VK), (∀ b ∈ O, ∃ o, H b = some o) → Rep c.K c.mg (hid H O) x dx → Rep c.K c.mg (hid H O) y dy → g dx dy = .ok d →
    (∀ v H', Ex H H' → Rep c.K c.mg (hid H' O) v d → Q v H') → r x y H Q
def UnD (c : C) (X : Cx) (f : Value → Sem Value) (g : D → R D) : Prop :=
  ∃ r, UnR X f r ∧ ∀ (O : List Addr) (H : Hp) (x : V) (dx d : D) (Q : VK), (∀ b ∈ O, ∃ o, H b = some o) → Rep c.K c.mg (hid H O) x dx → g dx = .ok d →
    (∀ v H', Ex H H' → Rep c.K c.mg (hid H' O) v d → Q v H') → r x H Q
/-- two in a row -/
def M.two (f g : M D) (k : D → D → R D) : M D := f.bind fun x => g.bind fun y => M.lift (k x y)
def M.one (f : M D) (k : D → R D) : M D := f.bind fun x => M.lift (k x)
/-- only good ends: er of an operation by values is none -/
def R.good {α : Type} (r : R α) : R α := match r with | .er _ => .no | r => r
section
variable {c : C} {X : Cx} {W : WX} {O : List Addr} {Γ : Hp → Prop} {σ : L2.St} {H : Hp}
/-- an operation's end -/
theorem post_lift {r : R D} {ρ : Env} {Q : VK} (s : SR c O Γ H σ ρ) (h : post c W O Γ σ H ρ (Rep c.K c.mg) (M.lift r.good ρ) Q) : ∃ d, r = .ok d ∧ ∀ v H', Ex H H' → Rep c.K c.mg (hid H' O) v d → Q v H' := by
  cases r with
  | ok d => exact ⟨d, rfl, fun v H' x q => h v H' (Stp.of x) (s.ext x) q⟩
  | er x => exact h.elim
  | no => exact h.elim
theorem two_run {f1 f2 : M D} {k : D → D → R D} {r : R2} {Q : VK} (hr : ∀ (O : List Addr) (H : Hp) (x y : V) (dx dy d : D) (Q : VK), (∀ b ∈ O, ∃ o, H b = some o) → Rep c.K c.mg (hid H O) x dx → Rep c.K c.mg (hid H O) y dy → k dx dy = .ok d →
    (∀ v H', Ex H H' → Rep c.K c.mg (hid H' O) v d → Q v H') → r x y H Q) (h : tD c W (M.two f1 f2 fun x y => (k x y).good) σ H Q) : tOp r (tD c W f1) (tD c W f2) σ H Q := by
  obtain ⟨O, Γ, ρ, s, p⟩ := h
  refine bindX s p fun dx ρ1 x H1 _ e1 s1 r1 p1 => ?_
  refine bindX s1 p1 fun dy ρ2 y H2 _ e2 s2 r2 p2 => ?_
  obtain ⟨d, ed, q⟩ := post_lift s2 p2
  exact hr O H2 x y dx dy d Q s2.dom (r1.mono e2) r2 ed q
variable {a b : Expr} {f1 f2 : M D} {pos : Pos}
theorem de_bin {op : Operator} {k : D → D → R D} (ho : OpD c X (binaryOp op) k) (ha : PE X a (tD c W f1)) (hb : PE X b (tD c W f2)) : PE X (.BinOp a op b pos) (tD c W (M.two f1 f2 fun x y => (k x y).good)) := by
  obtain ⟨r, h1, h2⟩ := ho
  exact PE.imp (pe_op h1 ha hb) fun σ H Q h => two_run h2 h
theorem de_un {op : UnaryOp} {k : D → R D} (ho : UnD c X (unaryOp op) k) (ha : PE X a (tD c W f1)) : PE X (.UnaryOp op a pos) (tD c W (M.one f1 fun x => (k x).good)) := by
  obtain ⟨r, h1, h2⟩ := ho
  refine PE.imp (pe_un h1 ha) fun σ H Q ⟨O, Γ, ρ, s, p⟩ => ?_
  refine bindX s p fun dx ρ1 x H1 _ e1 s1 r1 p1 => ?_
  obtain ⟨d, ed, q⟩ := post_lift s1 p1
  exact h2 O H1 x dx d Q s1.dom r1 ed q
theorem de_cmp {op : CmpOp} {k : D → D → R D} (ho : OpD c X (compareOp op) k) (ha : PE X a (tD c W f1)) (hb : PE X b (tD c W f2)) (hm : behindInMarks op b = false := by first | exact nobehind _ (by decide) (by decide) | rfl) :
    PE X (.Compare a [op] [b] pos) (tD c W (M.two f1 f2 fun x y => (k x y).good)) := by
  obtain ⟨r, h1, h2⟩ := ho
  exact PE.imp (pe_cmpR h1 ha hb hm) fun σ H Q h => two_run h2 h
end

/-! ### which operators -/
def D.add : D → D → R D
  | .int i, .int j => .ok (.int (i + j))
  | .str a, .str b => if a.length + b.length ≤ sizeLine then .ok (.str (a ++ b)) else .no
  | .tup a, .tup b => if a.length + b.length ≤ sizeLine then .ok (.tup (a ++ b)) else .no
  | .lst a, .lst b => if a.length + b.length ≤ sizeLine then .ok (.lst (a ++ b)) else .no
  | _, _ => .no
def D.sub : D → D → R D
  | .int i, .int j => .ok (.int (i - j))
  | _, _ => .no
def smallI (i : Int) : Bool := decide (-(2 ^ 64) < i ∧ i < 2 ^ 64)
/-- a bound by bits (wide products) -/
def bitsI (i : Int) : Nat := i.natAbs.log2
def D.mul : D → D → R D
  | .int i, .int j => if smallI i || smallI j then .ok (.int (i * j)) else .no
  | .lst a, .int k => if k < 2 ^ 63 ∧ -(2 ^ 63) ≤ k ∧ a.length * k.toNat ≤ sizeLine then .ok (.lst (List.replicate k.toNat a).flatten) else .no
  | _, _ => .no
def D.mod : D → D → R D
  | .int i, .int j => if 0 < j then .ok (.int (i % j)) else .no
  | _, _ => .no
def D.fdiv : D → D → R D
  | .int i, .int j => if 0 < j ∧ j < 1073741824 then .ok (.int (i / j)) else .no
  | _, _ => .no
def D.pow : D → D → R D
  | .int i, .int j => if 0 ≤ j ∧ j ≤ 1000000 ∧ i.natAbs < 2 ^ 64 then .ok (.int (i ^ j.toNat)) else .no
  | _, _ => .no
def D.neg : D → R D
  | .int i => .ok (.int (-i))
  | _ => .no

section
variable {K : PySem.W.Frag} {mg : Str → Option Value} {G : Hp}
theorem RepL.replicate {vs : List V} {ds : List D} (r : RepL K mg G vs ds) : ∀ n : Nat, RepL K mg G (List.replicate n vs).flatten (List.replicate n ds).flatten
  | 0 => .nil
  | n + 1 => by
    rw [List.replicate_succ, List.replicate_succ, List.flatten_cons, List.flatten_cons]
    exact r.append (RepL.replicate r n)
theorem len_repl {α : Type} (l : List α) : ∀ n : Nat, (List.replicate n l).flatten.length = l.length * n
  | 0 => by simp
  | n + 1 => by rw [List.replicate_succ, List.flatten_cons, List.length_append, len_repl l n, Nat.mul_succ]; omega
end
section
variable {c : C} {X : Cx}
theorem od_add (g : Gd c X) : OpD c X (binaryOp .Add) D.add := by
  refine ⟨_, op_add.or (op_add_str.or (op_catA.or op_cat)), fun O H x y dx dy d Q dom rx ry e q => ?_⟩
  unfold D.add at e
  split at e
  · cases rx; cases ry; cases e
    exact .inl ⟨_, _, rfl, rfl, q _ H (Ex.refl _) (.int _)⟩
  · cases rx; cases ry
    split at e
    · cases e
      exact .inr (.inl ⟨_, _, rfl, rfl, by assumption, q _ H (Ex.refl _) (.str _)⟩)
    · cases e
  · cases rx with
    | tup h1 r1 z1 =>
    cases ry with
    | tup h2 r2 z2 =>
    split at e
    · rename_i hz
      cases e
      refine .inr (.inr (.inl ⟨_, _, _, _, rfl, rfl, (by rw [← g.1]; exact (ex_hid H O).sqt h1), (by rw [← g.1]; exact (ex_hid H O).sqt h2), by rw [r1.length, r2.length]; exact hz, fun e1 => ?_, fun _ e2 => ?_, fun _ _ p hp => ?_⟩))
      · subst e1
        cases r1
        exact q _ H (Ex.refl _) (.tup h2 r2 z2)
      · subst e2
        cases r2
        refine q _ H (Ex.refl _) (.tup h1 (by rw [List.append_nil]; exact r1) (by rw [List.append_nil]; exact z1))
      · exact q _ _ (Ex.upd hp) (rep_newT dom hp (r1.append r2) (by rw [List.length_append]; exact hz))
    · cases e
  · cases rx with
    | lst h1 r1 z1 =>
    cases ry with
    | lst h2 r2 z2 =>
    split at e
    · rename_i hz
      cases e
      refine .inr (.inr (.inr ⟨_, _, _, _, rfl, rfl, (hid_some h1).2, (hid_some h2).2, by rw [r1.length, r2.length]; exact hz, fun p hp => ?_⟩))
      exact q _ _ (Ex.upd hp) (rep_newL dom hp (r1.append r2) (by rw [List.length_append]; exact hz))
    · cases e
  · cases e
theorem od_sub : OpD c X (binaryOp .Sub) D.sub := by
  refine ⟨_, op_sub, fun O H x y dx dy d Q dom rx ry e q => ?_⟩
  unfold D.sub at e
  split at e
  · cases rx; cases ry; cases e
    exact ⟨_, _, rfl, rfl, q _ H (Ex.refl _) (.int _)⟩
  · cases e
theorem od_mul : OpD c X (binaryOp .Mult) D.mul := by
  refine ⟨_, op_mul.or op_rep, fun O H x y dx dy d Q dom rx ry e q => ?_⟩
  unfold D.mul at e
  split at e
  · cases rx; cases ry
    split at e
    · rename_i hz
      cases e
      refine .inl ⟨_, _, rfl, rfl, ?_, q _ H (Ex.refl _) (.int _)⟩
      rcases Bool.or_eq_true_iff.mp hz with h | h
      · exact .inl (of_decide_eq_true h)
      · exact .inr (of_decide_eq_true h)
    · cases e
  · cases ry
    cases rx with
    | lst h1 r1 z1 =>
    split at e
    · rename_i hz
      cases e
      refine .inr ⟨_, _, _, rfl, rfl, (hid_some h1).2, hz.2.1, hz.1, by rw [r1.length]; exact hz.2.2, fun p hp => ?_⟩
      exact q _ _ (Ex.upd hp) (rep_newL dom hp (r1.replicate _) (by rw [len_repl]; exact hz.2.2))
    · cases e
  · cases e
theorem od_mod : OpD c X (binaryOp .Mod) D.mod := by
  refine ⟨_, op_mod, fun O H x y dx dy d Q dom rx ry e q => ?_⟩
  unfold D.mod at e
  split at e
  · cases rx; cases ry
    split at e
    · cases e
      exact ⟨_, _, rfl, rfl, by assumption, q _ H (Ex.refl _) (.int _)⟩
    · cases e
  · cases e
theorem od_fdiv : OpD c X (binaryOp .FloorDiv) D.fdiv := by
  refine ⟨_, op_fdiv, fun O H x y dx dy d Q dom rx ry e q => ?_⟩
  unfold D.fdiv at e
  split at e
  · cases rx; cases ry
    split at e
    · cases e
      exact ⟨_, _, rfl, rfl, by assumption, q _ H (Ex.refl _) (.int _)⟩
    · cases e
  · cases e
theorem od_pow : OpD c X (binaryOp .Pow) D.pow := by
  refine ⟨_, op_pow, fun O H x y dx dy d Q dom rx ry e q => ?_⟩
  unfold D.pow at e
  split at e
  · cases rx; cases ry
    split at e
    · cases e
      exact ⟨_, _, rfl, rfl, by assumption, q _ H (Ex.refl _) (.int _)⟩
    · cases e
  · cases e
theorem ud_neg : UnD c X (unaryOp .USub) D.neg := by
  refine ⟨_, un_neg, fun O H x dx d Q dom rx e q => ?_⟩
  unfold D.neg at e
  split at e
  · cases rx; cases e
    exact ⟨_, rfl, q _ H (Ex.refl _) (.int _)⟩
  · cases e
end

/-! ### comparisons -/
def D.ordI (p : Int → Int → Bool) : D → D → R D
  | .int i, .int j => .ok (.bl (p i j))
  | _, _ => .no
def D.lt : D → D → R D := D.ordI fun i j => decide (i < j)
def D.le : D → D → R D := D.ordI fun i j => decide (i ≤ j)
def D.gt : D → D → R D := D.ordI fun i j => decide (j < i)
def D.ge : D → D → R D := D.ordI fun i j => decide (j ≤ i)
theorem ordI_run {c : C} {X : Cx} {f : Value → Value → Sem Value} {p : Int → Int → Bool} (h : OpR X f (rI0 fun i j => .bl (p i j))) : OpD c X f (D.ordI p) := by
  refine ⟨_, h, fun O H x y dx dy d Q dom rx ry e q => ?_⟩
  unfold D.ordI at e
  split at e
  · cases rx; cases ry; cases e
    exact ⟨_, _, rfl, rfl, q _ H (Ex.refl _) (.bl _)⟩
  · cases e
section
variable {c : C} {X : Cx}
theorem od_lt : OpD c X (compareOp .Lt) D.lt := ordI_run op_lt
theorem od_le : OpD c X (compareOp .LtE) D.le := ordI_run op_le
theorem od_gt : OpD c X (compareOp .Gt) D.gt := ordI_run op_gt
theorem od_ge : OpD c X (compareOp .GtE) D.ge := ordI_run op_ge
end
/-- is None -/
def D.isNon : D → Bool
  | .non => true
  | _ => false
theorem rep_non {K : PySem.W.Frag} {mg : Str → Option Value} {G : Hp} {v : V} {d : D} (r : Rep K mg G v d) : decide (v = .non) = d.isNon := by
  cases r <;> simp [D.isNon]
def D.isOp (neg : Bool) : D → D → R D
  | d, .non => .ok (.bl (if neg then !d.isNon else d.isNon))
  | _, _ => .no
section
variable {c : C} {X : Cx}
theorem od_is : OpD c X (compareOp .Is) (D.isOp false) := by
  refine ⟨_, op_isN, fun O H x y dx dy d Q dom rx ry e q => ?_⟩
  unfold D.isOp at e
  split at e
  · cases ry; cases e
    refine ⟨rfl, q _ H (Ex.refl _) ?_⟩
    rw [rep_non rx]
    exact .bl _
  · cases e
theorem od_isnot : OpD c X (compareOp .IsNot) (D.isOp true) := by
  refine ⟨_, op_notN, fun O H x y dx dy d Q dom rx ry e q => ?_⟩
  unfold D.isOp at e
  split at e
  · cases ry; cases e
    refine ⟨rfl, q _ H (Ex.refl _) ?_⟩
    rw [rep_non rx]
    exact .bl _
  · cases e
end
/-! == over data -/
mutual
def D.py : D → Option PyData
  | .non => some .none
  | .bl b => some (.bool b)
  | .int i => some (.int i)
  | .str s => some (.str s)
  | .tup l => (D.pyL l).map .tuple
  | .lst l => (D.pyL l).map .list
  | .fls l => (D.pyL l).map .list
  | .dct _ _ => none
  | .obj _ _ _ => none
  | .fn _ => none
def D.pyL : List D → Option (List PyData)
  | [] => some []
  | d :: ds => match D.py d, D.pyL ds with
    | some x, some xs => some (x :: xs)
    | _, _ => none
end
mutual
theorem rep_py {K : PySem.W.Frag} {mg : Str → Option Value} {G : Hp} : ∀ {v : V} {d : D} {p : PyData}, Rep K mg G v d → D.py d = some p → Dp K G v p
  | _, _, _, .non, e => by cases e; exact .non
  | _, _, _, .bl b, e => by cases e; exact .bl b
  | _, _, _, .int i, e => by cases e; exact .int i
  | _, _, _, .str s, e => by cases e; exact .str s
  | _, _, _, .tup (ds := ds) h r _, e => by
    unfold D.py at e
    cases q : D.pyL ds with
    | none => rw [q] at e; cases e
    | some l => rw [q] at e; cases e; exact .tup h (repL_py r q)
  | _, _, _, .lst (ds := ds) h r _, e => by
    unfold D.py at e
    cases q : D.pyL ds with
    | none => rw [q] at e; cases e
    | some l => rw [q] at e; cases e; exact .lst (.inl (.inl h)) (repL_py r q)
  | _, _, _, .fls (ds := ds) h r _, e => by
    unfold D.py at e
    cases q : D.pyL ds with
    | none => rw [q] at e; cases e
    | some l => rw [q] at e; cases e; exact .lst h (repL_py r q)
  | _, _, _, .dk _ _ _ _, e => by cases e
  | _, _, _, .dt _ _ _ _, e => by cases e
  | _, _, _, .obj _ _ _ _, e => by cases e
  | _, _, _, .fn _ _, e => by cases e
theorem repL_py {K : PySem.W.Frag} {mg : Str → Option Value} {G : Hp} : ∀ {vs : List V} {ds : List D} {ps : List PyData}, RepL K mg G vs ds → D.pyL ds = some ps → DpAll K G vs ps
  | _, _, _, .nil, e => by cases e; exact .nil
  | _, _, _, .cons (d := d) (ds := ds) r t, e => by
    unfold D.pyL at e
    cases q : D.py d with
    | none => rw [q] at e; cases e
    | some x =>
      cases q2 : D.pyL ds with
      | none => rw [q, q2] at e; cases e
      | some xs => rw [q, q2] at e; cases e; exact .cons (rep_py r q) (repL_py t q2)
end
mutual
theorem Dp.later {K : PySem.W.Frag} {G G' : Hp} (x : Ex G G') : ∀ {v : V} {p : PyData}, Dp K G v p → Dp K G' v p
  | _, _, .non => .non
  | _, _, .bl b => .bl b
  | _, _, .int i => .int i
  | _, _, .str s => .str s
  | _, _, .lst h r => .lst (x.sql h) (DpAll.later x r)
  | _, _, .tup h r => .tup (x.sqt h) (DpAll.later x r)
theorem DpAll.later {K : PySem.W.Frag} {G G' : Hp} (x : Ex G G') : ∀ {vs : List V} {ps : List PyData}, DpAll K G vs ps → DpAll K G' vs ps
  | _, _, .nil => .nil
  | _, _, .cons r t => .cons (Dp.later x r) (DpAll.later x t)
end
/-- == of data: none where the model's rule does not go -/
def D.eqR (neg : Bool) (a b : D) : R D := match D.py a, D.py b with
  | some x, some y => if SeqAt.shaped x && SeqAt.shaped y then .ok (.bl (if neg then !PyData.eqv x y else PyData.eqv x y)) else .no
  | _, _ => .no
theorem eq_run {c : C} {X : Cx} {f : Value → Value → Sem Value} (neg : Bool) (h : OpR X f (fun x y H Q => ∃ d e, Dp X.K H x d ∧ Dp X.K H y e ∧ SeqAt.shaped d = true ∧ SeqAt.shaped e = true ∧ Q (.bl (if neg then !PyData.eqv d e else PyData.eqv d e)) H)) (g : Gd c X) :
    OpD c X f (D.eqR neg) := by
  refine ⟨_, h, fun O H x y dx dy d Q dom rx ry e q => ?_⟩
  unfold D.eqR at e
  split at e
  · rename_i p1 p2 e1 e2
    split at e
    · rename_i hs
      cases e
      obtain ⟨h1, h2⟩ := Bool.and_eq_true_iff.mp hs
      refine ⟨_, _, ?_, ?_, h1, h2, q _ H (Ex.refl _) (.bl _)⟩
      · rw [← g.1]; exact Dp.later (ex_hid H O) (rep_py rx e1)
      · rw [← g.1]; exact Dp.later (ex_hid H O) (rep_py ry e2)
    · cases e
  · cases e
theorem od_eq {c : C} {X : Cx} (g : Gd c X) (hu : X.A.units + 64 < cLine) : OpD c X (compareOp .Eq) (D.eqR false) := eq_run false (op_eqD hu) g
theorem od_ne {c : C} {X : Cx} (g : Gd c X) (hu : X.A.units + 64 < cLine) : OpD c X (compareOp .NotEq) (D.eqR true) := eq_run true (op_neD hu) g
end DL

/-! DL, part 3: tests, and, or, if, chains, argument lists, displays, subscripts, slices, calls of built-ins. -/
namespace DL
open PySem L2

/-! ### truth -/
def D.tru : D → R Bool
  | .non => .ok false
  | .bl b => .ok b
  | .int i => .ok (i != 0)
  | .str s => if s.length ≤ sizeLine then .ok ((s.length : Int) != 0) else .no
  | .tup l => .ok (!l.isEmpty)
  | .lst l => .ok (!l.isEmpty)
  | .fls l => .ok (!l.isEmpty)
  | _ => .no
theorem empty_rep {K : PySem.W.Frag} {mg : Str → Option Value} {G : Hp} {vs : List V} {ds : List D} (r : RepL K mg G vs ds) : (!ds.isEmpty) = !vs.isEmpty := by
  cases r <;> rfl
theorem tru_rep {K : PySem.W.Frag} {mg : Str → Option Value} {H : Hp} {O : List Addr} {v : V} {d : D} {k : Bool} (r : Rep K mg (hid H O) v d) (e : d.tru = .ok k) : TruV K v H k := by
  cases r with
  | non => cases e; rfl
  | bl b => cases e; rfl
  | int i => cases e; rfl
  | str s =>
    simp only [D.tru] at e
    split at e
    · cases e; exact ⟨by assumption, rfl⟩
    · cases e
  | tup h r z => cases e; exact .inr (.inl ⟨_, (ex_hid H O).sqt h, empty_rep r⟩)
  | lst h r z => cases e; exact .inl ⟨_, .inl (.inl (hid_some h).2), empty_rep r⟩
  | fls h r z => cases e; exact .inl ⟨_, (ex_hid H O).sql h, empty_rep r⟩
  | dk _ _ _ _ => cases e
  | dt _ _ _ _ => cases e
  | obj _ _ _ _ => cases e
  | fn _ _ => cases e
def M.tru (f : M D) : M Bool := f.bind fun d => M.lift (d.tru).good
def M.andB (f g : M Bool) : M Bool := f.bind fun b => if b then g else M.pure false
def M.orB (f g : M Bool) : M Bool := f.bind fun b => if b then M.pure true else g
def M.notB (f : M Bool) : M Bool := f.bind fun b => M.pure (!b)
def M.ite {α : Type} (t : M Bool) (f g : M α) : M α := t.bind fun b => if b then f else g
def M.andV (f g : M D) : M D := f.bind fun d => (M.lift (d.tru).good).bind fun k => if k then g else M.pure d
def M.orV (f g : M D) : M D := f.bind fun d => (M.lift (d.tru).good).bind fun k => if k then M.pure d else g
def M.notV (f : M D) : M D := f.bind fun d => (M.lift (d.tru).good).bind fun k => M.pure (.bl (!k))
section
variable {c : C} {X : Cx} {W : WX} {O : List Addr} {Γ : Hp → Prop} {σ : L2.St} {H : Hp} {a b e : Expr} {f1 f2 f3 : M D} {t1 t2 : M Bool} {rest : List Expr} {pos : Pos}
/-- a good value goes on -/
theorem lift_run {α β : Type} {rel : Hp → β → α → Prop} {γ : Type} {r : R γ} {k : γ → M α} {ρ : Env} {Q : β → Hp → Prop} (h : post c W O Γ σ H ρ rel ((M.lift r.good).bind k ρ) Q) : ∃ z, r = .ok z ∧ post c W O Γ σ H ρ rel (k z ρ) Q := by
  cases r with
  | ok z => exact ⟨z, rfl, h⟩
  | er x => exact h.elim
  | no => exact h.elim
theorem pure_run {α β : Type} {rel : Hp → β → α → Prop} {z : α} {ρ : Env} {Q : β → Hp → Prop} {b : β} (s : SR c O Γ H σ ρ) (h : post c W O Γ σ H ρ rel (M.pure z ρ) Q) (r : rel (hid H O) b z) : Q b H := h b H Stp.refl s r
theorem dt_val (g : Gd c X) (he : PE X e (tD c W f1)) (hp : ∀ whole, isTrue e X.env whole = (do let v ← whole; standAt e.pos; holding [v] (truthy v)) := by intro _; rfl) : PT X e (tB c W (M.tru f1)) := by
  refine PT.imp (pt_truth he hp) fun σ H Q ⟨O, Γ, ρ, s, p⟩ => ?_
  refine bindX s p fun d ρ1 v H1 _ e1 s1 r1 p1 => ?_
  obtain ⟨k, ek, p2⟩ := lift_run (k := fun k => M.pure k) (show post c W O Γ σ H1 ρ1 _ ((M.lift d.tru.good).bind (fun k => M.pure k) ρ1) Q from by
    unfold M.bind
    cases q : d.tru.good with
    | ok z => unfold M.lift at p1 ⊢; rw [q] at p1; exact p1
    | er x => unfold M.lift at p1 ⊢; rw [q] at p1; exact p1
    | no => unfold M.lift at p1 ⊢; rw [q] at p1; exact p1)
  exact ⟨k, by rw [← g.1]; exact tru_rep r1 ek, pure_run s1 p2 rfl⟩
theorem dw_and1 (ha : PT X a (tB c W t1)) : PW X (.BoolOp .And [a] pos) (tB c W t1) := pw_and1 ha
theorem dw_or1 (ha : PT X a (tB c W t1)) : PW X (.BoolOp .Or [a] pos) (tB c W t1) := pw_or1 ha
theorem dw_and (ha : PT X a (tB c W t1)) (hb : PW X (.BoolOp .And (b :: rest) pos) (tB c W t2)) : PW X (.BoolOp .And (a :: b :: rest) pos) (tB c W (M.andB t1 t2)) := by
  refine PW.imp (pw_and ha hb) fun σ H Q ⟨O, Γ, ρ, s, p⟩ => ?_
  refine bindX s p fun d ρ1 v H1 _ e1 s1 r1 p1 => ?_
  subst r1
  cases v with
  | true => exact ⟨O, Γ, ρ1, s1, p1⟩
  | false => exact pure_run s1 p1 rfl
theorem dw_or (ha : PT X a (tB c W t1)) (hb : PW X (.BoolOp .Or (b :: rest) pos) (tB c W t2)) : PW X (.BoolOp .Or (a :: b :: rest) pos) (tB c W (M.orB t1 t2)) := by
  refine PW.imp (pw_or ha hb) fun σ H Q ⟨O, Γ, ρ, s, p⟩ => ?_
  refine bindX s p fun d ρ1 v H1 _ e1 s1 r1 p1 => ?_
  subst r1
  cases v with
  | true => exact pure_run s1 p1 rfl
  | false => exact ⟨O, Γ, ρ1, s1, p1⟩
theorem dt_bool (h : PW X e (tB c W t1)) : PT X e (tB c W t1) := h.pt
theorem dt_not (ha : PT X a (tB c W t1)) : PT X (.UnaryOp .Not a pos) (tB c W (M.notB t1)) := by
  refine PT.imp (pt_not ha) fun σ H Q ⟨O, Γ, ρ, s, p⟩ => ?_
  refine bindX s p fun d ρ1 v H1 _ e1 s1 r1 p1 => ?_
  subst r1
  exact pure_run s1 p1 rfl
/-- a comparison as a test -/
theorem dt_cmp {op : CmpOp} {k : D → D → R D} (g : Gd c X) (ho : OpD c X (compareOp op) k) (hk : ∀ x y d, k x y = .ok d → ∃ b, d = .bl b) (ha : PE X a (tD c W f1)) (hb : PE X b (tD c W f2))
    (hm : behindInMarks op b = false := by first | exact nobehind _ (by decide) (by decide) | rfl) : PT X (.Compare a [op] [b] pos) (tB c W (M.tru (M.two f1 f2 fun x y => (k x y).good))) := by
  obtain ⟨r, h1, h2⟩ := ho
  refine PT.imp (pt_cmpR h1 ha hb hm) fun σ H Q ⟨O, Γ, ρ, s, p⟩ => ?_
  refine two_run h2 ⟨O, Γ, ρ, s, ?_⟩
  unfold M.tru M.bind at p
  cases q : M.two f1 f2 (fun x y => (k x y).good) ρ with
  | ok d ρ1 =>
    rw [q] at p
    have hd : ∃ b, d = .bl b := by
      unfold M.two M.bind at q
      cases q1 : f1 ρ with
      | ok x ρ2 =>
        rw [q1] at q
        simp only [RM.bind] at q
        cases q2 : f2 ρ2 with
        | ok y ρ3 =>
          rw [q2] at q
          simp only [RM.bind, M.lift] at q
          cases q3 : k x y with
          | ok z => rw [q3] at q; cases q; exact hk x y d q3
          | er _ => rw [q3] at q; cases q
          | no => rw [q3] at q; cases q
        | er _ _ => rw [q2] at q; cases q
        | no => rw [q2] at q; cases q
      | er _ _ => rw [q1] at q; cases q
      | no => rw [q1] at q; cases q
    obtain ⟨b, rfl⟩ := hd
    exact fun v H1 e1 s1 r1 => by
      cases r1
      exact ⟨b, rfl, p b H1 e1 s1 rfl⟩
  | er x ρ1 => rw [q] at p; exact p
  | no => rw [q] at p; exact p
/-- a if t else b -/
theorem de_if {t : Expr} (ht : PT X t (tB c W t1)) (ha : PE X a (tD c W f1)) (hb : PE X b (tD c W f2)) : PE X (.IfExp t a b pos) (tD c W (M.ite t1 f1 f2)) := by
  refine PE.imp (pe_ifExp ht ha hb) fun σ H Q ⟨O, Γ, ρ, s, p⟩ => ?_
  refine bindX s p fun d ρ1 v H1 _ e1 s1 r1 p1 => ?_
  subst r1
  cases v with
  | true => exact ⟨O, Γ, ρ1, s1, p1⟩
  | false => exact ⟨O, Γ, ρ1, s1, p1⟩
theorem de_one {op} (h : PE X a (tD c W f1)) : PE X (.BoolOp op [a] pos) (tD c W f1) := pe_one h
theorem de_and (g : Gd c X) (ha : PE X a (tD c W f1)) (hb : PE X (.BoolOp .And (b :: rest) pos) (tD c W f2)) : PE X (.BoolOp .And (a :: b :: rest) pos) (tD c W (M.andV f1 f2)) := by
  refine PE.imp (pe_andT ha hb) fun σ H Q ⟨O, Γ, ρ, s, p⟩ => ?_
  refine bindX s p fun d ρ1 v H1 _ e1 s1 r1 p1 => ?_
  obtain ⟨k, ek, p2⟩ := lift_run p1
  refine ⟨k, by rw [← g.1]; exact tru_rep r1 ek, ?_⟩
  cases k with
  | true => exact ⟨O, Γ, ρ1, s1, p2⟩
  | false => exact pure_run s1 p2 r1
theorem de_or (g : Gd c X) (ha : PE X a (tD c W f1)) (hb : PE X (.BoolOp .Or (b :: rest) pos) (tD c W f2)) : PE X (.BoolOp .Or (a :: b :: rest) pos) (tD c W (M.orV f1 f2)) := by
  refine PE.imp (pe_orT ha hb) fun σ H Q ⟨O, Γ, ρ, s, p⟩ => ?_
  refine bindX s p fun d ρ1 v H1 _ e1 s1 r1 p1 => ?_
  obtain ⟨k, ek, p2⟩ := lift_run p1
  refine ⟨k, by rw [← g.1]; exact tru_rep r1 ek, ?_⟩
  cases k with
  | true => exact pure_run s1 p2 r1
  | false => exact ⟨O, Γ, ρ1, s1, p2⟩
theorem de_not (g : Gd c X) (ha : PE X a (tD c W f1)) : PE X (.UnaryOp .Not a pos) (tD c W (M.notV f1)) := by
  refine PE.imp (pe_notT ha) fun σ H Q ⟨O, Γ, ρ, s, p⟩ => ?_
  refine bindX s p fun d ρ1 v H1 _ e1 s1 r1 p1 => ?_
  obtain ⟨k, ek, p2⟩ := lift_run p1
  exact ⟨k, by rw [← g.1]; exact tru_rep r1 ek, pure_run s1 p2 (.bl _)⟩
/-- a < b < c -/
def M.chain (f1 f2 f3 : M D) (k k' : D → D → R D) : M D := f1.bind fun x => f2.bind fun y => (M.lift (k x y).good).bind fun z => match z with
  | .bl true => f3.bind fun w => M.lift (k' y w).good
  | .bl false => M.pure (.bl false)
  | _ => fun _ => .no
theorem chain_run {k k' : D → D → R D} {r r' : R2} {Q : VK} (h1 : ∀ (O : List Addr) (H : Hp) (x y : V) (dx dy d : D) (Q : VK), (∀ b ∈ O, ∃ o, H b = some o) → Rep c.K c.mg (hid H O) x dx → Rep c.K c.mg (hid H O) y dy → k dx dy = .ok d →
    (∀ v H', Ex H H' → Rep c.K c.mg (hid H' O) v d → Q v H') → r x y H Q) (h2 : ∀ (O : List Addr) (H : Hp) (x y : V) (dx dy d : D) (Q : VK), (∀ b ∈ O, ∃ o, H b = some o) → Rep c.K c.mg (hid H O) x dx → Rep c.K c.mg (hid H O) y dy → k' dx dy = .ok d →
    (∀ v H', Ex H H' → Rep c.K c.mg (hid H' O) v d → Q v H') → r' x y H Q) (h : tD c W (M.chain f1 f2 f3 k k') σ H Q) : tChain r r' (tD c W f1) (tD c W f2) (tD c W f3) σ H Q := by
  obtain ⟨O, Γ, ρ, s, p⟩ := h
  refine bindX s p fun dx ρ1 x H1 _ e1 s1 r1 p1 => ?_
  refine bindX s1 p1 fun dy ρ2 y H2 _ e2 s2 r2 p2 => ?_
  obtain ⟨z, ez, p3⟩ := lift_run p2
  refine h1 O H2 x y dx dy z _ s2.dom (r1.mono e2) r2 ez fun v H3 x3 r3 => ?_
  have s3 := s2.ext x3
  have p4 := post.later p3 (Stp.of x3)
  cases r3 with
  | bl b =>
    refine ⟨b, rfl, ?_⟩
    cases b with
    | false => exact pure_run s3 p4 (.bl false)
    | true =>
      refine bindX s3 p4 fun dw ρ3 w' H4 _ e4 s4 r4 p5 => ?_
      obtain ⟨d, ed, q⟩ := post_lift s4 p5
      exact h2 O H4 y w' dy dw d Q s4.dom ((r2.mono (x3.hid O)).mono e4) r4 ed q
  | _ => exact p4.elim
theorem de_chain {c0 : Expr} {op op' : CmpOp} {k k' : D → D → R D} (ho : OpD c X (compareOp op) k) (ho' : OpD c X (compareOp op') k') (ha : PE X a (tD c W f1)) (hb : PE X b (tD c W f2)) (hc : PE X c0 (tD c W f3))
    (hm : lastMarks [op, op'] [b, c0] = false := by with_unfolding_all rfl) : PE X (.Compare a [op, op'] [b, c0] pos) (tD c W (M.chain f1 f2 f3 k k')) := by
  obtain ⟨r, h1, h2⟩ := ho
  obtain ⟨r', h1', h2'⟩ := ho'
  exact PE.imp (pe_chain h1 h1' ha hb hc hm) fun σ H Q h => chain_run h2 h2' h
theorem dt_chain {c0 : Expr} {op op' : CmpOp} {k k' : D → D → R D} (ho : OpD c X (compareOp op) k) (ho' : OpD c X (compareOp op') k') (hk : ∀ x y d, k' x y = .ok d → ∃ b, d = .bl b) (ha : PE X a (tD c W f1)) (hb : PE X b (tD c W f2)) (hc : PE X c0 (tD c W f3))
    (hm : lastMarks [op, op'] [b, c0] = false := by with_unfolding_all rfl) : PT X (.Compare a [op, op'] [b, c0] pos) (tB c W (M.tru (M.chain f1 f2 f3 k k'))) := by
  obtain ⟨r, h1, h2⟩ := ho
  obtain ⟨r', h1', h2'⟩ := ho'
  refine PT.imp (pt_chain h1 h1' ha hb hc hm) fun σ H Q ⟨O, Γ, ρ, s, p⟩ => ?_
  refine chain_run h2 h2' ⟨O, Γ, ρ, s, ?_⟩
  unfold M.tru M.bind at p
  cases q : M.chain f1 f2 f3 k k' ρ with
  | ok d ρ1 =>
    rw [q] at p
    have hd : ∃ b, d = .bl b := by
      unfold M.chain M.bind at q
      cases q1 : f1 ρ with
      | ok x ρ2 =>
        rw [q1] at q
        simp only [RM.bind] at q
        cases q2 : f2 ρ2 with
        | ok y ρ3 =>
          rw [q2] at q
          simp only [RM.bind, M.lift] at q
          cases q3 : k x y with
          | ok z =>
            rw [q3] at q
            simp only [R.good, R.at, RM.bind] at q
            cases z with
            | bl b =>
              cases b with
              | false => cases q; exact ⟨_, rfl⟩
              | true =>
                simp only [RM.bind] at q
                cases q4 : f3 ρ3 with
                | ok w ρ4 =>
                  rw [q4] at q
                  simp only [M.lift] at q
                  cases q5 : k' y w with
                  | ok z => rw [q5] at q; cases q; exact hk y w d q5
                  | er _ => rw [q5] at q; cases q
                  | no => rw [q5] at q; cases q
                | er _ _ => rw [q4] at q; cases q
                | no => rw [q4] at q; cases q
            | _ => cases q
          | er _ => rw [q3] at q; cases q
          | no => rw [q3] at q; cases q
        | er _ _ => rw [q2] at q; cases q
        | no => rw [q2] at q; cases q
      | er _ _ => rw [q1] at q; cases q
      | no => rw [q1] at q; cases q
    obtain ⟨b, rfl⟩ := hd
    exact fun v H1 e1 s1 r1 => by
      cases r1
      exact ⟨b, rfl, p b H1 e1 s1 rfl⟩
  | er x ρ1 => rw [q] at p; exact p
  | no => rw [q] at p; exact p
end
theorem ordI_bl {p : Int → Int → Bool} : ∀ x y d, D.ordI p x y = .ok d → ∃ b, d = .bl b := fun x y d e => by
  unfold D.ordI at e
  split at e
  · cases e; exact ⟨_, rfl⟩
  · cases e
theorem isOp_bl {n : Bool} : ∀ x y d, D.isOp n x y = .ok d → ∃ b, d = .bl b := fun x y d e => by
  unfold D.isOp at e
  split at e
  · cases e; exact ⟨_, rfl⟩
  · cases e
theorem eqR_bl {n : Bool} : ∀ x y d, D.eqR n x y = .ok d → ∃ b, d = .bl b := fun x y d e => by
  unfold D.eqR at e
  split at e
  · split at e
    · cases e; exact ⟨_, rfl⟩
    · cases e
  · cases e

/-! ### argument lists, displays -/
def M.nil : M (List D) := M.pure []
def M.cons (f : M D) (g : M (List D)) : M (List D) := f.bind fun d => g.bind fun ds => M.pure (d :: ds)
def D.items : D → R (List D)
  | .tup l => .ok l
  | .lst l => .ok l
  | .fls l => .ok l
  | _ => .no
def M.star (f : M D) (g : M (List D)) : M (List D) := f.bind fun d => (M.lift (d.items).good).bind fun xs => g.bind fun ds => M.pure (xs ++ ds)
def D.mkTup (ds : List D) : R D := if ds.length ≤ sizeLine then .ok (.tup ds) else .no
def D.mkLst (ds : List D) : R D := if ds.length ≤ sizeLine then .ok (.lst ds) else .no
def M.app (f : M (List D)) (k : List D → R D) : M D := f.bind fun ds => M.lift (k ds).good
section
variable {c : C} {X : Cx} {W : WX} {O : List Addr} {Γ : Hp → Prop} {σ : L2.St} {H : Hp} {e : Expr} {es : List Expr} {f1 : M D} {f2 : M (List D)} {pos : Pos}
theorem da_nil : PA X [] (tDs c W M.nil) := PA.imp pa_nil fun σ H Q ⟨O, Γ, ρ, s, p⟩ => pure_run s p .nil
theorem da_cons (ha : PE X e (tD c W f1)) (hr : PA X es (tDs c W f2)) (hs : starEach (e :: es) X.env = (false, eval e X.env) :: starEach es X.env := by rfl) : PA X (e :: es) (tDs c W (M.cons f1 f2)) := by
  refine PA.imp (pa_cons ha hr hs) fun σ H Q ⟨O, Γ, ρ, s, p⟩ => ?_
  refine bindX s p fun d ρ1 v H1 _ e1 s1 r1 p1 => ?_
  refine bindX s1 p1 fun ds ρ2 vs H2 _ e2 s2 r2 p2 => ?_
  exact pure_run s2 p2 (.cons (r1.mono e2) r2)
theorem items_rep {K : PySem.W.Frag} {mg : Str → Option Value} {H : Hp} {O : List Addr} {v : V} {d : D} {l : List D} (r : Rep K mg (hid H O) v d) (e : d.items = .ok l) : ∃ a vs, v = .ref a ∧ (SqT K H a vs ∨ SqL K H a vs) ∧ RepL K mg (hid H O) vs l ∧ l.length ≤ sizeLine := by
  cases r with
  | tup h r z => cases e; exact ⟨_, _, rfl, .inl ((ex_hid H O).sqt h), r, z⟩
  | lst h r z => cases e; exact ⟨_, _, rfl, .inr (.inl (.inl (hid_some h).2)), r, z⟩
  | fls h r z => cases e; exact ⟨_, _, rfl, .inr ((ex_hid H O).sql h), r, z⟩
  | _ => cases e
theorem da_star {p : Pos} (g : Gd c X) (he : PE X e (tD c W f1)) (hr : PA X es (tDs c W f2)) (hs : starEach (.Starred e p :: es) X.env = (true, eval e X.env) :: starEach es X.env := by rfl) : PA X (.Starred e p :: es) (tDs c W (M.star f1 f2)) := by
  refine PA.imp (StX.pa_star he hr hs) fun σ H Q ⟨O, Γ, ρ, s, p⟩ => ?_
  refine bindX s p fun d ρ1 v H1 _ e1 s1 r1 p1 => ?_
  obtain ⟨l, el, p2⟩ := lift_run p1
  obtain ⟨a, vs, hv, hq, hr', _⟩ := items_rep r1 el
  refine ⟨a, vs, hv, by rw [← g.1]; exact hq, ?_⟩
  refine bindX s1 p2 fun ds ρ2 ws H2 _ e2 s2 r2 p3 => ?_
  exact pure_run s2 p3 ((hr'.mono e2).append r2)
theorem de_tup {x1} (h : PA X es (tDs c W f2)) : PE X (.Tuple es x1 pos) (tD c W (M.app f2 D.mkTup)) := by
  refine PE.imp (pe_tup h) fun σ H Q ⟨O, Γ, ρ, s, p⟩ => ?_
  refine bindX s p fun ds ρ1 vs H1 _ e1 s1 r1 p1 => ?_
  obtain ⟨d, ed, q⟩ := post_lift s1 p1
  unfold D.mkTup at ed
  split at ed
  · rename_i z
    cases ed
    exact ⟨by rw [r1.length]; exact z, fun p hp => q _ _ (Ex.upd hp) (rep_newT s1.dom hp r1 z)⟩
  · cases ed
theorem de_lst (h : PA X es (tDs c W f2)) : PE X (.List es pos) (tD c W (M.app f2 D.mkLst)) := by
  refine PE.imp (pe_lst h) fun σ H Q ⟨O, Γ, ρ, s, p⟩ => ?_
  refine bindX s p fun ds ρ1 vs H1 _ e1 s1 r1 p1 => ?_
  obtain ⟨d, ed, q⟩ := post_lift s1 p1
  unfold D.mkLst at ed
  split at ed
  · rename_i z
    cases ed
    exact ⟨by rw [r1.length]; exact z, fun p hp => q _ _ (Ex.upd hp) (rep_newL s1.dom hp r1 z)⟩
  · cases ed
end

/-! ### subscripts, slices -/
def D.ix : D → D → R D
  | .tup l, .int i => match atI l i with | some d => .ok d | none => .no
  | .lst l, .int i => match atI l i with | some d => .ok d | none => .no
  | .fls l, .int i => match atI l i with | some d => .ok d | none => .no
  | .str z, .int i => if z.length ≤ sizeLine then (match atI z.cps.toList i with | some c => .ok (.str ⟨#[c]⟩) | none => .no) else .no
  | _, _ => .no
theorem atI_rep {K : PySem.W.Frag} {mg : Str → Option Value} {G : Hp} {vs : List V} {ds : List D} {i : Int} {d : D} (r : RepL K mg G vs ds) (e : atI ds i = some d) : ∃ v, atI vs i = some v ∧ Rep K mg G v d := by
  unfold atI at e ⊢
  rw [r.length]
  cases q : ixN ds.length i with
  | none => rw [q] at e; cases e
  | some j =>
    rw [q] at e
    exact r.get (i := j) e
def cutD (l : List D) (lo hi : Option Int) : List D := (l.drop (HT.sIx l.length 0 lo)).take (HT.sIx l.length l.length hi - HT.sIx l.length 0 lo)
theorem cutD_len (l : List D) (lo hi : Option Int) : (cutD l lo hi).length ≤ l.length := by
  unfold cutD
  rw [List.length_take, List.length_drop]
  omega
theorem cut_rep {K : PySem.W.Frag} {mg : Str → Option Value} {G : Hp} {vs : List V} {ds : List D} (r : RepL K mg G vs ds) (lo hi : Option Int) : RepL K mg G (cutV vs lo hi) (cutD ds lo hi) := by
  unfold cutV cutD
  rw [r.length]
  exact (r.drop _).take _
def D.slice (lo hi : Option Int) : D → R D
  | .lst l => .ok (.lst (cutD l lo hi))
  | .fls l => .ok (.lst (cutD l lo hi))
  | .tup l => .ok (.tup (cutD l lo hi))
  | _ => .no
def M.part (f : M D) : M (Option Int) := f.bind fun d => match d with
  | .int i => M.pure (some i)
  | _ => fun _ => .no
def M.noPart : M (Option Int) := M.pure none
def M.slice (f : M D) (lo hi : M (Option Int)) : M D := f.bind fun d => lo.bind fun l => hi.bind fun h => M.lift (D.slice l h d).good
abbrev tO (c : C) (W : WX) (f : M (Option Int)) : TO := tX c W (fun _ b a => b = a) f
section
variable {c : C} {X : Cx} {W : WX} {O : List Addr} {Γ : Hp → Prop} {σ : L2.St} {H : Hp} {a b e : Expr} {f1 f2 : M D} {pos : Pos} {lo hi : Option Expr} {l1 l2 : M (Option Int)}
theorem de_ix (g : Gd c X) (ha : PE X a (tD c W f1)) (hb : PE X b (tD c W f2)) (hs : PlainIx b := by intro _ _; rfl) : PE X (.Subscript a b pos) (tD c W (M.two f1 f2 fun x y => (D.ix x y).good)) := by
  refine PE.imp (pe_ix ix_seq ha hb hs) fun σ H Q h => two_run (fun O H x y dx dy d Q dom rx ry e q => ?_) h
  unfold D.ix at e
  split at e
  · cases ry
    cases rx with
    | tup h r z =>
    split at e
    · cases e
      obtain ⟨v, h1, h2⟩ := atI_rep r (by assumption)
      exact .inr (.inl ⟨_, _, _, v, rfl, rfl, by rw [← g.1]; exact (ex_hid H O).sqt h, h1, q v H (Ex.refl _) h2⟩)
    · cases e
  · cases ry
    cases rx with
    | lst h r z =>
    split at e
    · cases e
      obtain ⟨v, h1, h2⟩ := atI_rep r (by assumption)
      exact .inl ⟨_, _, _, v, rfl, rfl, .inl (.inl (hid_some h).2), h1, q v H (Ex.refl _) h2⟩
    · cases e
  · cases ry
    cases rx with
    | fls h r z =>
    split at e
    · cases e
      obtain ⟨v, h1, h2⟩ := atI_rep r (by assumption)
      exact .inl ⟨_, _, _, v, rfl, rfl, by rw [← g.1]; exact (ex_hid H O).sql h, h1, q v H (Ex.refl _) h2⟩
    · cases e
  · cases ry
    cases rx
    split at e
    · rename_i hz
      split at e
      · cases e
        exact .inr (.inr ⟨_, _, _, rfl, rfl, hz, by assumption, q _ H (Ex.refl _) (.str _)⟩)
      · cases e
    · cases e
  · cases e
theorem do_none : PO X none (tO c W M.noPart) := ⟨fun pins s σ H Q I ⟨O, Γ, ρ, sr, p⟩ => po_none.run pins s σ H Q I (pure_run sr p rfl)⟩
theorem do_some (he : PE X e (tD c W f1)) : PO X (some e) (tO c W (M.part f1)) := ⟨fun pins s σ H Q I ⟨O, Γ, ρ, sr, p⟩ => (po_some he).run pins s σ H Q I (by
  refine bindX sr p fun d ρ1 v H1 _ e1 s1 r1 p1 => ?_
  cases r1 with
  | int i => exact ⟨i, rfl, pure_run s1 p1 rfl⟩
  | _ => exact p1.elim)⟩
theorem de_slice {p2 : Pos} (g : Gd c X) (he : PE X e (tD c W f1)) (hl : PO X lo (tO c W l1)) (hu : PO X hi (tO c W l2)) : PE X (.Subscript e (.Slice lo hi none p2) pos) (tD c W (M.slice f1 l1 l2)) := by
  refine PE.imp (pe_slice (sl_list.or sl_tupA) he hl hu) fun σ H Q ⟨O, Γ, ρ, s, p⟩ => ?_
  refine bindX s p fun d ρ1 v H1 _ e1 s1 r1 p1 => ?_
  refine bindX s1 p1 fun l ρ2 l' H2 _ e2 s2 r2 p2 => ?_
  refine bindX s2 p2 fun h ρ3 h' H3 _ e3 s3 r3 p3 => ?_
  subst r2 r3
  obtain ⟨z, ez, q⟩ := post_lift s3 p3
  have r := (r1.mono e2).mono e3
  unfold D.slice at ez
  split at ez
  · cases ez
    cases r with
    | lst h r z => exact .inl ⟨_, _, rfl, .inl (.inl (hid_some h).2), fun p hp => q _ _ (Ex.upd hp) (rep_newL s3.dom hp (cut_rep r _ _) (Nat.le_trans (cutD_len _ _ _) z))⟩
  · cases ez
    cases r with
    | fls h r z => exact .inl ⟨_, _, rfl, by rw [← g.1]; exact (ex_hid H3 O).sql h, fun p hp => q _ _ (Ex.upd hp) (rep_newL s3.dom hp (cut_rep r _ _) (Nat.le_trans (cutD_len _ _ _) z))⟩
  · cases ez
    cases r with
    | tup h r z =>
      refine .inr ⟨_, _, rfl, by rw [← g.1]; exact (ex_hid H3 O).sqt h, fun hw => ?_, fun hw p hp => q _ _ (Ex.upd hp) (rep_newT s3.dom hp (cut_rep r _ _) (Nat.le_trans (cutD_len _ _ _) z))⟩
      refine q _ _ (Ex.refl _) ?_
      have e0 : ∀ {vs : List V} {l : List D}, RepL c.K c.mg (hid H3 O) vs l → HT.sIx vs.length 0 l' = 0 ∧ HT.sIx vs.length vs.length h' = vs.length → cutD l l' h' = l := fun r hw => by
        unfold cutD
        rw [← r.length, hw.1, hw.2]
        simp only [List.drop_zero, Nat.sub_zero]
        rw [r.length, List.take_length]
      rw [e0 r hw]
      exact .tup h r z
  · cases ez
end

/-! ### built-ins by values -/
def CallD (c : C) (X : Cx) (f : Value) (g : List D → R D) : Prop :=
  ∃ r, CallR X f r ∧ ∀ (O : List Addr) (H : Hp) (xs : List V) (ds : List D) (d : D) (Q : VK), (∀ b ∈ O, ∃ o, H b = some o) → RepL c.K c.mg (hid H O) xs ds → g ds = .ok d → (∀ v H', Ex H H' → Rep c.K c.mg (hid H' O) v d → Q v H') → r xs H Q
section
variable {c : C} {X : Cx} {W : WX} {O : List Addr} {Γ : Hp → Prop} {σ : L2.St} {H : Hp} {e : Expr} {es : List Expr} {f2 : M (List D)} {pos p : Pos} {id x : Str}
theorem de_callB {k : List D → R D} {id : String} (hc : CallD c X (.builtin id) k) (hm : X.mg x = none) (hv : bootBuiltins x = some (.builtin id)) (ha : PA X (e :: es) (tDs c W f2)) (hg : Gl X x := by rfl) (hn : x ≠ "__name__" := by decide) (hdb : (x == ("__debug__" : Str)) = false := by decide)
    (he : starEach (e :: es) X.env = (false, eval e X.env) :: starEach es X.env := by rfl) (hpl : (backTo pos (starEach es X.env)).any (·.1) = false := by rfl) : PE X (.Call (.Name x p) (e :: es) [] pos) (tD c W (M.app f2 k)) := by
  obtain ⟨r, h1, h2⟩ := hc
  refine PE.imp (pe_callB h1 hg hm hv ha hn hdb he hpl) fun σ H Q ⟨O, Γ, ρ, s, p⟩ => ?_
  refine bindX s p fun ds ρ1 vs H1 _ e1 s1 r1 p1 => ?_
  obtain ⟨d, ed, q⟩ := post_lift s1 p1
  exact h2 O H1 vs ds d Q s1.dom r1 ed q
theorem de_callT {k : List D → R D} {T : String} (hc : CallD c X (.type T) k) (hm : X.mg x = none) (hv : bootBuiltins x = some (.type T)) (ha : PA X (e :: es) (tDs c W f2)) (hg : Gl X x := by rfl) (hn : x ≠ "__name__" := by decide) (hdb : (x == ("__debug__" : Str)) = false := by decide)
    (he : starEach (e :: es) X.env = (false, eval e X.env) :: starEach es X.env := by rfl) (hpl : (backTo pos (starEach es X.env)).any (·.1) = false := by rfl) : PE X (.Call (.Name x p) (e :: es) [] pos) (tD c W (M.app f2 k)) := by
  obtain ⟨r, h1, h2⟩ := hc
  refine PE.imp (pe_callTy h1 hg hm hv ha hn hdb he hpl) fun σ H Q ⟨O, Γ, ρ, s, p⟩ => ?_
  refine bindX s p fun ds ρ1 vs H1 _ e1 s1 r1 p1 => ?_
  obtain ⟨d, ed, q⟩ := post_lift s1 p1
  exact h2 O H1 vs ds d Q s1.dom r1 ed q
end
end DL

/-! DL, part 4: statements. -/
namespace DL
open PySem L2

inductive Fl where
  | nx (ρ : Env) | rt (d : D) (ρ : Env) | bk (ρ : Env) | ct (ρ : Env) | er (x : Xn) (ρ : Env) | no
abbrev S := Env → Fl

def postS (c : C) (W : WX) (Γ : Hp → Prop) (Z : Ends) (g : Fl) : Prop := match g with
  | .nx ρ' => ∀ O' σ' H', SR c O' Γ H' σ' ρ' → Z.nx σ' H'
  | .rt d ρ' => ∀ v O' σ' H', SR c O' Γ H' σ' ρ' → Rep c.K c.mg (hid H' O') v d → Z.rt v H'
  | .bk ρ' => ∀ O' σ' H', SR c O' Γ H' σ' ρ' → Z.bk σ' H'
  | .ct ρ' => ∀ O' σ' H', SR c O' Γ H' σ' ρ' → Z.ct σ' H'
  | .er x ρ' => ∀ cls d O' σ' H', SR c O' Γ H' σ' ρ' → XR c.K c.mg (hid H' O') x cls d → W cls d σ' H'
  | .no => False
def tS (c : C) (W : WX) (g : S) : TS := fun Z σ H => ∃ O Γ ρ, SR c O Γ H σ ρ ∧ postS c W Γ Z (g ρ)

/-- slot 0 of a def that changes its first argument is not stored -/
abbrev Free (c : C) (i : Nat) : Prop := i ≠ 0 ∨ c.J = []

section
variable {c : C} {O : List Addr} {Γ : Hp → Prop} {H H' : Hp} {σ : L2.St} {ρ : Env}
theorem set_none {α : Type} {l : List α} {i j : Nat} {a b : α} (h : (l.set i a)[j]? = some b) : (j = i ∧ a = b ∧ i < l.length) ∨ (j ≠ i ∧ l[j]? = some b) := by
  by_cases hij : j = i
  · subst hij
    by_cases hl : j < l.length
    · rw [List.getElem?_set_self hl] at h
      cases h
      exact .inl ⟨rfl, rfl, hl⟩
    · rw [List.getElem?_eq_none (by simpa using hl)] at h
      cases h
  · rw [List.getElem?_set_ne (Ne.symm hij)] at h
    exact .inr ⟨hij, h⟩
theorem SR.setG (s : SR c O Γ H σ ρ) {i : Nat} {v : V} {z : Slot} (hf : Free c i)
    (hz : i < ρ.length → match z with
      | .un => True
      | .sh d => Rep c.K c.mg (hid H O) v d
      | .ow d => ∃ a, v = .ref a ∧ a ∈ O ∧ (a ∉ c.Oc ∧ c.H0 a = none) ∧ Own c.K c.mg (hid H O) H a d ∧ ∀ (j : Nat) e, j ≠ i → ρ[j]? = some (.ow e) → σ[j]? ≠ some (some (.ref a))) :
    SR c O Γ H (σ.set i (some v)) (ρ.set i z) where
  mo := s.mo
  len := by rw [List.length_set, List.length_set]; exact s.len
  keep := s.keep
  sub := s.sub
  dom := s.dom
  gh := s.gh
  sh := fun j d e => by
    rcases set_none e with ⟨rfl, rfl, hl⟩ | ⟨hj, e⟩
    · exact ⟨v, by rw [List.getElem?_set_self (by rw [← s.len]; exact hl)], hz hl⟩
    · obtain ⟨w, h1, h2⟩ := s.sh j d e
      exact ⟨w, by rw [List.getElem?_set_ne (Ne.symm hj)]; exact h1, h2⟩
  ow := fun j d e => by
    rcases set_none e with ⟨rfl, rfl, hl⟩ | ⟨hj, e⟩
    · obtain ⟨a, h1, h2, h3, h4, h5⟩ := hz hl
      exact ⟨a, by rw [List.getElem?_set_self (by rw [← s.len]; exact hl), h1], h2, .inl h3, h4⟩
    · obtain ⟨w, h1, h2⟩ := s.ow j d e
      exact ⟨w, by rw [List.getElem?_set_ne (Ne.symm hj)]; exact h1, h2⟩
  inj := fun j k d e hjk e1 e2 => by
    rcases set_none e1 with ⟨rfl, rfl, hl⟩ | ⟨hj, e1'⟩
    · rcases set_none e2 with ⟨rfl, _, _⟩ | ⟨hk, e2'⟩
      · exact absurd rfl hjk
      · obtain ⟨a, h1, h2, h3, h4, h5⟩ := hz hl
        rw [List.getElem?_set_self (by rw [← s.len]; exact hl), List.getElem?_set_ne (Ne.symm hk), h1]
        exact fun z => h5 k e hk e2' z.symm
    · rcases set_none e2 with ⟨rfl, rfl, hl⟩ | ⟨hk, e2'⟩
      · obtain ⟨a, h1, h2, h3, h4, h5⟩ := hz hl
        rw [List.getElem?_set_self (by rw [← s.len]; exact hl), List.getElem?_set_ne (Ne.symm hj), h1]
        exact fun z => h5 j d hj e1' z
      · rw [List.getElem?_set_ne (Ne.symm hj), List.getElem?_set_ne (Ne.symm hk)]
        exact s.inj j k d e hjk e1' e2'
  io := fun a ha => by
    rcases hf with h | h
    · rw [List.getElem?_set_ne h]; exact s.io a ha
    · rw [h] at ha; cases ha
  jo := s.jo
  tab := s.tab
theorem SR.setSh (s : SR c O Γ H σ ρ) {i : Nat} {v : V} {d : D} (hf : Free c i) (r : Rep c.K c.mg (hid H O) v d) : SR c O Γ H (σ.set i (some v)) (ρ.set i (.sh d)) := s.setG hf fun _ => r
/-- an object of one's own is laid -/
theorem SR.new (s : SR c O Γ H σ ρ) {p : Addr} {o : HO} (h : H p = none) : SR c (p :: O) Γ (upd H p o) σ ρ := by
  have hp : ∀ b o', H b = some o' → b ≠ p := fun b o' e => ne_of_none e h
  have ex : Ex (hid H O) (hid (upd H p o) (p :: O)) := fun b o' e => by
    obtain ⟨n, e⟩ := hid_some e
    rw [hid_out, upd_ne (hp b o' e)]
    · exact e
    · intro z
      rcases List.mem_cons.mp z with z | z
      · exact hp b o' e z
      · exact n z
  have at' : ∀ {a}, a ∈ O → upd H p o a = H a := fun {a} ha => by
    obtain ⟨o', e⟩ := s.dom a ha
    exact upd_ne (hp a o' e)
  exact ⟨s.mo, s.len, fun b o' e n => by rw [upd_ne (hp b o' (s.keep b o' e n))]; exact s.keep b o' e n, fun b hb => List.mem_cons_of_mem _ (s.sub b hb), fun b hb => by
    rcases List.mem_cons.mp hb with z | z
    · rw [z, upd_same]; exact ⟨_, rfl⟩
    · rw [at' z]; exact s.dom b z, s.mo _ _ ex s.gh, fun i d e => let ⟨v, h1, h2⟩ := s.sh i d e; ⟨v, h1, h2.mono ex⟩, fun i d e => by
    obtain ⟨a, h1, h2, h3, h4⟩ := s.ow i d e
    exact ⟨a, h1, List.mem_cons_of_mem _ h2, h3, (h4.mono ex).at (at' h2)⟩, s.inj, s.io, s.jo, s.tabOf (fun P hP => at' (s.sub P (s.tab P hP).1)) ex⟩
theorem SR.newEx (s : SR c O Γ H σ ρ) {p : Addr} {o : HO} (h : H p = none) : Ex (hid H O) (hid (upd H p o) (p :: O)) := fun b o' e => by
  obtain ⟨n, e⟩ := hid_some e
  rw [hid_out, upd_ne (ne_of_none e h)]
  · exact e
  · intro z
    rcases List.mem_cons.mp z with z | z
    · exact ne_of_none e h z
    · exact n z
/-- a new object of one's own at p -/
structure New (c : C) (O : List Addr) (p : Addr) (σ : L2.St) (ρ : Env) : Prop where
  out : p ∉ c.Oc
  h0 : c.H0 p = none
  no : ∀ (j : Nat) e, ρ[j]? = some (.ow e) → σ[j]? ≠ some (some (.ref p))
theorem SR.isNew (s : SR c O Γ H σ ρ) {p : Addr} (h : H p = none) : New c O p σ ρ where
  out := fun z => s.fresh h (s.sub p z)
  h0 := by
    cases e : c.H0 p with
    | none => rfl
    | some o =>
      by_cases hj : p ∈ c.J
      · obtain ⟨o', z⟩ := s.dom p (s.sub p (s.jo p hj))
        rw [h] at z; cases z
      · rw [s.keep p o e hj] at h; cases h
  no := fun j e ej z => by
    obtain ⟨a, h1, h2, _⟩ := s.ow j e ej
    rw [h1] at z
    cases z
    obtain ⟨o, q⟩ := s.dom p h2
    rw [h] at q; cases q
end

/-! ### fresh objects of one's own -/
theorem hid_upd_in {H : Hp} {O : List Addr} {a : Addr} {o : HO} (h : a ∈ O) : hid (upd H a o) O = hid H O := by
  funext b
  unfold hid
  split
  · rfl
  · rename_i n
    exact upd_ne fun z => n (z ▸ h)
/-- the reading «e gives a new object, f's, of one's own» -/
def tF (c : C) (W : WX) (f : M D) : TE := fun σ H Q => ∃ O Γ ρ, SR c O Γ H σ ρ ∧ match f ρ with
  | .ok d ρ' => ∀ p H', Stp c.T σ ρ ρ' H H' → H p = none → SR c (p :: O) Γ H' σ ρ' → New c O p σ ρ' → Own c.K c.mg (hid H' (p :: O)) H' p d → Q (.ref p) H'
  | .er x ρ' => ∀ cls d H', Stp c.T σ ρ ρ' H H' → SR c O Γ H' σ ρ' → XR c.K c.mg (hid H' O) x cls d → W cls d σ H'
  | .no => False
section
variable {c : C} {X : Cx} {W : WX} {O : List Addr} {Γ : Hp → Prop} {σ : L2.St} {H : Hp} {ρ : Env}
theorem own_newL {vs : List V} {ds : List D} {p : Addr} (s : SR c O Γ H σ ρ) (h : H p = none) (r : RepL c.K c.mg (hid H O) vs ds) (z : ds.length ≤ sizeLine) : Own c.K c.mg (hid (upd H p (.lst vs)) (p :: O)) (upd H p (.lst vs)) p (.lst ds) :=
  ⟨vs, upd_same, r.mono (s.newEx h), z⟩
/-- what is new behind a step was new ahead of it -/
theorem Stp.back {ρ ρ1 : Env} {H H1 : Hp} {q : Addr} {O1 : List Addr} {Γ1 : Hp → Prop} (st : Stp c.T σ ρ ρ1 H H1) (s : SR c O Γ H σ ρ) (s1 : SR c O1 Γ1 H1 σ ρ1) (hq : H1 q = none) (hO : ∀ a ∈ O, a ∈ O1 := by intro _ h; exact h) : H q = none := by
  cases e0 : H q with
  | none => rfl
  | some o =>
    by_cases hw : ∀ (i : Nat) d, ρ[i]? = some (.ow d) → σ[i]? ≠ some (some (.ref q))
    · rw [st.kp q o e0 (fun z => by obtain ⟨_, _, _, ps, e, _⟩ := s1.tab q z; rw [hq] at e; cases e) hw] at hq; cases hq
    · have hw' : ∃ (i : Nat) (d : D), ρ[i]? = some (.ow d) ∧ σ[i]? = some (some (.ref q)) := Classical.byContradiction fun hn => hw fun i d a b => hn ⟨i, d, a, b⟩
      obtain ⟨i, d, h1, h2⟩ := hw'
      obtain ⟨a, g1, g2, _⟩ := s.ow i d h1
      rw [g1] at h2
      cases h2
      obtain ⟨o', z'⟩ := s1.dom _ (hO _ g2)
      rw [hq] at z'; cases z'
theorem df_lst {es : List Expr} {f2 : M (List D)} {pos : Pos} (h : PA X es (tDs c W f2)) : PE X (.List es pos) (tF c W (M.app f2 D.mkLst)) := by
  refine PE.imp (pe_lst h) fun σ H Q ⟨O, Γ, ρ, s, p⟩ => ?_
  refine ⟨O, Γ, ρ, s, ?_⟩
  unfold M.app M.bind at p
  cases e : f2 ρ with
  | no => rw [e] at p; exact p
  | er x ρ1 => rw [e] at p; exact p
  | ok ds ρ1 =>
    rw [e] at p
    simp only [RM.bind, M.lift] at p
    unfold D.mkLst at p
    intro vs H1 st s1 r1
    by_cases z : ds.length ≤ sizeLine
    · rw [if_pos z] at p
      refine ⟨by rw [r1.length]; exact z, fun q hq => ?_⟩
      exact p q _ (st.trans (Stp.of (Ex.upd hq))) (st.back s s1 hq) (s1.new hq) (s1.isNew hq) (own_newL s1 hq r1 z)
    · rw [if_neg z] at p
      exact p.elim
end

/-! ### blocks -/
def S.skip : S := fun ρ => .nx ρ
def S.seq (g1 g2 : S) : S := fun ρ => match g1 ρ with
  | .nx ρ' => g2 ρ'
  | r => r
def S.expr {α : Type} (f : M α) : S := fun ρ => match f ρ with
  | .ok _ ρ' => .nx ρ'
  | .er x ρ' => .er x ρ'
  | .no => .no
def S.ret (f : M D) : S := fun ρ => match f ρ with
  | .ok d ρ' => .rt d ρ'
  | .er x ρ' => .er x ρ'
  | .no => .no
def S.ite (t : M Bool) (g1 g2 : S) : S := fun ρ => match t ρ with
  | .ok b ρ' => if b then g1 ρ' else g2 ρ'
  | .er x ρ' => .er x ρ'
  | .no => .no
def S.set (i : Nat) (f : M D) : S := fun ρ => match f ρ with
  | .ok d ρ' => .nx (ρ'.set i (.sh d))
  | .er x ρ' => .er x ρ'
  | .no => .no
def S.own (i : Nat) (f : M D) : S := fun ρ => match f ρ with
  | .ok d ρ' => .nx (ρ'.set i (.ow d))
  | .er x ρ' => .er x ρ'
  | .no => .no
section
variable {c : C} {X : Cx} {W : WX} {st : Stmt} {rest : List Stmt} {g1 g2 : S} {e : Expr} {f : M D} {pos : Pos}
theorem ds_nil : PSs X [] (tS c W S.skip) := PSs.imp pss_nil fun Z σ H ⟨O, Γ, ρ, s, p⟩ => p O σ H s
theorem seq_run {Z : Ends} {σ : L2.St} {H : Hp} (h : tS c W (S.seq g1 g2) Z σ H) : tS c W g1 { Z with nx := tS c W g2 Z } σ H := by
  obtain ⟨O, Γ, ρ, s, p⟩ := h
  refine ⟨O, Γ, ρ, s, ?_⟩
  unfold S.seq at p
  cases q : g1 ρ with
  | nx ρ' => rw [q] at p; exact fun O' σ' H' s' => ⟨O', Γ, ρ', s', p⟩
  | rt d ρ' => rw [q] at p; exact p
  | bk ρ' => rw [q] at p; exact p
  | ct ρ' => rw [q] at p; exact p
  | er x ρ' => rw [q] at p; exact p
  | no => rw [q] at p; exact p
theorem ds_cons (h1 : PS X st (tS c W g1)) (h2 : PSs X rest (tS c W g2)) : PSs X (st :: rest) (tS c W (S.seq g1 g2)) := PSs.imp (pss_cons h1 h2) fun Z σ H h => seq_run h
theorem ds_one (h1 : PS X st (tS c W g1)) : PSs X [st] (tS c W g1) := pss_one h1
theorem ds_pass : PS X (.Pass pos) (tS c W S.skip) := PS.imp ps_pass fun Z σ H ⟨O, Γ, ρ, s, p⟩ => p O σ H s
theorem ds_break : PS X (.Break pos) (tS c W fun ρ => .bk ρ) := PS.imp ps_break fun Z σ H ⟨O, Γ, ρ, s, p⟩ => p O σ H s
theorem ds_continue : PS X (.Continue pos) (tS c W fun ρ => .ct ρ) := PS.imp ps_continue fun Z σ H ⟨O, Γ, ρ, s, p⟩ => p O σ H s
theorem ds_expr (he : PE X e (tD c W f)) (hs : swapsWith e none pos.line X.env = pure false := by rfl) : PS X (.Expr e pos) (tS c W (S.expr f)) := PS.imp (ps_expr he hs) fun Z σ H ⟨O, Γ, ρ, s, p⟩ => by
  refine ⟨O, Γ, ρ, s, ?_⟩
  unfold S.expr at p
  cases q : f ρ with
  | ok d ρ' => rw [q] at p; exact fun b H1 _ s1 _ => p O σ H1 s1
  | er x ρ' => rw [q] at p; exact fun cls d H1 _ s1 r => p cls d O σ H1 s1 r
  | no => rw [q] at p; exact p
theorem ds_ret (he : PE X e (tD c W f)) : PS X (.Return (some e) pos) (tS c W (S.ret f)) := PS.imp (ps_ret he) fun Z σ H ⟨O, Γ, ρ, s, p⟩ => by
  refine ⟨O, Γ, ρ, s, ?_⟩
  unfold S.ret at p
  cases q : f ρ with
  | ok d ρ' => rw [q] at p; exact fun b H1 _ s1 r => p b O σ H1 s1 r
  | er x ρ' => rw [q] at p; exact fun cls d H1 _ s1 r => p cls d O σ H1 s1 r
  | no => rw [q] at p; exact p
theorem ds_retN : PS X (.Return none pos) (tS c W fun ρ => .rt .non ρ) := PS.imp ps_retN fun Z σ H ⟨O, Γ, ρ, s, p⟩ => p .non O σ H s .non
theorem ds_if {t : Expr} {a b : List Stmt} {tb : M Bool} (ht : PT X t (tB c W tb)) (ha : PSs X a (tS c W g1)) (hb : PSs X b (tS c W g2)) : PS X (.If t a b pos) (tS c W (S.ite tb g1 g2)) := PS.imp (ps_if ht ha hb) fun Z σ H ⟨O, Γ, ρ, s, p⟩ => by
  refine ⟨O, Γ, ρ, s, ?_⟩
  unfold S.ite at p
  cases q : tb ρ with
  | ok d ρ' =>
    rw [q] at p
    intro b H1 _ s1 r
    subst r
    cases b with
    | true => exact ⟨O, Γ, ρ', s1, p⟩
    | false => exact ⟨O, Γ, ρ', s1, p⟩
  | er x ρ' => rw [q] at p; exact fun cls d H1 _ s1 r => p cls d O σ H1 s1 r
  | no => rw [q] at p; exact p
theorem ds_set (i : Nat) {x : Str} {pos' : Pos} (hN : X.N.Nodup) (hJ : Free c i) (he : PE X e (tD c W f)) (hi : X.N[i]? = some x := by rfl) (hx : Loc X.env.scope x := by first | exact Or.inl rfl | exact Or.inr rfl) (hs : swapsWith e (some (.Name x pos')) pos.line X.env = pure false := by rfl)
    (hf : X.fn x = true ∨ X.env.scope.names.lookup x = some .local := by first | exact .inl rfl | exact .inr rfl) : PS X (.Assign [.Name x pos'] e pos) (tS c W (S.set i f)) := PS.imp (ps_set hN hi hx he hs hf) fun Z σ H ⟨O, Γ, ρ, s, p⟩ => by
  refine ⟨O, Γ, ρ, s, ?_⟩
  unfold S.set at p
  cases q : f ρ with
  | ok d ρ' => rw [q] at p; exact fun b H1 _ s1 r => p O _ H1 (s1.setSh hJ r)
  | er x ρ' => rw [q] at p; exact fun cls d H1 _ s1 r => p cls d O σ H1 s1 r
  | no => rw [q] at p; exact p
theorem ds_own (i : Nat) {x : Str} {pos' : Pos} (hN : X.N.Nodup) (hJ : Free c i) (he : PE X e (tF c W f)) (hi : X.N[i]? = some x := by rfl) (hx : Loc X.env.scope x := by first | exact Or.inl rfl | exact Or.inr rfl) (hs : swapsWith e (some (.Name x pos')) pos.line X.env = pure false := by rfl)
    (hf : X.fn x = true ∨ X.env.scope.names.lookup x = some .local := by first | exact .inl rfl | exact .inr rfl) : PS X (.Assign [.Name x pos'] e pos) (tS c W (S.own i f)) := PS.imp (ps_set hN hi hx he hs hf) fun Z σ H ⟨O, Γ, ρ, s, p⟩ => by
  refine ⟨O, Γ, ρ, s, ?_⟩
  unfold S.own at p
  cases q : f ρ with
  | ok d ρ' =>
    rw [q] at p
    exact fun a H1 _ _ s1 n r => p (a :: O) _ H1 (s1.setG hJ fun _ => ⟨a, rfl, List.mem_cons_self, ⟨n.out, n.h0⟩, r, fun j e _ => n.no j e⟩)
  | er x ρ' => rw [q] at p; exact fun cls d H1 _ s1 r => p cls d O σ H1 s1 r
  | no => rw [q] at p; exact p
end

/-! ### targets -/
inductive Tg where
  | nm (i : Nat) | tp (l : List Tg)
mutual
def asgD : Tg → D → Env → Option Env
  | .nm i, d, ρ => some (ρ.set i (.sh d))
  | .tp ts, .tup l, ρ => asgL ts l ρ
  | .tp _, _, _ => none
def asgL : List Tg → List D → Env → Option Env
  | [], [], ρ => some ρ
  | t :: ts, d :: ds, ρ => (asgD t d ρ).bind (asgL ts ds)
  | _, _, _ => none
end
mutual
def Tg.slots : Tg → List Nat
  | .nm i => [i]
  | .tp l => Tg.slotsL l
def Tg.slotsL : List Tg → List Nat
  | [] => []
  | t :: ts => t.slots ++ Tg.slotsL ts
end
/-- only the slots of vs differ -/
def But (vs : List Nat) (σ σ' : L2.St) : Prop := σ'.length = σ.length ∧ ∀ j, j ∉ vs → σ'[j]? = σ[j]?
theorem But.refl (vs : List Nat) (σ : L2.St) : But vs σ σ := ⟨rfl, fun _ _ => rfl⟩
theorem But.trans {vs ws us : List Nat} {σ σ1 σ2 : L2.St} (a : But vs σ σ1) (b : But ws σ1 σ2) (h1 : ∀ i ∈ vs, i ∈ us) (h2 : ∀ i ∈ ws, i ∈ us) : But us σ σ2 :=
  ⟨b.1.trans a.1, fun j hj => (b.2 j fun z => hj (h2 j z)).trans (a.2 j fun z => hj (h1 j z))⟩
/-- the reading of a target -/
def tG (c : C) (t : Tg) : TG := fun v σ H Q => ∃ O Γ ρ d, SR c O Γ H σ ρ ∧ Rep c.K c.mg (hid H O) v d ∧ match asgD t d ρ with
  | some ρ' => ∀ σ', But t.slots σ σ' → SR c O Γ H σ' ρ' → Q σ' H
  | none => False
def tGs (c : C) (ts : List Tg) : TGs := fun vs σ H Q => ∃ O Γ ρ ds, SR c O Γ H σ ρ ∧ RepL c.K c.mg (hid H O) vs ds ∧ match asgL ts ds ρ with
  | some ρ' => ∀ σ', But (Tg.slotsL ts) σ σ' → SR c O Γ H σ' ρ' → Q σ' H
  | none => False
theorem PG.imp {X : Cx} {e : Expr} {t t' : TG} (h : PG X e t) (k : ∀ v σ H Q, t' v σ H Q → t v σ H Q) : PG X e t' := ⟨fun pins s σ H v u Q I r q => h.run pins s σ H v u Q I r (k v σ H Q q)⟩
theorem PGs.imp {X : Cx} {e : List Expr} {t t' : TGs} (h : PGs X e t) (k : ∀ v σ H Q, t' v σ H Q → t v σ H Q) : PGs X e t' := ⟨fun pins s σ H v u Q I r q => h.run pins s σ H v u Q I r (k v σ H Q q)⟩
section
variable {c : C} {X : Cx} {W : WX} {e : Expr} {es : List Expr} {t : Tg} {ts : List Tg} {pos : Pos} {f : M D}
theorem dg_name (i : Nat) {x : Str} (hN : X.N.Nodup) (hJ : Free c i) (hi : X.N[i]? = some x := by rfl) (hx : Loc X.env.scope x := by first | exact Or.inl rfl | exact Or.inr rfl) (hf : X.fn x = true ∨ X.env.scope.names.lookup x = some .local := by first | exact .inl rfl | exact .inr rfl) :
    PG X (.Name x pos) (tG c (.nm i)) := PG.imp (pg_name hN hi hx hf) fun v σ H Q ⟨O, Γ, ρ, d, s, r, p⟩ => by
  unfold asgD at p
  exact p _ ⟨by rw [List.length_set], fun j hj => by rw [List.getElem?_set_ne (fun z => hj (by rw [z]; simp [Tg.slots]))]⟩ (s.setSh hJ r)
theorem dgs_nil : PGs X [] (tGs c []) := PGs.imp pgs_nil fun vs σ H Q ⟨O, Γ, ρ, ds, s, r, p⟩ => by
  cases r with
  | nil => exact ⟨rfl, p σ (But.refl _ _) s⟩
  | cons _ _ => exact p.elim
theorem dgs_cons (h1 : PG X e (tG c t)) (h2 : PGs X es (tGs c ts)) (hs : (assignEach (e :: es) X.env).map (·.2) = assign e X.env :: (assignEach es X.env).map (·.2) := by rfl) : PGs X (e :: es) (tGs c (t :: ts)) := PGs.imp (pgs_cons h1 h2 hs) fun vs σ H Q ⟨O, Γ, ρ, ds, s, r, p⟩ => by
  cases r with
  | nil => exact p.elim
  | @cons v vs d ds r rr =>
    refine ⟨v, vs, rfl, O, Γ, ρ, d, s, r, ?_⟩
    unfold asgL at p
    cases q : asgD t d ρ with
    | none => rw [q] at p; exact p.elim
    | some ρ1 =>
      rw [q] at p
      refine fun σ1 b1 s1 => ⟨O, Γ, ρ1, ds, s1, rr, ?_⟩
      have p' : match asgL ts ds ρ1 with
        | some ρ' => ∀ σ', But (Tg.slotsL (t :: ts)) σ σ' → SR c O Γ H σ' ρ' → Q σ' H
        | none => False := p
      cases q2 : asgL ts ds ρ1 with
      | none => rw [q2] at p'; exact p'.elim
      | some ρ2 =>
        rw [q2] at p'
        exact fun σ2 b2 s2 => p' σ2 (b1.trans b2 (fun i h => by simp only [Tg.slotsL, List.mem_append]; exact .inl h) fun i h => by simp only [Tg.slotsL, List.mem_append]; exact .inr h) s2
theorem asgL_len : ∀ {ts : List Tg} {ds : List D} {ρ ρ' : Env}, asgL ts ds ρ = some ρ' → ds.length = ts.length
  | [], [], _, _, _ => rfl
  | [], _ :: _, _, _, e => by cases e
  | _ :: _, [], _, _, e => by cases e
  | t :: ts, d :: ds, ρ, ρ', e => by
    unfold asgL at e
    cases q : asgD t d ρ with
    | none => rw [q] at e; cases e
    | some ρ1 => rw [q] at e; rw [List.length_cons, List.length_cons, asgL_len (show asgL ts ds ρ1 = some ρ' from e)]
theorem dg_tup {k : Nat} (g : Gd c X) (h : PGs X es (tGs c ts)) (hn : (assignEach es X.env).length = ts.length := by rfl) (hst : (assignEach es X.env).findIdx? (·.1) = none := by rfl) : PG X (.Tuple es k pos) (tG c (.tp ts)) := by
  refine PG.imp (pg_tup (k := k) (pos := pos) g.2.2 h hn hst) fun v σ H Q ⟨O, Γ, ρ, d, s, r, p⟩ => ?_
  cases r with
  | @tup a vs ds h r z =>
    unfold asgD at p
    refine ⟨_, _, rfl, by rw [← g.1]; exact (ex_hid H O).sqt h, ?_, O, Γ, ρ, ds, s, r, p⟩
    cases q : asgL ts ds ρ with
    | none => rw [q] at p; exact p.elim
    | some ρ1 => rw [r.length]; exact asgL_len q
  | _ => exact p.elim
end
end DL

/-! DL, part 5: stores to targets, several at once, operators at names, changes of lists of one's own, loops, comprehensions. -/
namespace DL
open PySem L2

def S.asg (t : Tg) (f : M D) : S := fun ρ => match f ρ with
  | .ok d ρ1 => (match asgD t d ρ1 with | some ρ2 => .nx ρ2 | none => .no)
  | .er x ρ' => .er x ρ'
  | .no => .no
section
variable {c : C} {X : Cx} {W : WX} {e tg : Expr} {t : Tg} {pos : Pos} {f : M D}
theorem ds_asg (he : PE X e (tD c W f)) (hg : PG X tg (tG c t)) (hs : swapsWithSole [tg] e pos.line X.env = pure false := by rfl) (hw : swappedStores [tg] e X.env = pure none := by rfl) (h1 : (assignEach [tg] X.env).map (·.2) = [assign tg X.env] := by rfl) :
    PS X (.Assign [tg] e pos) (tS c W (S.asg t f)) := PS.imp (ps_asg he hg hs hw h1) fun Z σ H ⟨O, Γ, ρ, s, p⟩ => by
  refine ⟨O, Γ, ρ, s, ?_⟩
  unfold S.asg at p
  cases q : f ρ with
  | no => rw [q] at p; exact p
  | er x ρ' => rw [q] at p; exact fun cls d H1 _ s1 r => p cls d O σ H1 s1 r
  | ok d ρ1 =>
    rw [q] at p
    intro v H1 _ s1 r
    refine ⟨O, Γ, ρ1, d, s1, r, ?_⟩
    cases q2 : asgD t d ρ1 with
    | none => simp only [q2] at p; exact p
    | some ρ2 => simp only [q2] at p; exact fun σ' _ s2 => p O σ' H1 s2
end

/-! ### several values, some new ones of one's own -/
def NotOwn (p : Addr) : List V → List Slot → Prop
  | v :: vs, .ow _ :: zs => v ≠ .ref p ∧ NotOwn p vs zs
  | _ :: vs, _ :: zs => NotOwn p vs zs
  | _, _ => True
inductive SlR (c : C) (Hs : Hp) (O' : List Addr) (H' : Hp) (σ : L2.St) (ρ' : Env) : List V → List Slot → Prop
  | nil : SlR c Hs O' H' σ ρ' [] []
  | sh {v : V} {vs : List V} {d : D} {zs : List Slot} : Rep c.K c.mg (hid H' O') v d → SlR c Hs O' H' σ ρ' vs zs → SlR c Hs O' H' σ ρ' (v :: vs) (.sh d :: zs)
  | ow {p : Addr} {vs : List V} {d : D} {zs : List Slot} : Hs p = none → New c O' p σ ρ' → p ∈ O' → Own c.K c.mg (hid H' O') H' p d → NotOwn p vs zs → SlR c Hs O' H' σ ρ' vs zs → SlR c Hs O' H' σ ρ' (.ref p :: vs) (.ow d :: zs)
/-- a step that lays new objects of one's own -/
structure Gr (c : C) (σ : L2.St) (ρ ρ' : Env) (O O' : List Addr) (H H' : Hp) : Prop extends Stp c.T σ ρ ρ' H H' where
  le : ∀ a ∈ O, a ∈ O'
  fr : ∀ a ∈ O', a ∈ O ∨ H a = none
theorem Gr.ex {c : C} {Γ : Hp → Prop} {σ : L2.St} {ρ ρ' : Env} {O O' : List Addr} {H H' : Hp} (g : Gr c σ ρ ρ' O O' H H') (s : SR c O Γ H σ ρ) : Ex (hid H O) (hid H' O') := fun a o h => by
  have h' := g.toStp.ex s a o h
  obtain ⟨n, e⟩ := hid_some h
  obtain ⟨_, e'⟩ := hid_some h'
  rw [hid_out]
  · exact e'
  · intro z
    rcases g.fr a z with z | z
    · exact n z
    · rw [e] at z; cases z
def tSl (c : C) (W : WX) (f : M (List Slot)) : TA := fun σ H Q => ∃ O Γ ρ, SR c O Γ H σ ρ ∧ match f ρ with
  | .ok zs ρ' => ∀ vs O' H', Gr c σ ρ ρ' O O' H H' → SR c O' Γ H' σ ρ' → SlR c H O' H' σ ρ' vs zs → Q vs H'
  | .er x ρ' => ∀ cls d O' H', SR c O' Γ H' σ ρ' → XR c.K c.mg (hid H' O') x cls d → W cls d σ H'
  | .no => False
def M.slNil : M (List Slot) := M.pure []
def M.slSh (f : M D) (g : M (List Slot)) : M (List Slot) := f.bind fun d => g.bind fun zs => M.pure (.sh d :: zs)
def M.slOw (f : M D) (g : M (List Slot)) : M (List Slot) := f.bind fun d => g.bind fun zs => M.pure (.ow d :: zs)
section
variable {c : C} {X : Cx} {W : WX} {e : Expr} {es : List Expr} {f : M D} {f2 : M (List Slot)}
theorem dl_nil : PA X [] (tSl c W M.slNil) := PA.imp pa_nil fun σ H Q ⟨O, Γ, ρ, s, p⟩ => p [] O H ⟨Stp.refl, fun _ h => h, fun _ h => .inl h⟩ s .nil
theorem SlR.back {Hs Hs' : Hp} {O' : List Addr} {H' : Hp} {σ : L2.St} {ρ' : Env} {vs : List V} {zs : List Slot} (h : SlR c Hs O' H' σ ρ' vs zs) (k : ∀ q, Hs q = none → Hs' q = none) : SlR c Hs' O' H' σ ρ' vs zs := by
  induction h with
  | nil => exact .nil
  | sh r _ ih => exact .sh r ih
  | ow f n m o d _ ih => exact .ow (k _ f) n m o d ih
theorem SlR.apart {Hs : Hp} {O' : List Addr} {H' : Hp} {σ : L2.St} {ρ' : Env} {vs : List V} {zs : List Slot} (h : SlR c Hs O' H' σ ρ' vs zs) {a : Addr} {o : HO} (e : Hs a = some o) : NotOwn a vs zs := by
  induction h with
  | nil => trivial
  | sh r _ ih => exact ih
  | ow f n m o d _ ih => exact ⟨fun z => (by cases z; rw [e] at f; cases f), ih⟩
theorem dl_sh (ha : PE X e (tD c W f)) (hr : PA X es (tSl c W f2)) (hs : starEach (e :: es) X.env = (false, eval e X.env) :: starEach es X.env := by rfl) : PA X (e :: es) (tSl c W (M.slSh f f2)) := by
  refine PA.imp (pa_cons ha hr hs) fun σ H Q ⟨O, Γ, ρ, s, p⟩ => ?_
  refine ⟨O, Γ, ρ, s, ?_⟩
  unfold M.slSh M.bind at p
  cases q : f ρ with
  | no => rw [q] at p; exact p
  | er x ρ' => rw [q] at p; exact fun cls d H1 _ s1 r => p cls d O H1 s1 r
  | ok d ρ1 =>
    rw [q] at p
    simp only [RM.bind] at p
    intro v H1 st s1 r1
    refine ⟨O, Γ, ρ1, s1, ?_⟩
    cases q2 : f2 ρ1 with
    | no => rw [q2] at p; exact p
    | er x ρ' => rw [q2] at p; exact p
    | ok zs ρ2 =>
      rw [q2] at p
      simp only [M.pure] at p
      intro vs O' H2 g s2 r2
      refine p (v :: vs) O' H2 ⟨st.trans g.toStp, g.le, fun a ha => ?_⟩ s2 (.sh (r1.mono (g.ex s1)) (r2.back fun q hq => st.back s s1 hq))
      rcases g.fr a ha with z | z
      · exact .inl z
      · exact .inr (st.back s s1 z)
theorem dl_ow (ha : PE X e (tF c W f)) (hr : PA X es (tSl c W f2)) (hs : starEach (e :: es) X.env = (false, eval e X.env) :: starEach es X.env := by rfl) : PA X (e :: es) (tSl c W (M.slOw f f2)) := by
  refine PA.imp (pa_cons ha hr hs) fun σ H Q ⟨O, Γ, ρ, s, p⟩ => ?_
  refine ⟨O, Γ, ρ, s, ?_⟩
  unfold M.slOw M.bind at p
  cases q : f ρ with
  | no => rw [q] at p; exact p
  | er x ρ' => rw [q] at p; exact fun cls d H1 _ s1 r => p cls d O H1 s1 r
  | ok d ρ1 =>
    rw [q] at p
    simp only [RM.bind] at p
    intro a H1 st hn s1 n1 r1
    refine ⟨a :: O, Γ, ρ1, s1, ?_⟩
    cases q2 : f2 ρ1 with
    | no => rw [q2] at p; exact p
    | er x ρ' => rw [q2] at p; exact p
    | ok zs ρ2 =>
      rw [q2] at p
      simp only [M.pure] at p
      intro vs O' H2 g s2 r2
      obtain ⟨oa, ea⟩ := r1.some
      have ea2 : H2 a = some oa := g.kp a oa ea (fun z => n1.out (s1.tab a z).1) fun i d' e' => n1.no i d' e'
      have n2 : ∀ (j : Nat) e', ρ2[j]? = some (.ow e') → σ[j]? ≠ some (some (.ref a)) := fun j e' ej => let ⟨d', z⟩ := g.ows j e' ej; n1.no j d' z
      have hno : NotOwn a vs zs := r2.apart ea
      have bk : ∀ q, H1 q = none → H q = none := fun q hq => st.back s s1 hq fun _ h => List.mem_cons_of_mem _ h
      refine p (.ref a :: vs) O' H2 ⟨st.trans g.toStp, fun b hb => g.le b (List.mem_cons_of_mem _ hb), fun b hb => ?_⟩ s2 (.ow hn ⟨n1.out, n1.h0, n2⟩ (g.le a List.mem_cons_self) ((r1.mono (g.ex s1)).at (ea2.trans ea.symm)) hno (r2.back bk))
      rcases g.fr b hb with z | z
      · rcases List.mem_cons.mp z with z | z
        · exact .inr (z ▸ hn)
        · exact .inl z
      · exact .inr (bk b z)
end
def setV : List Nat → List V → L2.St → L2.St
  | i :: is, v :: vs, σ => setV is vs (σ.set i (some v))
  | _, _, σ => σ
def setZ : List Nat → List Slot → Env → Env
  | i :: is, z :: zs, ρ => setZ is zs (ρ.set i z)
  | _, _, ρ => ρ
section
variable {c : C}
theorem SlR.step {Hs : Hp} {O' : List Addr} {H' : Hp} {σ : L2.St} {ρ' : Env} {vs : List V} {zs : List Slot} (h : SlR c Hs O' H' σ ρ' vs zs) {i : Nat} {v : V} {z : Slot} (hl : ρ'.length = σ.length) (hz : ∀ d, z = .ow d → ∃ p, v = .ref p ∧ NotOwn p vs zs) :
    SlR c Hs O' H' (σ.set i (some v)) (ρ'.set i z) vs zs := by
  induction h with
  | nil => exact .nil
  | sh r _ ih => exact .sh r (ih fun d e => let ⟨p, h1, h2⟩ := hz d e; ⟨p, h1, h2⟩)
  | @ow p vs d zs f n m o q _ ih =>
    refine .ow f ⟨n.out, n.h0, fun j e ej => ?_⟩ m o q (ih fun d e => let ⟨p, h1, h2⟩ := hz d e; ⟨p, h1, h2.2⟩)
    rcases set_none ej with ⟨rfl, e', hl'⟩ | ⟨hj, e'⟩
    · obtain ⟨p', h1, h2⟩ := hz e e'
      rw [List.getElem?_set_self (by rw [← hl]; exact hl')]
      intro w
      rw [h1] at w
      cases w
      exact h2.1 rfl
    · rw [List.getElem?_set_ne (Ne.symm hj)]
      exact n.no j e e'
theorem setAll {Hs : Hp} {O' : List Addr} {Γ : Hp → Prop} {H' : Hp} : ∀ (is : List Nat) {σ : L2.St} {ρ' : Env} {vs : List V} {zs : List Slot}, (∀ i ∈ is, Free c i) → SR c O' Γ H' σ ρ' → SlR c Hs O' H' σ ρ' vs zs → SR c O' Γ H' (setV is vs σ) (setZ is zs ρ')
  | [], _, _, _, _, _, s, _ => by unfold setV setZ; exact s
  | i :: is, σ, ρ', [], [], _, s, _ => by unfold setV setZ; exact s
  | i :: is, σ, ρ', v :: vs, z :: zs, hf, s, r => by
    unfold setV setZ
    cases r with
    | sh r1 r2 => exact setAll is (fun j hj => hf j (List.mem_cons_of_mem _ hj)) (s.setSh (hf i List.mem_cons_self) r1) (r2.step s.len fun d e => by cases e)
    | @ow p _ d _ f n m o q r2 =>
      exact setAll is (fun j hj => hf j (List.mem_cons_of_mem _ hj)) (s.setG (v := .ref p) (z := .ow d) (hf i List.mem_cons_self) fun _ => ⟨p, rfl, m, ⟨n.out, n.h0⟩, o, fun j e _ => n.no j e⟩) (r2.step s.len fun d e => ⟨p, rfl, q⟩)
  | _ :: _, _, _, [], _ :: _, _, _, r => by cases r
  | _ :: _, _, _, _ :: _, [], _, _, r => by cases r
def S.par (is : List Nat) (f : M (List Slot)) : S := fun ρ => match f ρ with
  | .ok zs ρ1 => if zs.length = is.length then .nx (setZ is zs ρ1) else .no
  | .er x ρ' => .er x ρ'
  | .no => .no
theorem SlR.len {Hs : Hp} {O' : List Addr} {H' : Hp} {σ : L2.St} {ρ' : Env} {vs : List V} {zs : List Slot} (h : SlR c Hs O' H' σ ρ' vs zs) : vs.length = zs.length := by
  induction h with
  | nil => rfl
  | sh _ _ ih => rw [List.length_cons, List.length_cons, ih]
  | ow _ _ _ _ _ _ ih => rw [List.length_cons, List.length_cons, ih]
variable {X : Cx} {W : WX}
theorem par_run {Z : Ends} {σ : L2.St} {H : Hp} {is : List Nat} {f : M (List Slot)} (hf : ∀ i ∈ is, Free c i) (h : tS c W (S.par is f) Z σ H) : tSl c W f σ H fun vs H1 => vs.length = is.length ∧ Z.nx (setV is vs σ) H1 := by
  obtain ⟨O, Γ, ρ, s, p⟩ := h
  refine ⟨O, Γ, ρ, s, ?_⟩
  unfold S.par at p
  cases q : f ρ with
  | no => rw [q] at p; exact p
  | er x ρ' => rw [q] at p; exact fun cls d O' H1 s1 r => p cls d O' σ H1 s1 r
  | ok zs ρ1 =>
    rw [q] at p
    intro vs O' H1 g s1 r
    by_cases hl : zs.length = is.length
    · simp only [hl, if_true] at p
      exact ⟨r.len.trans hl, p O' _ H1 (setAll is hf s1 r)⟩
    · simp only [hl, if_false] at p
      exact p.elim
theorem ds_par (i j : Nat) {x y : Str} {a b : Expr} {f : M (List Slot)} {px py pt pos : Pos} {kt k2 pt2} (g : Gd c X) (hN : X.N.Nodup) (h1 : Free c i) (h2 : Free c j) (ha : PA X [a, b] (tSl c W f)) (hi : X.N[i]? = some x := by rfl) (hj : X.N[j]? = some y := by rfl) (hij : i ≠ j := by decide)
    (hx : X.env.scope.names.lookup x = some .local := by rfl) (hy : X.env.scope.names.lookup y = some .local := by rfl) (hw : swappedStores [.Tuple [.Name x px, .Name y py] kt pt] (.Tuple [a, b] k2 pt2) X.env = pure (some [x, y]) := by rfl)
    (hs : swapsWithSole [.Tuple [.Name x px, .Name y py] kt pt] (.Tuple [a, b] k2 pt2) pos.line X.env = pure false := by rfl) : PS X (.Assign [.Tuple [.Name x px, .Name y py] kt pt] (.Tuple [a, b] k2 pt2) pos) (tS c W (S.par [i, j] f)) :=
  PS.imp (ps_par g.2.2 hN hi hj hij hx hy ha hw hs) fun Z σ H h => by
    have h' := par_run (is := [i, j]) (by simp only [List.mem_cons, List.not_mem_nil, or_false]; rintro k (rfl | rfl) <;> assumption) h
    obtain ⟨O, Γ, ρ, s, p⟩ := h'
    refine ⟨O, Γ, ρ, s, ?_⟩
    cases q : f ρ with
    | no => rw [q] at p; exact p
    | er x ρ' => rw [q] at p; exact p
    | ok zs ρ1 =>
      rw [q] at p
      intro vs O' H1 g s1 r
      obtain ⟨hl, hp⟩ := p vs O' H1 g s1 r
      match vs, hl with
      | [v, w], _ => exact ⟨v, w, rfl, hp⟩
theorem ds_par3 (i j l : Nat) {x y z : Str} {a b c0 : Expr} {f : M (List Slot)} {px py pz pt pos : Pos} {kt k2 pt2} (g : Gd c X) (hN : X.N.Nodup) (h1 : Free c i) (h2 : Free c j) (h3 : Free c l) (ha : PA X [a, b, c0] (tSl c W f)) (hi : X.N[i]? = some x := by rfl) (hj : X.N[j]? = some y := by rfl) (hl : X.N[l]? = some z := by rfl)
    (hij : i ≠ j := by decide) (hil : i ≠ l := by decide) (hjl : j ≠ l := by decide) (hx : X.env.scope.names.lookup x = some .local := by rfl) (hy : X.env.scope.names.lookup y = some .local := by rfl) (hz : X.env.scope.names.lookup z = some .local := by rfl)
    (hw : swappedStores [.Tuple [.Name x px, .Name y py, .Name z pz] kt pt] (.Tuple [a, b, c0] k2 pt2) X.env = pure (some [x, y, z]) := by rfl) (hs : swapsWithSole [.Tuple [.Name x px, .Name y py, .Name z pz] kt pt] (.Tuple [a, b, c0] k2 pt2) pos.line X.env = pure false := by rfl) :
    PS X (.Assign [.Tuple [.Name x px, .Name y py, .Name z pz] kt pt] (.Tuple [a, b, c0] k2 pt2) pos) (tS c W (S.par [i, j, l] f)) :=
  PS.imp (ps_par3 g.2.2 hN hi hj hl hij hil hjl hx hy hz ha hw hs) fun Z σ H h => by
    have h' := par_run (is := [i, j, l]) (by simp only [List.mem_cons, List.not_mem_nil, or_false]; rintro k (rfl | rfl | rfl) <;> assumption) h
    obtain ⟨O, Γ, ρ, s, p⟩ := h'
    refine ⟨O, Γ, ρ, s, ?_⟩
    cases q : f ρ with
    | no => rw [q] at p; exact p
    | er x ρ' => rw [q] at p; exact p
    | ok zs ρ1 =>
      rw [q] at p
      intro vs O' H1 g s1 r
      obtain ⟨hl, hp⟩ := p vs O' H1 g s1 r
      match vs, hl with
      | [u, v, w], _ => exact ⟨u, v, w, rfl, hp⟩
end
end DL

/-! DL, part 6: lists of one's own read and changed; operators at names. -/
namespace DL
open PySem L2

section
variable {c : C} {O : List Addr} {Γ : Hp → Prop} {H H' : Hp} {σ : L2.St} {ρ : Env}
/-- the object of slot i is written -/
theorem SR.wr (s : SR c O Γ H σ ρ) {i : Nat} {a : Addr} {d d' : D} {o' : HO} (e : ρ[i]? = some (.ow d)) (ea : σ[i]? = some (some (.ref a))) (r : Own c.K c.mg (hid H O) (upd H a o') a d') : SR c O Γ (upd H a o') σ (ρ.set i (.ow d')) := by
  obtain ⟨a', h1, h2, h3, h4⟩ := s.ow i d e
  rw [ea] at h1
  cases h1
  have hh : hid (upd H a o') O = hid H O := hid_upd_in h2
  refine ⟨s.mo, by rw [List.length_set]; exact s.len, fun b o h n => ?_, s.sub, fun b hb => ?_, by rw [hh]; exact s.gh, fun j d e' => ?_, fun j d2 e' => ?_, fun j k d e he e1 e2 => ?_, s.io, s.jo, s.tabOf (fun P hP => upd_ne fun z => s.noT e ea (z ▸ hP)) (by rw [hh]; exact Ex.refl _)⟩
  · have hb : b ≠ a := fun z => by
      subst z
      rcases h3 with ⟨_, z⟩ | ⟨z, _⟩
      · rw [h] at z; cases z
      · exact n z
    rw [upd_ne hb]; exact s.keep b o h n
  · by_cases z : b = a
    · rw [z, upd_same]; exact ⟨_, rfl⟩
    · rw [upd_ne z]; exact s.dom b hb
  · rcases set_none e' with ⟨_, z, _⟩ | ⟨hj, e'⟩
    · cases z
    · rw [hh]; exact s.sh j d e'
  · rcases set_none e' with ⟨rfl, z, _⟩ | ⟨hj, e''⟩
    · cases z
      exact ⟨a, ea, h2, h3, by rw [hh]; exact r⟩
    · obtain ⟨b, g1, g2, g3, g4⟩ := s.ow j d2 e''
      have hb : b ≠ a := fun z => by
        subst z
        exact s.inj j i d2 d hj e'' e (g1.trans ea.symm)
      exact ⟨b, g1, g2, g3, by rw [hh]; exact g4.at (upd_ne hb)⟩
  · have g : ∀ {j : Nat} {d : D}, (ρ.set i (.ow d'))[j]? = some (.ow d) → ∃ d0, ρ[j]? = some (.ow d0) := fun {j d} z => by
      rcases set_none z with ⟨rfl, _, _⟩ | ⟨_, z⟩
      · exact ⟨_, by assumption⟩
      · exact ⟨_, z⟩
    obtain ⟨d1, z1⟩ := g e1
    obtain ⟨d2, z2⟩ := g e2
    exact s.inj j k d1 d2 he z1 z2
/-- a step that writes the object of slot i -/
theorem Stp.wr {i : Nat} {a : Addr} {d d' : D} {o' : HO} (e : ρ[i]? = some (.ow d)) (ea : σ[i]? = some (some (.ref a))) : Stp c.T σ ρ (ρ.set i (.ow d')) H (upd H a o') where
  kp := fun b o h _ n => by
    rw [upd_ne fun z => ?_]
    · exact h
    · subst z; exact n i d e ea
  ows := fun j d2 e' => by
    rcases set_none e' with ⟨rfl, _, _⟩ | ⟨_, e'⟩
    · exact ⟨d, e⟩
    · exact ⟨d2, e'⟩
end

/-! ### reading one's own -/
/-- the data of one's own at slot i -/
def M.oget (i : Nat) : M D := fun ρ => match ρ[i]? with
  | some (.ow d) => .ok d ρ
  | _ => .no
def M.oix (i : Nat) (f : M D) : M D := (M.oget i).bind fun _ => f.bind fun k => (M.oget i).bind fun d => M.lift (D.ix d k).good
section
variable {c : C} {X : Cx} {W : WX} {O : List Addr} {Γ : Hp → Prop} {σ : L2.St} {H : Hp} {ρ : Env} {a b e : Expr} {f : M D} {pos : Pos}
theorem oget_run {i : Nat} {α β : Type} {rel : Hp → β → α → Prop} {k : D → M α} {Q : β → Hp → Prop} (s : SR c O Γ H σ ρ) (p : post c W O Γ σ H ρ rel ((M.oget i).bind k ρ) Q) :
    ∃ d a, ρ[i]? = some (.ow d) ∧ σ[i]? = some (some (.ref a)) ∧ a ∈ O ∧ Own c.K c.mg (hid H O) H a d ∧ post c W O Γ σ H ρ rel (k d ρ) Q := by
  unfold M.oget M.bind at p
  cases q : ρ[i]? with
  | none => simp only [q] at p; exact p.elim
  | some z =>
    cases z with
    | ow d =>
      simp only [q] at p
      obtain ⟨a, h1, h2, _, h3⟩ := s.ow i d q
      exact ⟨d, a, rfl, h1, h2, h3, p⟩
    | un => simp only [q] at p; exact p.elim
    | sh _ => simp only [q] at p; exact p.elim
/-- x[e], x one's own list -/
theorem de_oix (i : Nat) {x : Str} {px : Pos} (g : Gd c X) (hb : PE X b (tD c W f)) (hN : X.N[i]? = some x := by rfl) (hv : Vis X.env.scope x := by first | exact Or.inl rfl | exact Or.inr (Or.inl rfl) | exact Or.inr (Or.inr rfl)) (hs : PlainIx b := by intro _ _; rfl)
    (hd : (x == ("__debug__" : Str)) = false := by decide) (hcd : (x == ("__classdict__" : Str)) = false := by decide) : PE X (.Subscript (.Name x px) b pos) (tD c W (M.oix i f)) := by
  refine PE.imp (pe_ix ix_list (pv i hN hv hd hcd) hb hs) fun σ H Q ⟨O, Γ, ρ, s, p⟩ => ?_
  obtain ⟨d0, a, e0, ea, ha, _, p0⟩ := oget_run s p
  refine ⟨.ref a, ea, ?_⟩
  refine bindS s p0 fun k ρ1 v H1 _ st s1 r1 p1 => ?_
  obtain ⟨d, a', e1, ea', ha', ow, p2⟩ := oget_run s1 p1
  rw [ea] at ea'
  cases ea'
  obtain ⟨z, ez, q⟩ := post_lift s1 p2
  unfold D.ix at ez
  cases r1 with
  | int n =>
    cases d with
    | lst l =>
      obtain ⟨vs, hl, rl, zl⟩ := ow
      simp only at ez
      cases w : atI l n with
      | none => rw [w] at ez; cases ez
      | some d1 =>
        rw [w] at ez
        cases ez
        obtain ⟨v1, g1, g2⟩ := atI_rep rl w
        exact ⟨a, vs, n, v1, rfl, rfl, .inl (.inl hl), g1, q v1 H1 (Ex.refl _) g2⟩
    | _ => first | exact ow.elim | (simp only at ez; cases ez)
  | _ => cases d <;> first | exact ow.elim | (simp only at ez; cases ez)
end

/-! ### x += e -/
def S.aug (i : Nat) (f : M D) (k : D → D → R D) : S := fun ρ => match ρ[i]? with
  | some (.sh d) => (match f ρ with
    | .ok e ρ1 => (match (k d e).good with | .ok z => .nx (ρ1.set i (.sh z)) | _ => .no)
    | .er x ρ' => .er x ρ'
    | .no => .no)
  | _ => .no
def D.iadd : D → D → R D
  | .int i, .int j => .ok (.int (i + j))
  | .str a, .str b => if a.length + b.length ≤ sizeLine then .ok (.str (a ++ b)) else .no
  | _, _ => .no
section
variable {c : C} {X : Cx} {W : WX} {e : Expr} {f : M D} {pos : Pos}
theorem ds_aug (i : Nat) {x : Str} {pos' : Pos} {op : Operator} {k : D → D → R D} (hN : X.N.Nodup) (hJ : Free c i) (ho : OpD c X (inplaceOp op) k) (he : PE X e (tD c W f)) (hi : X.N[i]? = some x := by rfl) (hx : Loc X.env.scope x := by first | exact Or.inl rfl | exact Or.inr rfl)
    (hf : X.fn x = true ∨ X.env.scope.names.lookup x = some .local := by first | exact .inl rfl | exact .inr rfl) : PS X (.AugAssign (.Name x pos') op e pos) (tS c W (S.aug i f k)) := by
  obtain ⟨r, h1, h2⟩ := ho
  refine PS.imp (ps_aug hN hi hx he (ti := r) (fun pins s σ H x y v u Q I rx ry q => h1 pins s σ H x y v u Q I rx ry q) hf) fun Z σ H ⟨O, Γ, ρ, s, p⟩ => ?_
  unfold S.aug at p
  cases q : ρ[i]? with
  | none => simp only [q] at p; exact p.elim
  | some z =>
    cases z with
    | sh d =>
      simp only [q] at p
      obtain ⟨v, g1, g2⟩ := s.sh i d q
      refine ⟨v, g1, O, Γ, ρ, s, ?_⟩
      cases q1 : f ρ with
      | no => simp only [q1] at p; exact p
      | er x ρ' => simp only [q1] at p; exact fun cls d H1 _ s1 r => p cls d O σ H1 s1 r
      | ok y ρ1 =>
        simp only [q1] at p
        intro w H1 st s1 r1
        cases q2 : k d y with
        | ok z =>
          rw [q2] at p
          exact h2 O H1 v w d y z _ s1.dom (g2.mono (st.ex s)) r1 q2 fun u H2 x2 r2 => p O _ H2 ((s1.ext x2).setSh hJ r2)
        | er _ => rw [q2] at p; exact p.elim
        | no => rw [q2] at p; exact p.elim
    | un => simp only [q] at p; exact p.elim
    | ow _ => simp only [q] at p; exact p.elim
theorem oi_add : OpD c X (inplaceOp .Add) D.iadd := by
  refine ⟨_, iop_add.or iop_add_str, fun O H x y dx dy d Q dom rx ry e q => ?_⟩
  unfold D.iadd at e
  split at e
  · cases rx; cases ry; cases e
    exact .inl ⟨_, _, rfl, rfl, q _ H (Ex.refl _) (.int _)⟩
  · cases rx; cases ry
    split at e
    · cases e
      exact .inr ⟨_, _, rfl, rfl, by assumption, q _ H (Ex.refl _) (.str _)⟩
    · cases e
  · cases e
end

/-! ### changes of one's own lists -/
/-- the thing of slot i, of kind pk, becomes k of it and e's value -/
def S.chg (i : Nat) (pk : D → Bool) (f : M D) (k : D → D → R D) : S := fun ρ => match ρ[i]? with
  | some (.ow d0) => if pk d0 then (match f ρ with
    | .ok e ρ1 => (match ρ1[i]? with
      | some (.ow d) => (match k d e with | .ok z => .nx (ρ1.set i (.ow z)) | _ => .no)
      | _ => .no)
    | .er x ρ' => .er x ρ'
    | .no => .no) else .no
  | _ => .no
def D.isL : D → Bool
  | .lst _ => true
  | _ => false
def D.isD : D → Bool
  | .dct _ _ => true
  | _ => false
def D.push : D → D → R D
  | .lst l, d => if l.length < sizeLine then .ok (.lst (l ++ [d])) else .no
  | _, _ => .no
def D.ext : D → D → R D
  | .lst l, .lst m => if l.length + m.length ≤ sizeLine then .ok (.lst (l ++ m)) else .no
  | _, _ => .no
section
variable {c : C} {X : Cx} {W : WX} {e b : Expr} {f f2 : M D} {pos : Pos}
theorem chg_run {i : Nat} {pk : D → Bool} {k : D → D → R D} {Z : Ends} {σ : L2.St} {H : Hp} (h : tS c W (S.chg i pk f k) Z σ H) :
    ∃ a, σ[i]? = some (some (.ref a)) ∧ (∃ d0, ∃ O, Own c.K c.mg (hid H O) H a d0 ∧ pk d0 = true) ∧ tD c W f σ H fun v H1 => ∃ O Γ ρ1 d y z, SR c O Γ H1 σ ρ1 ∧ ρ1[i]? = some (.ow d) ∧ Own c.K c.mg (hid H1 O) H1 a d ∧ Rep c.K c.mg (hid H1 O) v y ∧ k d y = .ok z ∧
      ∀ o', Own c.K c.mg (hid H1 O) (upd H1 a o') a z → Z.nx σ (upd H1 a o') := by
  obtain ⟨O, Γ, ρ, s, p⟩ := h
  unfold S.chg at p
  cases q : ρ[i]? with
  | none => simp only [q] at p; exact p.elim
  | some z =>
    cases z with
    | ow d0 =>
      simp only [q] at p
      obtain ⟨a, h1, h2, _, h3⟩ := s.ow i d0 q
      by_cases hk : pk d0 = true
      · simp only [hk, if_true] at p
        refine ⟨a, h1, ⟨d0, O, h3, hk⟩, O, Γ, ρ, s, ?_⟩
        cases q1 : f ρ with
        | no => simp only [q1] at p; exact p
        | er x ρ' => simp only [q1] at p; exact fun cls d H1 _ s1 r => p cls d O σ H1 s1 r
        | ok y ρ1 =>
          simp only [q1] at p
          intro v H1 st s1 r1
          cases q2 : ρ1[i]? with
          | none => simp only [q2] at p; exact p.elim
          | some z =>
            cases z with
            | ow d =>
              simp only [q2] at p
              obtain ⟨a', g1, g2, _, g3⟩ := s1.ow i d q2
              rw [h1] at g1
              cases g1
              cases q3 : k d y with
              | ok z => simp only [q3] at p; exact ⟨O, Γ, ρ1, d, y, z, s1, q2, g3, r1, q3, fun o' w => p O σ _ (s1.wr q2 h1 w)⟩
              | er _ => simp only [q3] at p; exact p.elim
              | no => simp only [q3] at p; exact p.elim
            | un => simp only [q2] at p; exact p.elim
            | sh _ => simp only [q2] at p; exact p.elim
      · simp only [hk] at p
        exact p.elim
    | un => simp only [q] at p; exact p.elim
    | sh _ => simp only [q] at p; exact p.elim
theorem own_isL {K : PySem.W.Frag} {mg : Str → Option Value} {G H : Hp} {a : Addr} {d : D} (h : Own K mg G H a d) (hk : d.isL = true) : ∃ vs, H a = some (.lst vs) := by
  cases d with
  | lst ds => obtain ⟨vs, e, _⟩ := h; exact ⟨vs, e⟩
  | _ => cases hk
/-- x.append(e) -/
theorem ds_append (i : Nat) {x : Str} {px apos cpos : Pos} (he : PE X e (tD c W f)) (hN : X.N[i]? = some x := by rfl) (hv : Vis X.env.scope x := by first | exact Or.inl rfl | exact Or.inr (Or.inl rfl) | exact Or.inr (Or.inr rfl))
    (hd : (x == ("__debug__" : Str)) = false := by decide) (hcd : (x == ("__classdict__" : Str)) = false := by decide) (hs : starEach [e] X.env = [(false, eval e X.env)] := by rfl) (hbase : attributeBase (.Name x px) "append" X.env (eval (.Name x px) X.env) = eval (.Name x px) X.env := by rfl)
    (hfew : ((backTo cpos (starEach [e] X.env)).all (fun x => !x.1) && (backToKw cpos (keywordEach [] X.env)).all (fun x => x.1.isSome) && decide ([e].length + ([] : List Keyword).length + (if ([] : List Keyword).isEmpty then 0 else 1) < 30)) = true := by rfl)
    (hline : (apos.endLine == cpos.line) = true := by rfl) (hplain : (backTo cpos (starEach [] X.env)).any (·.1) = false := by rfl) (hsw : swapsWith (.Call (.Attribute (.Name x px) "append" apos) [e] [] cpos) none pos.line X.env = pure false := by rfl) :
    PS X (.Expr (.Call (.Attribute (.Name x px) "append" apos) [e] [] cpos) pos) (tS c W (S.chg i D.isL f D.push)) := by
  refine PS.imp (ps_expr (pe_bm PySem.F.plainAttrs_list PySem.F.slot_list_append PySem.F.type_list_append mt_append (pv i hN hv hd hcd) (pa_cons he pa_nil hs) hbase hfew hline hs hplain) hsw) fun Z σ H h => ?_
  obtain ⟨a, ea, ⟨d0, O0, ow0, hk0⟩, h⟩ := chg_run h
  obtain ⟨vs, hl⟩ := own_isL ow0 hk0
  refine ⟨.ref a, ea, .inl ⟨rfl, vs, .inl (.inl hl)⟩, ?_⟩
  obtain ⟨O, Γ, ρ, s, p⟩ := h
  refine ⟨O, Γ, ρ, s, p.imp fun v H1 ⟨O1, Γ1, ρ1, d, y, z, s1, e1, ow1, r1, q3, nx⟩ => ?_⟩
  unfold D.push at q3
  cases d with
  | lst l =>
    obtain ⟨ws, hl1, rl, zl⟩ := ow1
    simp only at q3
    split at q3
    · rename_i hz
      cases q3
      refine ⟨a, ws, v, rfl, rfl, hl1, by rw [rl.length]; exact hz, ?_⟩
      exact nx _ ⟨_, upd_same, rl.append (.cons r1 .nil), by rw [List.length_append]; exact hz⟩
    · cases q3
  | _ => cases q3
/-- x += e, x one's own list, e a list -/
theorem ds_extend (i : Nat) {x : Str} {pos' : Pos} (hN : X.N.Nodup) (hJ : i ≠ 0 ∨ c.J = []) (he : PE X e (tD c W f)) (hi : X.N[i]? = some x := by rfl) (hx : Loc X.env.scope x := by first | exact Or.inl rfl | exact Or.inr rfl)
    (hf : X.fn x = true ∨ X.env.scope.names.lookup x = some .local := by first | exact .inl rfl | exact .inr rfl) : PS X (.AugAssign (.Name x pos') .Add e pos) (tS c W (S.chg i D.isL f D.ext)) := by
  refine PS.imp (ps_aug hN hi hx he (ti := rExt2) (fun pins s σ H x y v u Q I rx ry q => iop_ext pins s σ H x y v u Q I rx ry q) hf) fun Z σ H h => ?_
  obtain ⟨a, ea, ⟨d0, O0, ow0, hk0⟩, h⟩ := chg_run h
  refine ⟨.ref a, ea, ?_⟩
  obtain ⟨O, Γ, ρ, s, p⟩ := h
  refine ⟨O, Γ, ρ, s, p.imp fun v H1 ⟨O1, Γ1, ρ1, d, y, z, s1, e1, ow1, r1, q3, nx⟩ => ?_⟩
  unfold D.ext at q3
  cases d with
  | lst l =>
    obtain ⟨ws, hl1, rl, zl⟩ := ow1
    cases r1 with
    | lst h2 r2 z2 =>
      simp only at q3
      split at q3
      · rename_i hz
        cases q3
        refine ⟨a, _, ws, _, rfl, rfl, hl1, (hid_some h2).2, by rw [rl.length, r2.length]; exact hz, ?_⟩
        have n := nx (.lst (ws ++ _)) ⟨_, upd_same, rl.append r2, by rw [List.length_append]; exact hz⟩
        -- the name holds the same list
        have es : σ.set i (some (.ref a)) = σ := by
          apply List.ext_getElem?
          intro j
          by_cases hj : j = i
          · subst hj
            rw [List.getElem?_set_self (by
              rcases Nat.lt_or_ge j σ.length with z | z
              · exact z
              · rw [List.getElem?_eq_none z] at ea; cases ea), ea]
          · rw [List.getElem?_set_ne (Ne.symm hj)]
        show Z.nx (σ.set i (some (.ref a))) _
        rw [es]
        exact n
      · cases q3
    | _ => simp only at q3; cases q3
  | _ => simp only at q3; cases q3
end

/-! ### x[i] = e -/
def M.pair (f g : M D) : M D := f.bind fun x => g.bind fun y => M.pure (.tup [x, y])
def D.putI : D → D → R D
  | .lst l, .tup [v, .int k] => match ixN l.length k with | some j => .ok (.lst (l.set j v)) | none => .no
  | _, _ => .no
section
variable {c : C} {X : Cx} {W : WX} {e b : Expr} {f f2 : M D} {pos : Pos}
/-- the value, then the list, then the place -/
def S.putI (i : Nat) (fv fi : M D) : S := fun ρ => match fv ρ with
  | .ok v ρ1 => (match ρ1[i]? with
    | some (.ow _) => (match fi ρ1 with
      | .ok k ρ2 => (match ρ2[i]? with
        | some (.ow (.lst l)) => (match k with
          | .int n => (match ixN l.length n with | some j => .nx (ρ2.set i (.ow (.lst (l.set j v)))) | none => .no)
          | _ => .no)
        | _ => .no)
      | .er x ρ' => .er x ρ'
      | .no => .no)
    | _ => .no)
  | .er x ρ' => .er x ρ'
  | .no => .no
theorem ds_putI (i : Nat) {x : Str} {px pos' : Pos} (he : PE X e (tD c W f)) (hb : PE X b (tD c W f2)) (hN : X.N[i]? = some x := by rfl) (hv : Vis X.env.scope x := by first | exact Or.inl rfl | exact Or.inr (Or.inl rfl) | exact Or.inr (Or.inr rfl))
    (hd : (x == ("__debug__" : Str)) = false := by decide) (hcd : (x == ("__classdict__" : Str)) = false := by decide) (hp : PG X (.Subscript (.Name x px) b pos') (gSub (tVar i) (tD c W f2) rSetL))
    (hs : swapsWithSole [.Subscript (.Name x px) b pos'] e pos.line X.env = pure false := by rfl) (hw : swappedStores [.Subscript (.Name x px) b pos'] e X.env = pure none := by rfl) (h1 : (assignEach [.Subscript (.Name x px) b pos'] X.env).map (·.2) = [assign (.Subscript (.Name x px) b pos') X.env] := by rfl) :
    PS X (.Assign [.Subscript (.Name x px) b pos'] e pos) (tS c W (S.putI i f f2)) := by
  refine PS.imp (ps_asg he hp hs hw h1) fun Z σ H ⟨O, Γ, ρ, s, p⟩ => ?_
  refine ⟨O, Γ, ρ, s, ?_⟩
  unfold S.putI at p
  cases q1 : f ρ with
  | no => simp only [q1] at p; exact p
  | er x ρ' => simp only [q1] at p; exact fun cls d H1 _ s1 r => p cls d O σ H1 s1 r
  | ok v ρ1 =>
    simp only [q1] at p
    intro w H1 st s1 r1
    cases q2 : ρ1[i]? with
    | none => simp only [q2] at p; exact p.elim
    | some z =>
      cases z with
      | ow d0 =>
        simp only [q2] at p
        obtain ⟨a, g1, g2, _, g3⟩ := s1.ow i d0 q2
        refine ⟨.ref a, g1, O, Γ, ρ1, s1, ?_⟩
        cases q3 : f2 ρ1 with
        | no => simp only [q3] at p; exact p
        | er x ρ' => simp only [q3] at p; exact fun cls d H1 _ s1 r => p cls d O σ H1 s1 r
        | ok k ρ2 =>
          simp only [q3] at p
          intro u H2 st2 s2 r2
          cases q4 : ρ2[i]? with
          | none => simp only [q4] at p; exact p.elim
          | some z =>
            cases z with
            | ow d =>
              cases d with
              | lst l =>
                simp only [q4] at p
                obtain ⟨a', k1, k2, _, vs, hl, rl, zl⟩ := s2.ow i _ q4
                rw [g1] at k1
                cases k1
                cases r2 with
                | int n =>
                  simp only at p
                  cases q5 : ixN l.length n with
                  | none => simp only [q5] at p; exact p.elim
                  | some j =>
                    simp only [q5] at p
                    refine ⟨a, vs, n, j, rfl, rfl, hl, by rw [rl.length]; exact q5, ?_⟩
                    exact p O σ _ (s2.wr q4 g1 ⟨_, upd_same, RepL.set (r1.mono (st2.ex s1)) j rl, by rw [List.length_set]; exact zl⟩)
                | _ => exact p.elim
              | _ => simp only [q4] at p; exact p.elim
            | un => simp only [q4] at p; exact p.elim
            | sh _ => simp only [q4] at p; exact p.elim
      | un => simp only [q2] at p; exact p.elim
      | sh _ => simp only [q2] at p; exact p.elim
/-- x[i] += e of ints, x one's own list -/
def S.augI (i : Nat) (fi fe : M D) : S := fun ρ => match ρ[i]? with
  | some (.ow _) => (match fi ρ with
    | .ok k ρ1 => (match ρ1[i]?, k with
      | some (.ow (.lst l)), .int n => (match atI l n with
        | some (.int old) => (match fe ρ1 with
          | .ok e ρ2 => (match ρ2[i]?, e with
            | some (.ow (.lst l2)), .int m => (match ixN l2.length n with | some j => .nx (ρ2.set i (.ow (.lst (l2.set j (.int (old + m)))))) | none => .no)
            | _, _ => .no)
          | .er x ρ' => .er x ρ'
          | .no => .no)
        | _ => .no)
      | _, _ => .no)
    | .er x ρ' => .er x ρ'
    | .no => .no)
  | _ => .no
theorem getItem_any : PGet X (rIxL X.K) := by
  intro pins s σ H o i ov iv Q I ro ri h
  obtain ⟨p, xs, n, z, rfl, rfl, hq, he, q⟩ := h
  cases ro
  obtain ⟨t, rfl⟩ := ri
  obtain ⟨its, r, pl, hz⟩ := I.list hq
  obtain ⟨j, h1, h2, h3, h4, h5⟩ := atI_get he
  obtain ⟨w, ew, rw'⟩ := r.get h2
  have hl := r.length
  have hn := line63
  have fin : EP X pins σ Q w s := ⟨z, H, I, rw', q⟩
  by_cases h0 : 0 ≤ n
  · have hj : n.toNat = j := by
      rw [seqIndex_of h0 h5] at h1
      exact Option.some.inj h1
    exact wpAny_getItem_list pl.isList h0 (by omega) (by rw [hj]; simpa using ew) fin
  · have hj : (n + (its.toArray.size : Int)).toNat = j := by
      rw [seqIndex_neg (by omega) h4] at h1
      rw [List.size_toArray, ← hl]
      exact Option.some.inj h1
    exact wpAny_getItem_list_neg pl.isList (by omega) (by rw [List.size_toArray] <;> omega) (by omega) (by rw [hj]; simpa using ew) fin
theorem ds_augI (i : Nat) {x : Str} {px tpos : Pos} (he : PE X e (tD c W f)) (hb : PE X b (tD c W f2)) (hN : X.N[i]? = some x := by rfl) (hv : Vis X.env.scope x := by first | exact Or.inl rfl | exact Or.inr (Or.inl rfl) | exact Or.inr (Or.inr rfl))
    (hd : (x == ("__debug__" : Str)) = false := by decide) (hcd : (x == ("__classdict__" : Str)) = false := by decide)
    (ha : ∀ ov iv new, augStore b ov iv new = (do holding [new, ov, iv] (setItem ov iv new); release [new, ov, iv] []; pure .next) := by intros; rfl) :
    PS X (.AugAssign (.Subscript (.Name x px) b tpos) .Add e pos) (tS c W (S.augI i f2 f)) := by
  refine PS.imp (ps_augS (pv i hN hv hd hcd) hb getItem_any he ip_add set_list ha) fun Z σ H ⟨O, Γ, ρ, s, p⟩ => ?_
  unfold S.augI at p
  cases q0 : ρ[i]? with
  | none => simp only [q0] at p; exact p.elim
  | some z0 =>
    cases z0 with
    | ow d0 =>
      simp only [q0] at p
      obtain ⟨a, g1, g2, _, g3⟩ := s.ow i d0 q0
      refine ⟨.ref a, g1, O, Γ, ρ, s, ?_⟩
      cases q1 : f2 ρ with
      | no => simp only [q1] at p; exact p
      | er x ρ' => simp only [q1] at p; exact fun cls d H1 _ s1 r => p cls d O σ H1 s1 r
      | ok k ρ1 =>
        simp only [q1] at p
        intro u H1 st s1 r1
        cases q2 : ρ1[i]? with
        | none => simp only [q2] at p; exact p.elim
        | some z1 =>
          cases z1 with
          | ow d =>
            cases d with
            | lst l =>
              cases r1 with
              | int n =>
                simp only [q2] at p
                obtain ⟨a', k1, k2, _, vs, hl, rl, zl⟩ := s1.ow i _ q2
                rw [g1] at k1
                cases k1
                cases q3 : atI l n with
                | none => simp only [q3] at p; exact p.elim
                | some old =>
                  obtain ⟨v1, w1, w2⟩ := atI_rep rl q3
                  cases w2 with
                  | int m0 =>
                    simp only [q3] at p
                    refine ⟨a, vs, n, _, rfl, rfl, by exact .inl (.inl hl), w1, O, Γ, ρ1, s1, ?_⟩
                    cases q4 : f ρ1 with
                    | no => simp only [q4] at p; exact p
                    | er x ρ' => simp only [q4] at p; exact fun cls d H1 _ s1 r => p cls d O σ H1 s1 r
                    | ok e ρ2 =>
                      simp only [q4] at p
                      intro u2 H2 st2 s2 r2
                      cases q5 : ρ2[i]? with
                      | none => simp only [q5] at p; exact p.elim
                      | some z2 =>
                        cases z2 with
                        | ow d2 =>
                          cases d2 with
                          | lst l2 =>
                            cases r2 with
                            | int m =>
                              simp only [q5] at p
                              obtain ⟨a'', k1, k2, _, vs2, hl2, rl2, zl2⟩ := s2.ow i _ q5
                              rw [g1] at k1
                              cases k1
                              cases q6 : ixN l2.length n with
                              | none => simp only [q6] at p; exact p.elim
                              | some j =>
                                simp only [q6] at p
                                refine ⟨m0, m, rfl, rfl, a, vs2, n, j, rfl, rfl, hl2, by rw [rl2.length]; exact q6, ?_⟩
                                exact p O σ _ (s2.wr q5 g1 ⟨_, upd_same, RepL.set (.int _) j rl2, by rw [List.length_set]; exact zl2⟩)
                            | _ => simp only [q5] at p; exact p.elim
                          | _ => simp only [q5] at p; exact p.elim
                        | un => simp only [q5] at p; exact p.elim
                        | sh _ => simp only [q5] at p; exact p.elim
                  | _ => simp only [q3] at p; exact p.elim
              | _ => simp only [q2] at p; exact p.elim
            | _ => simp only [q2] at p; exact p.elim
          | un => simp only [q2] at p; exact p.elim
          | sh _ => simp only [q2] at p; exact p.elim
    | un => simp only [q0] at p; exact p.elim
    | sh _ => simp only [q0] at p; exact p.elim
end
end DL

/-! DL, part 7: what is walked: lists and tuples in any mix, enumerate, zip, ranges. -/
namespace DL
open PySem L2 PyProof.Rows

/-- enumerate(v), v by what its iterator begins as -/
theorem meets_enum1 {v : Value} {o : Obj} {Hy : Heap → Prop} (B : Begins v o Hy) :
    Meets (Builtin.«enumerate.__new__» ⟨[.type "enumerate", v], []⟩) (fun _ R s => Hy s.heap ∧
      R (.ok (.ret (.ref (s.heap.push o).objs.size))) { s with heap := (s.heap.push o).push { cls := .type "enumerate", data := .fields #[.none, .bool false, .ref s.heap.objs.size, rawInt 0, .none, .none] } }) :=
  .of_wp fun prog w A R s h => by
    obtain ⟨hp, g, d, tk, os⟩ := s; obtain ⟨h1, h⟩ := h
    have hsub := sub_enumerate
    have q1 : ∀ {A' : Around} {E : Value → Shared → Prop} {Q : Value → Shared → Prop}, Q (.ref hp.objs.size) ⟨hp.push o, g, d, tk, os⟩ → wpAny (model prog w) A' (pyIter v) Q E ⟨hp, g, d, tk, os⟩ :=
      fun q => B.iter prog w _ _ ⟨hp, g, d, tk, os⟩ _ h1 q
    wp_walk using q1
    refine wpAny_stack_any fun st => wpAny_pure ?_
    split
    · rename_i c _ _ _ _ _
      cases (c == Value.type "enumerate")
      · wp_walk using q1
        exact ⟨_, rfl, h⟩
      · wp_walk using q1
        exact ⟨_, rfl, h⟩
    · wp_walk using q1
      exact ⟨_, rfl, h⟩
theorem enum_begins1 {prog : Program} {w : World} {A : Around} {E : Value → Shared → Prop} {s : Shared} {v : Value} {o : Obj} {Hy : Heap → Prop} {Q : Value → Shared → Prop} (B : Begins v o Hy) (h1 : Hy s.heap)
    (h : ∀ h', IsEnum h' (s.heap.objs.size + 1) s.heap.objs.size 0 .none → h'.get? s.heap.objs.size = some o → h'.objs.size = s.heap.objs.size + 2 →
      (∀ b o, s.heap.get? b = some o → h'.get? b = some o) → Q (.ref (s.heap.objs.size + 1)) { s with heap := h' }) :
    wpAny (model prog w) A (call (.type "enumerate") [v]) Q E s := by
  refine callType_new F.called_enumerate (by decide) (F.typeCall_enumerate_1 _) (F.newCall_enumerate_1 _) (fun obj => F.args_object_init_2 obj _) F.entry_enumerate_new
    (meets_enum1 B) ⟨h1, ?_⟩
  have hz : (s.heap.push o).objs.size = s.heap.objs.size + 1 := Heap.size_push ..
  show _ ∧ _
  rw [hz]
  have he : IsEnum ((s.heap.push o).push { cls := .type "enumerate", data := .fields #[.none, .bool false, .ref s.heap.objs.size, rawInt 0, .none, .none] }) (s.heap.objs.size + 1) s.heap.objs.size 0 .none := by
    have := Heap.get?_push_size (s.heap.push o) (o := { cls := .type "enumerate", data := .fields #[.none, .bool false, .ref s.heap.objs.size, rawInt 0, .none, .none] }) rfl
    rw [hz] at this; exact this
  refine ⟨⟨_, he, rfl⟩, h _ he (Heap.get?_push_of_some _ (Heap.get?_push_size _ B.free)) (by rw [Heap.size_push, hz]) fun b o x => Heap.get?_push_of_some _ (Heap.get?_push_of_some _ x)⟩

/-! ### lists and tuples alike -/
def SqB (K : PySem.W.Frag) (t : Bool) (H : Hp) (a : Addr) (xs : List V) : Prop := match t with
  | true => SqT K H a xs
  | false => SqL K H a xs
def ItB (t : Bool) (h : Heap) (it a : Addr) (i : Nat) : Prop := match t with
  | true => h.IsTupleIter it a i
  | false => h.IsListIter it a i
def SeB (t : Bool) (h : Heap) (a : Addr) (items : Array Value) : Prop := match t with
  | true => h.IsTuple a items
  | false => h.IsList a items
def obB (t : Bool) (a : Addr) : Obj := match t with
  | true => { cls := .type "tuple_iterator", data := .fields #[.ref a, .int 0 0] }
  | false => { cls := .type "list_iterator", data := .fields #[.ref a, .int 0 0] }
section
variable {X : Cx} {pins : List (Addr × Obj)} {σ : L2.St} {H : Hp} {s : Shared} {t t2 : Bool} {a b : Addr} {xs ys : List V}
theorem sqB (I : Inv X pins σ H s) (h : SqB X.K t H a xs) : ∃ its : List Value, Vals xs its ∧ SeB t s.heap a its.toArray ∧ a < s.heap.objs.size ∧ xs.length ≤ sizeLine := by
  cases t with
  | true =>
    obtain ⟨its, r, p, z⟩ := I.tuple h
    exact ⟨its, r, p, p.lt, z⟩
  | false =>
    obtain ⟨its, r, p, z⟩ := I.list h
    exact ⟨its, r, p.isList, p.lt, z⟩
theorem sqB_inj (I : Inv X pins σ H s) (h : SqB X.K t H a xs) (h' : SqB X.K t H a ys) : xs = ys := by
  cases t with
  | true => exact I.tuple_inj h h'
  | false => exact I.list_inj h h'
theorem begB (t : Bool) (a : Addr) (items : Array Value) : Begins (.ref a) (obB t a) (fun h => SeB t h a items) := by
  cases t with
  | true => exact begins_tuple a items
  | false => exact begins_list a items
theorem itB_new {h : Heap} {it a : Addr} (e : h.get? it = some (obB t a)) : ItB t h it a 0 := by
  cases t with
  | true => exact ⟨_, e, rfl, rfl⟩
  | false => exact ⟨_, e, rfl, rfl⟩
theorem itB_some {h : Heap} {it a : Addr} {i : Nat} (e : ItB t h it a i) : ∃ o, h.get? it = .some o ∧ ∀ v, o.data ≠ .cell v := by
  cases t with
  | true => obtain ⟨o, h1, _, h2⟩ := e; exact ⟨o, h1, fun v q => by rw [h2] at q; cases q⟩
  | false => obtain ⟨o, h1, _, h2⟩ := e; exact ⟨o, h1, fun v q => by rw [h2] at q; cases q⟩
theorem itB_at {h h' : Heap} {it a : Addr} {i : Nat} (e : ItB t h it a i) (k : ∀ o, h.get? it = some o → h'.get? it = some o) : ItB t h' it a i := by
  cases t with
  | true => obtain ⟨o, h1, h2⟩ := e; exact ⟨o, k o h1, h2⟩
  | false => obtain ⟨o, h1, h2⟩ := e; exact ⟨o, k o h1, h2⟩
theorem SeB.neIt {h : Heap} {it a : Addr} {i : Nat} {items : Array Value} {u : Addr} (e : ItB t h it u i) (q : SeB t2 h a items) : a ≠ it := fun z => by
  subst z
  cases t <;> cases t2 <;>
  · obtain ⟨o, h1, h2, h3⟩ := e
    obtain ⟨o', g1, g2, g3⟩ := q
    rw [h1] at g1
    cases g1
    rw [h2] at g2
    simp at g2
theorem drawsB {prog : Program} {w : World} {A : Around} (hh : A.handled = none) (t : Bool) (it a : Addr) (hne : a ≠ it) (items : Array Value) :
    Draws prog w A it [it, a] items.size (fun i v => items[i]? = some v) (fun i h => ItB t h it a i ∧ SeB t h a items) := by
  cases t with
  | true => exact Draws.tuple hh it a hne items
  | false => exact Draws.list hh it a hne items
/-- one item by a walk of tuples -/
theorem item_walk {fp fpW wr : List Addr} {it : Addr} {n : Nat} {Pt : Nat → Array Value → Prop} {St : Nat → Heap → Prop} {Mid : Nat → Addr → Heap → Prop} {E : Value → Shared → Prop} {elts : List Expr} {kk i : Nat} {tpos : Pos} {yld : V → Hp → Prop} {tn : Heap → Prop}
    (I : Inv X pins σ H s) (Wk : WalksT X.prog X.w X.A it fpW wr n Pt St Mid) (hf : ∀ b ∈ fp, FpOk X pins H b) (hw : ∀ b ∈ wr, b ∈ fp) (hl : ∀ b ∈ fp, b < s.heap.objs.size) (hi : i < n) (st : St i s.heap)
    (ht : ∀ h', St (i + 1) h' → (∀ b o, b ∉ wr → s.heap.get? b = some o → h'.get? b = some o) → tn h')
    (y : ∀ vals, Pt i vals → ∃ zs, Vals zs vals.toList ∧ zs.length ≤ sizeLine ∧ ∀ T, H T = none → yld (.ref T) (upd H T (.tup zs))) :
    wpAny (model X.prog X.w) X.A (pyNext (.ref it)) (fun r s1 => ∃ u, r = some u ∧
      wpAny (model X.prog X.w) X.A (letOwnedTupleGo (.Tuple elts kk tpos) (.ref it) u) (fun _ s2 => ∃ x H', Inv X pins σ H' s2 ∧ RelV x u ∧ yld x H' ∧ tn s2.heap ∧ ∀ b ∈ fp, H' b = none) E s1) E s := by
  refine Wk.item i s _ _ hi st fun T vals h' tk hP hT hT2 hm hk => ?_
  refine ⟨_, rfl, Wk.go elts kk tpos i T _ _ _ hm fun h'' hst hk2 => ?_⟩
  obtain ⟨zs, r, hz, q⟩ := y vals hP
  have hTn : T ∉ wr := Wk.apart i T _ hm
  have kk' : ∀ b o, b ∉ wr → s.heap.get? b = some o → h''.get? b = some o := fun b o hb e => hk2 b o hb (hk b o hb e)
  obtain ⟨ob, e1, e2, n1, e3⟩ := hT2
  have new : ObjOk X.prog X.w (upd H T (.tup zs)) h'' T (.tup zs) := ⟨hz, vals.toList, r, ob, hk2 T ob hTn e1, e2, n1, by simpa using e3⟩
  have hTN : H T = none := I.hok.fresh hT
  have I1 : Inv X pins σ (upd H T (.tup zs)) { s with heap := h'', toks := tk } := I.turnedNew (t' := tk) (ch := wr) kk' (fun b hb => hf b (hw b hb)) hT new
  refine ⟨.ref T, _, I1, rfl, q T hTN, ht h'' hst kk', fun b hb => ?_⟩
  rw [upd_ne (Nat.ne_of_lt (Nat.lt_of_lt_of_le (hl b hb) hT))]
  exact (hf b hb).1
end

/-! ### enumerate -/
def IteB (K : PySem.W.Frag) (t : Bool) (a : Addr) : It :=
  ⟨fun i H => ∃ (xs : List V) (x : V), SqB K t H a xs ∧ xs[i]? = some x, fun i H v H' => ∃ T x, v = .ref T ∧ H T = none ∧ H' = upd H T (.tup [.int (i : Nat), x]) ∧ ∀ xs, SqB K t H a xs → xs[i]? = some x, fun i H => ∃ xs : List V, SqB K t H a xs ∧ xs.length = i⟩
theorem turn_enumB {P : Program} {w : World} {K : PySem.W.Frag} {elts : List Expr} {kk : Nat} {tpos : Pos} (t : Bool) (a e it : Addr) (hae : a ≠ e) :
    Turn P w K (.Tuple elts kk tpos) (IteB K t a) [e, it] e (fun i h => (∃ old, IsEnum h e it ((i : Nat) : Int) old) ∧ ItB t h it a i ∧ e ≠ it) where
  mem := by simp
  obj := fun i h st b hb => by
    obtain ⟨⟨old, he⟩, hi, _⟩ := st
    have e' : b = e ∨ b = it := by simpa using hb
    rcases e' with z | z
    · rw [z]; exact ⟨_, he, fun v q => nomatch q⟩
    · rw [z]; exact itB_some hi
  keep := fun i h h' st k => let ⟨⟨old, he⟩, hi, hne⟩ := st; ⟨⟨old, k e (by simp) _ he⟩, itB_at hi fun o q => k it (by simp) o q, hne⟩
  item := by
    intro X hP hw hK hc i pins s σ H E I hf st hg
    subst hP hw hK
    obtain ⟨⟨old, he⟩, hit, hne⟩ := st
    obtain ⟨xs, x, hq, hx⟩ := hg
    obtain ⟨its, rv, p, hla, hz⟩ := sqB I hq
    obtain ⟨u, hu, ru⟩ := rv.get hx
    have hai : a ≠ it := SeB.neIt hit p
    have Dr := drawsB (prog := X.prog) (w := X.w) (A := X.A.in1) (I.ok.hd hc) t it a hai its.toArray
    have Wk := WalksT.enumFrom 0 Dr e hne (by simp only [List.mem_cons, List.not_mem_nil, or_false, not_or]; exact ⟨hne, fun z => hae z.symm⟩) (by simp)
    refine item_walk (yld := fun v H' => (IteB X.K t a).yld i H v H') (tn := fun h => (∃ old, IsEnum h e it ((i + 1 : Nat) : Int) old) ∧ ItB t h it a (i + 1) ∧ e ≠ it) I Wk hf (fun b hb => hb) (fun b hb => ?_) (i := i) ?_ ⟨⟨old, by rw [Int.zero_add]; exact he⟩, hit, p⟩ (fun h' st' _ => ?_) fun vals hv => ?_
    · have e' : b = e ∨ b = it := by simpa using hb
      rcases e' with z | z
      · rw [z]; exact Heap.lt_size he
      · rw [z]; obtain ⟨o, q, _⟩ := itB_some hit; exact Heap.lt_size q
    · have := (List.getElem?_eq_some_iff.mp hu).1
      simpa using this
    · obtain ⟨⟨old', he'⟩, hi', _⟩ := st'
      exact ⟨⟨old', by rw [Int.zero_add] at he'; exact he'⟩, hi', hne⟩
    · obtain ⟨tk, v, h1, h2⟩ := hv
      subst h2
      have hvu : v = u := by
        have h1' : its[i]? = some v := by simpa using h1
        rw [hu] at h1'
        exact (Option.some.inj h1').symm
      subst hvu
      refine ⟨[.int (i : Nat), x], .cons ⟨_, by rw [Int.zero_add]⟩ (.cons ru .nil), by show 2 ≤ sizeLine; decide, fun T hT => ⟨T, x, rfl, hT, rfl, fun ys hy => ?_⟩⟩
      rw [sqB_inj I hy hq]; exact hx
  done := by
    intro X hP hw hK hc i pins s σ H E I hf st hg
    subst hP hw hK
    obtain ⟨⟨old, he⟩, hit, hne⟩ := st
    obtain ⟨xs, hq, hx⟩ := hg
    obtain ⟨its, rv, p, hla, hz⟩ := sqB I hq
    have hai : a ≠ it := SeB.neIt hit p
    have hl := rv.length
    have Dr := drawsB (prog := X.prog) (w := X.w) (A := X.A.in1) (I.ok.hd hc) t it a hai its.toArray
    have hst : ItB t s.heap it a its.toArray.size ∧ SeB t s.heap a its.toArray := ⟨by rw [List.size_toArray, ← hl, hx]; exact hit, p⟩
    exact wpAny_pyNext_enum_endD Dr he hst fun h' hxk => ⟨rfl, I.turnedL (t' := s.toks) (ch := [e, it]) (fun b o hb y => hxk b o (fun e' => hb (by simp [e'])) y) hf⟩
  self := fun A i s Q E st h => let ⟨⟨_, he⟩, _⟩ := st; wpAny_pyIter_enum he h
def iEnumB (K : PySem.W.Frag) (ta : TA) : TI := fun σ H R => ta σ H fun vs H1 => ∃ t a xs, vs = [.ref a] ∧ SqB K t H1 a xs ∧ R (IteB K t a) H1
theorem pi_enumB {X : Cx} {e : Expr} {ta : TA} {p pos tpos : Pos} {elts : List Expr} {kk : Nat} (hg : Gl X "enumerate") (hm : X.mg "enumerate" = none) (ha : PA X [e] ta) (hs : starEach [e] X.env = [(false, eval e X.env)] := by rfl) :
    PI X (.Tuple elts kk tpos) (.Call (.Name "enumerate" p) [e] [] pos) (iEnumB X.K ta) := by
  refine ⟨fun pins s σ H R I h => ?_⟩
  refine Call_ (ld_blt I hg hm PyProof.Rows.boot_enumerate (PyProof.Rows.callWith_type1 (thn (ha.run pos pins s σ H _ I h) fun us s1 ⟨vs, H1, I1, r1, q1⟩ => ?_) hs rfl))
  obtain ⟨t, a, xs, ex, hq, q⟩ := q1
  subst ex
  cases r1 with
  | cons r rr =>
    cases rr
    cases r
    obtain ⟨its, rv, p', hla, hz⟩ := sqB I1 hq
    refine enum_begins1 (begB t a its.toArray) p' fun h' he hit hsz hk => wpAny_pyIter_enum he ?_
    have I2 : Inv X pins σ H1 { s1 with heap := h' } := I1.kept (t' := s1.toks) hk
    refine ⟨s1.heap.objs.size + 1, [s1.heap.objs.size + 1, s1.heap.objs.size], _, _, H1, rfl, I2, turn_enumB t a (s1.heap.objs.size + 1) s1.heap.objs.size (Nat.ne_of_lt (Nat.lt_succ_of_lt hla)), ⟨⟨.none, he⟩, itB_new hit, Nat.succ_ne_self _⟩, fun b hb => ?_, q⟩
    have e' : b = s1.heap.objs.size + 1 ∨ b = s1.heap.objs.size := by simpa using hb
    have hle : s1.heap.objs.size ≤ b := by
      rcases e' with z | z
      · rw [z]; exact Nat.le_add_right _ _
      · rw [z]; exact Nat.le_refl _
    exact I1.fpOk hle (I1.hok.fresh hle)

/-! ### zip of two -/
def ItzB (K : PySem.W.Frag) (t t2 : Bool) (a b : Addr) : It :=
  ⟨fun i H => ∃ (xs ys : List V) (x y : V), SqB K t H a xs ∧ SqB K t2 H b ys ∧ xs[i]? = some x ∧ ys[i]? = some y,
    fun i H v H' => ∃ T x y, v = .ref T ∧ H T = none ∧ H' = upd H T (.tup [x, y]) ∧ (∀ xs, SqB K t H a xs → xs[i]? = some x) ∧ ∀ ys, SqB K t2 H b ys → ys[i]? = some y,
    fun i H => ∃ xs ys : List V, SqB K t H a xs ∧ SqB K t2 H b ys ∧ min xs.length ys.length = i⟩
theorem turn_zipB {P : Program} {w : World} {K : PySem.W.Frag} {elts : List Expr} {kk : Nat} {tpos : Pos} (t t2 : Bool) (a b N : Addr) (ha : a < N) (hb : b < N) :
    Turn P w K (.Tuple elts kk tpos) (ItzB K t t2 a b) [N + 4, N + 2, N + 3, N, N + 1] (N + 4) (fun i h => IsZip h (N + 4) (N + 2) (N + 3) .none ∧ IsTupOf2 h (N + 2) (.ref N) (.ref (N + 1)) ∧ (∃ x y, IsTupOf2 h (N + 3) x y) ∧ ItB t h N a i ∧ ItB t2 h (N + 1) b i) where
  mem := by simp
  obj := fun i h st c hc => by
    obtain ⟨hz, hTI, ⟨x, y, hTO⟩, h1, h2⟩ := st
    have e' : c = N + 4 ∨ c = N + 2 ∨ c = N + 3 ∨ c = N ∨ c = N + 1 := by simpa using hc
    rcases e' with q | q | q | q | q
    · rw [q]; exact ⟨_, hz, fun v q => nomatch q⟩
    · rw [q]; exact ⟨_, hTI, fun v q => nomatch q⟩
    · rw [q]; exact ⟨_, hTO, fun v q => nomatch q⟩
    · rw [q]; exact itB_some h1
    · rw [q]; exact itB_some h2
  keep := fun i h h' st k => by
    obtain ⟨hz, hTI, ⟨x, y, hTO⟩, h1, h2⟩ := st
    exact ⟨k (N + 4) (by simp) _ hz, k (N + 2) (by simp) _ hTI, ⟨x, y, k (N + 3) (by simp) _ hTO⟩, itB_at h1 fun o q => k N (by simp) o q, itB_at h2 fun o q => k (N + 1) (by simp) o q⟩
  item := by
    intro X hP hw hK hc i pins s σ H E I hf st hg
    subst hP hw hK
    obtain ⟨hz, hTI, ⟨x0, y0, hTO⟩, h1, h2⟩ := st
    obtain ⟨xs, ys, x, y, hqx, hqy, hx, hy⟩ := hg
    obtain ⟨its, rv, p, _, _⟩ := sqB I hqx
    obtain ⟨its2, rv2, p2, _, _⟩ := sqB I hqy
    obtain ⟨u, hu, ru⟩ := rv.get hx
    obtain ⟨u2, hu2, ru2⟩ := rv2.get hy
    have D1 := drawsB (prog := X.prog) (w := X.w) (A := X.A.in1) (I.ok.hd hc) t N a (Nat.ne_of_lt ha) its.toArray
    have D2 := drawsB (prog := X.prog) (w := X.w) (A := X.A.in1) (I.ok.hd hc) t2 (N + 1) b (Nat.ne_of_lt (Nat.lt_succ_of_lt hb)) its2.toArray
    have Wk := WalksT.zipD2 (zip_sep2 (N := N) (fp1 := [a]) (fp2 := [b]) (by simpa using ha) (by simpa using hb)) D1 D2
    have l1 : i < its.length := (List.getElem?_eq_some_iff.mp hu).1
    have l2 : i < its2.length := (List.getElem?_eq_some_iff.mp hu2).1
    refine item_walk (yld := fun v H' => (ItzB X.K t t2 a b).yld i H v H') (tn := fun h => IsZip h (N + 4) (N + 2) (N + 3) .none ∧ IsTupOf2 h (N + 2) (.ref N) (.ref (N + 1)) ∧ (∃ x y, IsTupOf2 h (N + 3) x y) ∧ ItB t h N a (i + 1) ∧ ItB t2 h (N + 1) b (i + 1)) I Wk hf (fun c hc => ?_) (fun c hcm => ?_) (i := i) (by rw [List.size_toArray, List.size_toArray]; omega) ⟨hz, hTI, ⟨x0, y0, hTO⟩, ⟨h1, p⟩, ⟨h2, p2⟩⟩ (fun h' st' _ => ?_) fun vals hv => ?_
    · have e' : c = N + 4 ∨ c = N + 3 ∨ c = N ∨ c = N + 1 := by simpa using hc
      rcases e' with q | q | q | q <;> rw [q] <;> simp
    · have e' : c = N + 4 ∨ c = N + 2 ∨ c = N + 3 ∨ c = N ∨ c = N + 1 := by simpa using hcm
      rcases e' with q | q | q | q | q
      · rw [q]; exact Heap.lt_size hz
      · rw [q]; exact Heap.lt_size hTI
      · rw [q]; exact Heap.lt_size hTO
      · rw [q]; obtain ⟨_, e1, _⟩ := itB_some h1; exact Heap.lt_size e1
      · rw [q]; obtain ⟨_, e1, _⟩ := itB_some h2; exact Heap.lt_size e1
    · obtain ⟨g1, g2, g3, g4, g5⟩ := st'
      exact ⟨g1, g2, g3, g4.1, g5.1⟩
    · obtain ⟨v1, v2, w1, w2, w3⟩ := hv
      subst w3
      have e1 : v1 = u := by
        have q : its[i]? = some v1 := by simpa using w1
        rw [hu] at q
        exact (Option.some.inj q).symm
      have e2 : v2 = u2 := by
        have q : its2[i]? = some v2 := by simpa using w2
        rw [hu2] at q
        exact (Option.some.inj q).symm
      subst e1 e2
      refine ⟨[x, y], .cons ru (.cons ru2 .nil), by show 2 ≤ sizeLine; decide, fun T hT => ⟨T, x, y, rfl, hT, rfl, fun l hl => ?_, fun l hl => ?_⟩⟩
      · rw [sqB_inj I hl hqx]; exact hx
      · rw [sqB_inj I hl hqy]; exact hy
  done := by
    intro X hP hw hK hc i pins s σ H E I hf st hg
    subst hP hw hK
    obtain ⟨hz, hTI, ⟨x0, y0, hTO⟩, h1, h2⟩ := st
    obtain ⟨xs, ys, hqx, hqy, hend⟩ := hg
    obtain ⟨its, rv, p, _, _⟩ := sqB I hqx
    obtain ⟨its2, rv2, p2, _, _⟩ := sqB I hqy
    have D1 := drawsB (prog := X.prog) (w := X.w) (A := X.A.in1) (I.ok.hd hc) t N a (Nat.ne_of_lt ha) its.toArray
    have D2 := drawsB (prog := X.prog) (w := X.w) (A := X.A.in1) (I.ok.hd hc) t2 (N + 1) b (Nat.ne_of_lt (Nat.lt_succ_of_lt hb)) its2.toArray
    have Wk := WalksT.zipD2 (zip_sep2 (N := N) (fp1 := [a]) (fp2 := [b]) (by simpa using ha) (by simpa using hb)) D1 D2
    have hi : i = min its.toArray.size its2.toArray.size := by rw [List.size_toArray, List.size_toArray, ← rv.length, ← rv2.length]; exact hend.symm
    subst hi
    refine Wk.done s _ _ ⟨hz, hTI, ⟨x0, y0, hTO⟩, ⟨h1, p⟩, ⟨h2, p2⟩⟩ fun h' tk hk => ⟨rfl, I.turnedL (t' := tk) (ch := [N + 4, N + 3, N, N + 1]) hk fun c hc => hf c ?_⟩
    have e' : c = N + 4 ∨ c = N + 3 ∨ c = N ∨ c = N + 1 := by simpa using hc
    rcases e' with q | q | q | q <;> rw [q] <;> simp
  self := fun A i s Q E st h => wpAny_pyIter_zip st.1 h
def iZipB (K : PySem.W.Frag) (ta : TA) : TI := fun σ H R => ta σ H fun vs H1 => ∃ t t2 a b xs ys, vs = [.ref a, .ref b] ∧ SqB K t H1 a xs ∧ SqB K t2 H1 b ys ∧ R (ItzB K t t2 a b) H1
theorem pi_zipB {X : Cx} {e e2 : Expr} {ta : TA} {p pos tpos : Pos} {elts : List Expr} {kk : Nat} (hg : Gl X "zip") (hm : X.mg "zip" = none) (ha : PA X [e, e2] ta)
    (hs : starEach [e, e2] X.env = (false, eval e X.env) :: starEach [e2] X.env := by rfl) (hpl : (backTo pos (starEach [e2] X.env)).any (·.1) = false := by rfl) :
    PI X (.Tuple elts kk tpos) (.Call (.Name "zip" p) [e, e2] [] pos) (iZipB X.K ta) := by
  refine ⟨fun pins s σ H R I h => ?_⟩
  refine Call_ (ld_blt I hg hm PyProof.Rows.boot_zip (PyProof.Rows.callWith_type1 (thn (ha.run pos pins s σ H _ I h) fun us s1 ⟨vs, H1, I1, r1, q1⟩ => ?_) hs hpl))
  obtain ⟨t, t2, a, b, xs, ys, ex, hqx, hqy, q⟩ := q1
  subst ex
  cases r1 with
  | cons r rr =>
    cases rr with
    | cons r' rr =>
      cases rr
      cases r
      cases r'
      obtain ⟨its, rv, p1, la, _⟩ := sqB I1 hqx
      obtain ⟨its2, rv2, p2, lb, _⟩ := sqB I1 hqy
      refine zip_begins2 (begB t a its.toArray) (begB t2 b its2.toArray) p1 p2 fun h' hz hTI hTO h1 h2 hsz hk => wpAny_pyIter_zip hz ?_
      have I2 : Inv X pins σ H1 { s1 with heap := h' } := I1.kept (t' := s1.toks) hk
      refine ⟨s1.heap.objs.size + 4, [s1.heap.objs.size + 4, s1.heap.objs.size + 2, s1.heap.objs.size + 3, s1.heap.objs.size, s1.heap.objs.size + 1], _, _, H1, rfl, I2, turn_zipB t t2 a b s1.heap.objs.size la lb, ⟨hz, hTI, ⟨_, _, hTO⟩, itB_new h1, itB_new h2⟩, fun c hcm => ?_, q⟩
      have e' : c = s1.heap.objs.size + 4 ∨ c = s1.heap.objs.size + 2 ∨ c = s1.heap.objs.size + 3 ∨ c = s1.heap.objs.size ∨ c = s1.heap.objs.size + 1 := by simpa using hcm
      have hle : s1.heap.objs.size ≤ c := by
        rcases e' with z | z | z | z | z
        · rw [z]; exact Nat.le_add_right _ _
        · rw [z]; exact Nat.le_add_right _ _
        · rw [z]; exact Nat.le_add_right _ _
        · rw [z]; exact Nat.le_refl _
        · rw [z]; exact Nat.le_add_right _ _
      exact I1.fpOk hle (I1.hok.fresh hle)

/-! ### a list or a tuple -/
theorem pi_seqB {X : Cx} {tg l : Expr} {tl : TE} (hl : PE X l tl) : PI X tg l (fun σ H R => tl σ H fun x H1 => ∃ a, x = .ref a ∧ (((∃ xs, SqL X.K H1 a xs) ∧ R (Itl X.K a) H1) ∨ ((∃ xs, SqT X.K H1 a xs) ∧ R (Itt X.K a) H1))) := by
  refine ⟨fun pins s σ H R I h => ?_⟩
  refine thn (hl.run pins s σ H _ I h) fun v s1 ⟨x, H1, I1, r1, q1⟩ => ?_
  obtain ⟨a, e, q1⟩ := q1
  subst e
  cases r1
  have fp : ∀ b ∈ [s1.heap.objs.size], FpOk X pins H1 b := fun b hb => by
    have e : b = s1.heap.objs.size := by simpa using hb
    subst e
    exact I1.fpOk (Nat.le_refl _) (I1.hok.fresh (Nat.le_refl _))
  rcases q1 with ⟨⟨xs, hq⟩, q⟩ | ⟨⟨xs, hq⟩, q⟩
  · obtain ⟨its, rv, p, hz⟩ := I1.list hq
    refine wpAny_pyIter_list p.isList ?_
    exact ⟨s1.heap.objs.size, [s1.heap.objs.size], _, _, H1, rfl, I1.kept (t' := s1.toks) fun b o e => Heap.get?_push_of_some _ e, turn_list a _, ⟨_, Heap.get?_push_size _ rfl, rfl, rfl⟩, fp, q⟩
  · obtain ⟨its, rv, p, hz⟩ := I1.tuple hq
    refine wpAny_pyIter_tuple (show s1.heap.IsTuple a its.toArray from p) ?_
    exact ⟨s1.heap.objs.size, [s1.heap.objs.size], _, _, H1, rfl, I1.kept (t' := s1.toks) fun b o e => Heap.get?_push_of_some _ e, turn_tuple a _, ⟨_, Heap.get?_push_size _ rfl, rfl, rfl⟩, fp, q⟩
end DL

/-! DL, part 8: loops and comprehensions by data. -/
namespace DL
open PySem L2

/-- J walks the data ds while Gp is seen -/
structure IsIt (c : C) (J : It) (ds : List D) (Gp : Hp → Prop) : Prop where
  mo : Mono Gp
  goes : ∀ (i : Nat) H O, i < ds.length → Gp (hid H O) → J.go i H
  stops : ∀ H O, Gp (hid H O) → J.stop ds.length H
  yields : ∀ (i : Nat) H O x H', i < ds.length → Gp (hid H O) → (∀ b ∈ O, ∃ o, H b = some o) → J.yld i H x H' → Ex H H' ∧ ∃ d, ds[i]? = some d ∧ Rep c.K c.mg (hid H' O) x d
/-- the reading of what is walked -/
def tI (c : C) (W : WX) (f : M (List D)) : TI := fun σ H R => ∃ O Γ ρ, SR c O Γ H σ ρ ∧ match f ρ with
  | .ok ds ρ' => ∀ J H' Gp, Stp c.T σ ρ ρ' H H' → SR c O Γ H' σ ρ' → IsIt c J ds Gp → Gp (hid H' O) → ds.length ≤ sizeLine → R J H'
  | .er x ρ' => ∀ cls d H', Stp c.T σ ρ ρ' H H' → SR c O Γ H' σ ρ' → XR c.K c.mg (hid H' O) x cls d → W cls d σ H'
  | .no => False
def M.items (f : M D) : M (List D) := f.bind fun d => M.lift (d.items).good
def D.enumL : List D → R (List D)
  | [d] => (match d.items with | .ok l => .ok (l.mapIdx fun i d => .tup [.int (i : Nat), d]) | _ => .no)
  | _ => .no
def D.zipL : List D → R (List D)
  | [a, b] => (match a.items, b.items with | .ok l, .ok m => .ok ((l.zip m).map fun p => .tup [p.1, p.2]) | _, _ => .no)
  | _ => .no
def rangeD (lo : Int) (n : Nat) : List D := (List.range n).map fun i => .int (lo + (i : Nat))
def D.range1L : List D → R (List D)
  | [.int n] => if n ≤ 16777216 ∧ -(2 ^ 62) ≤ n then .ok (rangeD 0 n.toNat) else .no
  | _ => .no
def D.range2L : List D → R (List D)
  | [.int m, .int n] => if -(2 ^ 62) ≤ m ∧ m < 2 ^ 62 ∧ -(2 ^ 62) ≤ n ∧ n < 2 ^ 62 ∧ (n - m) ≤ 16777216 then .ok (rangeD m (n - m).toNat) else .no
  | _ => .no
def M.enum (f : M (List D)) : M (List D) := f.bind fun ds => M.lift (D.enumL ds).good
def M.zip (f : M (List D)) : M (List D) := f.bind fun ds => M.lift (D.zipL ds).good
def M.range1 (f : M (List D)) : M (List D) := f.bind fun ds => M.lift (D.range1L ds).good
def M.range2 (f : M (List D)) : M (List D) := f.bind fun ds => M.lift (D.range2L ds).good
theorem R.good_ok {α : Type} {r : R α} {a : α} (h : r.good = .ok a) : r = .ok a := by
  cases r with
  | ok b => exact h
  | er x => cases h
  | no => cases h
section
variable {c : C} {X : Cx} {W : WX} {O : List Addr} {Γ : Hp → Prop} {σ : L2.St} {H : Hp} {ρ : Env} {e e2 tg : Expr} {f : M D} {f2 : M (List D)} {pos p tpos : Pos} {elts : List Expr} {kk : Nat}
theorem isIt_list {a : Addr} {vs : List V} {ds : List D} : IsIt c (Itl c.K a) ds (fun G => SqL c.K G a vs ∧ RepL c.K c.mg G vs ds) where
  mo := fun G G' x h => ⟨x.sql h.1, h.2.mono x⟩
  goes := fun i H O hi h => ⟨vs, vs[i]'(by rw [h.2.length]; exact hi), (ex_hid H O).sql h.1, by simp [h.2.length, hi]⟩
  stops := fun H O h => ⟨vs, (ex_hid H O).sql h.1, by rw [h.2.length]; exact Nat.le_refl _⟩
  yields := fun i H O x H' hi h _ y => by
    obtain ⟨e, y⟩ := y
    subst e
    obtain ⟨d, h1, h2⟩ := h.2.getV (y vs ((ex_hid H' O).sql h.1))
    exact ⟨Ex.refl _, d, h1, h2⟩
theorem isIt_tup {a : Addr} {vs : List V} {ds : List D} : IsIt c (Itt c.K a) ds (fun G => SqT c.K G a vs ∧ RepL c.K c.mg G vs ds) where
  mo := fun G G' x h => ⟨x.sqt h.1, h.2.mono x⟩
  goes := fun i H O hi h => ⟨vs, vs[i]'(by rw [h.2.length]; exact hi), (ex_hid H O).sqt h.1, by simp [h.2.length, hi]⟩
  stops := fun H O h => ⟨vs, (ex_hid H O).sqt h.1, by rw [h.2.length]; exact Nat.le_refl _⟩
  yields := fun i H O x H' hi h _ y => by
    obtain ⟨e, y⟩ := y
    subst e
    obtain ⟨d, h1, h2⟩ := h.2.getV (y vs ((ex_hid H' O).sqt h.1))
    exact ⟨Ex.refl _, d, h1, h2⟩
theorem isIt_range {lo : Int} {n : Nat} : IsIt c (Itr lo n) (rangeD lo n) (fun _ => True) where
  mo := fun _ _ _ _ => trivial
  goes := fun i H O hi _ => by show i < n; simpa [rangeD] using hi
  stops := fun H O _ => by show n ≤ _; simp [rangeD]
  yields := fun i H O x H' hi _ _ y => by
    obtain ⟨e, y⟩ := y
    subst e y
    have hi' : i < n := by simpa [rangeD] using hi
    exact ⟨Ex.refl _, .int (lo + i), by simp [rangeD, hi'], .int _⟩
theorem SqB.mono {K : PySem.W.Frag} {t : Bool} {G G' : Hp} {a : Addr} {xs : List V} (x : Ex G G') (h : SqB K t G a xs) : SqB K t G' a xs := by
  cases t with
  | true => exact x.sqt h
  | false => exact x.sql h
theorem isIt_enum {t : Bool} {a : Addr} {vs : List V} {ds : List D} : IsIt c (IteB c.K t a) (ds.mapIdx fun i d => .tup [.int (i : Nat), d]) (fun G => SqB c.K t G a vs ∧ RepL c.K c.mg G vs ds) where
  mo := fun G G' x h => ⟨SqB.mono x h.1, h.2.mono x⟩
  goes := fun i H O hi h => by
    rw [List.length_mapIdx] at hi
    exact ⟨vs, vs[i]'(by rw [h.2.length]; exact hi), SqB.mono (ex_hid H O) h.1, by simp [h.2.length, hi]⟩
  stops := fun H O h => ⟨vs, SqB.mono (ex_hid H O) h.1, by rw [List.length_mapIdx, h.2.length]⟩
  yields := fun i H O x H' hi h dom y => by
    obtain ⟨T, z, e1, e2, e3, y⟩ := y
    subst e1 e3
    obtain ⟨d, h1, h2⟩ := h.2.getV (y vs (SqB.mono (ex_hid H O) h.1))
    refine ⟨Ex.upd e2, _, by rw [List.getElem?_mapIdx, h1]; rfl, rep_newT dom e2 (.cons (.int _) (.cons h2 .nil)) (by show 2 ≤ sizeLine; decide)⟩
theorem isIt_zip {t t2 : Bool} {a b : Addr} {vs ws : List V} {ds es : List D} : IsIt c (ItzB c.K t t2 a b) ((ds.zip es).map fun p => .tup [p.1, p.2]) (fun G => (SqB c.K t G a vs ∧ RepL c.K c.mg G vs ds) ∧ (SqB c.K t2 G b ws ∧ RepL c.K c.mg G ws es)) where
  mo := fun G G' x h => ⟨⟨SqB.mono x h.1.1, h.1.2.mono x⟩, ⟨SqB.mono x h.2.1, h.2.2.mono x⟩⟩
  goes := fun i H O hi h => by
    rw [List.length_map, List.length_zip] at hi
    have h1 := h.1.2.length
    have h2 := h.2.2.length
    have i1 : i < vs.length := by omega
    have i2 : i < ws.length := by omega
    exact ⟨vs, ws, vs[i], ws[i], SqB.mono (ex_hid H O) h.1.1, SqB.mono (ex_hid H O) h.2.1, by simp [i1], by simp [i2]⟩
  stops := fun H O h => ⟨vs, ws, SqB.mono (ex_hid H O) h.1.1, SqB.mono (ex_hid H O) h.2.1, by rw [List.length_map, List.length_zip, h.1.2.length, h.2.2.length]⟩
  yields := fun i H O x H' hi h dom y => by
    obtain ⟨T, z, z2, e1, e2, e3, y1, y2⟩ := y
    subst e1 e3
    obtain ⟨d, g1, g2⟩ := h.1.2.getV (y1 vs (SqB.mono (ex_hid H O) h.1.1))
    obtain ⟨d', k1, k2⟩ := h.2.2.getV (y2 ws (SqB.mono (ex_hid H O) h.2.1))
    refine ⟨Ex.upd e2, _, by rw [List.getElem?_map, show (ds.zip es)[i]? = some (d, d') from List.getElem?_zip_eq_some.mpr ⟨g1, k1⟩]; rfl, rep_newT dom e2 (.cons g2 (.cons k2 .nil)) (by show 2 ≤ sizeLine; decide)⟩
/-- a tI's shape, from an expression's -/
theorem tI_of {α β : Type} {rel : Hp → β → α → Prop} {f0 : M α} {k : α → DL.R (List D)} {R : It → Hp → Prop} {Q : β → Hp → Prop} (h : tI c W (f0.bind fun a => M.lift (k a).good) σ H R)
    (n : ∀ O Γ ρ1 a ds b H1, (∀ b ∈ O, ∃ o, H1 b = some o) → rel (hid H1 O) b a → k a = .ok ds → (∀ J H' Gp, Ex H1 H' → IsIt c J ds Gp → Gp (hid H' O) → ds.length ≤ sizeLine → R J H') → SR c O Γ H1 σ ρ1 → Q b H1) : tX c W rel f0 σ H Q := by
  obtain ⟨O, Γ, ρ, s, p⟩ := h
  refine ⟨O, Γ, ρ, s, ?_⟩
  unfold M.bind at p
  cases q : f0 ρ with
  | no => rw [q] at p; exact p
  | er x ρ' => rw [q] at p; exact p
  | ok a ρ1 =>
    rw [q] at p
    simp only [RM.bind, M.lift] at p
    intro b H1 st s1 r
    cases q2 : k a with
    | no => rw [q2] at p; exact p.elim
    | er x => rw [q2] at p; exact p.elim
    | ok ds =>
      rw [q2] at p
      exact n O Γ ρ1 a ds b H1 s1.dom r q2 (fun J H' Gp x ii g z => p J H' Gp (st.trans (Stp.of x)) (s1.ext x) ii g z) s1
theorem items_seq {K : PySem.W.Frag} {mg : Str → Option Value} {G : Hp} {v : V} {d : D} {l : List D} (r : Rep K mg G v d) (e : d.items = .ok l) : ∃ t a vs, v = .ref a ∧ SqB K t G a vs ∧ RepL K mg G vs l ∧ l.length ≤ sizeLine := by
  cases r with
  | tup h r z => cases e; exact ⟨true, _, _, rfl, h, r, z⟩
  | lst h r z => cases e; exact ⟨false, _, _, rfl, .inl (.inl h), r, z⟩
  | fls h r z => cases e; exact ⟨false, _, _, rfl, h, r, z⟩
  | _ => cases e
theorem di_seq (g : Gd c X) (he : PE X e (tD c W f)) : PI X tg e (tI c W (M.items f)) := by
  refine PI.imp (pi_seqB he) fun σ H R h => ?_
  refine tI_of h fun O Γ ρ1 d ds v H1 dom r e n s1 => ?_
  obtain ⟨t, a, vs, rfl, hq, hr, z⟩ := items_seq r e
  refine ⟨a, rfl, ?_⟩
  rw [← g.1]
  cases t with
  | true => exact .inr ⟨⟨vs, (ex_hid H1 O).sqt hq⟩, n _ H1 _ (Ex.refl _) isIt_tup ⟨hq, hr⟩ z⟩
  | false => exact .inl ⟨⟨vs, (ex_hid H1 O).sql hq⟩, n _ H1 _ (Ex.refl _) isIt_list ⟨hq, hr⟩ z⟩
theorem di_enum (g : Gd c X) (hm : X.mg "enumerate" = none) (ha : PA X [e] (tDs c W f2)) (hg : Gl X "enumerate" := by rfl) (hs : starEach [e] X.env = [(false, eval e X.env)] := by rfl) :
    PI X (.Tuple elts kk tpos) (.Call (.Name "enumerate" p) [e] [] pos) (tI c W (M.enum f2)) := by
  refine PI.imp (pi_enumB hg hm ha hs) fun σ H R h => ?_
  refine tI_of h fun O Γ ρ1 xs ds vs H1 dom r e n s1 => ?_
  unfold D.enumL at e
  split at e
  · rename_i d
    cases r with
    | cons r r' =>
    cases r' with
    | nil =>
    split at e
    · rename_i l q
      cases e
      obtain ⟨t, a, ws, rfl, hq, hr, z⟩ := items_seq r q
      refine ⟨t, a, ws, rfl, by rw [← g.1]; exact SqB.mono (ex_hid H1 O) hq, ?_⟩
      rw [← g.1]
      exact n _ H1 _ (Ex.refl _) isIt_enum ⟨hq, hr⟩ (by rw [List.length_mapIdx]; exact z)
    · cases e
  · cases e
theorem di_zip (g : Gd c X) (hm : X.mg "zip" = none) (ha : PA X [e, e2] (tDs c W f2)) (hg : Gl X "zip" := by rfl) (hs : starEach [e, e2] X.env = (false, eval e X.env) :: starEach [e2] X.env := by rfl) (hpl : (backTo pos (starEach [e2] X.env)).any (·.1) = false := by rfl) :
    PI X (.Tuple elts kk tpos) (.Call (.Name "zip" p) [e, e2] [] pos) (tI c W (M.zip f2)) := by
  refine PI.imp (pi_zipB hg hm ha hs hpl) fun σ H R h => ?_
  refine tI_of h fun O Γ ρ1 xs ds vs H1 dom r e n s1 => ?_
  unfold D.zipL at e
  split at e
  · rename_i d d'
    cases r with
    | cons r r' =>
    cases r' with
    | cons r2 r' =>
    cases r' with
    | nil =>
    split at e
    · rename_i l m q q2
      cases e
      obtain ⟨t, a, ws, rfl, hq, hr, z⟩ := items_seq r q
      obtain ⟨t', a', ws', rfl, hq', hr', z'⟩ := items_seq r2 q2
      refine ⟨t, t', a, a', ws, ws', rfl, by rw [← g.1]; exact SqB.mono (ex_hid H1 O) hq, by rw [← g.1]; exact SqB.mono (ex_hid H1 O) hq', ?_⟩
      rw [← g.1]
      exact n _ H1 _ (Ex.refl _) isIt_zip ⟨⟨hq, hr⟩, ⟨hq', hr'⟩⟩ (by rw [List.length_map, List.length_zip]; omega)
    · cases e
  · cases e
theorem di_range1 (hm : X.mg "range" = none) (ha : PA X [e] (tDs c W f2)) (hg : Gl X "range" := by rfl) (hs : starEach [e] X.env = [(false, eval e X.env)] := by rfl) :
    PI X tg (.Call (.Name "range" p) [e] [] pos) (tI c W (M.range1 f2)) := by
  refine PI.imp (pi_range1 hg hm ha hs) fun σ H R h => ?_
  refine tI_of h fun O Γ ρ1 xs ds vs H1 dom r e n s1 => ?_
  unfold D.range1L at e
  split at e
  · cases r with
    | cons r r' =>
    cases r' with
    | nil =>
    cases r with
    | int i =>
    split at e
    · rename_i hz
      cases e
      exact ⟨_, rfl, hz.2, by omega, n _ H1 _ (Ex.refl _) isIt_range trivial (by rw [sizeLine_eq]; simp [rangeD]; omega)⟩
    · cases e
  · cases e
theorem di_range2 (hm : X.mg "range" = none) (ha : PA X [e, e2] (tDs c W f2)) (hg : Gl X "range" := by rfl) (hs : starEach [e, e2] X.env = [(false, eval e X.env), (false, eval e2 X.env)] := by rfl) (hs2 : starEach [e2] X.env = [(false, eval e2 X.env)] := by rfl) :
    PI X tg (.Call (.Name "range" p) [e, e2] [] pos) (tI c W (M.range2 f2)) := by
  refine PI.imp (pi_range2 hg hm ha hs hs2) fun σ H R h => ?_
  refine tI_of h fun O Γ ρ1 xs ds vs H1 dom r e n s1 => ?_
  unfold D.range2L at e
  split at e
  · cases r with
    | cons r r' =>
    cases r' with
    | cons r2 r' =>
    cases r' with
    | nil =>
    cases r with
    | int i =>
    cases r2 with
    | int j =>
    split at e
    · rename_i hz
      cases e
      exact ⟨_, _, rfl, ⟨hz.1, hz.2.1, hz.2.2.1, hz.2.2.2.1⟩, n _ H1 _ (Ex.refl _) isIt_range trivial (by rw [sizeLine_eq]; simp [rangeD]; omega)⟩
    · cases e
  · cases e
end
end DL

/-! DL, part 9: for, while, list comprehensions. -/
namespace DL
open PySem L2

section
variable {c : C} {O : List Addr} {Γ Γ' : Hp → Prop} {H H' : Hp} {σ : L2.St} {ρ : Env}
theorem SR.gm (s : SR c O Γ H σ ρ) (m : Mono Γ') (k : ∀ G, Γ G → Γ' G) : SR c O Γ' H σ ρ := ⟨m, s.len, s.keep, s.sub, s.dom, k _ s.gh, s.sh, s.ow, s.inj, s.io, s.jo, s.tab⟩
theorem SR.gand (s : SR c O Γ H σ ρ) (m : Mono Γ') (h : Γ' (hid H O)) : SR c O (fun G => Γ G ∧ Γ' G) H σ ρ :=
  ⟨fun G G' x h => ⟨s.mo G G' x h.1, m G G' x h.2⟩, s.len, s.keep, s.sub, s.dom, ⟨s.gh, h⟩, s.sh, s.ow, s.inj, s.io, s.jo, s.tab⟩
theorem SR.gfst (s : SR c O (fun G => Γ G ∧ Γ' G) H σ ρ) (m : Mono Γ) : SR c O Γ H σ ρ := s.gm m fun _ h => h.1
end

/-! ### for -/
def forL (t : Tg) (body : S) : List D → Env → Fl
  | [], ρ => .nx ρ
  | d :: ds, ρ => match asgD t d ρ with
    | none => .no
    | some ρ1 => match body ρ1 with
      | .nx ρ2 => forL t body ds ρ2
      | .ct ρ2 => forL t body ds ρ2
      | .bk ρ2 => .nx ρ2
      | .rt d ρ2 => .rt d ρ2
      | .er x ρ2 => .er x ρ2
      | .no => .no
def S.for (fi : M (List D)) (t : Tg) (body : S) : S := fun ρ => match fi ρ with
  | .ok ds ρ1 => forL t body ds ρ1
  | .er x ρ' => .er x ρ'
  | .no => .no
section
variable {c : C} {X : Cx} {W : WX} {tg iter : Expr} {body : List Stmt} {fi : M (List D)} {t : Tg} {g : S} {pos : Pos}
theorem ds_for (gd : Gd c X) (hp : PassesOwn (model X.prog X.w) X.A X.env X.xe) (hi : PI X tg iter (tI c W fi)) (hg : PG X tg (tG c t)) (hb : PSs X body (tS c W g)) (hs : ∀ x, foldedSetIterable iter X.env x = pure x := by intro _; rfl) :
    PS X (.For tg iter body [] pos) (tS c W (S.for fi t g)) := PS.imp (ps_for hp gd.2.2 hi hg hb hs) fun Z σ H ⟨O, Γ, ρ, s, p⟩ => by
  refine ⟨O, Γ, ρ, s, ?_⟩
  unfold S.for at p
  cases q : fi ρ with
  | no => rw [q] at p; exact p
  | er x ρ' => rw [q] at p; exact fun cls d H1 _ s1 r => p cls d O σ H1 s1 r
  | ok ds ρ1 =>
    rw [q] at p
    intro J H1 Gp _ s1 it hG hz
    have p : postS c W Γ Z (forL t g ds ρ1) := p
    refine ⟨fun i m σ H => m = ds.length - i ∧ i ≤ ds.length ∧ ∃ O ρi, SR c O (fun G => Γ G ∧ Gp G) H σ ρi ∧ postS c W Γ Z (forL t g (ds.drop i) ρi), ⟨ds.length, by simp, Nat.zero_le _, O, ρ1, s1.gand it.mo hG, by simpa using p⟩, ?_⟩
    rintro i m σ2 H2 ⟨rfl, hi, O2, ρi, s2, p2⟩
    by_cases hlt : i < ds.length
    · refine .inr ⟨it.goes i H2 O2 hlt s2.gh.2, _, fun σ' H' h => ⟨ds.length - (i + 1), by omega, rfl, hlt, h⟩, fun x H3 y => ?_⟩
      obtain ⟨ex, d, hd, r⟩ := it.yields i H2 O2 x H3 hlt s2.gh.2 s2.dom y
      have s3 := s2.ext ex
      refine ⟨O2, _, ρi, d, s3, r, ?_⟩
      have e1 : ds.drop i = d :: ds.drop (i + 1) := by
        rw [List.drop_eq_getElem_cons hlt]
        have := (List.getElem?_eq_some_iff.mp hd).2
        rw [this]
      rw [e1] at p2
      unfold forL at p2
      cases q2 : asgD t d ρi with
      | none => rw [q2] at p2; exact p2
      | some ρ3 =>
        rw [q2] at p2
        intro σ4 _ s4
        refine ⟨O2, _, ρ3, s4, ?_⟩
        cases q3 : g ρ3 with
        | nx ρ4 => simp only [q3] at p2; exact fun O' σ' H' s' => ⟨O', ρ4, s', p2⟩
        | ct ρ4 => simp only [q3] at p2; exact fun O' σ' H' s' => ⟨O', ρ4, s', p2⟩
        | bk ρ4 => simp only [q3] at p2; exact fun O' σ' H' s' => p2 O' σ' H' (s'.gfst s.mo)
        | rt d ρ4 => simp only [q3] at p2; exact fun v O' σ' H' s' r => p2 v O' σ' H' (s'.gfst s.mo) r
        | er x ρ4 => simp only [q3] at p2; exact fun cls d O' σ' H' s' r => p2 cls d O' σ' H' (s'.gfst s.mo) r
        | no => simp only [q3] at p2; exact p2
    · have e : i = ds.length := by omega
      subst e
      refine .inl ⟨it.stops H2 O2 s2.gh.2, ?_⟩
      rw [List.drop_length] at p2
      exact p2 O2 σ2 H2 (s2.gfst s.mo)
end

/-! ### while -/
def whileL (t : M Bool) (body : S) : Nat → Env → Fl
  | 0, _ => .no
  | n + 1, ρ => match t ρ with
    | .ok true ρ1 => (match body ρ1 with
      | .nx ρ2 => whileL t body n ρ2
      | .ct ρ2 => whileL t body n ρ2
      | .bk ρ2 => .nx ρ2
      | .rt d ρ2 => .rt d ρ2
      | .er x ρ2 => .er x ρ2
      | .no => .no)
    | .ok false ρ1 => .nx ρ1
    | .er x ρ' => .er x ρ'
    | .no => .no
section
variable {c : C} {X : Cx} {W : WX} {e : Expr} {body : List Stmt} {tb : M Bool} {g : S} {pos : Pos}
theorem ds_while (n : Nat) (hp : PassesOwn (model X.prog X.w) X.A X.env X.xe) (ht : PT X e (tB c W tb)) (hb : PSs X body (tS c W g)) : PS X (.While e body [] pos) (tS c W (whileL tb g n)) := PS.imp (ps_while hp ht hb) fun Z σ H ⟨O, Γ, ρ, s, p⟩ => by
  refine ⟨fun m σ H => ∃ O ρi, SR c O Γ H σ ρi ∧ postS c W Γ Z (whileL tb g m ρi), ⟨n, O, ρ, s, p⟩, ?_⟩
  rintro m σ2 H2 ⟨O2, ρi, s2, p2⟩
  cases m with
  | zero => exact p2.elim
  | succ m =>
    refine ⟨O2, Γ, ρi, s2, ?_⟩
    unfold whileL at p2
    cases q : tb ρi with
    | no => rw [q] at p2; exact p2
    | er x ρ' => rw [q] at p2; exact fun cls d H1 _ s1 r => p2 cls d O2 σ2 H1 s1 r
    | ok b ρ1 =>
      rw [q] at p2
      intro b' H1 _ s1 e1
      subst e1
      cases b' with
      | false => exact p2 O2 σ2 H1 s1
      | true =>
        simp only [if_true]
        refine ⟨fun σ' H' => ∃ O ρi, SR c O Γ H' σ' ρi ∧ postS c W Γ Z (whileL tb g m ρi), fun σ' H' h => ⟨m, Nat.lt_succ_self _, h⟩, O2, Γ, ρ1, s1, ?_⟩
        cases q3 : g ρ1 with
        | nx ρ4 => simp only [q3] at p2; exact fun O' σ' H' s' => ⟨O', ρ4, s', p2⟩
        | ct ρ4 => simp only [q3] at p2; exact fun O' σ' H' s' => ⟨O', ρ4, s', p2⟩
        | bk ρ4 => simp only [q3] at p2; exact fun O' σ' H' s' => p2 O' σ' H' s'
        | rt d ρ4 => simp only [q3] at p2; exact fun v O' σ' H' s' r => p2 v O' σ' H' s' r
        | er x ρ4 => simp only [q3] at p2; exact fun cls d O' σ' H' s' r => p2 cls d O' σ' H' s' r
        | no => simp only [q3] at p2; exact p2
end

/-! ### list comprehensions -/
def wipeZ (ρ : Env) : List Nat → Env
  | [] => ρ
  | v :: vs => (wipeZ ρ vs).set v .un
/-- behind the block: the slots of its own names as they were, as far as they were shared -/
def backZ (ρ1 ρ2 : Env) : List Nat → Env
  | [] => ρ2
  | v :: vs => (backZ ρ1 ρ2 vs).set v (match ρ1[v]? with | some (.sh d) => .sh d | _ => .un)
def lcL (own : List Nat) (t : Tg) (tt : M Bool) (te : M D) : List D → Env → RM (List D)
  | [], ρ => .ok [] ρ
  | d :: ds, ρ => match asgD t d ρ with
    | none => .no
    | some ρ1 => match tt ρ1 with
      | .ok true ρ2 => (match te ρ2 with
        | .ok y ρ3 => (match lcL own t tt te ds (wipeZ ρ3 own) with
          | .ok ys ρ4 => .ok (y :: ys) ρ4
          | _ => .no)
        | _ => .no)
      | .ok false ρ2 => lcL own t tt te ds (wipeZ ρ2 own)
      | _ => .no
def M.lc (own : List Nat) (fi : M (List D)) (t : Tg) (tt : M Bool) (te : M D) : M D := fun ρ => match fi ρ with
  | .ok ds ρ1 => (match lcL own t tt te ds (wipeZ ρ1 own) with
    | .ok ys ρ2 => .ok (.lst ys) (backZ ρ1 ρ2 own)
    | _ => .no)
  | .er x ρ' => .er x ρ'
  | .no => .no
/-- as Stp, where slots may be others -/
structure Sq (T : List Addr) (σ : L2.St) (ρ : Env) (H : Hp) (σ' : L2.St) (ρ' : Env) (H' : Hp) : Prop where
  kp : ∀ a o, H a = some o → a ∉ T → (∀ (i : Nat) d, ρ[i]? = some (.ow d) → σ[i]? ≠ some (some (.ref a))) → H' a = some o
  ows : ∀ (i : Nat) d', ρ'[i]? = some (.ow d') → (∃ d, ρ[i]? = some (.ow d)) ∧ σ'[i]? = σ[i]?
theorem Sq.trans {T : List Addr} {σ σ1 σ2 : L2.St} {ρ ρ1 ρ2 : Env} {H H1 H2 : Hp} (x : Sq T σ ρ H σ1 ρ1 H1) (y : Sq T σ1 ρ1 H1 σ2 ρ2 H2) : Sq T σ ρ H σ2 ρ2 H2 :=
  ⟨fun a o h t n => y.kp a o (x.kp a o h t n) t fun i d e => let ⟨⟨d', e'⟩, es⟩ := x.ows i d e; by rw [es]; exact n i d' e', fun i d e => let ⟨⟨d', e'⟩, es⟩ := y.ows i d e; let ⟨k, es'⟩ := x.ows i d' e'; ⟨k, es.trans es'⟩⟩
theorem Sq.of {T : List Addr} {σ : L2.St} {ρ ρ' : Env} {H H' : Hp} (x : Stp T σ ρ ρ' H H') : Sq T σ ρ H σ ρ' H' := ⟨x.kp, fun i d e => ⟨x.ows i d e, rfl⟩⟩
theorem Sq.to {T : List Addr} {σ : L2.St} {ρ ρ' : Env} {H H' : Hp} (x : Sq T σ ρ H σ ρ' H') : Stp T σ ρ ρ' H H' := ⟨x.kp, fun i d e => (x.ows i d e).1⟩
theorem wipeZ_length (ρ : Env) : ∀ vs : List Nat, (wipeZ ρ vs).length = ρ.length
  | [] => rfl
  | v :: vs => by unfold wipeZ; rw [List.length_set, wipeZ_length ρ vs]
theorem wipeZ_out {ρ : Env} {i : Nat} : ∀ {vs : List Nat}, i ∉ vs → (wipeZ ρ vs)[i]? = ρ[i]?
  | [], _ => rfl
  | v :: vs, h => by
    unfold wipeZ
    rw [List.getElem?_set_ne fun z => h (by rw [z]; exact List.mem_cons_self)]
    exact wipeZ_out fun z => h (List.mem_cons_of_mem _ z)
theorem wipeZ_in {ρ : Env} {i : Nat} : ∀ {vs : List Nat}, i ∈ vs → ∀ z, (wipeZ ρ vs)[i]? = some z → z = .un
  | v :: vs, h, z, e => by
    unfold wipeZ at e
    by_cases hi : i = v
    · subst hi
      rcases set_none e with ⟨_, q, _⟩ | ⟨n, _⟩
      · exact q.symm
      · exact absurd rfl n
    · rw [List.getElem?_set_ne (Ne.symm hi)] at e
      rcases List.mem_cons.mp h with q | q
      · exact absurd q hi
      · exact wipeZ_in q z e
theorem wipe_out {σ : L2.St} {i : Nat} : ∀ {vs : List Nat}, i ∉ vs → (wipe σ vs)[i]? = σ[i]?
  | [], _ => rfl
  | v :: vs, h => by
    unfold wipe
    rw [List.getElem?_set_ne fun z => h (by rw [z]; exact List.mem_cons_self)]
    exact wipe_out fun z => h (List.mem_cons_of_mem _ z)
theorem wipe_in {σ : L2.St} {i : Nat} : ∀ {vs : List Nat}, i ∈ vs → i < σ.length → (wipe σ vs)[i]? = some none
  | v :: vs, h, hl => by
    unfold wipe
    by_cases hi : i = v
    · subst hi; rw [List.getElem?_set_self (by rw [wipe_length]; exact hl)]
    · rw [List.getElem?_set_ne (Ne.symm hi)]
      rcases List.mem_cons.mp h with q | q
      · exact absurd q hi
      · exact wipe_in q hl
theorem wipe_but {σ σ' : L2.St} {own vs : List Nat} (b : But vs σ σ') (h : ∀ i ∈ vs, i ∈ own) : wipe σ' own = wipe σ own := by
  apply List.ext_getElem?
  intro j
  by_cases hj : j ∈ own
  · by_cases hl : j < σ.length
    · rw [wipe_in hj hl, wipe_in hj (by rw [b.1]; exact hl)]
    · rw [List.getElem?_eq_none (by rw [wipe_length, b.1]; omega), List.getElem?_eq_none (by rw [wipe_length]; omega)]
  · rw [wipe_out hj, wipe_out hj]
    exact b.2 j fun z => hj (h j z)
section
variable {c : C} {O : List Addr} {Γ : Hp → Prop} {H H' : Hp} {σ : L2.St} {ρ : Env}
theorem SR.wiped (s : SR c O Γ H σ ρ) {own : List Nat} (hf : ∀ i ∈ own, Free c i) : SR c O Γ H (wipe σ own) (wipeZ ρ own) where
  mo := s.mo
  len := by rw [wipeZ_length, wipe_length]; exact s.len
  keep := s.keep
  sub := s.sub
  dom := s.dom
  gh := s.gh
  sh := fun i d e => by
    by_cases hi : i ∈ own
    · cases wipeZ_in hi _ e
    · rw [wipeZ_out hi] at e; rw [wipe_out hi]; exact s.sh i d e
  ow := fun i d e => by
    by_cases hi : i ∈ own
    · cases wipeZ_in hi _ e
    · rw [wipeZ_out hi] at e; rw [wipe_out hi]; exact s.ow i d e
  inj := fun i j d e hij e1 e2 => by
    by_cases hi : i ∈ own
    · cases wipeZ_in hi _ e1
    · by_cases hj : j ∈ own
      · cases wipeZ_in hj _ e2
      · rw [wipeZ_out hi] at e1; rw [wipeZ_out hj] at e2; rw [wipe_out hi, wipe_out hj]; exact s.inj i j d e hij e1 e2
  io := fun a ha => by
    by_cases h0 : 0 ∈ own
    · rcases hf 0 h0 with z | z
      · exact absurd rfl z
      · rw [z] at ha; cases ha
    · rw [wipe_out h0]; exact s.io a ha
  jo := s.jo
  tab := s.tab
/-- a hidden object that no slot owns is written -/
theorem SR.hw (s : SR c O Γ H σ ρ) {p : Addr} {o : HO} (hp : p ∈ O) (hT : p ∉ c.T) (h0 : c.H0 p = none) (no : ∀ (j : Nat) e, ρ[j]? = some (.ow e) → σ[j]? ≠ some (some (.ref p))) : SR c O Γ (upd H p o) σ ρ := by
  have hh : hid (upd H p o) O = hid H O := hid_upd_in hp
  refine ⟨s.mo, s.len, fun b u h n => ?_, s.sub, fun b hb => ?_, by rw [hh]; exact s.gh, fun i d e => by rw [hh]; exact s.sh i d e, fun i d e => ?_, s.inj, s.io, s.jo, s.tabOf (fun P hP => upd_ne fun z => hT (z ▸ hP)) (by rw [hh]; exact Ex.refl _)⟩
  · rw [upd_ne (fun z => by rw [z, h0] at h; cases h)]; exact s.keep b u h n
  · by_cases z : b = p
    · rw [z, upd_same]; exact ⟨_, rfl⟩
    · rw [upd_ne z]; exact s.dom b hb
  · obtain ⟨a, h1, h2, h3, h4⟩ := s.ow i d e
    refine ⟨a, h1, h2, h3, by rw [hh]; exact h4.at (upd_ne (by intro z; subst z; exact no i d e h1))⟩
theorem backZ_length (ρ1 ρ2 : Env) : ∀ vs : List Nat, (backZ ρ1 ρ2 vs).length = ρ2.length
  | [] => rfl
  | v :: vs => by unfold backZ; rw [List.length_set, backZ_length ρ1 ρ2 vs]
theorem backZ_out {ρ1 ρ2 : Env} {i : Nat} : ∀ {vs : List Nat}, i ∉ vs → (backZ ρ1 ρ2 vs)[i]? = ρ2[i]?
  | [], _ => rfl
  | v :: vs, h => by
    unfold backZ
    rw [List.getElem?_set_ne fun z => h (by rw [z]; exact List.mem_cons_self)]
    exact backZ_out fun z => h (List.mem_cons_of_mem _ z)
theorem backZ_in {ρ1 ρ2 : Env} {i : Nat} : ∀ {vs : List Nat}, i ∈ vs → ∀ z, (backZ ρ1 ρ2 vs)[i]? = some z → z = .un ∨ ∃ d, z = .sh d ∧ ρ1[i]? = some (.sh d)
  | v :: vs, h, z, e => by
    unfold backZ at e
    by_cases hi : i = v
    · subst hi
      rcases set_none e with ⟨_, q, _⟩ | ⟨n, _⟩
      · subst q
        split
        · rename_i d hd; exact .inr ⟨d, rfl, hd⟩
        · exact .inl rfl
      · exact absurd rfl n
    · rw [List.getElem?_set_ne (Ne.symm hi)] at e
      rcases List.mem_cons.mp h with q | q
      · exact absurd q hi
      · exact backZ_in q z e
/-- back from the block -/
theorem SR.back (s : SR c O Γ H σ ρ) {own : List Nat} (hf : ∀ i ∈ own, Free c i) {O' : List Addr} {Γ' : Hp → Prop} {H' : Hp} {ρ2 : Env} (s2 : SR c O' Γ' H' (wipe σ own) ρ2) (x : Ex (hid H O) (hid H' O')) : SR c O' Γ' H' σ (backZ ρ ρ2 own) where
  mo := s2.mo
  len := by rw [backZ_length, s2.len, wipe_length]
  keep := s2.keep
  sub := s2.sub
  dom := s2.dom
  gh := s2.gh
  sh := fun i d e => by
    by_cases hi : i ∈ own
    · rcases backZ_in hi _ e with z | ⟨d', z, e'⟩
      · cases z
      · cases z
        obtain ⟨v, h1, h2⟩ := s.sh i d e'
        exact ⟨v, h1, h2.mono x⟩
    · rw [backZ_out hi] at e
      obtain ⟨v, h1, h2⟩ := s2.sh i d e
      exact ⟨v, by rw [wipe_out hi] at h1; exact h1, h2⟩
  ow := fun i d e => by
    by_cases hi : i ∈ own
    · rcases backZ_in hi _ e with z | ⟨d', z, e'⟩ <;> cases z
    · rw [backZ_out hi] at e
      obtain ⟨a, h1, h2⟩ := s2.ow i d e
      exact ⟨a, by rw [wipe_out hi] at h1; exact h1, h2⟩
  inj := fun i j d e hij e1 e2 => by
    by_cases hi : i ∈ own
    · rcases backZ_in hi _ e1 with z | ⟨d', z, e'⟩ <;> cases z
    · by_cases hj : j ∈ own
      · rcases backZ_in hj _ e2 with z | ⟨d', z, e'⟩ <;> cases z
      · rw [backZ_out hi] at e1; rw [backZ_out hj] at e2
        have := s2.inj i j d e hij e1 e2
        rw [wipe_out hi, wipe_out hj] at this
        exact this
  io := s.io
  jo := s.jo
  tab := s2.tab
end
end DL

/-! DL, part 10: list comprehensions, their rules. -/
namespace DL
open PySem L2

mutual
theorem asgD_ow {j : Nat} {e : D} : ∀ {t : Tg} {d : D} {ρ ρ' : Env}, asgD t d ρ = some ρ' → ρ'[j]? = some (.ow e) → j ∉ t.slots ∧ ρ[j]? = some (.ow e)
  | .nm i, d, ρ, ρ', h, e => by
    unfold asgD at h
    cases h
    rcases set_none e with ⟨_, q, _⟩ | ⟨n, q⟩
    · cases q
    · exact ⟨by simpa [Tg.slots] using n, q⟩
  | .tp ts, d, ρ, ρ', h, e => by
    cases d with
    | tup l => unfold asgD at h; exact asgL_ow h e
    | _ => simp [asgD] at h
theorem asgL_ow {j : Nat} {e : D} : ∀ {ts : List Tg} {ds : List D} {ρ ρ' : Env}, asgL ts ds ρ = some ρ' → ρ'[j]? = some (.ow e) → j ∉ Tg.slotsL ts ∧ ρ[j]? = some (.ow e)
  | [], [], ρ, ρ', h, e => by
    unfold asgL at h
    cases h
    exact ⟨by simp [Tg.slotsL], e⟩
  | t :: ts, d :: ds, ρ, ρ', h, e => by
    unfold asgL at h
    cases q : asgD t d ρ with
    | none => rw [q] at h; cases h
    | some ρ1 =>
      rw [q] at h
      obtain ⟨h1, h2⟩ := asgL_ow h e
      obtain ⟨h3, h4⟩ := asgD_ow q h2
      refine ⟨?_, h4⟩
      unfold Tg.slotsL
      intro z
      rcases List.mem_append.mp z with z | z
      · exact h3 z
      · exact h1 z
  | [], _ :: _, _, _, h, _ => by simp [asgL] at h
  | _ :: _, [], _, _, h, _ => by simp [asgL] at h
end
def W0 : WX := fun _ _ _ _ => False
theorem wipe_idem {σ : L2.St} (own : List Nat) : wipe (wipe σ own) own = wipe σ own := by
  apply List.ext_getElem?
  intro j
  by_cases hj : j ∈ own
  · by_cases hl : j < σ.length
    · rw [wipe_in hj (by rw [wipe_length]; exact hl), wipe_in hj hl]
    · rw [List.getElem?_eq_none (by rw [wipe_length, wipe_length]; omega), List.getElem?_eq_none (by rw [wipe_length]; omega)]
  · rw [wipe_out hj]
def NoD (D0 : Addr) (σ : L2.St) (ρ : Env) : Prop := ∀ (j : Nat) e, ρ[j]? = some (.ow e) → σ[j]? ≠ some (some (.ref D0))
section
variable {c : C} {O : List Addr} {Γ Γ' : Hp → Prop} {H H' H1 : Hp} {σ σ' : L2.St} {ρ ρ' : Env} {D0 : Addr}
/-- what was one's own is shown -/
theorem SR.pub (s : SR c (D0 :: O) Γ H σ ρ) (hc : D0 ∉ c.Oc) (n : NoD D0 σ ρ) : SR c O Γ H σ ρ where
  mo := s.mo
  len := s.len
  keep := s.keep
  sub := fun b hb => by
    rcases List.mem_cons.mp (s.sub b hb) with z | z
    · subst z; exact absurd hb hc
    · exact z
  dom := fun b hb => s.dom b (List.mem_cons_of_mem _ hb)
  gh := s.mo _ _ (ex_hid_sub fun a h => List.mem_cons_of_mem _ h) s.gh
  sh := fun i d e => let ⟨v, h1, h2⟩ := s.sh i d e; ⟨v, h1, h2.mono (ex_hid_sub fun a h => List.mem_cons_of_mem _ h)⟩
  ow := fun i d e => by
    obtain ⟨a, h1, h2, h3, h4⟩ := s.ow i d e
    refine ⟨a, h1, ?_, h3, h4.mono (ex_hid_sub fun a h => List.mem_cons_of_mem _ h)⟩
    rcases List.mem_cons.mp h2 with z | z
    · subst z; exact absurd h1 (n i d e)
    · exact z
  inj := s.inj
  io := s.io
  jo := s.jo
  tab := s.tabOf (fun _ _ => rfl) (ex_hid_sub fun a h => List.mem_cons_of_mem _ h)
theorem NoD.stp (n : NoD D0 σ ρ) (st : Stp c.T σ ρ ρ' H H') : NoD D0 σ ρ' := fun j e ej z => let ⟨d, h⟩ := st.ows j e ej; n j d h z
theorem NoD.sq (n : NoD D0 σ ρ) (st : Sq c.T σ ρ H σ' ρ' H') : NoD D0 σ' ρ' := fun j e ej z => let ⟨⟨d, h⟩, h'⟩ := st.ows j e ej; n j d h (by rw [← h']; exact z)
theorem sq_asg {t : Tg} {d : D} (h : asgD t d ρ = some ρ') (b : But t.slots σ σ') : Sq c.T σ ρ H σ' ρ' H :=
  ⟨fun _ _ e _ _ => e, fun i e ei => let ⟨h1, h2⟩ := asgD_ow h ei; ⟨⟨e, h2⟩, b.2 i h1⟩⟩
theorem sq_wipe {own : List Nat} : Sq c.T σ ρ H (wipe σ own) (wipeZ ρ own) H :=
  ⟨fun _ _ e _ _ => e, fun i e ei => by
    by_cases hi : i ∈ own
    · cases wipeZ_in hi _ ei
    · rw [wipeZ_out hi] at ei; exact ⟨⟨e, ei⟩, wipe_out hi⟩⟩
theorem Sq.ext (x : Sq c.T σ ρ H σ' ρ' H1) (e : Ex H1 H') : Sq c.T σ ρ H σ' ρ' H' := ⟨fun a o h t n => e a o (x.kp a o h t n), x.ows⟩
/-- behind the block -/
theorem stp_back {own : List Nat} {ρ2 : Env} (x : Sq c.T (wipe σ own) (wipeZ ρ own) H (wipe σ own) ρ2 H') : Stp c.T σ ρ (backZ ρ ρ2 own) H H' :=
  ⟨fun a o h t n => x.kp a o h t fun i d e => by
    by_cases hi : i ∈ own
    · cases wipeZ_in hi _ e
    · rw [wipeZ_out hi] at e; rw [wipe_out hi]; exact n i d e, fun i d' e => by
    by_cases hi : i ∈ own
    · rcases backZ_in hi _ e with z | ⟨d', z, e'⟩ <;> cases z
    · rw [backZ_out hi] at e
      obtain ⟨⟨d, h⟩, _⟩ := x.ows i d' e
      rw [wipeZ_out hi] at h
      exact ⟨d, h⟩⟩
end
section
variable {c : C} {W : WX} {O : List Addr} {Γ : Hp → Prop} {σ : L2.St} {H1 : Hp} {ρ1 : Env} {own : List Nat} {t : Tg} {tt : M Bool} {te : M D}
/-- the invariant of the comprehension's loop -/
def lcI (c : C) (O : List Addr) (Γ : Hp → Prop) (σ : L2.St) (H1 : Hp) (ρ1 : Env) (own : List Nat) (t : Tg) (tt : M Bool) (te : M D) (ds ys : List D) (ρ2 : Env) (D0 : Addr) (i : Nat) (H : Hp) : Prop :=
  ∃ acc accD ρi rest, SR c (D0 :: O) Γ H (wipe σ own) ρi ∧ H D0 = some (.lst acc) ∧ RepL c.K c.mg (hid H (D0 :: O)) acc accD ∧ acc.length ≤ i ∧ NoD D0 (wipe σ own) ρi ∧ Sq c.T (wipe σ own) (wipeZ ρ1 own) H1 (wipe σ own) ρi H ∧ lcL own t tt te (ds.drop i) ρi = .ok rest ρ2 ∧ ys = accD ++ rest
theorem lc_turn {J : It} {ds ys : List D} {ρ2 : Env} {Gp : Hp → Prop} {D0 : Addr} {H : Hp} {i : Nat} (hf : ∀ i ∈ own, Free c i) (it : IsIt c J ds Gp) (z : ds.length ≤ sizeLine) (hD : H1 D0 = none) (hD0 : c.H0 D0 = none) (hT : D0 ∉ c.T) (ht : ∀ i ∈ t.slots, i ∈ own)
    (hi : i < ds.length) (w : lcI c O (fun G => Γ G ∧ Gp G) σ H1 ρ1 own t tt te ds ys ρ2 D0 i H) (x : V) (H' : Hp) (y : J.yld i H x H') :
    tG c t x (wipe σ own) H' fun σ2 H2 => wipe σ2 own = wipe σ own ∧ tB c W0 tt σ2 H2 fun b H3 =>
      if b = true then tD c W0 te σ2 H3 fun y H4 => ∃ acc, H4 D0 = some (.lst acc) ∧ acc.length < sizeLine ∧ lcI c O (fun G => Γ G ∧ Gp G) σ H1 ρ1 own t tt te ds ys ρ2 D0 (i + 1) (upd H4 D0 (.lst (acc ++ [y])))
      else lcI c O (fun G => Γ G ∧ Gp G) σ H1 ρ1 own t tt te ds ys ρ2 D0 (i + 1) H3 := by
  obtain ⟨acc, accD, ρi, rest, s, hd, ra, la, nd, sq, hl, hy⟩ := w
  obtain ⟨ex, d, hdd, r⟩ := it.yields i H (D0 :: O) x H' hi s.gh.2 s.dom y
  have e1 : ds.drop i = d :: ds.drop (i + 1) := by
    rw [List.drop_eq_getElem_cons hi]
    have := (List.getElem?_eq_some_iff.mp hdd).2
    rw [this]
  rw [e1] at hl
  unfold lcL at hl
  have s1 := s.ext ex
  refine ⟨_, _, ρi, d, s1, r, ?_⟩
  cases q2 : asgD t d ρi with
  | none => rw [q2] at hl; cases hl
  | some ρ3 =>
    rw [q2] at hl
    intro σ2 b2 s2
    have sq2 := (sq.ext ex).trans (sq_asg q2 b2)
    have wb : wipe σ2 own = wipe σ own := (wipe_but b2 ht).trans (wipe_idem own)
    refine ⟨wb, _, _, ρ3, s2, ?_⟩
    dsimp only at hl
    cases q3 : tt ρ3 with
    | no => rw [q3] at hl; cases hl
    | er _ _ => rw [q3] at hl; cases hl
    | ok b ρ4 =>
      rw [q3] at hl
      intro b' H3 st3 s3 eb
      subst eb
      have sq3 := sq2.trans (Sq.of st3)
      cases b' with
      | false =>
        simp only [Bool.false_eq_true, if_false]
        dsimp only at hl
        have sq4 := sq3.trans (sq_wipe (own := own))
        have s4 := s3.wiped hf
        rw [wb] at sq4 s4
        have nd4 := NoD.sq (nd.sq (sq_asg (c := c) (H := H') q2 b2) |>.stp st3) (sq_wipe (c := c) (H := H3) (own := own))
        rw [wb] at nd4
        exact ⟨acc, accD, _, rest, s4, st3.kp _ _ (ex _ _ hd) hT (nd.sq (sq_asg (c := c) (H := H') q2 b2)), (ra.mono (ex.hid _)).mono (st3.ex s2), by omega, nd4, sq4, hl, hy⟩
      | true =>
        simp only [if_true]
        dsimp only at hl
        refine ⟨_, _, ρ4, s3, ?_⟩
        cases q4 : te ρ4 with
        | no => rw [q4] at hl; cases hl
        | er _ _ => rw [q4] at hl; cases hl
        | ok y5 ρ5 =>
          rw [q4] at hl
          dsimp only at hl
          intro v H5 st5 s5 r5
          cases q6 : lcL own t tt te (ds.drop (i + 1)) (wipeZ ρ5 own) with
          | no => rw [q6] at hl; cases hl
          | er _ _ => rw [q6] at hl; cases hl
          | ok ys6 ρ6 =>
            rw [q6] at hl
            cases hl
            have sq5 := sq3.trans (Sq.of st5)
            have sq4 := sq5.trans (sq_wipe (own := own))
            have s4 := s5.wiped hf
            have nd3 := nd.sq (sq_asg (c := c) (H := H') q2 b2)
            have nd5 := (nd3.stp st3).stp st5
            have nd4 := NoD.sq nd5 (sq_wipe (c := c) (H := H5) (own := own))
            rw [wb] at sq4 s4 nd4
            have hd5 : H5 D0 = some (.lst acc) := st5.kp _ _ (st3.kp _ _ (ex _ _ hd) hT nd3) hT (nd3.stp st3)
            refine ⟨acc, hd5, by omega, acc ++ [v], accD ++ [y5], _, ys6, s4.hw List.mem_cons_self hT hD0 nd4, upd_same, ?_, by rw [List.length_append]; exact Nat.succ_le_succ la, nd4, ⟨fun a o h t n => ?_, sq4.ows⟩, q6, by rw [hy, List.append_assoc]; rfl⟩
            · rw [hid_upd_in List.mem_cons_self]
              exact (((ra.mono (ex.hid _)).mono (st3.ex s2)).mono (st5.ex s3)).append (.cons r5 .nil)
            · rw [upd_ne (fun z => by rw [z, hD] at h; cases h)]
              exact sq4.kp a o h t n
theorem lc_run {fi : M (List D)} {H : Hp} {ρ : Env} {Q : V → Hp → Prop} (hf : ∀ i ∈ own, Free c i) (ht : ∀ i ∈ t.slots, i ∈ own) (s : SR c O Γ H σ ρ)
    (h : match fi ρ with
      | .ok ds ρ1 => ∃ ys ρ2, lcL own t tt te ds (wipeZ ρ1 own) = .ok ys ρ2 ∧ ∀ D0 H1 H', Stp c.T σ ρ ρ1 H H1 → SR c O Γ H1 σ ρ1 → H1 D0 = none → SR c (D0 :: O) Γ H' σ (backZ ρ1 ρ2 own) → Stp c.T σ ρ1 (backZ ρ1 ρ2 own) H1 H' → NoD D0 σ (backZ ρ1 ρ2 own) → Own c.K c.mg (hid H' (D0 :: O)) H' D0 (.lst ys) → Q (.ref D0) H'
      | .er x ρ' => ∀ cls d H', Stp c.T σ ρ ρ' H H' → SR c O Γ H' σ ρ' → XR c.K c.mg (hid H' O) x cls d → W cls d σ H'
      | .no => False) : tLc (tI c W fi) (tG c t) (tB c W0 tt) (tD c W0 te) own σ H Q := by
  refine ⟨O, Γ, ρ, s, ?_⟩
  cases q : fi ρ with
  | no => rw [q] at h; exact h
  | er x ρ' => rw [q] at h; exact h
  | ok ds ρ1 =>
    rw [q] at h
    obtain ⟨ys, ρ2, hl, h⟩ := h
    intro J H1 Gp st1 s1 it hG z D0 hD
    have nw := s1.isNew hD
    have sg := s1.gand it.mo hG
    refine ⟨fun i m H => m = ds.length - i ∧ i ≤ ds.length ∧ lcI c O (fun G => Γ G ∧ Gp G) σ H1 ρ1 own t tt te ds ys ρ2 D0 i H, ⟨ds.length, by simp, Nat.zero_le _, ?_⟩, ?_⟩
    · refine ⟨[], [], _, ys, (sg.new hD).wiped hf, upd_same, .nil, Nat.zero_le _, NoD.sq nw.no (sq_wipe (c := c) (H := H1) (own := own)), ⟨fun a o h _ _ => ?_, fun i d e => ⟨⟨d, e⟩, rfl⟩⟩, hl, rfl⟩
      rw [upd_ne (ne_of_none h hD)]; exact h
    · rintro i m H2 ⟨rfl, hi, w⟩
      by_cases hlt : i < ds.length
      · have sg2 : (fun G => Γ G ∧ Gp G) (hid H2 (D0 :: O)) := by
          obtain ⟨acc, accD, ρi, rest, s, _⟩ := w
          exact s.gh
        refine .inr ⟨it.goes i H2 (D0 :: O) hlt sg2.2, _, fun H' h => ⟨ds.length - (i + 1), by omega, rfl, hlt, h⟩, fun x H3 y => ?_⟩
        exact lc_turn hf it z hD nw.h0 (fun z => nw.out (s1.tab D0 z).1) ht hlt w x H3 y
      · have e : i = ds.length := by omega
        subst e
        obtain ⟨acc, accD, ρi, rest, s3, hd, ra, la, nd, sq, hl3, hy⟩ := w
        rw [List.drop_length] at hl3
        unfold lcL at hl3
        cases hl3
        rw [List.append_nil] at hy
        subst hy
        refine .inl ⟨it.stops H2 (D0 :: O) s3.gh.2, ?_⟩
        have st2 := stp_back sq
        have x : Ex (hid H1 O) (hid H2 (D0 :: O)) := fun a o e => by
          obtain ⟨n, e'⟩ := hid_some e
          have z1 := st2.ex s1 a o e
          obtain ⟨_, z2⟩ := hid_some z1
          rw [hid_out, z2]
          intro zz
          rcases List.mem_cons.mp zz with zz | zz
          · rw [zz, hD] at e'; cases e'
          · exact n zz
        have s4 := s1.back hf (s3.gfst s1.mo) x
        refine h D0 H1 H2 st1 s1 hD s4 st2 ?_ ⟨acc, hd, ra, by rw [← ra.length]; omega⟩
        intro j e ej zj
        obtain ⟨d, hjd⟩ := st2.ows j e ej
        exact nw.no j d hjd zj
end
section
variable {c : C} {X : Cx} {W : WX} {elt tg iter : Expr} {ifs : List Expr} {scope : Scope} {own : List (Str × Nat)} {pos : Pos} {fi : M (List D)} {t : Tg} {tt : M Bool} {te : M D}
theorem lcSh {σ : L2.St} {H : Hp} {Q : V → Hp → Prop} (hf : ∀ i ∈ own.map (·.2), Free c i) (hts : ∀ i ∈ t.slots, i ∈ own.map (·.2)) (h : tD c W (M.lc (own.map (·.2)) fi t tt te) σ H Q) : tLc (tI c W fi) (tG c t) (tB c W0 tt) (tD c W0 te) (own.map (·.2)) σ H Q := by
  obtain ⟨O, Γ, ρ, s, p⟩ := h
  refine lc_run hf hts s ?_
  unfold M.lc at p
  cases q : fi ρ with
  | no => rw [q] at p; exact p
  | er x ρ' => rw [q] at p; exact p
  | ok ds ρ1 =>
    rw [q] at p
    dsimp only at p ⊢
    cases q2 : lcL (own.map (·.2)) t tt te ds (wipeZ ρ1 (own.map (·.2))) with
    | no => rw [q2] at p; exact p.elim
    | er _ _ => rw [q2] at p; exact p.elim
    | ok ys ρ2 =>
      rw [q2] at p
      refine ⟨ys, ρ2, rfl, fun D0 H1 H' st1 s1 hD s4 st2 nd ow => ?_⟩
      have nw := s1.isNew hD
      obtain ⟨vs, e, r, z⟩ := ow
      refine p _ H' (st1.trans st2) (s4.pub nw.out nd) (.lst ?_ (r.mono (ex_hid_sub fun a h => List.mem_cons_of_mem _ h)) z)
      rw [hid_out (s1.fresh hD)]; exact e
theorem lcOw {σ : L2.St} {H : Hp} {Q : V → Hp → Prop} (hf : ∀ i ∈ own.map (·.2), Free c i) (hts : ∀ i ∈ t.slots, i ∈ own.map (·.2)) (h : tF c W (M.lc (own.map (·.2)) fi t tt te) σ H Q) : tLc (tI c W fi) (tG c t) (tB c W0 tt) (tD c W0 te) (own.map (·.2)) σ H Q := by
  obtain ⟨O, Γ, ρ, s, p⟩ := h
  refine lc_run hf hts s ?_
  unfold M.lc at p
  cases q : fi ρ with
  | no => rw [q] at p; exact p
  | er x ρ' => rw [q] at p; exact p
  | ok ds ρ1 =>
    rw [q] at p
    dsimp only at p ⊢
    cases q2 : lcL (own.map (·.2)) t tt te ds (wipeZ ρ1 (own.map (·.2))) with
    | no => rw [q2] at p; exact p.elim
    | er _ _ => rw [q2] at p; exact p.elim
    | ok ys ρ2 =>
      rw [q2] at p
      refine ⟨ys, ρ2, rfl, fun D0 H1 H' st1 s1 hD s4 st2 nd ow => ?_⟩
      have nw := s1.isNew hD
      exact p D0 H' (st1.trans st2) (st1.back s s1 hD) s4 ⟨nw.out, nw.h0, nd⟩ ow
theorem dts_nil : PTs X [] (tB c W (M.pure true)) := ⟨fun pins s σ H Q I ⟨O, Γ, ρ, sr, p⟩ => pts_nil.run pins s σ H Q I (pure_run (rel := fun _ b a => b = a) sr p rfl)⟩
theorem dts_one {e : Expr} {tb : M Bool} (h : PT X e (tB c W tb)) : PTs X [e] (tB c W tb) := pts_one h
theorem de_lc (own : List (Str × Nat)) (hf : ∀ i ∈ own.map (·.2), Free c i) (hts : ∀ i ∈ t.slots, i ∈ own.map (·.2)) (gd : Gd c X) (hN : X.N.Nodup) (ok : BlkOk X.N X.env.scope scope own) (hi : PI X tg iter (tI c W fi))
    (hg : ∀ (s : Shared) (H : Hp) (C : Addr) (cl : List (Str × Addr)) (fp : List Addr), PG (X.blk s H scope (compEnvC scope cl C X.env) fp) tg (tG c t)) (ht : ∀ (s : Shared) (H : Hp) (C : Addr) (cl : List (Str × Addr)) (fp : List Addr), PTs (X.blk s H scope (compEnvC scope cl C X.env) fp) ifs (tB c W0 tt))
    (he : ∀ (s : Shared) (H : Hp) (C : Addr) (cl : List (Str × Addr)) (fp : List Addr), PE (X.blk s H scope (compEnvC scope cl C X.env) fp) elt (tD c W0 te)) (hs : ∀ x, foldedSetIterable iter X.env x = pure x := by intro _; rfl) :
    PE X (.ListComp elt [⟨tg, iter, ifs, 0⟩] scope pos) (tD c W (M.lc (own.map (·.2)) fi t tt te)) :=
  PE.imp (pe_lc gd.2.2 hN hi ok hg ht he hs) fun σ H Q h => lcSh hf hts h
theorem df_lc (own : List (Str × Nat)) (hf : ∀ i ∈ own.map (·.2), Free c i) (hts : ∀ i ∈ t.slots, i ∈ own.map (·.2)) (gd : Gd c X) (hN : X.N.Nodup) (ok : BlkOk X.N X.env.scope scope own) (hi : PI X tg iter (tI c W fi))
    (hg : ∀ (s : Shared) (H : Hp) (C : Addr) (cl : List (Str × Addr)) (fp : List Addr), PG (X.blk s H scope (compEnvC scope cl C X.env) fp) tg (tG c t)) (ht : ∀ (s : Shared) (H : Hp) (C : Addr) (cl : List (Str × Addr)) (fp : List Addr), PTs (X.blk s H scope (compEnvC scope cl C X.env) fp) ifs (tB c W0 tt))
    (he : ∀ (s : Shared) (H : Hp) (C : Addr) (cl : List (Str × Addr)) (fp : List Addr), PE (X.blk s H scope (compEnvC scope cl C X.env) fp) elt (tD c W0 te)) (hs : ∀ x, foldedSetIterable iter X.env x = pure x := by intro _; rfl) :
    PE X (.ListComp elt [⟨tg, iter, ifs, 0⟩] scope pos) (tF c W (M.lc (own.map (·.2)) fi t tt te)) :=
  PE.imp (pe_lc gd.2.2 hN hi ok hg ht he hs) fun σ H Q h => lcOw hf hts h
theorem asg_run {y : Str} {i : Nat} {f : M D} {Z : Ends} {σ : L2.St} {H : Hp} (hJ : Free c i) (h : tS c W (S.set i f) Z σ H) : tD c W f σ H fun v H1 => gName i v σ H1 Z.nx := by
  obtain ⟨O, Γ, ρ, s, p⟩ := h
  refine ⟨O, Γ, ρ, s, ?_⟩
  unfold S.set at p
  cases q : f ρ with
  | ok d ρ' => rw [q] at p; exact fun b H1 _ s1 r => p O _ H1 (s1.setSh hJ r)
  | er x ρ' => rw [q] at p; exact fun cls d H1 _ s1 r => p cls d O σ H1 s1 r
  | no => rw [q] at p; exact p
theorem own_run {i : Nat} {f : M D} {Z : Ends} {σ : L2.St} {H : Hp} (hJ : Free c i) (h : tS c W (S.own i f) Z σ H) : tF c W f σ H fun v H1 => gName i v σ H1 Z.nx := by
  obtain ⟨O, Γ, ρ, s, p⟩ := h
  refine ⟨O, Γ, ρ, s, ?_⟩
  unfold S.own at p
  cases q : f ρ with
  | ok d ρ' => rw [q] at p; exact fun a H1 _ _ s1 n r => p (a :: O) _ H1 (s1.setG hJ fun _ => ⟨a, rfl, List.mem_cons_self, ⟨n.out, n.h0⟩, r, fun j e _ => n.no j e⟩)
  | er x ρ' => rw [q] at p; exact fun cls d H1 _ s1 r => p cls d O σ H1 s1 r
  | no => rw [q] at p; exact p
theorem ds_setLc {i : Nat} {y : Str} {py : Pos} {spos : Pos} (own : List (Str × Nat)) (hJ : Free c i) (hf : ∀ i ∈ own.map (·.2), Free c i) (hts : ∀ i ∈ t.slots, i ∈ own.map (·.2)) (gd : Gd c X) (hN : X.N.Nodup) (hy : X.N[i]? = some y) (hyl : X.env.scope.names.lookup y = some .local)
    (hsw : swapsWith (.ListComp elt [⟨tg, iter, ifs, 0⟩] scope pos) (some (.Name y py)) spos.line X.env = pure true) (ok : BlkOk X.N X.env.scope scope own) (hi : PI X tg iter (tI c W fi))
    (hg : ∀ (s : Shared) (H : Hp) (C : Addr) (cl : List (Str × Addr)) (fp : List Addr), PG (X.blk s H scope (compEnvC scope cl C X.env) fp) tg (tG c t)) (ht : ∀ (s : Shared) (H : Hp) (C : Addr) (cl : List (Str × Addr)) (fp : List Addr), PTs (X.blk s H scope (compEnvC scope cl C X.env) fp) ifs (tB c W0 tt))
    (he : ∀ (s : Shared) (H : Hp) (C : Addr) (cl : List (Str × Addr)) (fp : List Addr), PE (X.blk s H scope (compEnvC scope cl C X.env) fp) elt (tD c W0 te)) (hs : ∀ x, foldedSetIterable iter X.env x = pure x := by intro _; rfl) :
    PS X (.Assign [.Name y py] (.ListComp elt [⟨tg, iter, ifs, 0⟩] scope pos) spos) (tS c W (S.set i (M.lc (own.map (·.2)) fi t tt te))) :=
  PS.imp (ps_setLc gd.2.2 hN hy hyl hsw hi ok hg ht he hs) fun Z σ H h => lcSh hf hts (asg_run (y := y) hJ h)
theorem ds_ownLc {i : Nat} {y : Str} {py : Pos} {spos : Pos} (own : List (Str × Nat)) (hJ : Free c i) (hf : ∀ i ∈ own.map (·.2), Free c i) (hts : ∀ i ∈ t.slots, i ∈ own.map (·.2)) (gd : Gd c X) (hN : X.N.Nodup) (hy : X.N[i]? = some y) (hyl : X.env.scope.names.lookup y = some .local)
    (hsw : swapsWith (.ListComp elt [⟨tg, iter, ifs, 0⟩] scope pos) (some (.Name y py)) spos.line X.env = pure true) (ok : BlkOk X.N X.env.scope scope own) (hi : PI X tg iter (tI c W fi))
    (hg : ∀ (s : Shared) (H : Hp) (C : Addr) (cl : List (Str × Addr)) (fp : List Addr), PG (X.blk s H scope (compEnvC scope cl C X.env) fp) tg (tG c t)) (ht : ∀ (s : Shared) (H : Hp) (C : Addr) (cl : List (Str × Addr)) (fp : List Addr), PTs (X.blk s H scope (compEnvC scope cl C X.env) fp) ifs (tB c W0 tt))
    (he : ∀ (s : Shared) (H : Hp) (C : Addr) (cl : List (Str × Addr)) (fp : List Addr), PE (X.blk s H scope (compEnvC scope cl C X.env) fp) elt (tD c W0 te)) (hs : ∀ x, foldedSetIterable iter X.env x = pure x := by intro _; rfl) :
    PS X (.Assign [.Name y py] (.ListComp elt [⟨tg, iter, ifs, 0⟩] scope pos) spos) (tS c W (S.own i (M.lc (own.map (·.2)) fi t tt te))) :=
  PS.imp (ps_setLc gd.2.2 hN hy hyl hsw hi ok hg ht he hs) fun Z σ H h => lcOw hf hts (own_run hJ h)
end
end DL

/-! DL, part 11: defs, calls, raise, try. -/
namespace DL
open PySem L2

/-! ### the promise of a def by values -/
def spD (K : PySem.W.Frag) (mg : Str → Option Value) (F : List D → R D) : Sp := fun vs H Q E => ∃ Oc ds, (∀ b ∈ Oc, ∃ o, H b = some o) ∧ RepL K mg (hid H Oc) vs ds ∧ match F ds with
  | .ok d => ∀ v H', Ex H H' → Rep K mg (hid H' Oc) v d → Q v H'
  | .er x => ∀ cls dd H', Ex H H' → XR K mg (hid H' Oc) x cls dd → E cls dd H'
  | .no => False
/-- what a body makes of its arguments: n parameters, m slots -/
def env0 (m : Nat) (ds : List Slot) : Env := ds ++ List.replicate (m - ds.length) .un
def endD : Fl → R D
  | .nx _ => .ok .non
  | .rt d _ => .ok d
  | .er x _ => .er x
  | _ => .no
def defD (n m : Nat) (g : S) (ds : List D) : R D := if ds.length = n then endD (g (env0 m (ds.map .sh))) else .no
theorem defD_len {n m : Nat} {g : S} {ds : List D} (h : defD n m g ds ≠ .no) : ds.length = n := by
  unfold defD at h
  split at h
  · assumption
  · exact absurd rfl h
theorem start_get {N : List Str} {vs : List V} {i : Nat} {v : V} (h : vs[i]? = some v) (hl : vs.length ≤ N.length) : (L2.start N vs)[i]? = some (some v) := by
  have hi := (List.getElem?_eq_some_iff.mp h).1
  unfold L2.start
  rw [List.getElem?_append_left (by simpa using hi), List.getElem?_map, h]
  rfl
theorem env0_get {m : Nat} {zs : List Slot} {i : Nat} {z : Slot} (h : (env0 m zs)[i]? = some z) : zs[i]? = some z ∨ z = .un := by
  unfold env0 at h
  by_cases hi : i < zs.length
  · rw [List.getElem?_append_left hi] at h; exact .inl h
  · rw [List.getElem?_append_right (by omega)] at h
    exact .inr (List.eq_of_mem_replicate (List.mem_iff_getElem?.mpr ⟨_, h⟩))
theorem env0_len {m : Nat} {zs : List Slot} (h : zs.length ≤ m) : (env0 m zs).length = m := by
  unfold env0
  rw [List.length_append, List.length_replicate]
  omega
theorem start_len {N : List Str} {vs : List V} (h : vs.length ≤ N.length) : (L2.start N vs).length = N.length := by
  unfold L2.start
  rw [List.length_append, List.length_map, List.length_replicate]
  omega
theorem RepL.at {K : PySem.W.Frag} {mg : Str → Option Value} {G : Hp} {vs : List V} {ds : List D} (r : RepL K mg G vs ds) {i : Nat} {d : D} (h : (ds.map Slot.sh)[i]? = some (.sh d)) : ∃ v, vs[i]? = some v ∧ Rep K mg G v d := by
  rw [List.getElem?_map] at h
  cases e : ds[i]? with
  | none => rw [e] at h; cases h
  | some d' => rw [e] at h; cases h; exact r.get e
abbrev cD (K : PySem.W.Frag) (mg : Str → Option Value) (H : Hp) (Oc : List Addr) : C := { K := K, mg := mg, H0 := H, Oc := Oc, J := [] }
theorem sr_start {K : PySem.W.Frag} {mg : Str → Option Value} {H : Hp} {Oc : List Addr} {N : List Str} {vs : List V} {ds : List D} (dom : ∀ b ∈ Oc, ∃ o, H b = some o) (r : RepL K mg (hid H Oc) vs ds) (hl : ds.length ≤ N.length) :
    SR (cD K mg H Oc) Oc (fun _ => True) H (L2.start N vs) (env0 N.length (ds.map .sh)) where
  mo := fun _ _ _ _ => trivial
  len := by rw [env0_len (by simpa using hl), start_len (by rw [r.length]; exact hl)]
  keep := fun _ _ h _ => h
  sub := fun _ h => h
  dom := dom
  gh := trivial
  sh := fun i d e => by
    rcases env0_get e with z | z
    · obtain ⟨v, h1, h2⟩ := r.at z
      exact ⟨v, start_get h1 (by rw [r.length]; exact hl), h2⟩
    · cases z
  ow := fun i d e => by
    rcases env0_get e with z | z
    · rw [List.getElem?_map] at z
      cases q : ds[i]? with
      | none => rw [q] at z; cases z
      | some d' => rw [q] at z; cases z
    · cases z
  inj := fun i j d e _ e1 _ => by
    rcases env0_get e1 with z | z
    · rw [List.getElem?_map] at z
      cases q : ds[i]? with
      | none => rw [q] at z; cases z
      | some d' => rw [q] at z; cases z
    · cases z
  io := fun a h => by cases h
  jo := fun a h => by cases h
  tab := fun P h => by cases h
section
variable {P : Program} {w : World} {K : PySem.W.Frag} {mg : Str → Option Value} {base : Heap}
/-- a def by its body -/
theorem okD {x qual : Str} {st : Stmt} {f : Addr} {fd : FuncData} {N ps : List Str} {k : Nat} {g : S} (n : Nat) (F : Fun K x qual st f fd) (Sc : FnScope N ps (defScope st)) (hn : ps.length = n) (hN : n ≤ N.length)
    (hbody : ∀ (cdv : Value) (A : Around) (outer : List PySem.Env) (s : Shared) (H : Hp) (Oc : List Addr) (E : XK), Room k (A.deeper (PyProof.Rows.envOfC qual (defScope st) s.heap.objs.size f cdv)) →
      PSs (cxOf (L2.CX P w) P w K mg base N qual (defScope st) f cdv A outer s H E) (defBody st) (tS (cD K mg H Oc) (fun cls d _ H' => E cls d H') g)) :
    FnOk P w K mg base (L2.CX P w) (k + 1) f fd ps (spD K mg (defD n N.length g)) := by
  refine F.okX Sc (fun vs H Q E h => ?_) (fun cdv A outer s H vs Q E hr h => ?_)
  · obtain ⟨Oc, ds, dom, r, m⟩ := h
    rw [r.length, hn]
    exact defD_len (m := N.length) (g := g) fun z => by rw [z] at m; exact m
  · obtain ⟨Oc, ds, dom, r, m⟩ := h
    have hl : ds.length = n := defD_len (m := N.length) (g := g) fun z => by rw [z] at m; exact m
    refine ⟨_, hbody cdv A outer s H Oc E hr, Oc, _, _, sr_start dom r (by omega), ?_⟩
    unfold defD at m
    rw [if_pos hl] at m
    have ex : ∀ {O' Γ' H' σ' ρ'}, SR (cD K mg H Oc) O' Γ' H' σ' ρ' → Ex H H' := fun s a o h => s.keep a o h (by simp)
    have sb : ∀ {O' Γ' H' σ' ρ'}, SR (cD K mg H Oc) O' Γ' H' σ' ρ' → Ex (hid H' O') (hid H' Oc) := fun s => ex_hid_sub s.sub
    cases q : g (env0 N.length (ds.map Slot.sh)) with
    | nx ρ' => rw [q] at m; exact fun O' σ' H' s' => m .non H' (ex s') .non
    | rt d ρ' => rw [q] at m; exact fun v O' σ' H' s' r' => m v H' (ex s') (r'.mono (sb s'))
    | er x ρ' => rw [q] at m; exact fun cls d O' σ' H' s' r' => m cls d H' (ex s') (r'.mono (sb s'))
    | bk ρ' => rw [q] at m; exact m.elim
    | ct ρ' => rw [q] at m; exact m.elim
    | no => rw [q] at m; exact m
end
/-- exceptions pass -/
def M.call (f : M (List D)) (F : List D → R D) : M D := f.bind fun ds => M.lift (F ds)
section
variable {c : C} {X : Cx} {W : WX} {O : List Addr} {Γ : Hp → Prop} {σ : L2.St} {H : Hp} {ρ : Env} {F : List D → R D}
theorem spD_of {vs : List V} {ds : List D} {Q : V → Hp → Prop} (s : SR c O Γ H σ ρ) (r : RepL c.K c.mg (hid H O) vs ds) (p : post c W O Γ σ H ρ (Rep c.K c.mg) (M.lift (F ds) ρ) Q) : spD c.K c.mg F vs H Q (WE W σ) := by
  refine ⟨O, ds, s.dom, r, ?_⟩
  unfold M.lift at p
  cases q : F ds with
  | ok d => rw [q] at p; exact fun v H' x r' => p v H' (Stp.of x) (s.ext x) r'
  | er y => rw [q] at p; exact fun cls d H' x r' => p cls d H' (Stp.of x) (s.ext x) r'
  | no => rw [q] at p; exact p
theorem de_call {f : Addr} {fd : FuncData} {ps : List Str} {k : Nat} {x : Str} {p pos : Pos} {e : Expr} {es : List Expr} {f2 : M (List D)} (g : Gd c X) (Fn : FnOk X.prog X.w X.K X.mg X.base (L2.CX X.prog X.w) k f fd ps (spD X.K X.mg F)) (hr : Room k X.A) (hm : X.mg x = some (.ref f))
    (hk : PySem.W.keepIn X.K (.ref f) = true) (hb : L2.Binds X.K fd ps []) (tk : Takes X W) (ha : PA X (e :: es) (tDs c W f2)) (hg : Gl X x := by rfl) (hdb : (x == ("__debug__" : Str)) = false := by decide)
    (he : starEach (e :: es) X.env = (false, eval e X.env) :: starEach es X.env := by rfl) (hpl : (backTo pos (starEach es X.env)).any (·.1) = false := by rfl) :
    PE X (.Call (.Name x p) (e :: es) [] pos) (tD c W (M.call f2 F)) := by
  refine PE.imp (pe_callSD (dvs := []) (E := WE W) Fn hr hg hm hk hb .nil (fun σ => passAt tk σ) ha hdb he hpl) fun σ H Q ⟨O, Γ, ρ, s, p⟩ => ?_
  refine bindX s p fun ds ρ1 vs H1 _ e1 s1 r1 p1 => ?_
  rw [List.append_nil]
  have z := spD_of s1 r1 p1
  rw [g.1, g.2.1] at z
  exact z
/-- raise X(), X an own exception without own __init__ -/
theorem pmk_own0 {C0 : Addr} {bmB : List Value} {B newId initId : String} {x : Str} {p pos : Pos} (F : ExcBaseFacts B newId initId bmB) (q : PySem.W.excIn X.K C0 bmB newId = true) (gC : X.mg x = some (.ref C0))
    (kC : PySem.W.keepIn X.K (.ref C0) = true) (r : Raises X (.ref C0)) (hg : Gl X x) (hdb : (x == ("__debug__" : Str)) = false := by decide) :
    PMk X (.Call (.Name x p) [] [] pos) (fun σ H Q => Q (.ref C0) none H) := by
  intro pins s σ H Q I h
  refine wpAny_Call_Name_kw (ld_glob I hg gC ?_ hdb)
  refine PySem.W.callWith_K0 I.kIn kC ?_
  show wpAny _ _ (call (.ref C0) []) _ _ _
  obtain ⟨bm, N, nm, qn, bs, hdct, sn, sub, ab, col, dd, k0, k1, k2, k3, k5, mN, hC, hN, hni, T⟩ := exc_obj I.kIn q
  refine wpAny_call_exc_subT F T hC hN hni (fun h' e hm => ?_) (Nat.zero_le _)
  exact mk_of I hm r h (I.hok.gone hm.new)
def S.raise (x : Str) : S := fun ρ => .er ⟨x, [], []⟩ ρ
theorem ds_raise0 {C0 : Addr} {bmB : List Value} {B newId initId : String} {x : Str} {p pos pos2 : Pos} (gd : Gd c X) (tk : Takes X W) (F : ExcBaseFacts B newId initId bmB) (q : PySem.W.excIn X.K C0 bmB newId = true) (gC : X.mg x = some (.ref C0))
    (kC : PySem.W.keepIn X.K (.ref C0) = true) (r : Raises X (.ref C0)) (hg : Gl X x := by rfl) (hdb : (x == ("__debug__" : Str)) = false := by decide) :
    PS X (.Raise (some (.Call (.Name x p) [] [] pos)) none pos2) (tS c W (S.raise x)) := PS.imp (ps_raise gd.2.2 tk (pmk_own0 F q gC kC r hg hdb)) fun Z σ H ⟨O, Γ, ρ, s, p⟩ =>
  p _ _ O σ H s ⟨C0, by rw [gd.2.1]; exact gC, rfl, .inl ⟨rfl, rfl, rfl⟩⟩
/-- try: .. except X: .. -/
def S.tryO (l : List (Str × Bool)) (g1 g2 : S) : S := fun ρ => match g1 ρ with
  | .er x ρ' => (match l.lookup x.c with
    | some true => g2 ρ'
    | some false => .er x ρ'
    | none => .no)
  | r => r
theorem ds_tryO {x : Str} {cv : Value} {body suite : List Stmt} {b₀ : Stmt} {np pos pos' : Pos} {g1 g2 : S} (l : List (Str × Bool)) (gd : Gd c X) (hs : X.stack = X.env :: X.outer) (hf : X.env.frame = some X.env.locals) (hc : Names X x cv) (tk : Takes X W)
    (hl : ∀ p ∈ l, ∀ C', X.mg p.1 = some (.ref C') → PySem.W.exmOne X.K (.ref C') cv = some p.2)
    (hb : ∀ (W' : WX) (pn : List (Addr × Obj)) (xe : Value → Shared → Prop), Takes (X.tr pn xe) W' → PassesOwn (model X.prog X.w) X.A X.env xe → PSs (X.tr pn xe) body (tS c W' g1))
    (hsu : ∀ (a : Addr) (oe : Obj) (cls : Value) (d : Option Addr) (pn : List (Addr × Obj)), PSs (X.suite a ((a, oe) :: pn)) (b₀ :: suite) (tS c W g2)) :
    PS X (.Try body [.ExceptHandler (some (.Name x np)) none (b₀ :: suite) pos'] [] [] pos) (tS c W (S.tryO l g1 g2)) := PS.imp (ps_try_only hs hf hc tk hb (fun a oe cls d pn _ _ => hsu a oe cls d pn)) fun Z σ H ⟨O, Γ, ρ, s, p⟩ => by
  refine ⟨O, Γ, ρ, s, ?_⟩
  unfold S.tryO at p
  cases q : g1 ρ with
  | nx ρ' => rw [q] at p; exact p
  | rt d ρ' => rw [q] at p; exact p
  | bk ρ' => rw [q] at p; exact p
  | ct ρ' => rw [q] at p; exact p
  | no => rw [q] at p; exact p
  | er y ρ' =>
    rw [q] at p
    dsimp only at p
    intro cls d O' σ' H' s' r'
    have r0 := r'
    obtain ⟨C', h1, h2, h3⟩ := r'
    subst h2
    cases e : l.lookup y.c with
    | none => rw [e] at p; exact p.elim
    | some b =>
      rw [e] at p
      refine ⟨b, hl (y.c, b) (PySem.mem_of_lookup e) C' (by rw [← gd.2.1]; exact h1), fun hb a _ => ?_, fun hb => ?_⟩
      · subst hb; exact ⟨O', Γ, ρ', s', p⟩
      · subst hb; exact p _ d O' σ' H' s' r0
end
end DL

/-! DL, part 12: defs that change their first argument, making objects, methods. -/
namespace DL
open PySem L2

inductive RI where
  | ok (d d1 : D) | er (x : Xn) | no
/-- the promise of a def that may change its first argument -/
def spI (K : PySem.W.Frag) (mg : Str → Option Value) (F : D → List D → RI) : Sp := fun vs H Q E => ∃ Oc ds d0 a vs', vs = .ref a :: vs' ∧ (∀ b ∈ Oc, ∃ o, H b = some o) ∧ a ∈ Oc ∧ Own K mg (hid H Oc) H a d0 ∧ RepL K mg (hid H Oc) vs' ds ∧ match F d0 ds with
  | .ok d d1 => ∀ v H', (∀ b o, H b = some o → b ≠ a → H' b = some o) → Own K mg (hid H' Oc) H' a d1 → Rep K mg (hid H' Oc) v d → Q v H'
  | .er x => ∀ cls dd H', (∀ b o, H b = some o → b ≠ a → H' b = some o) → (∃ o, H' a = some o) → XR K mg (hid H' Oc) x cls dd → E cls dd H'
  | .no => False
def endI : Fl → RI
  | .nx ρ => (match ρ[(0 : Nat)]? with | some (.ow d1) => .ok .non d1 | _ => .no)
  | .rt d ρ => (match ρ[(0 : Nat)]? with | some (.ow d1) => .ok d d1 | _ => .no)
  | .er x _ => .er x
  | _ => .no
def defI (n m : Nat) (g : S) (d0 : D) (ds : List D) : RI := if ds.length + 1 = n then endI (g (env0 m (.ow d0 :: ds.map .sh))) else .no
theorem defI_len {n m : Nat} {g : S} {d0 : D} {ds : List D} (h : defI n m g d0 ds ≠ .no) : ds.length + 1 = n := by
  unfold defI at h
  split at h
  · assumption
  · exact absurd rfl h
abbrev cI (K : PySem.W.Frag) (mg : Str → Option Value) (H : Hp) (Oc : List Addr) (a : Addr) : C := { K := K, mg := mg, H0 := H, Oc := Oc, J := [a] }
theorem sr_startI {K : PySem.W.Frag} {mg : Str → Option Value} {H : Hp} {Oc : List Addr} {N : List Str} {vs : List V} {ds : List D} {a : Addr} {d0 : D} (dom : ∀ b ∈ Oc, ∃ o, H b = some o) (ha : a ∈ Oc) (ho : Own K mg (hid H Oc) H a d0) (r : RepL K mg (hid H Oc) vs ds) (hl : ds.length + 1 ≤ N.length) :
    SR (cI K mg H Oc a) Oc (fun _ => True) H (L2.start N (.ref a :: vs)) (env0 N.length (.ow d0 :: ds.map .sh)) := by
  have hv : (V.ref a :: vs).length ≤ N.length := by rw [List.length_cons, r.length]; exact hl
  have one : ∀ {i : Nat} {d : D}, (env0 N.length (.ow d0 :: ds.map .sh))[i]? = some (.ow d) → i = 0 ∧ d = d0 := fun {i d} e => by
    rcases env0_get e with z | z
    · cases i with
      | zero => simp at z; exact ⟨rfl, z.symm⟩
      | succ i =>
        rw [List.getElem?_cons_succ, List.getElem?_map] at z
        cases q : ds[i]? with
        | none => rw [q] at z; cases z
        | some d' => rw [q] at z; cases z
    · cases z
  have s0 : (L2.start N (.ref a :: vs))[0]? = some (some (.ref a)) := start_get rfl hv
  refine ⟨fun _ _ _ _ => trivial, by rw [env0_len (by simpa using hl), start_len hv], fun _ _ h _ => h, fun _ h => h, dom, trivial, fun i d e => ?_, fun i d e => ?_, fun i j d e hij e1 e2 => ?_, fun b hb => ?_, fun b hb => ?_, fun P h => by cases h⟩
  · rcases env0_get e with z | z
    · cases i with
      | zero => simp at z
      | succ i =>
        rw [List.getElem?_cons_succ] at z
        obtain ⟨v, h1, h2⟩ := r.at z
        exact ⟨v, start_get (by rw [List.getElem?_cons_succ]; exact h1) hv, h2⟩
    · cases z
  · obtain ⟨rfl, rfl⟩ := one e
    exact ⟨a, s0, ha, .inr ⟨List.mem_cons_self, rfl⟩, ho⟩
  · exact absurd ((one e1).1.trans (one e2).1.symm) hij
  · rcases List.mem_cons.mp hb with z | z
    · rw [z]; exact s0
    · cases z
  · rcases List.mem_cons.mp hb with z | z
    · rw [z]; exact ha
    · cases z
section
variable {P : Program} {w : World} {K : PySem.W.Frag} {mg : Str → Option Value} {base : Heap}
theorem okI {x qual : Str} {st : Stmt} {f : Addr} {fd : FuncData} {N ps : List Str} {k : Nat} {g : S} (n : Nat) (F : Fun K x qual st f fd) (Sc : FnScope N ps (defScope st)) (hn : ps.length = n) (hN : n ≤ N.length)
    (hbody : ∀ (cdv : Value) (A : Around) (outer : List PySem.Env) (s : Shared) (H : Hp) (Oc : List Addr) (a : Addr) (E : XK), Room k (A.deeper (PyProof.Rows.envOfC qual (defScope st) s.heap.objs.size f cdv)) →
      PSs (cxOf (L2.CX P w) P w K mg base N qual (defScope st) f cdv A outer s H E) (defBody st) (tS (cI K mg H Oc a) (fun cls d _ H' => E cls d H') g)) :
    FnOk P w K mg base (L2.CX P w) (k + 1) f fd ps (spI K mg (defI n N.length g)) := by
  refine F.okX Sc (fun vs H Q E h => ?_) (fun cdv A outer s H vs Q E hr h => ?_)
  · obtain ⟨Oc, ds, d0, a, vs', rfl, dom, ha, ho, r, m⟩ := h
    rw [List.length_cons, r.length, hn]
    exact defI_len (m := N.length) (g := g) (d0 := d0) fun z => by rw [z] at m; exact m
  · obtain ⟨Oc, ds, d0, a, vs', rfl, dom, ha, ho, r, m⟩ := h
    have hl : ds.length + 1 = n := defI_len (m := N.length) (g := g) (d0 := d0) fun z => by rw [z] at m; exact m
    refine ⟨_, hbody cdv A outer s H Oc a E hr, Oc, _, _, sr_startI dom ha ho r (by omega), ?_⟩
    unfold defI at m
    rw [if_pos hl] at m
    have kp : ∀ {O' Γ' H' σ' ρ'}, SR (cI K mg H Oc a) O' Γ' H' σ' ρ' → ∀ b o, H b = some o → b ≠ a → H' b = some o := fun s b o h n => s.keep b o h (by simpa using n)
    have sb : ∀ {O' Γ' H' σ' ρ'}, SR (cI K mg H Oc a) O' Γ' H' σ' ρ' → Ex (hid H' O') (hid H' Oc) := fun s => ex_hid_sub s.sub
    have at0 : ∀ {O' Γ' H' σ' ρ' d1}, SR (cI K mg H Oc a) O' Γ' H' σ' ρ' → ρ'[(0 : Nat)]? = some (.ow d1) → Own K mg (hid H' Oc) H' a d1 := fun {O' Γ' H' σ' ρ' d1} s e => by
      obtain ⟨b, h1, _, _, h4⟩ := s.ow 0 d1 e
      have h0 := s.io a List.mem_cons_self
      rw [h0] at h1
      cases h1
      exact h4.mono (sb s)
    cases q : g (env0 N.length (.ow d0 :: ds.map Slot.sh)) with
    | nx ρ' =>
      rw [q] at m
      intro O' σ' H' s'
      cases e0 : ρ'[(0 : Nat)]? with
      | none => simp only [endI, e0] at m <;> exact m.elim
      | some z => cases z with
        | ow d1 => simp only [endI, e0] at m; exact m .non H' (kp s') (at0 s' e0) .non
        | un => simp only [endI, e0] at m <;> exact m.elim
        | sh _ => simp only [endI, e0] at m <;> exact m.elim
    | rt d ρ' =>
      rw [q] at m
      intro v O' σ' H' s' r'
      cases e0 : ρ'[(0 : Nat)]? with
      | none => simp only [endI, e0] at m <;> exact m.elim
      | some z => cases z with
        | ow d1 => simp only [endI, e0] at m; exact m v H' (kp s') (at0 s' e0) (r'.mono (sb s'))
        | un => simp only [endI, e0] at m <;> exact m.elim
        | sh _ => simp only [endI, e0] at m <;> exact m.elim
    | er x ρ' =>
      rw [q] at m
      intro cls d O' σ' H' s' r'
      obtain ⟨o, eo⟩ := s'.dom a (s'.sub a ha)
      exact m cls d H' (kp s') ⟨o, eo⟩ (r'.mono (sb s'))
    | bk ρ' => rw [q] at m; exact m.elim
    | ct ρ' => rw [q] at m; exact m.elim
    | no => rw [q] at m; exact m
end

/-! ### calling them -/
section
variable {c : C} {O : List Addr} {Γ : Hp → Prop} {H H' : Hp} {σ : L2.St} {ρ : Env}
theorem SR.wrG (s : SR c O Γ H σ ρ) {i : Nat} {a : Addr} {d : D} {z : Slot} (e : ρ[i]? = some (.ow d)) (ea : σ[i]? = some (some (.ref a))) (k : ∀ b o, H b = some o → b ≠ a → H' b = some o) (ho : ∃ o, H' a = some o)
    (hz : match z with | .ow d' => Own c.K c.mg (hid H' O) H' a d' | .un => True | .sh _ => False) : SR c O Γ H' σ (ρ.set i z) := by
  obtain ⟨a', h1, h2, h3, h4⟩ := s.ow i d e
  rw [ea] at h1
  cases h1
  have hx : Ex (hid H O) (hid H' O) := fun b o q => by
    obtain ⟨n, q⟩ := hid_some q
    rw [hid_out n]
    exact k b o q fun z => n (z ▸ h2)
  refine ⟨s.mo, by rw [List.length_set]; exact s.len, fun b o h n => ?_, s.sub, fun b hb => ?_, s.mo _ _ hx s.gh, fun j d e' => ?_, fun j d2 e' => ?_, fun j k d e he e1 e2 => ?_, s.io, s.jo, s.tabOf (fun P hP => ?_) hx⟩
  · have hb : b ≠ a := fun z => by
      subst z
      rcases h3 with ⟨_, z⟩ | ⟨z, _⟩
      · rw [h] at z; cases z
      · exact n z
    exact k b o (s.keep b o h n) hb
  · by_cases z : b = a
    · rw [z]; exact ho
    · obtain ⟨o, q⟩ := s.dom b hb
      exact ⟨o, k b o q z⟩
  · rcases set_none e' with ⟨_, z, _⟩ | ⟨hj, e'⟩
    · subst z; exact hz.elim
    · obtain ⟨v, g1, g2⟩ := s.sh j d e'
      exact ⟨v, g1, g2.mono hx⟩
  · rcases set_none e' with ⟨rfl, z, _⟩ | ⟨hj, e''⟩
    · subst z
      exact ⟨a, ea, h2, h3, hz⟩
    · obtain ⟨b, g1, g2, g3, g4⟩ := s.ow j d2 e''
      have hb : b ≠ a := fun z => by
        subst z
        exact s.inj j i d2 d hj e'' e (g1.trans ea.symm)
      obtain ⟨o, eo⟩ := g4.some
      exact ⟨b, g1, g2, g3, (g4.mono hx).at ((k b o eo hb).trans eo.symm)⟩
  · have g : ∀ {j : Nat} {d : D}, (ρ.set i z)[j]? = some (.ow d) → ∃ d0, ρ[j]? = some (.ow d0) := fun {j d} w => by
      rcases set_none w with ⟨rfl, _, _⟩ | ⟨_, w⟩
      · exact ⟨_, by assumption⟩
      · exact ⟨_, w⟩
    obtain ⟨d1, z1⟩ := g e1
    obtain ⟨d2, z2⟩ := g e2
    exact s.inj j _ d1 d2 he z1 z2
  · obtain ⟨_, _, _, ps, q, _⟩ := s.tab P hP
    rw [q]
    exact k P _ q fun z => s.noT e ea (z ▸ hP)
theorem Stp.wrG {i : Nat} {a : Addr} {d : D} {z : Slot} (e : ρ[i]? = some (.ow d)) (ea : σ[i]? = some (some (.ref a))) (k : ∀ b o, H b = some o → b ≠ a → H' b = some o) : Stp c.T σ ρ (ρ.set i z) H H' where
  kp := fun b o h _ n => k b o h fun z => by subst z; exact n i d e ea
  ows := fun j d2 e' => by
    rcases set_none e' with ⟨rfl, _, _⟩ | ⟨_, e'⟩
    · exact ⟨d, e⟩
    · exact ⟨d2, e'⟩
end
def M.callI (i : Nat) (f : M (List D)) (F : D → List D → RI) : M D := fun ρ => match ρ[i]? with
  | some (.ow _) => (match f ρ with
    | .ok ds ρ1 => (match ρ1[i]? with
      | some (.ow d0) => (match F d0 ds with
        | .ok d d1 => .ok d (ρ1.set i (.ow d1))
        | .er x => .er x (ρ1.set i .un)
        | .no => .no)
      | _ => .no)
    | .er x ρ1 => .er x ρ1
    | .no => .no)
  | _ => .no
section
variable {c : C} {X : Cx} {W : WX} {F : D → List D → RI}
theorem de_callI (i : Nat) {y : Str} {f : Addr} {fd : FuncData} {ps : List Str} {k : Nat} {x : Str} {p pos px : Pos} {es : List Expr} {f2 : M (List D)} (g : Gd c X) (Fn : FnOk X.prog X.w X.K X.mg X.base (L2.CX X.prog X.w) k f fd ps (spI X.K X.mg F)) (hr : Room k X.A) (hm : X.mg x = some (.ref f))
    (hk : PySem.W.keepIn X.K (.ref f) = true) (hb : L2.Binds X.K fd ps []) (tk : Takes X W) (ha : PA X es (tDs c W f2)) (hN : X.N[i]? = some y := by rfl) (hv : Vis X.env.scope y := by first | exact Or.inl rfl | exact Or.inr (Or.inl rfl) | exact Or.inr (Or.inr rfl))
    (hg : Gl X x := by rfl) (hdb : (x == ("__debug__" : Str)) = false := by decide) (hdb2 : (y == ("__debug__" : Str)) = false := by decide) (hcd2 : (y == ("__classdict__" : Str)) = false := by decide)
    (he : starEach (.Name y px :: es) X.env = (false, eval (.Name y px) X.env) :: starEach es X.env := by rfl) (hpl : (backTo pos (starEach es X.env)).any (·.1) = false := by rfl) :
    PE X (.Call (.Name x p) (.Name y px :: es) [] pos) (tD c W (M.callI i f2 F)) := by
  refine PE.imp (pe_callSD (dvs := []) (E := WE W) Fn hr hg hm hk hb .nil (fun σ => passAt tk σ) (pa_cons (pe_var (i := i) hN hv hdb2 hcd2) ha he) hdb he hpl) fun σ H Q ⟨O, Γ, ρ, s, p⟩ => ?_
  unfold M.callI at p
  cases e0 : ρ[i]? with
  | none => rw [e0] at p; exact p.elim
  | some z => cases z with
    | un => rw [e0] at p; exact p.elim
    | sh _ => rw [e0] at p; exact p.elim
    | ow d00 =>
      rw [e0] at p
      obtain ⟨a, ea, _⟩ := s.ow i d00 e0
      refine ⟨.ref a, ea, O, Γ, ρ, s, ?_⟩
      dsimp only at p
      cases q : f2 ρ with
      | no => rw [q] at p; exact p
      | er x ρ1 => rw [q] at p; exact p
      | ok ds ρ1 =>
        rw [q] at p
        dsimp only at p
        intro vs H1 st1 s1 r1
        cases e1 : ρ1[i]? with
        | none => rw [e1] at p; exact p.elim
        | some z => cases z with
          | un => rw [e1] at p; exact p.elim
          | sh _ => rw [e1] at p; exact p.elim
          | ow d0 =>
            rw [e1] at p
            dsimp only at p
            obtain ⟨a', ea', hO, _, ho⟩ := s1.ow i d0 e1
            rw [ea] at ea'
            cases ea'
            rw [List.append_nil]
            refine ⟨O, ds, d0, a, vs, rfl, s1.dom, hO, by rw [← g.1, ← g.2.1]; exact ho, by rw [← g.1, ← g.2.1]; exact r1, ?_⟩
            cases q3 : F d0 ds with
            | no => rw [q3] at p; exact p.elim
            | ok d d1 =>
              rw [q3] at p
              intro v H' k' o' r'
              rw [← g.1, ← g.2.1] at o' r'
              exact p v H' (st1.trans (Stp.wrG e1 ea k')) (s1.wrG e1 ea k' o'.some o') r'
            | er x =>
              rw [q3] at p
              intro cls dd H' k' o' r'
              rw [← g.1, ← g.2.1] at r'
              exact p cls dd H' (st1.trans (Stp.wrG e1 ea k')) (s1.wrG e1 ea k' o' trivial) r'
end
end DL

/-! DL, part 13: objects: fields, methods, making. -/
namespace DL
open PySem L2

/-! ### fields -/
def D.fldL (f : Str) : List Str → List D → R D
  | n :: ns, d :: ds => if f = n then .ok d else D.fldL f ns ds
  | _, _ => .no
/-- o.f, the object's class one of l -/
def D.fld (l : List Str) (f : Str) : D → R D
  | .obj c ns ds => if c ∈ l then D.fldL f ns ds else .no
  | _ => .no
theorem fldL_rep {K : PySem.W.Frag} {mg : Str → Option Value} {G : Hp} {f : Str} {d : D} : ∀ {fs : List (Str × V)} {ds : List D}, RepL K mg G (fs.map fun p => p.2) ds → D.fldL f (fs.map fun p => p.1) ds = .ok d → ∃ v, fs.lookup f = some v ∧ Rep K mg G v d
  | [], ds, r, e => by simp [D.fldL] at e
  | (n, v) :: fs, [], r, e => by cases r
  | (n, v) :: fs, d' :: ds, .cons r t, e => by
    rw [List.map_cons] at e
    unfold D.fldL at e
    by_cases h : f = n
    · rw [if_pos h] at e
      cases e
      exact ⟨v, by rw [List.lookup_cons, h, beq_self_eq_true], r⟩
    · rw [if_neg h] at e
      obtain ⟨w, h1, h2⟩ := fldL_rep t e
      exact ⟨w, by rw [List.lookup_cons, beq_eq_false_iff_ne.mpr h]; exact h1, h2⟩
theorem fldL_none {f : Str} : ∀ {fs : List (Str × V)}, f ∉ fs.map (fun p => p.1) → fs.lookup f = none
  | [], _ => rfl
  | (n, v) :: fs, h => by
    rw [List.lookup_cons, beq_eq_false_iff_ne.mpr (fun z => h (by rw [z]; exact List.mem_cons_self))]
    exact fldL_none fun z => h (List.mem_cons_of_mem _ z)
def M.fld (l : List Str) (f : Str) (m : M D) : M D := m.bind fun d => M.lift (D.fld l f d).good
section
variable {c : C} {X : Cx} {W : WX} {e : Expr} {m : M D} {pos : Pos}
theorem de_fld {f : Str} (l : List Str) (g : Gd c X) (hl : ∀ cn ∈ l, ∀ C0, X.mg cn = some (.ref C0) → Cls X.K C0 ∧ NoAttr X.K C0 f) (he : PE X e (tD c W m)) (hb : attributeBase e f X.env (eval e X.env) = eval e X.env := by rfl) :
    PE X (.Attribute e f pos) (tD c W (M.fld l f m)) := by
  refine PE.imp (pe_fld he hb) fun σ H Q ⟨O, Γ, ρ, s, p⟩ => ?_
  refine bindX s p fun d ρ1 v H1 _ e1 s1 r1 p1 => ?_
  obtain ⟨d', ed, q⟩ := post_lift s1 p1
  cases r1 with
  | @obj a C0 dx cn fs ns ds hm ha hn hr =>
    simp only [D.fld] at ed
    by_cases hc : cn ∈ l
    · rw [if_pos hc] at ed
      subst hn
      obtain ⟨w, h1, h2⟩ := fldL_rep hr ed
      obtain ⟨k1, k2⟩ := hl cn hc C0 (by rw [← g.2.1]; exact hm)
      exact ⟨a, C0, dx, fs, w, rfl, (hid_some ha).2, k1, k2, h1, q w H1 (Ex.refl _) h2⟩
    · rw [if_neg hc] at ed; cases ed
  | _ => cases ed
end

/-! ### fields stored -/
def putN (f : Str) : List Str → List Str
  | [] => [f]
  | n :: ns => if n = f then f :: ns else n :: putN f ns
def putD (f : Str) (d : D) : List Str → List D → List D
  | n :: ns, x :: ds => if n = f then d :: ds else x :: putD f d ns ds
  | _, _ => [d]
theorem putF_names {f : Str} {v : V} : ∀ {fs : List (Str × V)}, (putF f v fs).map (fun p => p.1) = putN f (fs.map fun p => p.1)
  | [] => rfl
  | (g, x) :: r => by
    unfold putF
    rw [List.map_cons]
    unfold putN
    by_cases h : g = f
    · rw [if_pos h, if_pos h, List.map_cons, h]
    · rw [if_neg h, if_neg h, List.map_cons, putF_names]
theorem putF_vals {K : PySem.W.Frag} {mg : Str → Option Value} {G : Hp} {f : Str} {v : V} {d : D} (hv : Rep K mg G v d) : ∀ {fs : List (Str × V)} {ds : List D}, RepL K mg G (fs.map fun p => p.2) ds → RepL K mg G ((putF f v fs).map fun p => p.2) (putD f d (fs.map fun p => p.1) ds)
  | [], [], _ => .cons hv .nil
  | (g, x) :: r, y :: ds, .cons h t => by
    unfold putF
    rw [List.map_cons]
    unfold putD
    by_cases q : g = f
    · rw [if_pos q, if_pos q]; exact .cons hv t
    · rw [if_neg q, if_neg q]; exact .cons h (putF_vals hv t)
def S.fld (i : Nat) (l : List Str) (f : Str) (m : M D) : S := fun ρ => match m ρ with
  | .ok d ρ1 => (match ρ1[i]? with
    | some (.ow (.obj c ns ds)) => if c ∈ l ∧ ns.length < 1000 then .nx (ρ1.set i (.ow (.obj c (putN f ns) (putD f d ns ds)))) else .no
    | _ => .no)
  | .er x ρ' => .er x ρ'
  | .no => .no
section
variable {c : C} {X : Cx} {W : WX} {e : Expr} {m : M D} {pos : Pos}
theorem ds_fld {f x : Str} {pos' px : Pos} (i : Nat) (l : List Str) (g : Gd c X) (hl : ∀ cn ∈ l, ∀ C0, X.mg cn = some (.ref C0) → Cls X.K C0 ∧ NoAttr X.K C0 f) (he : PE X e (tD c W m)) (hN : X.N[i]? = some x := by rfl)
    (hv : Vis X.env.scope x := by first | exact Or.inl rfl | exact Or.inr (Or.inl rfl) | exact Or.inr (Or.inr rfl)) (hdb : (x == ("__debug__" : Str)) = false := by decide) (hcd : (x == ("__classdict__" : Str)) = false := by decide) (hs : swapsWith e (some (.Attribute (.Name x px) f pos')) pos.line X.env = pure false := by rfl) :
    PS X (.Assign [.Attribute (.Name x px) f pos'] e pos) (tS c W (S.fld i l f m)) := PS.imp (ps_fld (pe_var (i := i) hN hv hdb hcd) he hs) fun Z σ H ⟨O, Γ, ρ, s, p⟩ => by
  refine ⟨O, Γ, ρ, s, ?_⟩
  unfold S.fld at p
  cases q : m ρ with
  | no => rw [q] at p; exact p
  | er y ρ' => rw [q] at p; exact fun cls d H1 _ s1 r => p cls d O σ H1 s1 r
  | ok d ρ1 =>
    rw [q] at p
    intro v H1 _ s1 r1
    dsimp only at p
    split at p
    · rename_i cn ns ds e0
      split at p
      · rename_i hc
        obtain ⟨a, ea, hO, h3, C0, dx, fs, hm, ha, hn, hr⟩ := s1.ow i _ e0
        subst hn
        obtain ⟨k1, k2⟩ := hl cn hc.1 C0 (by rw [← g.2.1]; exact hm)
        refine ⟨.ref a, ea, a, C0, dx, fs, rfl, ha, k1, k2, by simpa using hc.2, ?_⟩
        refine p O σ _ (s1.wr e0 ea ⟨C0, dx, _, hm, upd_same, putF_names.symm, ?_⟩)
        exact putF_vals r1 hr
      · exact p.elim
    · exact p.elim
end

/-! ### methods, exceptions by the slots' state -/
section
variable {X : Cx} {CX : CXT} {k : Nat} {f C0 : Addr} {fd : FuncData} {ps : List Str} {sp : Sp} {E : L2.St → XK} {x m : Str} {p pos apos : Pos} {e o : Expr} {es : List Expr} {ta : TE} {t : TA}
def tMethSD (C0 : Addr) (m : Str) (sp : Sp) (E : L2.St → XK) (ta : TE) (t : TA) : TE := fun σ H Q => ta σ H fun x H1 => ∃ a dx fs, x = .ref a ∧ H1 a = some (.ins C0 dx fs) ∧ fs.lookup m = none ∧ t σ H1 fun vs H2 => sp (x :: vs) H2 Q (E σ)
theorem tMethSD_nil : PA X [] (fun _ H Q => Q [] H) := pa_nil
theorem pe_methSD {pl : Sem Bool} (he : PE X o ta) (c : Cls X.K C0) (hm : Meth X.K C0 m f) (F : FnOk X.prog X.w X.K X.mg X.base CX k f fd ps sp) (hr : Room k X.A) (hb : L2.Binds X.K fd ps []) (hx : ∀ σ, PassesAt CX X σ (E σ)) (ha : PA X (e :: es) t)
    (hst : starEach (e :: es) X.env = (false, eval e X.env) :: starEach es X.env := by rfl) (hpl : (backTo pos (starEach es X.env)).any (·.1) = false := by rfl)
    (ht : eval (.Call (.Attribute o m apos) (e :: es) [] pos) X.env = (do
      let ov ← eval o X.env
      standAt apos.atName
      let (f, first) ← holding [ov] (getMethod ov m pl)
      callWith pos f first (backTo pos (starEach (e :: es) X.env)) (backToKw pos (keywordEach [] X.env))) := by rfl) :
    PE X (.Call (.Attribute o m apos) (e :: es) [] pos) (tMethSD C0 m sp E ta t) := by
  refine ⟨fun pins s σ H Q I h => ?_⟩
  refine PySem.W.methodCall_KW (pl := pl) (thn (he.run pins s σ H _ I h) fun u s1 ⟨x, H1, I1, rx, a, dx, fs, ex, ea, l, q⟩ => ?_) ht
  subst ex
  obtain rfl : u = Value.ref a := rx
  refine getmeth_ok I1 ea c hm l ?_
  refine PySem.W.callWith_K (first := [.ref a]) (h₀ := X.base) I.ok.mod.kin hm.kp (thn (ha.run pos pins s1 σ H1 _ I1 q) fun us s2 ⟨vs, H2, I2, r, q2⟩ => ⟨I2.kIn, ?_⟩) hst hpl
  exact run_fnSD (dvs := []) (ds := []) (us := .ref a :: us) (vs := .ref a :: vs) F hr hb .nil (hx σ) I2 (.cons rfl r) (by rw [List.append_nil]; exact q2)
theorem pe_methSD0 {pl : Sem Bool} (he : PE X o ta) (c : Cls X.K C0) (hm : Meth X.K C0 m f) (F : FnOk X.prog X.w X.K X.mg X.base CX k f fd ps sp) (hr : Room k X.A) (hb : L2.Binds X.K fd ps []) (hx : ∀ σ, PassesAt CX X σ (E σ))
    (ht : eval (.Call (.Attribute o m apos) [] [] pos) X.env = (do
      let ov ← eval o X.env
      standAt apos.atName
      let (f, first) ← holding [ov] (getMethod ov m pl)
      callWith pos f first (backTo pos (starEach [] X.env)) (backToKw pos (keywordEach [] X.env))) := by rfl) :
    PE X (.Call (.Attribute o m apos) [] [] pos) (tMethSD C0 m sp E ta (fun _ H Q => Q [] H)) := by
  refine ⟨fun pins s σ H Q I h => ?_⟩
  refine PySem.W.methodCall_KW (pl := pl) (thn (he.run pins s σ H _ I h) fun u s1 ⟨x, H1, I1, rx, a, dx, fs, ex, ea, l, q⟩ => ?_) ht
  subst ex
  obtain rfl : u = Value.ref a := rx
  refine getmeth_ok I1 ea c hm l ?_
  exact PySem.W.callWith_K0 (first := [.ref a]) I1.kIn hm.kp (run_fnSD (dvs := []) (ds := []) (us := [.ref a]) (vs := [.ref a]) F hr hb .nil (hx σ) I1 (.cons rfl .nil) (by rw [List.append_nil]; exact q))
/-- C(..) -/
def tMakeSD (C0 : Addr) (sp : Sp) (E : L2.St → XK) (t : TA) : TE := fun σ H Q => t σ H fun vs H1 => ∀ x dx, H1 x = none → H1 dx = none → dx ≠ x → sp (.ref x :: vs) (upd (upd H1 dx (.own x)) x (.ins C0 dx [])) (fun v H2 => v = .non ∧ Q (.ref x) H2) (E σ)
theorem pe_makeSD (Mm : Mk X.K C0 f) (F : FnOk X.prog X.w X.K X.mg X.base CX k f fd ps sp) (hr : Room (k + 1) X.A) (hg : Gl X x) (hm : X.mg x = some (.ref C0)) (hb : L2.Binds X.K fd ps []) (hx : ∀ σ, PassesAt CX X σ (E σ))
    (ha : PA X (e :: es) t) (hdb : (x == ("__debug__" : Str)) = false := by decide) (he : starEach (e :: es) X.env = (false, eval e X.env) :: starEach es X.env := by rfl) (hpl : (backTo pos (starEach es X.env)).any (·.1) = false := by rfl) :
    PE X (.Call (.Name x p) (e :: es) [] pos) (tMakeSD C0 sp E t) := by
  refine ⟨fun pins s0 σ H0 Q I0 h => ?_⟩
  refine wpAny_Call_Name_kw (ld_glob I0 hg hm ?_ hdb)
  refine PySem.W.callWith_K (h₀ := X.base) I0.ok.mod.kin Mm.kp (thn (ha.run pos pins s0 σ H0 _ I0 h) fun us s ⟨vs, H, I, r, q⟩ => ⟨I.kIn, ?_⟩) he hpl
  have hq := q (s.heap.objs.size + 1) s.heap.objs.size (I.hok.fresh (Nat.le_succ _)) (I.hok.fresh (Nat.le_refl _)) (Nat.ne_of_lt (Nat.lt_succ_self _))
  have I2 := Inv.made (C := C0) I
  have r2 : Vals (V.ref (s.heap.objs.size + 1) :: vs) (Value.ref (s.heap.objs.size + 1) :: us) := .cons rfl r
  have hl : (Value.ref (s.heap.objs.size + 1) :: us ++ []).length = ps.length := by
    have e := r2.length
    rw [F.len _ _ _ _ hq] at e
    rw [List.append_nil]
    exact e.symm
  have hbb := hb _ (Value.ref (s.heap.objs.size + 1) :: us) I2.kIn hl
  rw [List.append_nil] at hbb
  refine wpAny_call (make_map (f := f) I.kIn Mm.makes Mm.init (beq_iff_eq.mp Mm.fn) (codeAny_mono (F.run _ X.stack _ _ ⟨Value.ref (s.heap.objs.size + 1) :: us, []⟩ (Value.ref (s.heap.objs.size + 1) :: us) _ _ (E σ) (hr.make C0 us [])
    (I2.env0.make C0 us []) hbb r2 hq) fun r s' hq' => ?_))
  cases r with
  | error e => exact hx σ pins _ _ e s' I2 hq'
  | ok fl =>
    cases fl with
    | ret u =>
      obtain ⟨v, H', I3, rv, ev, q3⟩ := I2.after hq'
      subst ev
      exact ⟨rv, ⟨V.ref (s.heap.objs.size + 1), H', I3, rfl, q3⟩⟩
    | next => exact False.elim hq'
    | brk => exact False.elim hq'
    | cont => exact False.elim hq'
end
end DL

/-! DL, part 14: objects by data: methods, making. -/
namespace DL
open PySem L2
section
variable {X : Cx} {CX : CXT} {k : Nat} {C0 : Addr} {E : L2.St → XK} {x m : Str} {p pos apos : Pos} {e o : Expr} {es : List Expr} {ta : TE} {t : TA}
/-- o.m(..), the class any -/
def tMethM (X : Cx) (k : Nat) (m : Str) (E : L2.St → XK) (ta : TE) (t : TA) : TE := fun σ H Q => ta σ H fun x H1 => ∃ (a C0 dx : Addr) (fs : List (Str × V)) (f : Addr) (fd : FuncData) (ps : List Str) (sp : Sp), x = .ref a ∧ H1 a = some (.ins C0 dx fs) ∧ fs.lookup m = none ∧ Cls X.K C0 ∧ Meth X.K C0 m f ∧
  FnOk X.prog X.w X.K X.mg X.base (L2.CX X.prog X.w) k f fd ps sp ∧ L2.Binds X.K fd ps [] ∧ t σ H1 fun vs H2 => sp (x :: vs) H2 Q (E σ)
theorem pe_methM {pl : Sem Bool} (he : PE X o ta) (hr : Room k X.A) (hx : ∀ σ, PassesAt (L2.CX X.prog X.w) X σ (E σ)) (ha : PA X (e :: es) t)
    (hst : starEach (e :: es) X.env = (false, eval e X.env) :: starEach es X.env := by rfl) (hpl : (backTo pos (starEach es X.env)).any (·.1) = false := by rfl)
    (ht : eval (.Call (.Attribute o m apos) (e :: es) [] pos) X.env = (do
      let ov ← eval o X.env
      standAt apos.atName
      let (f, first) ← holding [ov] (getMethod ov m pl)
      callWith pos f first (backTo pos (starEach (e :: es) X.env)) (backToKw pos (keywordEach [] X.env))) := by rfl) :
    PE X (.Call (.Attribute o m apos) (e :: es) [] pos) (tMethM X k m E ta t) := by
  refine ⟨fun pins s σ H Q I h => ?_⟩
  refine PySem.W.methodCall_KW (pl := pl) (thn (he.run pins s σ H _ I h) fun u s1 ⟨x, H1, I1, rx, a, C0, dx, fs, f, fd, ps, sp, ex, ea, l, c, hm, F, hb, q⟩ => ?_) ht
  subst ex
  obtain rfl : u = Value.ref a := rx
  refine getmeth_ok I1 ea c hm l ?_
  refine PySem.W.callWith_K (first := [.ref a]) (h₀ := X.base) I.ok.mod.kin hm.kp (thn (ha.run pos pins s1 σ H1 _ I1 q) fun us s2 ⟨vs, H2, I2, r, q2⟩ => ⟨I2.kIn, ?_⟩) hst hpl
  exact run_fnSD (dvs := []) (ds := []) (us := .ref a :: us) (vs := .ref a :: vs) F hr hb .nil (hx σ) I2 (.cons rfl r) (by rw [List.append_nil]; exact q2)
theorem pe_methM0 {pl : Sem Bool} (he : PE X o ta) (hr : Room k X.A) (hx : ∀ σ, PassesAt (L2.CX X.prog X.w) X σ (E σ))
    (ht : eval (.Call (.Attribute o m apos) [] [] pos) X.env = (do
      let ov ← eval o X.env
      standAt apos.atName
      let (f, first) ← holding [ov] (getMethod ov m pl)
      callWith pos f first (backTo pos (starEach [] X.env)) (backToKw pos (keywordEach [] X.env))) := by rfl) :
    PE X (.Call (.Attribute o m apos) [] [] pos) (tMethM X k m E ta tNil) := by
  refine ⟨fun pins s σ H Q I h => ?_⟩
  refine PySem.W.methodCall_KW (pl := pl) (thn (he.run pins s σ H _ I h) fun u s1 ⟨x, H1, I1, rx, a, C0, dx, fs, f, fd, ps, sp, ex, ea, l, c, hm, F, hb, q⟩ => ?_) ht
  subst ex
  obtain rfl : u = Value.ref a := rx
  refine getmeth_ok I1 ea c hm l ?_
  exact PySem.W.callWith_K0 (first := [.ref a]) I1.kIn hm.kp (run_fnSD (dvs := []) (ds := []) (us := [.ref a]) (vs := [.ref a]) F hr hb .nil (hx σ) I1 (.cons rfl .nil) (by rw [List.append_nil]; exact q))
/-- C(), no __init__ but object's -/
structure Mk0 (K : PySem.W.Frag) (C : Addr) : Prop where
  makes : PySem.W.makesIn K C = true
  init : PySem.W.findIn K (.ref C) "__init__" = some (some (.builtin "object.__init__"))
  kp : PySem.W.keepIn K (.ref C) = true
theorem pe_mk0 (Mm : Mk0 X.K C0) (hg : Gl X x) (hm : X.mg x = some (.ref C0)) (hdb : (x == ("__debug__" : Str)) = false := by decide) :
    PE X (.Call (.Name x p) [] [] pos) (fun _ H Q => ∀ y dx, H y = none → H dx = none → dx ≠ y → Q (.ref y) (upd (upd H dx (.own y)) y (.ins C0 dx []))) := by
  refine ⟨fun pins s σ H Q I h => ?_⟩
  refine wpAny_Call_Name_kw (ld_glob I hg hm ?_ hdb)
  refine PySem.W.callWith_K0 I.kIn Mm.kp ?_
  have hq := h (s.heap.objs.size + 1) s.heap.objs.size (I.hok.fresh (Nat.le_succ _)) (I.hok.fresh (Nat.le_refl _)) (Nat.ne_of_lt (Nat.lt_succ_self _))
  have I2 := Inv.made (C := C0) I
  refine wpAny_call ?_
  refine make_map0 I.kIn Mm.makes Mm.init (fun self => PySem.W.Looks.of_pure (PySem.W.oi_bind self)) ?_
  have Y := PySem.W.makes_of (M := model X.prog X.w) I.kIn Mm.makes
  have e2 : ((s.heap.push PySem.W.emptyDict).push (PySem.W.instObj C0 s.heap.objs.size)).get? (s.heap.objs.size + 1) = some (PySem.W.instObj C0 s.heap.objs.size) := by
    have := Heap.get?_push_size (s.heap.push PySem.W.emptyDict) (o := PySem.W.instObj C0 s.heap.objs.size) rfl
    rwa [Heap.size_push] at this
  have t1 : PySem.W.Looks (model X.prog X.w) ((s.heap.push PySem.W.emptyDict).push (PySem.W.instObj C0 s.heap.objs.size)) (typeOf (.ref (s.heap.objs.size + 1))) (.ref C0) := (PySem.W.Looks.ld e2).andThen .now
  have t2 : PySem.W.Looks (model X.prog X.w) ((s.heap.push PySem.W.emptyDict).push (PySem.W.instObj C0 s.heap.objs.size)) (isInstance (.ref (s.heap.objs.size + 1)) (.type "object")) true := t1.andThen (Y.top.keeps fun b o e => Heap.get?_push_of_some _ (Heap.get?_push_of_some _ e))
  refine codeAny_call_builtin PySem.W.oi_plain PySem.W.entry_oi (@PySem.W.check_slot (model X.prog X.w) _ _ _ "object.__init__" "object" "__init__" (.ref (s.heap.objs.size + 1)) [] [] _ PySem.W.oi_kind PySem.W.oi_split t2 (PySem.W.oi_args (.ref (s.heap.objs.size + 1))) ?_)
  rw [PySem.W.oi_run]
  exact wpAny_pure (And.intro rfl ⟨V.ref (s.heap.objs.size + 1), _, I2, rfl, hq⟩)
end

/-! ### by data -/
def M.meth (l : List (Str × (List D → R D))) (mn : Str) (o : M D) (f2 : M (List D)) : M D := o.bind fun d => match d with
  | .obj c ns ds => if mn ∈ ns then fun _ => .no else match l.lookup c with
    | some F => f2.bind fun args => M.lift (F (.obj c ns ds :: args))
    | none => fun _ => .no
  | _ => fun _ => .no
def M.make (cn : Str) (F : D → List D → RI) (f2 : M (List D)) : M D := f2.bind fun ds => fun ρ => match F (.obj cn [] []) ds with
  | .ok .non (.obj c ns vs) => .ok (.obj c ns vs) ρ
  | .er x => .er x ρ
  | _ => .no
/-- the methods m of the classes of l -/
def Meths (X : Cx) (k : Nat) (m : Str) (l : List (Str × (List D → R D))) : Prop := ∀ p ∈ l, ∀ C0, X.mg p.1 = some (.ref C0) → Cls X.K C0 ∧ ∃ f fd ps, Meth X.K C0 m f ∧ FnOk X.prog X.w X.K X.mg X.base (L2.CX X.prog X.w) k f fd ps (spD X.K X.mg p.2) ∧ L2.Binds X.K fd ps []
section
variable {c : C} {X : Cx} {W : WX} {k : Nat} {x m : Str} {p pos apos : Pos} {e o : Expr} {es : List Expr} {fo : M D} {f2 : M (List D)}
theorem meth_run {l : List (Str × (List D → R D))} {σ : L2.St} {H : Hp} {Q : VK} (g : Gd c X) (hl : Meths X k m l) (h : tD c W (M.meth l m fo f2) σ H Q) : tMethM X k m (WE W) (tD c W fo) (tDs c W f2) σ H Q := by
  obtain ⟨O, Γ, ρ, s, p⟩ := h
  refine bindS s p fun d ρ1 v H1 _ st1 s1 r1 p1 => ?_
  cases r1 with
  | @obj a C0 dx cn fs ns ds hm ha hn hr =>
    dsimp only at p1
    by_cases hc : m ∈ ns
    · rw [if_pos hc] at p1; exact p1.elim
    · rw [if_neg hc] at p1
      cases q : l.lookup cn with
      | none => rw [q] at p1; exact p1.elim
      | some F =>
        rw [q] at p1
        obtain ⟨k1, f, fd, ps, k2, k3, k4⟩ := hl (cn, F) (PySem.mem_of_lookup q) C0 (by rw [← g.2.1]; exact hm)
        have hno : fs.lookup m = none := fldL_none (by rw [← hn]; exact hc)
        refine ⟨a, C0, dx, fs, f, fd, ps, _, rfl, (hid_some ha).2, hno, k1, k2, k3, k4, ?_⟩
        refine bindX s1 p1 fun args ρ2 vs H2 _ ex s2 r2 p2 => ?_
        have z := spD_of (vs := .ref a :: vs) s2 (.cons (.obj hm (ex _ _ ha) hn (hr.mono ex)) r2) p2
        rw [g.1, g.2.1] at z
        exact z
  | _ => exact p1.elim
theorem nil_run {σ : L2.St} {H : Hp} {Q : List V → Hp → Prop} (h : tDs c W M.nil σ H Q) : Q [] H := let ⟨O, Γ, ρ, s, p⟩ := h; p [] H Stp.refl s .nil
theorem de_meth (l : List (Str × (List D → R D))) (g : Gd c X) (hl : Meths X k m l) (hr : Room k X.A) (tk : Takes X W) (ho : PE X o (tD c W fo)) (ha : PA X (e :: es) (tDs c W f2)) {pl : Sem Bool}
    (hst : starEach (e :: es) X.env = (false, eval e X.env) :: starEach es X.env := by rfl) (hpl : (backTo pos (starEach es X.env)).any (·.1) = false := by rfl)
    (ht : eval (.Call (.Attribute o m apos) (e :: es) [] pos) X.env = (do
      let ov ← eval o X.env
      standAt apos.atName
      let (f, first) ← holding [ov] (getMethod ov m pl)
      callWith pos f first (backTo pos (starEach (e :: es) X.env)) (backToKw pos (keywordEach [] X.env))) := by rfl) :
    PE X (.Call (.Attribute o m apos) (e :: es) [] pos) (tD c W (M.meth l m fo f2)) :=
  PE.imp (pe_methM ho hr (fun σ => passAt tk σ) ha hst hpl ht) fun σ H Q h => meth_run g hl h
theorem de_meth0 (l : List (Str × (List D → R D))) (g : Gd c X) (hl : Meths X k m l) (hr : Room k X.A) (tk : Takes X W) (ho : PE X o (tD c W fo)) {pl : Sem Bool}
    (ht : eval (.Call (.Attribute o m apos) [] [] pos) X.env = (do
      let ov ← eval o X.env
      standAt apos.atName
      let (f, first) ← holding [ov] (getMethod ov m pl)
      callWith pos f first (backTo pos (starEach [] X.env)) (backToKw pos (keywordEach [] X.env))) := by rfl) :
    PE X (.Call (.Attribute o m apos) [] [] pos) (tD c W (M.meth l m fo M.nil)) :=
  PE.imp (pe_methM0 ho hr (fun σ => passAt tk σ) ht) fun σ H Q h => by
    obtain ⟨O, Γ, ρ, s, p⟩ := meth_run g hl h
    exact ⟨O, Γ, ρ, s, post.imp p fun x H1 ⟨a, C0, dx, fs, f, fd, ps, sp, e1, e2, e3, e4, e5, e6, e7, t⟩ => ⟨a, C0, dx, fs, f, fd, ps, sp, e1, e2, e3, e4, e5, e6, e7, nil_run t⟩⟩
/-! ### making -/
theorem made_sr {O : List Addr} {Γ : Hp → Prop} {σ : L2.St} {H : Hp} {ρ : Env} {y dx C0 : Addr} (s : SR c O Γ H σ ρ) (h1 : H y = none) (h2 : H dx = none) (h3 : dx ≠ y) :
    SR c (y :: O) Γ (upd (upd H dx (.own y)) y (.ins C0 dx [])) σ ρ ∧ Ex (hid H O) (hid (upd (upd H dx (.own y)) y (.ins C0 dx [])) (y :: O)) ∧ Ex H (upd (upd H dx (.own y)) y (.ins C0 dx [])) := by
  have hy : upd H dx (.own y) y = none := by rw [upd_ne (Ne.symm h3)]; exact h1
  have s1 := s.ext (Ex.upd (o := .own y) h2)
  exact ⟨s1.new hy, ((Ex.upd h2).hid O).trans (s1.newEx hy), (Ex.upd h2).trans (Ex.upd hy)⟩
theorem rep_of_own {K : PySem.W.Frag} {mg : Str → Option Value} {G G' H : Hp} {a : Addr} {cn : Str} {ns : List Str} {ds : List D} (h : Own K mg G H a (.obj cn ns ds)) (x : Ex G G') (e : G' a = H a) : Rep K mg G' (.ref a) (.obj cn ns ds) := by
  obtain ⟨C, dx, fs, h1, h2, h3, h4⟩ := h
  exact .obj h1 (e.trans h2) h3 (h4.mono x)
theorem de_make {F : D → List D → RI} {C0 f : Addr} {fd : FuncData} {ps : List Str} (g : Gd c X) (Mm : Mk X.K C0 f) (Fn : FnOk X.prog X.w X.K X.mg X.base (L2.CX X.prog X.w) k f fd ps (spI X.K X.mg F)) (hr : Room (k + 1) X.A) (hm : X.mg x = some (.ref C0)) (hb : L2.Binds X.K fd ps []) (tk : Takes X W)
    (ha : PA X (e :: es) (tDs c W f2)) (hg : Gl X x := by rfl) (hdb : (x == ("__debug__" : Str)) = false := by decide) (he : starEach (e :: es) X.env = (false, eval e X.env) :: starEach es X.env := by rfl) (hpl : (backTo pos (starEach es X.env)).any (·.1) = false := by rfl) :
    PE X (.Call (.Name x p) (e :: es) [] pos) (tD c W (M.make x F f2)) := by
  refine PE.imp (pe_makeSD (E := WE W) Mm Fn hr hg hm hb (fun σ => passAt tk σ) ha hdb he hpl) fun σ H Q ⟨O, Γ, ρ, s, p⟩ => ?_
  refine bindX s p fun ds ρ1 vs H1 _ e1 s1 r1 p1 => ?_
  intro y dx h1 h2 h3
  obtain ⟨s2, x1, x2⟩ := made_sr (C0 := C0) s1 h1 h2 h3
  refine ⟨y :: O, ds, .obj x [] [], y, vs, rfl, s2.dom, List.mem_cons_self, ⟨C0, dx, [], hm, upd_same, rfl, .nil⟩, by rw [← g.1, ← g.2.1]; exact r1.mono x1, ?_⟩
  have nO : y ∉ O := s1.fresh h1
  have old : ∀ {H' : Hp}, (∀ b o, (upd (upd H1 dx (.own y)) y (.ins C0 dx [])) b = some o → b ≠ y → H' b = some o) → Ex H1 H' := fun k b o e => k b o (x2 b o e) fun z => by rw [z, h1] at e; cases e
  have sb : ∀ {H' : Hp}, Ex (hid H' (y :: O)) (hid H' O) := ex_hid_sub fun a h => List.mem_cons_of_mem _ h
  cases q : F (.obj x [] []) ds with
  | no => rw [q] at p1; exact p1.elim
  | er z =>
    rw [q] at p1
    intro cls dd H' k' o' r'
    rw [← g.1, ← g.2.1] at r'
    exact p1 cls dd H' (Stp.of (old k')) (s1.ext (old k')) (r'.mono sb)
  | ok d d1 =>
    rw [q] at p1
    intro v H' k' o' r'
    rw [← g.1, ← g.2.1] at o' r'
    cases d with
    | non =>
      cases d1 with
      | obj cn ns us =>
        cases r'
        exact ⟨rfl, p1 _ H' (Stp.of (old k')) (s1.ext (old k')) (rep_of_own o' sb (hid_out nO))⟩
      | _ => exact p1.elim
    | _ => exact p1.elim
theorem de_mk0 {C0 : Addr} (g : Gd c X) (Mm : Mk0 X.K C0) (hm : X.mg x = some (.ref C0)) (hg : Gl X x := by rfl) (hdb : (x == ("__debug__" : Str)) = false := by decide) :
    PE X (.Call (.Name x p) [] [] pos) (tD c W (M.pure (.obj x [] []))) := by
  refine PE.imp (pe_mk0 Mm hg hm hdb) fun σ H Q ⟨O, Γ, ρ, s, p⟩ => ?_
  intro y dx h1 h2 h3
  obtain ⟨s2, x1, x2⟩ := made_sr (C0 := C0) s h1 h2 h3
  refine p _ _ (Stp.of x2) (s.ext x2) (.obj (by rw [g.2.1]; exact hm) (show hid _ O y = some (.ins C0 dx []) from ?_) rfl .nil)
  rw [hid_out (s.fresh h1), upd_same]
end
end DL

/-! DL, part 15: built-ins. -/
namespace DLB
open PySem PyProof.Rows SrtO
section
variable {prog : Program} {w : World} {A : Around} {E : Value → Shared → Prop} {s : Shared}
/-- sorted(t), t a tuple -/
theorem sorted_ordT {l : Addr} {vs : List Value} {ltv : Value → Value → Bool} {Q : Value → Shared → Prop} (O : Swo ltv) (hl : s.heap.IsTuple l vs.toArray) (hz : vs.length ≤ sizeLine)
    (hS : 2 ≤ vs.length → ∀ (s : Shared) (a : Addr), SortableO prog w A.in1.in1 s a vs ltv)
    (h : ∀ (out : List Value) (h' h2 : Heap) (ep : Nat), Srtd ltv out → Stb ltv out vs → (∀ b o, s.heap.get? b = some o → h'.get? b = some o) → (∀ b o, h'.get? b = some o → h2.get? b = some o) → h2.get? h'.objs.size = some (seqObj "list" out.toArray ep) → Q (.ref h'.objs.size) { s with heap := h2 }) :
    wpAny (model prog w) A (call (.builtin "sorted") [.ref l]) Q E s := by
  refine Calls.call_function_entry kind_sorted plain_sorted entry_sorted (args_sorted1 _) ?_
  unfold Builtin.«sorted»
  refine wpAny_bind (m := checkCount "sorted" 1 1 _) (wpAny_pure ?_)
  obtain ⟨o, ho, hc, n, hd⟩ := hl
  refine wpAny_bind (wpAny_collect_seq l (.inr rfl) ho hc hd (fun h' k => ?_) (by rw [List.size_toArray]; exact hz))
  refine wpAny_bind (wpAny_newList ?_ hz)
  have hoL : (h'.push (seqObj "list" vs.toArray 0)).get? h'.objs.size = some (seqObj "list" vs.toArray 0) := Heap.get?_push_size _ rfl
  have lt : ∀ b o, h'.get? b = some o → b < h'.objs.size := fun b o e => Heap.lt_size e
  show wpAny _ _ _ _ _ { s with heap := h'.push (seqObj "list" vs.toArray 0) }
  refine wpAny_bind (wpAny_holding (wpAny_call_entry slot_list_sort ⟨_, hoL, rfl⟩ entry_list_sort (list_sort_ord O hoL hz (fun h2 => hS h2 _ _) fun out hs hb => ⟨_, rfl, ?_⟩) (args_list_sort _)))
  obtain ⟨ep, he⟩ := sortedHeap_at (vs := vs) (out := out.toArray) hoL
  refine wpAny_pure ⟨_, rfl, h out _ _ ep hs hb k (fun b o e => ?_) he⟩
  rw [sortedHeap_old (Nat.ne_of_lt (lt b o e)) (by rw [size_push']; exact Nat.lt_succ_of_lt (lt b o e))]
  exact Heap.get?_push_of_some _ e
/-- sum(t), t a tuple of ints -/
theorem sum_rawT {l : Addr} {its : List Value} {ns : List Int} {Q : Value → Shared → Prop} (hh : A.handled = none) (hl : s.heap.IsTuple l its.toArray) (hi : IntsAre its ns)
    (h : ∀ h' tk t', (∀ b o, s.heap.get? b = some o → h'.get? b = some o) → Q (.int ns.sum t') { s with heap := h', toks := tk }) : wpAny (model prog w) A (call (.builtin "sum") [.ref l]) Q E s := by
  obtain ⟨xs, e⟩ := hi.allInts.items
  have hn : numsOf (intItems xs).toList = ns := by rw [← e]; exact hi.numsOf
  rw [nums_intItems] at hn
  rw [e] at hl
  have hlt : l < s.heap.objs.size := by obtain ⟨_, q, _⟩ := hl; exact Heap.lt_size q
  refine call_sum_walkG (wpAny_pyIter_tuple hl ?_)
  refine ⟨_, _, _, _, _, _, numAt xs, rfl, Walks.tuple (A := A.in1) hh _ l (Nat.ne_of_lt hlt) (intItems xs), ⟨⟨_, Heap.get?_push_size _ rfl, rfl, rfl⟩, ?_⟩, fun b hb => ?_, (fun _ _ => intItems_at), fun h' tk t' hk => ?_⟩
  · obtain ⟨o, ho, r⟩ := hl
    exact ⟨o, Heap.get?_push_of_some _ ho, r⟩
  · show b < (s.heap.push _).objs.size
    rw [Heap.size_push]
    rcases List.mem_cons.mp hb with rfl | hb
    · exact Nat.lt_succ_self _
    · rcases List.mem_cons.mp hb with rfl | hb
      · exact Nat.lt_succ_of_lt hlt
      · cases hb
  · have := h h' tk t' (fun b o q => hk b o (fun z => by
      rcases List.mem_cons.mp z with rfl | z
      · exact Nat.lt_irrefl _ (Heap.lt_size q)
      · cases z) (Heap.get?_push_of_some _ q))
    have e2 : preSum (numAt xs) (intItems xs).size = ns.sum := by
      rw [show (intItems xs).size = xs.size by simp [intItems], preSum_eq, List.take_of_length_le (by simp), hn]
    rw [← e2] at this
    exact this
end
end DLB

/-! DL, part 16: set(list of ints) (follows HandS.SetFor's rule for tuples). -/
namespace DLB
open PySem PySem.Spec PyProof.Rows L2
section
variable {P : Program} {w : World} {A : Around} {E : Value → Shared → Prop} {s : Shared}
theorem call_setL {l : Addr} {items : Array Value} (ns : List Int) {Q : Value → Shared → Prop} (hh : A.handled = none) (hl : s.heap.IsList l items) (hit : IntsAre items.toList ns) (hb : ns.length + 1 < scanBound)
    (h : ∀ (h' : Heap) (tk c : Nat), SetR w h' s.heap.objs.size (fun j => decide (j ∈ ns)) c → c ≤ ns.length → (∀ b o, s.heap.get? b = some o → h'.get? b = some o) → Q (.ref s.heap.objs.size) { s with heap := h', toks := tk }) :
    wpAny (model P w) A (call (.type "set") [.ref l]) Q E s := by
  have hisz : items.size = ns.length := by
    have q := IntsAre.length hit
    rw [Array.length_toList] at q
    exact q
  obtain ⟨c, tl, hmro⟩ := F.called_set.mro
  have hmade := F.called_set.made
  have hsub := F.called_set.sub
  refine wpAny_call (codeAny_of_tree ?_)
  show wpAny _ _ (callAny (.type "set") _) _ _ _
  refine wpAny_pure ⟨Code.quiet_builtin _ (by decide +kernel), codeAny_builtin F.entry_type_call ?_⟩
  rw [Around.under_plain (weight_type_call_type "set" [.ref l] []) rfl]
  have h1 := F.called_set.notType
  have h2 := F.called_set.canCreate
  have hct := F.typeCall_set_1 (.ref l)
  repeat (any_goals (first | assumption | wp_step))

  refine codeAny_mono (code_set_led1 (.ref l) (E := E) (Q₁ := fun obj s₁ => obj = .ref s.heap.objs.size ∧ s₁ = { s with heap := s.heap.push { cls := .type "set", dict := none, data := .set #[] 0 (.fresh 0 0 (!w.params.followText "set-order")) } }) ⟨rfl, rfl⟩) fun r s₁ hr => ?_
  cases r with
  | error e => exact hr
  | ok fl =>
    cases fl with
    | ret obj =>
      obtain ⟨rfl, rfl⟩ := hr
      have hS : (s.heap.push { cls := .type "set", dict := none, data := .set #[] 0 (.fresh 0 0 (!w.params.followText "set-order")) }).get? s.heap.objs.size = some { cls := .type "set", dict := none, data := .set #[] 0 (.fresh 0 0 (!w.params.followText "set-order")) } := Heap.get?_push_size _ rfl
      have hT : Shared.TypeIs { s with heap := s.heap.push { cls := .type "set", dict := none, data := .set #[] 0 (.fresh 0 0 (!w.params.followText "set-order")) } } (.ref s.heap.objs.size) "set" := ⟨_, hS, rfl⟩
      have hli := F.called_set.init.lookup
      have hbi := F.called_set.init.bind (.ref s.heap.objs.size)
      repeat (any_goals (first | assumption | wp_step))

      refine codeAny_mono (codeAny_call_builtin (R := wants (fun r s₂ => r = .none ∧ ∃ h' tk c, s₂ = { s with heap := h', toks := tk } ∧ SetR w h' s.heap.objs.size (fun j => decide (j ∈ ns)) c ∧ c ≤ ns.length ∧
          (∀ b o, s.heap.get? b = some o → h'.get? b = some o)) E) F.called_set.init.plain F.entry_set_init (check_set_init_1 hT ?_)) fun r₂ s₂ hr₂ => ?_
      · obtain ⟨ol, hol, hcl, nl, hdl⟩ := hl
        obtain ⟨ocls, odict, odata, oslots⟩ := ol
        simp only at hcl hdl
        subst hcl; subst hdl
        have hol' : (s.heap.push { cls := .type "set", dict := none, data := .set #[] 0 (.fresh 0 0 (!w.params.followText "set-order")) }).get? l = some { cls := .type "list", dict := odict, data := .seq items nl, slots := oslots } := Heap.get?_push_of_some _ hol
        have hsls := F.sub_list_set
        have hslf := F.sub_list_frozenset
        have hne : (Value.type "list" == Value.type "dict") = false := by decide
        have hl1 : (s.heap.push { cls := .type "set", dict := none, data := .set #[] 0 (.fresh 0 0 (!w.params.followText "set-order")) }).IsList l items := ⟨_, hol', rfl, nl, rfl⟩
        unfold Builtin.«set.__init__» noKeywords Builtin.Frozenset.updateFrom
        generalize hPI : pyIter = PI
        wp_walk
        subst hPI

        refine wpAny_pyIter_list hl1 ?_
        refine wpAny_bind (wpAny_runValue ?_)
        have hlS : l < s.heap.objs.size := Heap.lt_size hol
        have hh3 : A.in1.in1.in1.handled = none := by simp [hh]
        have hz1 : (s.heap.push { cls := .type "set", dict := none, data := .set #[] 0 (.fresh 0 0 (!w.params.followText "set-order")) }).objs.size = s.heap.objs.size + 1 := Heap.size_push ..
        have hneI : l ≠ (s.heap.push { cls := .type "set", dict := none, data := .set #[] 0 (.fresh 0 0 (!w.params.followText "set-order")) }).objs.size := by
          rw [Heap.size_push]; exact Nat.ne_of_lt (Nat.lt_succ_of_lt hlS)
        have hSf : s.heap.objs.size ∉ [(s.heap.push { cls := .type "set", dict := none, data := .set #[] 0 (.fresh 0 0 (!w.params.followText "set-order")) }).objs.size, l] := by
          rw [Heap.size_push]; simp only [List.mem_cons, List.mem_singleton, List.not_mem_nil, or_false, not_or]
          exact ⟨Nat.ne_of_lt (Nat.lt_succ_self _), Nat.ne_of_gt hlS⟩
        have hval : ∀ (i : Nat) (v : Value), items[i]? = some v → ∃ k t, ns[i]? = some k ∧ v = .int k t := fun i v hv => by
          have hi : i < ns.length := by rw [← hisz]; exact (Array.getElem?_eq_some_iff.mp hv).1
          obtain ⟨t, e⟩ := PyProof.Rows.IntsAre.int_at hit i v (by rw [Array.getElem?_toList]; exact hv)
          refine ⟨ns[i], t, List.getElem?_eq_getElem hi, ?_⟩
          rw [e, List.getD_eq_getElem?_getD, List.getElem?_eq_getElem hi] <;> rfl
        refine set_update_ints ((Walks.list hh3 _ l hneI items).toS) s.heap.objs.size
          hSf ns hisz hb hval (items.size - 0) 0 _ (by omega) (Nat.zero_le _)
          ⟨⟨_, Heap.get?_push_size _ rfl, rfl, rfl⟩, (hl1.push _)⟩ ?hS0 ?hR
        case hS0 =>
          have hget : ((s.heap.push { cls := .type "set", dict := none, data := .set #[] 0 (.fresh 0 0 (!w.params.followText "set-order")) }).push { cls := .type "list_iterator", data := .fields #[.ref l, .int 0 0] }).get? s.heap.objs.size
              = some { cls := .type "set", dict := none, data := .set #[] 0 (.fresh 0 0 (!w.params.followText "set-order")) } := Heap.get?_push_of_some _ hS
          exact ⟨0, Nat.le_refl 0, setR_new_at hget⟩
        case hR =>
          intro s' c' hm hc' hS'
          obtain ⟨h', g2, d', tk', os'⟩ := s'
          have eg : g2 = s.gens := hm.gens
          have ed : d' = s.drawn := hm.drawn
          have eo : os' = s.os := hm.os
          subst eg; subst ed; subst eo
          show wpAny _ _ _ _ _ _
          refine wpAny_pure ?_
          show wpAny _ _ (ret Value.none) _ _ _
          rw [hisz] at hc'
          refine wpAny_pure ⟨rfl, h', tk', c', rfl, hS', hc', fun b o e => ?_⟩
          have hb0 : b < s.heap.objs.size := Heap.lt_size e
          have hb1 : b ≠ s.heap.objs.size := Nat.ne_of_lt hb0
          have hb2 : b ≠ (s.heap.push { cls := .type "set", dict := none, data := .set #[] 0 (.fresh 0 0 (!w.params.followText "set-order")) }).objs.size := by
            rw [Heap.size_push]; exact Nat.ne_of_lt (Nat.lt_succ_of_lt hb0)
          exact hm.heap b o (by simp only [List.mem_cons, List.mem_singleton, List.not_mem_nil, or_false, not_or]; exact ⟨hb1, hb2⟩) (Heap.get?_push_of_some _ (Heap.get?_push_of_some _ e))

      · cases r₂ with
        | error e => exact hr₂
        | ok fl₂ =>
          cases fl₂ with
          | ret r =>
            obtain ⟨rfl, h', tk, c', rfl, hS', hc', hk'⟩ := hr₂
            repeat (any_goals (first | assumption | wp_step))
            exact h _ _ _ hS' hc' hk'
          | _ => exact hr₂.elim
    | _ => exact hr.elim

end
section
variable {X : Cx}
/-- set(xs), xs a list or a tuple of ints -/
def rSetI (K : PySem.W.Frag) (w : World) : List V → Hp → VK → Prop := fun xs H Q => ∃ (p : Addr) (ns : List Int), xs = [.ref p] ∧ (SqL K H p (ns.map V.int) ∨ SqT K H p (ns.map V.int)) ∧ ns.length + 1 < scanBound ∧ ∀ a c, H a = none → c ≤ ns.length → Q (.ref a) (upd H a (SetO w a (fun j => decide (j ∈ ns)) c))
theorem cr_setI (hc : X.calm = true) : CallR X (.type "set") (rSetI X.K X.w) := by
  intro pins s σ H xs us Q I r h
  obtain ⟨p, ns, rfl, hq, hb, q⟩ := h
  rw [Vals.ref1 r]
  have hn : H s.heap.objs.size = none := I.hok.fresh (Nat.le_refl _)
  have fin : ∀ (h' : Heap) (tk c : Nat), SetR X.w h' s.heap.objs.size (fun j => decide (j ∈ ns)) c → c ≤ ns.length → (∀ b o, s.heap.get? b = some o → h'.get? b = some o) → EP X pins σ Q (.ref s.heap.objs.size) { s with heap := h', toks := tk } := fun h' tk c R hc k =>
    ⟨.ref s.heap.objs.size, _, I.laid (t' := tk) k (Nat.le_refl _) (setO_new R), rfl, q _ c hn hc⟩
  rcases hq with hq | hq
  · obtain ⟨its, rv, pl, hz⟩ := I.list hq
    exact call_setL ns (I.ok.hd hc) pl.isList (ints_of_vals rv) hb fin
  · obtain ⟨its, rv, pl, hz⟩ := I.tuple hq
    exact call_set_tupI ns (I.ok.hd hc) (show s.heap.IsTuple p its.toArray from pl) (ints_of_vals rv) hb fin
end
end DLB

/-! DL, part 17: built-ins by data. -/
namespace DL
open PySem L2
def D.intsL : List D → Option (List Int)
  | [] => some []
  | .int i :: r => (D.intsL r).map (i :: ·)
  | _ => none
def D.boolsL : List D → Option (List Bool)
  | [] => some []
  | .bl i :: r => (D.boolsL r).map (i :: ·)
  | _ => none
theorem intsL_eq : ∀ {ds : List D} {ns : List Int}, D.intsL ds = some ns → ds = ns.map D.int
  | [], ns, h => by cases h; rfl
  | d :: ds, ns, h => by
    cases d with
    | int i =>
      unfold D.intsL at h
      cases e : D.intsL ds with
      | none => rw [e] at h; cases h
      | some ms => rw [e] at h; cases h; rw [intsL_eq e]; rfl
    | _ => simp [D.intsL] at h
theorem boolsL_eq : ∀ {ds : List D} {ns : List Bool}, D.boolsL ds = some ns → ds = ns.map D.bl
  | [], ns, h => by cases h; rfl
  | d :: ds, ns, h => by
    cases d with
    | bl i =>
      unfold D.boolsL at h
      cases e : D.boolsL ds with
      | none => rw [e] at h; cases h
      | some ms => rw [e] at h; cases h; rw [boolsL_eq e]; rfl
    | _ => simp [D.boolsL] at h
theorem intsL_map : ∀ ns : List Int, D.intsL (ns.map D.int) = some ns
  | [] => rfl
  | n :: ns => by rw [List.map_cons]; unfold D.intsL; rw [intsL_map ns]; rfl
theorem boolsL_map : ∀ ns : List Bool, D.boolsL (ns.map D.bl) = some ns
  | [] => rfl
  | n :: ns => by rw [List.map_cons]; unfold D.boolsL; rw [boolsL_map ns]; rfl
def D.ints (d : D) : Option (List Int) := match d.items with | .ok l => D.intsL l | _ => none
def D.bools (d : D) : Option (List Bool) := match d.items with | .ok l => D.boolsL l | _ => none
/-- insertion -/
def insI (x : Int) : List Int → List Int
  | [] => [x]
  | y :: r => if x ≤ y then x :: y :: r else y :: insI x r
def sortI : List Int → List Int
  | [] => []
  | x :: r => insI x (sortI r)
def insU (x : Int) : List Int → List Int
  | [] => [x]
  | y :: r => if x < y then x :: y :: r else if x = y then y :: r else y :: insU x r
def sortU : List Int → List Int
  | [] => []
  | x :: r => insU x (sortU r)
theorem insI_perm (x : Int) : ∀ l, (insI x l).Perm (x :: l)
  | [] => List.Perm.refl _
  | y :: r => by
    unfold insI
    split
    · exact List.Perm.refl _
    · exact ((insI_perm x r).cons y).trans (List.Perm.swap x y r)
theorem sortI_perm : ∀ l, (sortI l).Perm l
  | [] => List.Perm.refl _
  | x :: r => (insI_perm x _).trans ((sortI_perm r).cons x)
theorem insI_sorted (x : Int) : ∀ {l : List Int}, l.Pairwise (· ≤ ·) → (insI x l).Pairwise (· ≤ ·)
  | [], _ => List.pairwise_singleton _ _
  | y :: r, h => by
    unfold insI
    obtain ⟨h1, h2⟩ := List.pairwise_cons.mp h
    by_cases q : x ≤ y
    · rw [if_pos q]
      refine List.pairwise_cons.mpr ⟨fun z hz => ?_, h⟩
      rcases List.mem_cons.mp hz with e | e
      · rw [e]; exact q
      · exact Int.le_trans q (h1 z e)
    · rw [if_neg q]
      refine List.pairwise_cons.mpr ⟨fun z hz => ?_, insI_sorted x h2⟩
      rcases List.mem_cons.mp ((insI_perm x r).mem_iff.mp hz) with e | e
      · rw [e]; omega
      · exact h1 z e
theorem sortI_sorted : ∀ l, (sortI l).Pairwise (· ≤ ·)
  | [] => List.Pairwise.nil
  | x :: r => insI_sorted x (sortI_sorted r)
theorem sorted_one : ∀ {l m : List Int}, l.Perm m → l.Pairwise (· ≤ ·) → m.Pairwise (· ≤ ·) → l = m
  | [], m, p, _, _ => (List.nil_perm.mp p).symm
  | x :: l, [], p, _, _ => absurd p.length_eq (by simp)
  | x :: l, y :: m, p, h1, h2 => by
    obtain ⟨a1, a2⟩ := List.pairwise_cons.mp h1
    obtain ⟨b1, b2⟩ := List.pairwise_cons.mp h2
    have e : x = y := by
      have q1 : y ∈ x :: l := p.mem_iff.mpr List.mem_cons_self
      have q2 : x ∈ y :: m := p.mem_iff.mp List.mem_cons_self
      rcases List.mem_cons.mp q1 with z | z
      · exact z.symm
      · rcases List.mem_cons.mp q2 with z2 | z2
        · exact z2
        · have := a1 y z; have := b1 x z2; omega
    subst e
    rw [sorted_one (List.Perm.cons_inv p) a2 b2]
theorem insU_mem (x : Int) : ∀ {l : List Int} {z : Int}, z ∈ insU x l ↔ z = x ∨ z ∈ l
  | [], z => by simp [insU]
  | y :: r, z => by
    unfold insU
    split
    · simp
    · split
      · rename_i _ e; subst e; simp
      · rw [List.mem_cons, insU_mem x (l := r), List.mem_cons]
        constructor
        · rintro (h | h | h) <;> simp [h]
        · rintro (h | h | h) <;> simp [h]
theorem sortU_mem : ∀ {l : List Int} {z : Int}, z ∈ sortU l ↔ z ∈ l
  | [], z => by simp [sortU]
  | x :: r, z => by unfold sortU; rw [insU_mem, sortU_mem (l := r), List.mem_cons]
theorem insU_sorted (x : Int) : ∀ {l : List Int}, l.Pairwise (· < ·) → (insU x l).Pairwise (· < ·)
  | [], _ => List.pairwise_singleton _ _
  | y :: r, h => by
    unfold insU
    obtain ⟨h1, h2⟩ := List.pairwise_cons.mp h
    by_cases q : x < y
    · rw [if_pos q]
      refine List.pairwise_cons.mpr ⟨fun z hz => ?_, h⟩
      rcases List.mem_cons.mp hz with e | e
      · rw [e]; exact q
      · exact Int.lt_trans q (h1 z e)
    · rw [if_neg q]
      by_cases q2 : x = y
      · rw [if_pos q2]; exact h
      · rw [if_neg q2]
        refine List.pairwise_cons.mpr ⟨fun z hz => ?_, insU_sorted x h2⟩
        rcases (insU_mem x).mp hz with e | e
        · rw [e]; omega
        · exact h1 z e
theorem sortU_sorted : ∀ l, (sortU l).Pairwise (· < ·)
  | [] => List.Pairwise.nil
  | x :: r => insU_sorted x (sortU_sorted r)
theorem strict_one : ∀ {l m : List Int}, (∀ z, z ∈ l ↔ z ∈ m) → l.Pairwise (· < ·) → m.Pairwise (· < ·) → l = m
  | [], [], _, _, _ => rfl
  | [], y :: m, h, _, _ => by have := (h y).mpr List.mem_cons_self; cases this
  | x :: l, [], h, _, _ => by have := (h x).mp List.mem_cons_self; cases this
  | x :: l, y :: m, p, h1, h2 => by
    obtain ⟨a1, a2⟩ := List.pairwise_cons.mp h1
    obtain ⟨b1, b2⟩ := List.pairwise_cons.mp h2
    have e : x = y := by
      have q1 : y ∈ x :: l := (p y).mpr List.mem_cons_self
      have q2 : x ∈ y :: m := (p x).mp List.mem_cons_self
      rcases List.mem_cons.mp q1 with z | z
      · exact z.symm
      · rcases List.mem_cons.mp q2 with z2 | z2
        · exact z2
        · have := a1 y z; have := b1 x z2; omega
    subst e
    rw [strict_one (fun z => ⟨fun hz => ?_, fun hz => ?_⟩) a2 b2]
    · rcases List.mem_cons.mp ((p z).mp (List.mem_cons_of_mem _ hz)) with e | e
      · have := a1 z hz; omega
      · exact e
    · rcases List.mem_cons.mp ((p z).mpr (List.mem_cons_of_mem _ hz)) with e | e
      · have := b1 z hz; omega
      · exact e

def D.lenF : List D → R D
  | [.str s] => if s.length ≤ sizeLine then .ok (.int s.length) else .no
  | [d] => (match d.items with | .ok l => .ok (.int l.length) | _ => .no)
  | _ => .no
def D.intF : List D → R D
  | [.int i] => .ok (.int i)
  | [.bl b] => .ok (.int (if b then 1 else 0))
  | _ => .no
def D.sumF : List D → R D
  | [d] => (match d.ints with | some ns => .ok (.int ns.sum) | none => .no)
  | _ => .no
def maxI : List Int → Option Int
  | [] => none
  | x :: r => some (r.foldl (fun a b => if a < b then b else a) x)
def D.allF : List D → R D
  | [.lst l] => (match D.boolsL l with | some ns => .ok (.bl (ns.all id)) | none => .no)
  | _ => .no
def D.anyF : List D → R D
  | [.lst l] => (match D.boolsL l with | some ns => .ok (.bl (ns.any id)) | none => .no)
  | _ => .no
def D.sortedF : List D → R D
  | [d] => (match d.ints with | some ns => .ok (.lst ((sortI ns).map .int)) | none => .no)
  | _ => .no
def D.tupleF : List D → R D
  | [d] => (match d.items with | .ok l => .ok (.tup l) | _ => .no)
  | _ => .no
def D.listF : List D → R D
  | [d] => (match d.items with | .ok l => .ok (.lst l) | _ => .no)
  | _ => .no
def D.setU (d : D) : Option (List Int) := match d.ints with | some ns => if ns.length < 64 then some (sortU ns) else none | none => none
def D.sortedSet (d : D) : R D := match d.setU with | some ns => .ok (.lst (ns.map .int)) | none => .no
def D.lenSet (d : D) : R D := match d.setU with | some ns => .ok (.int ns.length) | none => .no
section
variable {c : C} {X : Cx}
theorem one_rep {xs : List V} {K : PySem.W.Frag} {mg : Str → Option Value} {G : Hp} {d : D} (r : RepL K mg G xs [d]) : ∃ v, xs = [v] ∧ Rep K mg G v d := by
  cases r with
  | cons h t => cases t; exact ⟨_, rfl, h⟩
theorem seq_of {K : PySem.W.Frag} {mg : Str → Option Value} {H : Hp} {O : List Addr} {v : V} {d : D} {l : List D} (r : Rep K mg (hid H O) v d) (e : d.items = .ok l) : ∃ a vs, v = .ref a ∧ (SqL K H a vs ∨ SqT K H a vs) ∧ RepL K mg (hid H O) vs l ∧ l.length ≤ sizeLine := by
  obtain ⟨t, a, vs, h1, h2, h3, h4⟩ := items_seq r e
  refine ⟨a, vs, h1, ?_, h3, h4⟩
  cases t with
  | true => exact .inr ((ex_hid H O).sqt h2)
  | false => exact .inl ((ex_hid H O).sql h2)
theorem ints_of {d : D} {ns : List Int} (e : d.ints = some ns) : d.items = .ok (ns.map .int) := by
  unfold D.ints at e
  cases q : d.items with
  | ok l => rw [q] at e; rw [intsL_eq e]
  | er x => rw [q] at e; cases e
  | no => rw [q] at e; cases e
theorem bools_of {d : D} {ns : List Bool} (e : d.bools = some ns) : d.items = .ok (ns.map .bl) := by
  unfold D.bools at e
  cases q : d.items with
  | ok l => rw [q] at e; rw [boolsL_eq e]
  | er x => rw [q] at e; cases e
  | no => rw [q] at e; cases e
theorem cd_len (g : Gd c X) : CallD c X (.builtin "len") D.lenF := by
  refine ⟨_, call_len_seq.or call_len_str, fun O H xs ds d Q dom r e q => ?_⟩
  unfold D.lenF at e
  split at e
  · obtain ⟨v, rfl, h⟩ := one_rep r
    cases h
    split at e
    · cases e; exact .inr ⟨_, rfl, by assumption, q _ H (Ex.refl _) (.int _)⟩
    · cases e
  · obtain ⟨v, rfl, h⟩ := one_rep r
    split at e
    · rename_i l hl
      cases e
      obtain ⟨a, vs, rfl, h2, h3, h4⟩ := seq_of h hl
      rw [← h3.length] at q
      rw [g.1] at h2
      exact .inl ⟨a, vs, rfl, h2, q _ H (Ex.refl _) (.int _)⟩
    · cases e
  · cases e
theorem cd_int : CallD c X (.type "int") D.intF := by
  refine ⟨_, call_int1, fun O H xs ds d Q dom r e q => ?_⟩
  unfold D.intF at e
  split at e
  · obtain ⟨v, rfl, h⟩ := one_rep r
    cases h; cases e
    exact .inl ⟨_, rfl, q _ H (Ex.refl _) (.int _)⟩
  · obtain ⟨v, rfl, h⟩ := one_rep r
    cases h; cases e
    exact .inr ⟨_, rfl, q _ H (Ex.refl _) (.int _)⟩
  · cases e
theorem cr_sumT (hc : X.calm = true) : CallR X (.builtin "sum") (fun vs H Q => ∃ (a : Addr) (ns : List Int), vs = [V.ref a] ∧ SqT X.K H a (ns.map V.int) ∧ Q (.int ns.sum) H) := by
  intro pins s σ H vs us Q I r h
  obtain ⟨a, ns, rfl, hs, q⟩ := h
  obtain ⟨its, rv, hl, _⟩ := I.tuple hs
  rw [Vals.ref1 r]
  exact DLB.sum_rawT (I.ok.hd hc) hl rv.ints fun h' tk t' hk => ⟨.int _, H, I.kept hk, ⟨_, rfl⟩, q⟩
theorem cd_sum (g : Gd c X) : CallD c X (.builtin "sum") D.sumF := by
  refine ⟨_, (cr_sum g.2.2).or (cr_sumT g.2.2), fun O H xs ds d Q dom r e q => ?_⟩
  unfold D.sumF at e
  split at e
  · obtain ⟨v, rfl, h⟩ := one_rep r
    split at e
    · rename_i ns hn
      cases e
      obtain ⟨a, vs, rfl, h2, h3, h4⟩ := seq_of h (ints_of hn)
      have e3 := h3.ints
      subst e3
      rw [g.1] at h2
      rcases h2 with h2 | h2
      · exact .inl ⟨a, ns, rfl, h2, q _ H (Ex.refl _) (.int _)⟩
      · exact .inr ⟨a, ns, rfl, h2, q _ H (Ex.refl _) (.int _)⟩
    · cases e
  · cases e
theorem lst_bools {K : PySem.W.Frag} {mg : Str → Option Value} {H : Hp} {O : List Addr} {v : V} {l : List D} {ns : List Bool} (r : Rep K mg (hid H O) v (.lst l)) (e : D.boolsL l = some ns) : ∃ a, v = .ref a ∧ SqL K H a (ns.map V.bl) := by
  cases r with
  | lst h r z =>
    rw [boolsL_eq e] at r
    have e3 := r.bools
    subst e3
    exact ⟨_, rfl, .inl (.inl (hid_some h).2)⟩
theorem cd_all (g : Gd c X) : CallD c X (.builtin "all") D.allF := by
  refine ⟨_, cr_all g.2.2, fun O H xs ds d Q dom r e q => ?_⟩
  unfold D.allF at e
  split at e
  · obtain ⟨v, rfl, h⟩ := one_rep r
    split at e
    · rename_i ns hn
      cases e
      obtain ⟨a, rfl, h2⟩ := lst_bools h hn
      rw [g.1] at h2
      exact ⟨a, ns, rfl, h2, q _ H (Ex.refl _) (.bl _)⟩
    · cases e
  · cases e
theorem cd_any (g : Gd c X) : CallD c X (.builtin "any") D.anyF := by
  refine ⟨_, cr_any g.2.2, fun O H xs ds d Q dom r e q => ?_⟩
  unfold D.anyF at e
  split at e
  · obtain ⟨v, rfl, h⟩ := one_rep r
    split at e
    · rename_i ns hn
      cases e
      obtain ⟨a, rfl, h2⟩ := lst_bools h hn
      rw [g.1] at h2
      exact ⟨a, ns, rfl, h2, q _ H (Ex.refl _) (.bl _)⟩
    · cases e
  · cases e
/-- sorted(t), t a tuple of ints -/
theorem cr_sortedT' : CallR X (.builtin "sorted") (fun vs H Q => ∃ (a : Addr) (ns : List Int), vs = [V.ref a] ∧ SqT X.K H a (ns.map V.int) ∧
    ∀ (ns' : List Int) (p : Addr), ns'.Perm ns → ns'.Pairwise (· ≤ ·) → H p = none → Q (.ref p) (upd H p (.lst (ns'.map V.int)))) := by
  intro pins s σ H vs us Q I r h
  obtain ⟨a, ns, rfl, hs, q⟩ := h
  obtain ⟨its, rv, hl, hz⟩ := I.tuple hs
  rw [Vals.ref1 r]
  have hi := rv.ints
  refine DLB.sorted_ordT SrtO.swo_int hl (by rw [← rv.length]; exact hz) (fun h2 s' a' => SrtO.ints_sortable hi h2) fun out h' h2 ep h3 h4 k1 k2 he => ?_
  obtain ⟨k3, k4, k5⟩ := SrtO.ints_out hi h3 h4
  have hlen : ((out.map SrtO.iv).map V.int).length ≤ sizeLine := by
    rw [List.length_map, k4.length_eq]
    rw [List.length_map] at hz
    exact hz
  have I1 : Inv X pins σ H { s with heap := h' } := I.kept (t' := s.toks) k1
  exact ⟨.ref _, upd H h'.objs.size (.lst ((out.map SrtO.iv).map V.int)), I1.laid (t' := s.toks) k2 (Nat.le_refl _) ⟨hlen, out, ep, vals_of_ints k3, he⟩, rfl, q _ _ k4 k5 (I1.hok.fresh (Nat.le_refl _))⟩
theorem new_ints {O : List Addr} {H : Hp} {Q : VK} {K : PySem.W.Frag} {mg : Str → Option Value} {p : Addr} {ns : List Int} (dom : ∀ b ∈ O, ∃ o, H b = some o) (hp : H p = none) (z : ns.length ≤ sizeLine) (q : ∀ v H', Ex H H' → Rep K mg (hid H' O) v (.lst (ns.map .int)) → Q v H') : Q (.ref p) (upd H p (.lst (ns.map V.int))) :=
  q _ _ (Ex.upd hp) (rep_newL dom hp (RepL.ofInts ns) (by rw [List.length_map]; exact z))
theorem cd_sorted (g : Gd c X) : CallD c X (.builtin "sorted") D.sortedF := by
  refine ⟨_, cr_sortedI.or cr_sortedT', fun O H xs ds d Q dom r e q => ?_⟩
  unfold D.sortedF at e
  split at e
  · obtain ⟨v, rfl, h⟩ := one_rep r
    split at e
    · rename_i ns hn
      cases e
      obtain ⟨a, vs, rfl, h2, h3, h4⟩ := seq_of h (ints_of hn)
      have e3 := h3.ints
      subst e3
      rw [g.1] at h2
      have fin : ∀ (ns' : List Int) (p : Addr), ns'.Perm ns → ns'.Pairwise (· ≤ ·) → H p = none → Q (.ref p) (upd H p (.lst (ns'.map V.int))) := fun ns' p k1 k2 hp => by
        have ee : ns' = sortI ns := sorted_one (k1.trans (sortI_perm ns).symm) k2 (sortI_sorted ns)
        subst ee
        exact new_ints dom hp (by rw [k1.length_eq]; simpa using h4) q
      rcases h2 with h2 | h2
      · exact .inl ⟨a, ns, rfl, h2, fin⟩
      · exact .inr ⟨a, ns, rfl, h2, fin⟩
    · cases e
  · cases e
theorem cd_tuple (g : Gd c X) : CallD c X (.type "tuple") D.tupleF := by
  refine ⟨_, call_tuple_of, fun O H xs ds d Q dom r e q => ?_⟩
  unfold D.tupleF at e
  split at e
  · obtain ⟨v, rfl, h⟩ := one_rep r
    split at e
    · rename_i l hl
      cases e
      obtain ⟨t, a, vs, rfl, h2, h3, h4⟩ := items_seq h hl
      cases t with
      | true =>
        have h2' : SqT c.K (hid H O) a vs := h2
        exact ⟨a, vs, rfl, .inr ⟨by rw [← g.1]; exact (ex_hid H O).sqt h2', q _ H (Ex.refl _) (.tup h2' h3 h4)⟩⟩
      | false =>
        have h2' : SqL c.K (hid H O) a vs := h2
        exact ⟨a, vs, rfl, .inl ⟨by rw [← g.1]; exact (ex_hid H O).sql h2', fun p hp => q _ _ (Ex.upd hp) (rep_newT dom hp h3 h4)⟩⟩
    · cases e
  · cases e
theorem cd_list (g : Gd c X) : CallD c X (.type "list") D.listF := by
  refine ⟨_, call_list_of, fun O H xs ds d Q dom r e q => ?_⟩
  unfold D.listF at e
  split at e
  · obtain ⟨v, rfl, h⟩ := one_rep r
    split at e
    · rename_i l hl
      cases e
      obtain ⟨a, vs, rfl, h2, h3, h4⟩ := seq_of h hl
      rw [g.1] at h2
      exact ⟨a, vs, rfl, h2, fun p hp => q _ _ (Ex.upd hp) (rep_newL dom hp h3 h4)⟩
    · cases e
  · cases e
end

/-! ### sets -/
section
variable {c : C} {X : Cx} {W : WX} {f : M D} {a : Expr} {p p2 q pos : Pos}
theorem setU_of {d : D} {ns : List Int} (e : d.setU = some ns) : ∃ ms, d.ints = some ms ∧ ms.length < 64 ∧ ns = sortU ms := by
  unfold D.setU at e
  split at e
  · split at e
    · cases e; exact ⟨_, by assumption, by assumption, rfl⟩
    · cases e
  · cases e
theorem setStep {O : List Addr} {H : Hp} {v : V} {d : D} {ms : List Int} {Q : VK} (g : Gd c X) (r : Rep c.K c.mg (hid H O) v d) (e : d.ints = some ms) (h64 : ms.length < 64)
    (q : ∀ a' n, H a' = none → n ≤ ms.length → Q (.ref a') (upd H a' (SetO X.w a' (fun j => decide (j ∈ ms)) n))) : DLB.rSetI X.K X.w [v] H Q := by
  obtain ⟨a, vs, rfl, h2, h3, h4⟩ := seq_of r (ints_of e)
  have e3 := h3.ints
  subst e3
  rw [g.1] at h2
  exact ⟨a, ms, rfl, h2, by unfold scanBound; omega, q⟩
theorem de_sortedSet (g : Gd c X) (hm : X.mg "sorted" = none) (hm2 : X.mg "set" = none) (ha : PE X a (tD c W f)) (hg : Gl X "sorted" := by rfl) (hg2 : Gl X "set" := by rfl)
    (hs : ∀ q' : Pos, starEach [.Call (.Name "set" p2) [a] [] q] X.env = (false, eval (.Call (.Name "set" p2) [a] [] q) X.env) :: starEach [] X.env := by intro _; rfl) (hs2 : starEach [a] X.env = (false, eval a X.env) :: starEach [] X.env := by rfl) :
    PE X (.Call (.Name "sorted" p) [.Call (.Name "set" p2) [a] [] q] [] pos) (tD c W (M.one f fun d => (D.sortedSet d).good)) := by
  refine PE.imp (pe_callB (cr_sortedSet g.2.2) hg hm PyProof.Rows.boot_sorted (pa_cons (pe_callTy (DLB.cr_setI g.2.2) hg2 hm2 PyProof.Rows.boot_set (pa_cons ha pa_nil hs2) (by decide) (by decide) hs2) pa_nil (hs pos)) (by decide) (by decide) (hs pos)) fun σ H Q ⟨O, Γ, ρ, s, p⟩ => ?_
  refine bindX s p fun d ρ1 v H1 _ ex s1 r1 p1 => ?_
  obtain ⟨d', e, q⟩ := post_lift s1 p1
  unfold D.sortedSet at e
  split at e
  · rename_i ns hn
    cases e
    obtain ⟨ms, h1, h2, rfl⟩ := setU_of hn
    show DLB.rSetI X.K X.w [v] H1 fun x H2 => rSortedSet X.w [x] H2 Q
    refine setStep g r1 h1 h2 fun a' n hn' hle => ?_
    refine ⟨a', _, n, rfl, upd_same, by omega, fun ns p' k1 k2 k3 hp => ?_⟩
    have ee : ns = sortU ms := strict_one (fun z => by rw [k2 z, decide_eq_true_eq, sortU_mem]) k1 (sortU_sorted ms)
    subst ee
    have x1 : Ex H1 (upd H1 a' (SetO X.w a' (fun j => decide (j ∈ ms)) n)) := Ex.upd hn'
    exact q _ _ (x1.trans (Ex.upd hp)) (rep_newL (s1.ext x1).dom hp (RepL.ofInts _) (by rw [List.length_map, k3]; exact Nat.le_of_lt (Nat.lt_of_lt_of_le (Nat.lt_of_le_of_lt hle h2) (by decide))))
  · cases e
theorem insU_len (x : Int) : ∀ {l : List Int}, x ∉ l → (insU x l).length = l.length + 1
  | [], _ => rfl
  | y :: r, h => by
    unfold insU
    split
    · rfl
    · split
      · rename_i e; exact absurd (by rw [e]; exact List.mem_cons_self) h
      · rw [List.length_cons, insU_len x (fun z => h (List.mem_cons_of_mem _ z)), List.length_cons]
theorem sortU_len : ∀ {l : List Int}, l.Nodup → (sortU l).length = l.length
  | [], _ => rfl
  | x :: r, h => by
    obtain ⟨h1, h2⟩ := List.nodup_cons.mp h
    unfold sortU
    rw [insU_len x (fun z => h1 (sortU_mem.mp z)), sortU_len h2, List.length_cons]
theorem cr_lenSet : CallR X (.builtin "len") (fun xs H Q => ∃ (a : Addr) (S : Int → Bool) (n : Nat), xs = [.ref a] ∧ H a = some (SetO X.w a S n) ∧ n < 64 ∧ ∀ ks : List Int, ks.Nodup → (∀ k, S k = true ↔ k ∈ ks) → ks.length = n → Q (.int n) H) := by
  intro pins s σ H xs us Q I r h
  obtain ⟨a, S, n, rfl, ha, h64, q⟩ := h
  rw [Vals.ref1 r]
  obtain ⟨o, es, ep, t, ho, hex, hd, _, nd, hm, _, hf, hn, _⟩ := setO_get I ha
  refine call_len_set ho hex hd hf (by rw [hn]; omega) ⟨.int n, H, I.tok _, ⟨_, by rw [hn]⟩, q (es.toList.map keyOf) nd hm (by simpa using hn)⟩
theorem de_lenSet (g : Gd c X) (hm : X.mg "len" = none) (hm2 : X.mg "set" = none) (ha : PE X a (tD c W f)) (hg : Gl X "len" := by rfl) (hg2 : Gl X "set" := by rfl)
    (hs : ∀ q' : Pos, starEach [.Call (.Name "set" p2) [a] [] q] X.env = (false, eval (.Call (.Name "set" p2) [a] [] q) X.env) :: starEach [] X.env := by intro _; rfl) (hs2 : starEach [a] X.env = (false, eval a X.env) :: starEach [] X.env := by rfl) :
    PE X (.Call (.Name "len" p) [.Call (.Name "set" p2) [a] [] q] [] pos) (tD c W (M.one f fun d => (D.lenSet d).good)) := by
  refine PE.imp (pe_callB cr_lenSet hg hm PySem.boot_len (pa_cons (pe_callTy (DLB.cr_setI g.2.2) hg2 hm2 PyProof.Rows.boot_set (pa_cons ha pa_nil hs2) (by decide) (by decide) hs2) pa_nil (hs pos)) (by decide) (by decide) (hs pos)) fun σ H Q ⟨O, Γ, ρ, s, p⟩ => ?_
  refine bindX s p fun d ρ1 v H1 _ ex s1 r1 p1 => ?_
  obtain ⟨d', e, q⟩ := post_lift s1 p1
  unfold D.lenSet at e
  split at e
  · rename_i ns hn
    cases e
    obtain ⟨ms, h1, h2, rfl⟩ := setU_of hn
    show DLB.rSetI X.K X.w [v] H1 fun x H2 => ∃ (a : Addr) (S : Int → Bool) (n : Nat), [x] = [.ref a] ∧ H2 a = some (SetO X.w a S n) ∧ n < 64 ∧ ∀ ks : List Int, ks.Nodup → (∀ k, S k = true ↔ k ∈ ks) → ks.length = n → Q (.int n) H2
    refine setStep g r1 h1 h2 fun a' n hn' hle => ?_
    refine ⟨a', _, n, rfl, upd_same, by omega, fun ks k1 k2 k3 => ?_⟩
    have ee : sortU ks = sortU ms := strict_one (fun z => by rw [sortU_mem, sortU_mem, ← k2 z, decide_eq_true_eq]) (sortU_sorted ks) (sortU_sorted ms)
    have el : n = (sortU ms).length := by rw [← ee, sortU_len k1, k3]
    subst el
    exact q _ _ (Ex.upd hn') (.int _)
  · cases e
end
end DL

/-! DL, part 18: isinstance, in. -/
namespace DL
open PySem L2

/-! ### isinstance -/
/-- what isinstance asks of an own class whose instance is told -/
structure IsiC (K : PySem.W.Frag) (C : Addr) : Prop where
  cl : Cls K C
  ha : PySem.W.findIn K (.ref C) "__class__" = some (some (.builtin "object.__class__"))
  hn : PySem.W.specialIn K (.builtin "object.__class__") "__get__" = some (some (.builtin "getset_descriptor.__get__"))
  htk : PySem.W.takesIn K (.builtin "object.__class__") = some true
  hm : PySem.W.mroIn K C (.type "object") = some true
def D.tyV (mg : Str → Option Value) : D → Option Value
  | .non => some (.type "NoneType")
  | .bl _ => some (.type "bool")
  | .int _ => some (.type "int")
  | .str _ => some (.type "str")
  | .tup _ => some (.type "tuple")
  | .lst _ => some (.type "list")
  | .fls _ => some (.type "list")
  | .obj c _ _ => mg c
  | _ => none
theorem rep_ty {K : PySem.W.Frag} {mg : Str → Option Value} {H : Hp} {O : List Addr} {v : V} {d : D} {t : Value} (r : Rep K mg (hid H O) v d) (e : d.tyV mg = some t) (hc : ∀ c ns ds, d = .obj c ns ds → ∀ C, mg c = some (.ref C) → IsiC K C) : TyX K H v t := by
  cases r with
  | non => cases e; exact .base .non
  | bl b => cases e; exact .base (.bl b)
  | int i => cases e; exact .base (.int i)
  | str s => cases e; exact .base (.str s)
  | tup h r z =>
    cases e
    rcases h with (h | ⟨o, h⟩) | ⟨o, its, n, h, hcl, _⟩
    · exact .base (.tup (hid_some h).2)
    · exact .fTuple (hid_some h).2
    · exact .kTuple h hcl
  | lst h r z => cases e; exact .base (.lst (hid_some h).2)
  | fls h r z =>
    cases e
    rcases h with (h | ⟨o, h⟩) | ⟨o, its, n, h, hcl, _⟩
    · exact .base (.lst (hid_some h).2)
    · exact .base (.frz (hid_some h).2)
    · exact .kList h hcl
  | dk _ _ _ _ => cases e
  | dt _ _ _ _ => cases e
  | obj m h k r =>
    simp only [D.tyV] at e
    rw [m] at e
    cases e
    obtain ⟨a1, a2, a3, a4, a5⟩ := hc _ _ _ rfl _ m
    exact .base (.ins (hid_some h).2 a1 a2 a3 a4 a5)
  | fn _ _ => cases e
/-- tab tells of isinstance(d, the classes us) -/
def IsiT (X : Cx) (us : List Value) (tab : D → Option Bool) : Prop := ∀ d b, tab d = some b → (∃ t, d.tyV X.mg = some t ∧ PySem.W.kitAny X.K t us = some b) ∧ ∀ c ns ds, d = .obj c ns ds → ∀ C, X.mg c = some (.ref C) → IsiC X.K C
def D.isi (tab : D → Option Bool) (d : D) : R D := match tab d with | some b => .ok (.bl b) | none => .no
section
variable {c : C} {X : Cx} {W : WX} {e : Expr} {f : M D} {pos p : Pos}
theorem de_isi1 {ce : Expr} {cv : V} {u : Value} {tab : D → Option Bool} (g : Gd c X) (hm : X.mg "isinstance" = none) (hc : PE X ce (tC cv)) (hu : ClsV cv u) (ht : IsiT X [u] tab) (he : PE X e (tD c W f)) (hg : Gl X "isinstance" := by rfl)
    (hs : starEach [e, ce] X.env = (false, eval e X.env) :: starEach [ce] X.env := by rfl) (hs2 : starEach [ce] X.env = (false, eval ce X.env) :: starEach [] X.env := by rfl) (hpl : (backTo pos (starEach [ce] X.env)).any (·.1) = false := by rfl) :
    PE X (.Call (.Name "isinstance" p) [e, ce] [] pos) (tD c W (M.one f fun d => (D.isi tab d).good)) := by
  refine PE.imp (pe_callB call_isi hg hm PyProof.Rows.boot_isinstance (pa_cons he (pa_cons hc pa_nil hs2) hs) (by decide) (by decide) hs hpl) fun σ H Q ⟨O, Γ, ρ, s, p⟩ => ?_
  refine bindX s p fun d ρ1 v H1 _ ex s1 r1 p1 => ?_
  obtain ⟨d', ed, q⟩ := post_lift s1 p1
  unfold D.isi at ed
  cases h : tab d with
  | none => rw [h] at ed; cases ed
  | some b =>
    rw [h] at ed
    cases ed
    obtain ⟨⟨t, e1, e2⟩, e3⟩ := ht d b h
    show rIsi X.K [v, cv] H1 Q
    refine ⟨v, cv, t, u, b, rfl, hu, ?_, ?_, q _ H1 (Ex.refl _) (.bl b)⟩
    · rw [← g.1]; exact rep_ty r1 (by rw [g.2.1]; exact e1) (fun c' ns ds z C hC => by rw [g.1]; exact e3 c' ns ds z C (by rw [← g.2.1]; exact hC))
    · unfold PySem.W.kitAny at e2
      cases k : PySem.W.kitOne X.K t u with
      | none => rw [k] at e2; cases e2
      | some b' =>
        rw [k] at e2
        cases b' with
        | true => exact e2
        | false => exact e2
theorem de_isiT {ces : List Expr} {cvs : List V} {us : List Value} {tab : D → Option Bool} {kk : Nat} {tpos : Pos} (g : Gd c X) (hm : X.mg "isinstance" = none) (hc : PA X ces (fun _ H Q => Q cvs H)) (hz : cvs.length ≤ sizeLine) (hu : Paired ClsV cvs us) (ht : IsiT X us tab) (he : PE X e (tD c W f)) (hg : Gl X "isinstance" := by rfl)
    (hs : starEach [e, .Tuple ces kk tpos] X.env = (false, eval e X.env) :: starEach [.Tuple ces kk tpos] X.env := by rfl) (hs2 : starEach [.Tuple ces kk tpos] X.env = (false, eval (.Tuple ces kk tpos) X.env) :: starEach [] X.env := by rfl) (hpl : (backTo pos (starEach [.Tuple ces kk tpos] X.env)).any (·.1) = false := by rfl) :
    PE X (.Call (.Name "isinstance" p) [e, .Tuple ces kk tpos] [] pos) (tD c W (M.one f fun d => (D.isi tab d).good)) := by
  refine PE.imp (pe_callB call_isiT hg hm PyProof.Rows.boot_isinstance (pa_cons he (pa_cons (pe_tup hc) pa_nil hs2) hs) (by decide) (by decide) hs hpl) fun σ H Q ⟨O, Γ, ρ, s, p⟩ => ?_
  refine bindX s p fun d ρ1 v H1 _ ex s1 r1 p1 => ?_
  obtain ⟨d', ed, q⟩ := post_lift s1 p1
  unfold D.isi at ed
  cases h : tab d with
  | none => rw [h] at ed; cases ed
  | some b =>
    rw [h] at ed
    cases ed
    obtain ⟨⟨t, e1, e2⟩, e3⟩ := ht d b h
    refine ⟨hz, fun tp htp => ?_⟩
    have x1 : Ex H1 (upd H1 tp (.tup cvs)) := Ex.upd htp
    show rIsiT X.K [v, .ref tp] (upd H1 tp (.tup cvs)) Q
    refine ⟨v, tp, cvs, t, us, b, rfl, upd_same, hu, ?_, e2, q _ _ x1 (.bl b)⟩
    rw [← g.1]
    exact rep_ty (r1.mono (x1.hid O)) (by rw [g.2.1]; exact e1) (fun c' ns ds z C hC => by rw [g.1]; exact e3 c' ns ds z C (by rw [← g.2.1]; exact hC))
theorem ks_nil : PA X [] (fun _ H Q => Q [] H) := pa_nil
theorem ks_cons {ce : Expr} {ces : List Expr} {cv : V} {cvs : List V} (h : PE X ce (tC cv)) (t : PA X ces (fun _ H Q => Q cvs H)) (hs : starEach (ce :: ces) X.env = (false, eval ce X.env) :: starEach ces X.env := by rfl) : PA X (ce :: ces) (fun _ H Q => Q (cv :: cvs) H) := pa_cons h t hs
end
end DL

/-! DL, part 19: own __eq__, __bool__. -/
namespace DLB
open PySem PySem.Spec PyProof.Rows L2
section
variable {prog : Program} {w : World} {A : Around} {E : Value → Shared → Prop} {s : Shared} {x : Addr}
/-- bool(x) by truthy -/
theorem bool_own {Q : Value → Shared → Prop} (h : wpAny (model prog w) A.in1.in1 (truthy (.ref x)) (fun b s₁ => Q (.bool b) s₁) E s) : wpAny (model prog w) A (call (.type "bool") [.ref x]) Q E s := by
  refine callType_codes (T := "bool") (Bi := Builtin.«object.__init__») (Q₁ := fun r s₁ => ∃ b, r = Value.bool b ∧ Q r s₁) PySem.F.called_bool (PySem.F.typeCall_bool_1 _) PySem.F.entry_object_init ?_ ?_
  · refine codeAny_of_tree ?_
    show wpAny _ A.in1.in1 (do checkBuiltinCall "bool.__new__" ⟨[.type "bool", .ref x], []⟩; again (.builtin "bool.__new__" ⟨[.type "bool", .ref x], []⟩)) _ _ s
    refine wpAny_bind (wpAny_of_eq (PySem.F.newCall_bool_1 _) (wpAny_pure ⟨plainId_quiet (by decide +kernel) _, codeAny_builtin PySem.F.entry_bool_new ?_⟩))
    rw [Around.under_plainId (by decide +kernel) _]
    unfold Builtin.«bool.__new__»
    refine wpAny_bind (wpAny_of_eq (a := true) (by kernel_rfl) ?_)
    refine PySem.W.KFB.if_not rfl ?_
    refine wpAny_bind (wpAny_of_eq (a := true) PySem.F.conv_sub_bool ?_)
    refine PySem.W.KFB.if_not rfl ?_
    refine wpAny_bind (wpAny_of_eq (a := [Value.ref x]) (by kernel_rfl) ?_)
    refine wpAny_bind (wpAny_mono h (fun b s₁ z => ?_) fun _ _ y => y)
    exact wpAny_pure ⟨b, rfl, z⟩
  · rintro obj s₁ ⟨b, rfl, hq⟩
    exact ⟨PySem.typeIs_bool _ _, PySem.F.args_object_init_2 _ _, object_init_meets PySem.F.called_bool.init.lookup PySem.F.called_bool.made (by decide) prog w A.in1 _ s₁ ⟨PySem.typeIs_bool _ _, rfl, hq⟩⟩
end
section
variable {prog : Program} {w : World} {A : Around} {E : Value → Shared → Prop} {s : Shared} {x C : Addr} {ox : Obj} {od : Option Obj} {K : PySem.W.Frag} {f : Addr} {b : Value}
theorem one_entry : entryFor table "object.__ne__" = some Builtin.«object.__ne__» := entryFor_of_tree (by kernel_rfl)
theorem one_plain : plainId "object.__ne__" = true := by decide +kernel
theorem one_kind : builtinKind "object.__ne__" = some .slot := by decide +kernel
theorem one_split : splitId "object.__ne__" = some ("object", "__ne__") := by decide +kernel
theorem one_args (a b : Value) : argsOk "object.__ne__" ⟨[a, b], []⟩ := by
  unfold argsOk; rw [signature?_of (id := "object.__ne__") (n := ['_', '_', 'e', 'n', '_', '_']) (o := ['t', 'c', 'e', 'j', 'b', 'o']) (by kernel_rfl) PySem.F.owner_object]; kernel_rfl
theorem one_bind (self : Value) : bindSpecial (.builtin "object.__ne__") self = pure (.builtin "object.__ne__", [self]) := by
  first | rfl | kernel_rfl
/-- object.__ne__(x, b) -/
theorem ne_call {Q : Value → Shared → Prop} (X : K.In s.heap) (I : PySem.W.InstAt s.heap x ox C od) (hm : PySem.W.mroIn K C (.type "object") = some true) (hu : A.in1.units < cLine) (hs : PySem.W.findIn K (.ref C) "__eq__" = some (some (.ref f))) (hf : PySem.W.isFn K (.ref f) = true)
    (h : wpAny (model prog w) A.in1 (call (.ref f) [.ref x, b]) (fun v s' => ∃ k, v = .bool k ∧ Q (.bool (!k)) s') E s) : wpAny (model prog w) A (call (.builtin "object.__ne__") [.ref x, b]) Q E s := by
  have t2 : PySem.W.Looks (model prog w) s.heap (isInstance (.ref x) (.type "object")) true := I.type.andThen (PySem.W.looks_mroIn X hm)
  refine wpAny_call ?_
  refine codeAny_call_builtin one_plain one_entry (@PySem.W.check_slot (model prog w) _ _ _ "object.__ne__" "object" "__ne__" (.ref x) [b] [] _ one_kind one_split t2 (one_args _ _) ?_)
  unfold Builtin.«object.__ne__»
  refine wpAny_bind (wpAny_of_eq (a := (Value.ref x, [b])) (by kernel_rfl) ?_)
  refine wpAny_bind (wpAny_cRoomFor hu ?_)
  refine wpAny_bind (PySem.W.ifBound_K X I hs hf (wpAny_mono h (fun v s' z => ?_) fun _ _ y => y))
  obtain ⟨k, rfl, q⟩ := z
  refine wpAny_bind (wpAny_truthy_bool ?_)
  exact wpAny_pure q
theorem ne_K {Q : Value → Shared → Prop} {tb : Value} (X : K.In s.heap) (I : PySem.W.InstAt s.heap x ox C od) (hu0 : A.units < cLine) (hb : PySem.W.Looks (model prog w) s.heap (typeOf b) tb) (hn : PySem.W.notFirst K C tb = true) (hne : PySem.W.findIn K (.ref C) "__ne__" = some (some (.builtin "object.__ne__")))
    (hm : PySem.W.mroIn K C (.type "object") = some true) (hu : A.in1.units < cLine) (hs : PySem.W.findIn K (.ref C) "__eq__" = some (some (.ref f))) (hf : PySem.W.isFn K (.ref f) = true)
    (h : wpAny (model prog w) A.in1 (call (.ref f) [.ref x, b]) (fun v s' => ∃ k, v = .bool k ∧ Q (.bool (!k)) s') E s) : wpAny (model prog w) A (richCompare .NotEq (.ref x) b) Q E s := by
  have one : wpAny (model prog w) A (tryCompare (.ref x) (cmpInfo .NotEq).2.1 b) (fun r s' => ∃ v, r = some v ∧ Q v s') E s := by
    unfold tryCompare
    refine wpAny_bind ?_
    simp only [callSpecialIfBound?, bindSpecialIfBound?]
    have nc := ne_call (Q := fun v s' => ∃ k, v = .bool k ∧ Q v s') X I hm hu hs hf (wpAny_mono h (fun v s' ⟨k, e, q⟩ => ⟨k, e, _, rfl, q⟩) fun _ _ y => y)
    refine wpAny_holding (wpAny_bind (wpAny_bind (wpAny_bind (I.type.here ((PySem.W.looks_findIn X hne).here ?_)))))
    refine wpAny_bind (wpAny_askSetting (wpAny_ite ?_))
    have fin : wpAny (model prog w) A (call (.builtin "object.__ne__") ([.ref x] ++ [b]) >>= fun v => pure (some v)) (fun a s₁ => wpAny (model prog w) A (match a with | some Value.notImplemented | none => pure none | some v => pure (some v)) (fun r s' => ∃ v, r = some v ∧ Q v s') E s₁) E s :=
      wpAny_bind (wpAny_mono nc (fun v s' ⟨k, e, q⟩ => wpAny_pure (by subst e; exact wpAny_pure ⟨_, rfl, q⟩)) fun _ _ h' => h')
    split
    · exact wpAny_bind ((PySem.W.Looks.of_pure (one_bind (.ref x))).here (wpAny_pure (by exact fin)))
    · exact wpAny_tryCatch (wpAny_bind ((PySem.W.Looks.of_pure (one_bind (.ref x))).here (wpAny_pure (by exact fin))))
  unfold richCompare
  simp only [oneThing_ref]
  refine wpAny_holding (wpAny_bind (wpAny_cRoomFor hu0 ?_))
  refine wpAny_bind (I.type.here (wpAny_bind (hb.here ?_)))
  split
  · rename_i q
    have e : PySem.W.subIn K tb (.ref C) = some false := by
      rcases Bool.or_eq_true_iff.mp hn with e | e
      · rw [beq_iff_eq.mp e] at q; simp at q
      · exact beq_iff_eq.mp e
    refine wpAny_bind ((PySem.W.looks_subIn X e).here ?_)
    simp only [Bool.false_eq_true, if_false]
    refine wpAny_bind (wpAny_mono one (fun r s' z => ?_) fun _ _ e => e)
    obtain ⟨v, rfl, hq⟩ := z
    exact wpAny_pure hq
  · refine wpAny_bind (wpAny_pure ?_)
    simp only [Bool.false_eq_true, if_false]
    refine wpAny_bind (wpAny_mono one (fun r s' z => ?_) fun _ _ e => e)
    obtain ⟨v, rfl, hq⟩ := z
    exact wpAny_pure hq
end
/-! ### by the abstract heap -/
section
variable {X : Cx} {n : Nat}
theorem passF : Passes (L2.CX X.prog X.w) X (fun _ _ _ => False) := fun _ _ _ _ _ _ _ ⟨_, _, _, _, _, _, _, _, _, _, _, _, z⟩ => z.elim
/-- the class at C has the own def m (a truth, an equality) -/
structure OwnS (X : Cx) (n : Nat) (C : Addr) (m : Str) (sp : Sp) : Prop where
  ex : ∃ f fd ps, PySem.W.findIn X.K (.ref C) m = some (some (.ref f)) ∧ PySem.W.isFn X.K (.ref f) = true ∧ FnOk X.prog X.w X.K X.mg X.base (L2.CX X.prog X.w) n f fd ps sp ∧ L2.Binds X.K fd ps []
theorem run_in {A : Around} {pins : List (Addr × Obj)} {σ : L2.St} {H : Hp} {s : Shared} {f : Addr} {fd : FuncData} {ps : List Str} {sp : Sp} {us : List Value} {vs : List V} {Q : VK} (F : FnOk X.prog X.w X.K X.mg X.base (L2.CX X.prog X.w) n f fd ps sp) (hb : L2.Binds X.K fd ps []) (hr : Room n A) (e0 : Env0 X.prog X.w X.K X.mg X.base A X.stack s H)
    (I : Inv X pins σ H s) (r : Vals vs us) (h : sp vs H Q (fun _ _ _ => False)) : wpAny (model X.prog X.w) A (call (.ref f) us) (EP X pins σ Q) X.xe s := by
  have hl := F.len _ _ _ _ h
  have b := hb s us I.kIn (by rw [List.append_nil, ← r.length]; exact hl)
  rw [List.append_nil] at b
  refine wpAny_call (codeAny_mono (F.run A X.stack s H ⟨us, []⟩ us vs Q _ hr e0 b r h) fun r s' hq => ?_)
  cases r with
  | error e => exact passF pins σ H s e s' I hq
  | ok fl =>
    cases fl with
    | ret u => exact I.after hq
    | next => exact False.elim hq
    | brk => exact False.elim hq
    | cont => exact False.elim hq
def bOf (k : Bool) : V := .bl k
/-- x == y (neg: x != y), x an instance with an own __eq__ that raises nothing and answers with a bool -/
def rEqO (X : Cx) (n : Nat) (neg : Bool) : R2 := fun x y H Q => ∃ (a b C C2 dx dy : Addr) (fs gs : List (Str × V)) (sp : Sp), x = .ref a ∧ y = .ref b ∧ H a = some (.ins C dx fs) ∧ H b = some (.ins C2 dy gs) ∧ PySem.W.notFirst X.K C (.ref C2) = true ∧
  (neg = true → PySem.W.findIn X.K (.ref C) "__ne__" = some (some (.builtin "object.__ne__")) ∧ PySem.W.mroIn X.K C (.type "object") = some true) ∧ OwnS X n C "__eq__" sp ∧ sp [x, y] H (fun v H' => ∃ k, v = .bl k ∧ Q (.bl (if neg then !k else k)) H') (fun _ _ _ => False)
theorem op_eqO (hr : Room n X.A) : OpR X (compareOp .Eq) (rEqO X n false) := by
  intro pins s σ H x y v u Q I rx ry h
  obtain ⟨a, b, C, C2, dx, dy, fs, gs, sp, rfl, rfl, ha, hb, hn, _, ⟨f, fd, ps, h1, h2, h3, h4⟩, q⟩ := h
  cases (show v = Value.ref a from rx)
  cases (show u = Value.ref b from ry)
  obtain ⟨mA, J, _⟩ := ins_get I.hok ha
  obtain ⟨mB, J', _⟩ := ins_get I.hok hb
  obtain ⟨od, J, _⟩ := J.look
  obtain ⟨od', J', _⟩ := J'.look
  obtain ⟨m, hF⟩ := I.fr
  show wpAny (model X.prog X.w) X.A (richCompare .Eq (.ref a) (.ref b)) (EP X pins σ Q) X.xe s
  refine PySem.W.cmp_K (op := .Eq) (tb := .ref C2) hr.units0 hF I.ok.mod.kin J J'.type hn h1 h2 ?_
  refine wpAny_mono (run_in (vs := [.ref a, .ref b]) h3 h4 hr I.env0 I (.cons rfl (.cons rfl .nil)) q) (fun w s' z => ?_) fun _ _ x => x
  obtain ⟨z', H', I', rz, k, ez, qz⟩ := z
  subst ez
  exact SlX.cmpback (P := EP X pins σ Q) rz ⟨_, H', I', rz, qz⟩
theorem op_neO (hr : Room (n + 1) X.A) : OpR X (compareOp .NotEq) (rEqO X n true) := by
  intro pins s σ H x y v u Q I rx ry h
  obtain ⟨a, b, C, C2, dx, dy, fs, gs, sp, rfl, rfl, ha, hb, hn, hne, ⟨f, fd, ps, h1, h2, h3, h4⟩, q⟩ := h
  cases (show v = Value.ref a from rx)
  cases (show u = Value.ref b from ry)
  obtain ⟨mA, J, _⟩ := ins_get I.hok ha
  obtain ⟨mB, J', _⟩ := ins_get I.hok hb
  obtain ⟨od, J, _⟩ := J.look
  obtain ⟨od', J', _⟩ := J'.look
  show wpAny (model X.prog X.w) X.A (richCompare .NotEq (.ref a) (.ref b)) (EP X pins σ Q) X.xe s
  refine ne_K (tb := .ref C2) I.kIn J hr.units0 J'.type hn (hne rfl).1 (hne rfl).2 hr.in1.units0 h1 h2 ?_
  refine wpAny_mono (run_in (vs := [.ref a, .ref b]) h3 h4 hr.in1 I.env0.in1 I (.cons rfl (.cons rfl .nil)) q) (fun w s' z => ?_) fun _ _ x => x
  obtain ⟨z', H', I', rz, k, ez, qz⟩ := z
  subst ez
  cases (show w = Value.bool k from rz)
  exact ⟨k, rfl, .bl (!k), H', I', rfl, qz⟩
/-- the truth of an instance with an own __bool__ -/
def rTruO (X : Cx) (n : Nat) : V → Hp → (Bool → Hp → Prop) → Prop := fun x H Q => ∃ (a C dx : Addr) (fs : List (Str × V)) (sp : Sp), x = .ref a ∧ H a = some (.ins C dx fs) ∧ OwnS X n C "__bool__" sp ∧ sp [x] H (fun v H' => ∃ k, v = .bl k ∧ Q k H') (fun _ _ _ => False)
theorem tru_at {A : Around} {pins : List (Addr × Obj)} {σ : L2.St} {H : Hp} {s : Shared} {x : V} {v : Value} {Q : Bool → Hp → Prop} (hr : Room n A) (e0 : Env0 X.prog X.w X.K X.mg X.base A X.stack s H) (I : Inv X pins σ H s) (rx : L2.RelV x v) (h : rTruO X n x H Q) :
    (∃ a, v = .ref a) ∧ wpAny (model X.prog X.w) A (truthy v) (TP X pins σ Q) X.xe s := by
  obtain ⟨a, C, dx, fs, sp, rfl, ha, ⟨f, fd, ps, h1, h2, h3, h4⟩, q⟩ := h
  cases (show v = Value.ref a from rx)
  obtain ⟨mA, J, _⟩ := ins_get I.hok ha
  obtain ⟨od, J, _⟩ := J.look
  obtain ⟨m, hF⟩ := I.fr
  refine ⟨⟨a, rfl⟩, PySem.W.truthy_K hF I.ok.mod.kin J h1 h2 ?_⟩
  refine wpAny_mono (run_in (vs := [.ref a]) h3 h4 hr e0 I (.cons rfl .nil) q) (fun w s' z => ?_) fun _ _ x => x
  obtain ⟨z', H', I', rz, k, ez, qz⟩ := z
  subst ez
  cases (show w = Value.bool k from rz)
  exact ⟨H', I', qz⟩
theorem truR_O (hr : Room n X.A) : TruR X (rTruO X n) := fun pins s σ H x v Q I rx h => (tru_at hr I.env0 I rx h).2
theorem call_boolO (hr : Room (n + 2) X.A) : CallR X (.type "bool") (fun xs H Q => ∃ x, xs = [x] ∧ rTruO X n x H (fun k H' => Q (.bl k) H')) := by
  intro pins s σ H xs us Q I r h
  obtain ⟨x, rfl, h⟩ := h
  obtain ⟨u, rfl, ru⟩ := r.one
  have hr2 : Room n X.A.in1.in1 := (show Room (n + 1) X.A.in1 from Room.in1 hr).in1
  obtain ⟨⟨a, rfl⟩, z⟩ := tru_at hr2 I.env0.in1.in1 I ru h
  exact bool_own (wpAny_mono z (fun b s1 ⟨H', I', q⟩ => ⟨.bl b, H', I', rfl, q⟩) fun _ _ y => y)
end
end DLB

/-! DL, part 20: == and truth with objects, by data. -/
namespace DL
open PySem L2
/-- an own equality: the classes of l, each with what its __eq__ makes of (self, other) -/
structure EqF (X : Cx) (n : Nat) (l : List (Str × (List D → R D))) : Prop where
  own : ∀ p ∈ l, ∀ C, X.mg p.1 = some (.ref C) → DLB.OwnS X n C "__eq__" (spD X.K X.mg p.2)
  ne : ∀ p ∈ l, ∀ C, X.mg p.1 = some (.ref C) → PySem.W.findIn X.K (.ref C) "__ne__" = some (some (.builtin "object.__ne__")) ∧ PySem.W.mroIn X.K C (.type "object") = some true
  nf : ∀ p ∈ l, ∀ q ∈ l, ∀ C C2, X.mg p.1 = some (.ref C) → X.mg q.1 = some (.ref C2) → PySem.W.notFirst X.K C (.ref C2) = true
def D.eqO (l : List (Str × (List D → R D))) (neg : Bool) (x y : D) : R D := match x, y with
  | .obj c ns ds, .obj c2 ns2 ds2 => (match l.lookup c, l.lookup c2 with
    | some F, some _ => (match F [.obj c ns ds, .obj c2 ns2 ds2] with
      | .ok (.bl k) => .ok (.bl (if neg then !k else k))
      | _ => .no)
    | _, _ => .no)
  | x, y => D.eqR neg x y
section
variable {c : C} {X : Cx} {n : Nat} {l : List (Str × (List D → R D))}
theorem OpR.or {X : Cx} {f : Value → Value → Sem Value} {r r' : R2} (h : OpR X f r) (h' : OpR X f r') : OpR X f (fun x y H Q => r x y H Q ∨ r' x y H Q) := fun pins s σ H x y v u Q I rx ry q => by
  rcases q with q | q
  · exact h pins s σ H x y v u Q I rx ry q
  · exact h' pins s σ H x y v u Q I rx ry q
theorem OpD.eqO {f : Value → Value → Sem Value} (g : Gd c X) (neg : Bool) (hl : EqF X n l) (h1 : OpD c X f (D.eqR neg)) (h2 : OpR X f (DLB.rEqO X n neg)) : OpD c X f (D.eqO l neg) := by
  obtain ⟨r, h3, h4⟩ := h1
  refine ⟨_, OpR.or h3 h2, fun O H x y dx dy d Q dom rx ry e q => ?_⟩
  unfold D.eqO at e
  split at e
  · rename_i c1 ns ds c2 ns2 ds2
    split at e
    · rename_i F F2 e1 e2
      split at e
      · rename_i k ek
        cases e
        refine .inr ?_
        cases rx with
        | @obj a C dx _ fs _ _ hm ha hn hr =>
          cases ry with
          | @obj b C2 dy _ gs _ _ hm2 hb hn2 hr2 =>
            have m1 : (c1, F) ∈ l := PySem.mem_of_lookup e1
            have m2 : (c2, F2) ∈ l := PySem.mem_of_lookup e2
            rw [g.2.1] at hm hm2
            refine ⟨a, b, C, C2, dx, dy, fs, gs, _, rfl, rfl, (hid_some ha).2, (hid_some hb).2, hl.nf _ m1 _ m2 C C2 hm hm2, fun _ => hl.ne _ m1 C hm, hl.own _ m1 C hm, ?_⟩
            refine ⟨O, [.obj c1 ns ds, .obj c2 ns2 ds2], dom, ?_, ?_⟩
            · rw [← g.1, ← g.2.1]
              exact .cons (.obj (by rw [g.2.1]; exact hm) ha hn hr) (.cons (.obj (by rw [g.2.1]; exact hm2) hb hn2 hr2) .nil)
            · dsimp only
              rw [ek]
              intro v H' x r'
              cases r'
              exact ⟨k, rfl, q _ H' x (.bl _)⟩
      · cases e
    · cases e
  · exact .inl (h4 O H x y dx dy d Q dom rx ry e q)
theorem od_eqO (g : Gd c X) (hu : X.A.units + 64 < cLine) (hr : Room n X.A) (hl : EqF X n l) : OpD c X (compareOp .Eq) (D.eqO l false) := OpD.eqO g false hl (od_eq g hu) (DLB.op_eqO hr)
theorem od_neO (g : Gd c X) (hu : X.A.units + 64 < cLine) (hr : Room (n + 1) X.A) (hl : EqF X n l) : OpD c X (compareOp .NotEq) (D.eqO l true) := OpD.eqO g true hl (od_ne g hu) (DLB.op_neO hr)
theorem eqO_bl {neg : Bool} : ∀ x y d, D.eqO l neg x y = .ok d → ∃ b, d = .bl b := fun x y d e => by
  unfold D.eqO at e
  split at e
  · split at e
    · split at e
      · cases e; exact ⟨_, rfl⟩
      · cases e
    · cases e
  · exact eqR_bl _ _ _ e
/-! ### truth -/
def TruF (X : Cx) (n : Nat) (l : List (Str × (List D → R D))) : Prop := ∀ p ∈ l, ∀ C, X.mg p.1 = some (.ref C) → DLB.OwnS X n C "__bool__" (spD X.K X.mg p.2)
def D.truO (l : List (Str × (List D → R D))) (d : D) : R Bool := match d with
  | .obj c ns ds => (match l.lookup c with
    | some F => (match F [.obj c ns ds] with
      | .ok (.bl k) => .ok k
      | _ => .no)
    | _ => .no)
  | d => d.tru
def M.truO (l : List (Str × (List D → R D))) (f : M D) : M Bool := f.bind fun d => M.lift (D.truO l d).good
theorem truO_obj {H : Hp} {O : List Addr} {v : V} {c1 : Str} {ns : List Str} {ds : List D} {k : Bool} {Q : Bool → Hp → Prop} (g : Gd c X) (hl : TruF X n l) (dom : ∀ b ∈ O, ∃ o, H b = some o) (r : Rep c.K c.mg (hid H O) v (.obj c1 ns ds)) (e : D.truO l (.obj c1 ns ds) = .ok k) (q : ∀ H', Ex H H' → Q k H') : DLB.rTruO X n v H Q := by
  unfold D.truO at e
  dsimp only at e
  split at e
  · rename_i F e1
    split at e
    · rename_i k' ek
      cases e
      cases r with
      | @obj a C dx _ fs _ _ hm ha hn hr =>
        have m1 : (c1, F) ∈ l := PySem.mem_of_lookup e1
        rw [g.2.1] at hm
        refine ⟨a, C, dx, fs, _, rfl, (hid_some ha).2, hl _ m1 C hm, O, [.obj c1 ns ds], dom, ?_, ?_⟩
        · rw [← g.1, ← g.2.1]
          exact .cons (.obj (by rw [g.2.1]; exact hm) ha hn hr) .nil
        · dsimp only
          rw [ek]
          intro v H' x r'
          cases r'
          exact ⟨_, rfl, q H' x⟩
    · cases e
  · cases e
theorem truO_rep {H : Hp} {O : List Addr} {v : V} {d : D} {k : Bool} {Q : Bool → Hp → Prop} (g : Gd c X) (hl : TruF X n l) (dom : ∀ b ∈ O, ∃ o, H b = some o) (r : Rep c.K c.mg (hid H O) v d) (e : D.truO l d = .ok k) (q : ∀ H', Ex H H' → Q k H') : (∃ k, TruV X.K v H k ∧ Q k H) ∨ DLB.rTruO X n v H Q := by
  cases d with
  | obj c1 ns ds => exact .inr (truO_obj g hl dom r e q)
  | _ => exact .inl ⟨k, by rw [← g.1]; exact tru_rep r e, q H (Ex.refl _)⟩
theorem truR_or {r r' : V → Hp → (Bool → Hp → Prop) → Prop} (h : TruR X r) (h' : TruR X r') : TruR X (fun x H Q => r x H Q ∨ r' x H Q) := fun pins s σ H x v Q I rx q => by
  rcases q with q | q
  · exact h pins s σ H x v Q I rx q
  · exact h' pins s σ H x v Q I rx q
variable {W : WX} {e : Expr} {f1 : M D}
theorem dt_valO (g : Gd c X) (hr : Room n X.A) (hl : TruF X n l) (he : PE X e (tD c W f1)) (hp : ∀ whole, isTrue e X.env whole = (do let v ← whole; standAt e.pos; holding [v] (truthy v)) := by intro _; rfl) : PT X e (tB c W (M.truO l f1)) := by
  refine PT.imp (pt_truthR he (truR_or tru_ok (DLB.truR_O hr)) hp) fun σ H Q ⟨O, Γ, ρ, s, p⟩ => ?_
  refine bindS s p fun d ρ1 v H1 _ st s1 r1 p1 => ?_
  unfold M.lift at p1
  cases q : D.truO l d with
  | no => rw [q] at p1; exact p1.elim
  | er x => rw [q] at p1; exact p1.elim
  | ok k =>
    rw [q] at p1
    exact truO_rep g hl s1.dom r1 q fun H' x => p1 k H' (Stp.of x) (s1.ext x) rfl
def D.boolF (l : List (Str × (List D → R D))) : List D → R D
  | [.int i] => .ok (.bl (i != 0))
  | [.bl b] => .ok (.bl b)
  | [.lst xs] => .ok (.bl (!xs.isEmpty))
  | [.fls xs] => .ok (.bl (!xs.isEmpty))
  | [.obj c ns ds] => (match D.truO l (.obj c ns ds) with | .ok k => .ok (.bl k) | _ => .no)
  | _ => .no
theorem cd_bool (g : Gd c X) (hr : Room (n + 2) X.A) (hl : TruF X n l) : CallD c X (.type "bool") (D.boolF l) := by
  refine ⟨_, (call_bool1.or call_boolL).or (DLB.call_boolO hr), fun O H xs ds d Q dom r e q => ?_⟩
  unfold D.boolF at e
  split at e
  · obtain ⟨v, rfl, h⟩ := one_rep r
    cases h; cases e
    exact .inl (.inl (.inl ⟨_, rfl, q _ H (Ex.refl _) (.bl _)⟩))
  · obtain ⟨v, rfl, h⟩ := one_rep r
    cases h; cases e
    exact .inl (.inl (.inr ⟨_, rfl, q _ H (Ex.refl _) (.bl _)⟩))
  · obtain ⟨v, rfl, h⟩ := one_rep r
    cases e
    cases h with
    | lst h r z =>
      rw [empty_rep r] at q
      exact .inl (.inr ⟨_, _, rfl, .inl (.inl (hid_some h).2), q _ H (Ex.refl _) (.bl _)⟩)
  · obtain ⟨v, rfl, h⟩ := one_rep r
    cases e
    cases h with
    | fls h r z =>
      rw [empty_rep r] at q
      rw [g.1] at h
      exact .inl (.inr ⟨_, _, rfl, (ex_hid H O).sql h, q _ H (Ex.refl _) (.bl _)⟩)
  · obtain ⟨v, rfl, h⟩ := one_rep r
    split at e
    · rename_i k ek
      cases e
      exact .inr ⟨v, rfl, truO_obj (Q := fun k H' => Q (.bl k) H') g hl dom h ek (fun H' x => q _ H' x (.bl k))⟩
    · cases e
  · cases e
end
end DL

/-! DL, part 21: lambdas without captured names. -/
namespace DL
open PySem L2 LamX
section
variable {c : C} {O : List Addr} {Γ : Hp → Prop} {H H' : Hp} {σ : L2.St} {ρ : Env}
theorem SR.extT (s : SR c O Γ H σ ρ) (x : ∀ b o, H b = some o → b ∉ c.T → H' b = some o) (t : ∀ P ∈ c.T, TabG H' (hid H' O) P c.q) : SR c O Γ H' σ ρ := by
  have hx : Ex (hid H O) (hid H' O) := fun b o q => by
    obtain ⟨n, q⟩ := hid_some q
    rw [hid_out n]
    exact x b o q fun z => n (s.sub b (s.tab b z).1)
  refine ⟨s.mo, s.len, fun b o h n => x b o (s.keep b o h n) fun z => ?_, s.sub, fun b hb => ?_, s.mo _ _ hx s.gh, fun i d e => let ⟨v, h1, h2⟩ := s.sh i d e; ⟨v, h1, h2.mono hx⟩, fun i d e => ?_, s.inj, s.io, s.jo, fun P hP => let ⟨h1, h2, h3, _⟩ := s.tab P hP; ⟨h1, h2, h3, t P hP⟩⟩
  · rw [(s.tab b z).2.2.1] at h; cases h
  · by_cases z : b ∈ c.T
    · obtain ⟨ps, e, _⟩ := t b z
      exact ⟨_, e⟩
    · obtain ⟨o, e⟩ := s.dom b hb
      exact ⟨o, x b o e z⟩
  · obtain ⟨a, h1, h2, h3, h5⟩ := s.ow i d e
    obtain ⟨o, eo⟩ := h5.some
    exact ⟨a, h1, h2, h3, (h5.mono hx).at ((x _ _ eo (s.noT e h1)).trans eo.symm)⟩
end
section
variable {X : Cx} {pins : List (Addr × Obj)} {σ : L2.St} {H : Hp} {s : Shared}
theorem lamO_ne {f : Addr} {i : LamI} {pm ctv : Value} {c' : Addr} (ps : Array Value) : LamO f i pm c' ctv ≠ .tbl ps := fun z => by
  unfold LamO at z
  cases z
theorem lamO_ok {P : Program} {w : World} {H : Hp} {h : Heap} {f : Addr} {i : LamI} {pm ctv : Value} {c' : Addr} (e : h.get? f = some (PySem.W.kla_obj "<lambda>" i.q i.ps i.body i.sc [] pm c' ctv)) : ObjOk P w H h f (LamO f i pm c' ctv) :=
  ⟨e, ⟨_, e⟩, fun h1 h2 a st => st _ a⟩
/-- the lambda is made: its code object is new, or found in the table -/
theorem lam_make3 {i : LamI} {O : List Addr} {c P : Addr} {pos : Pos} {E : Value → Shared → Prop} {Q : Value → Shared → Prop} (I : Inv X pins σ H s) (TB : TabB X.base X.mg c P) (hcode : X.env.code = .ref c) (hq : X.env.qual ++ "<lambda>" = i.q)
    (hT : TabG H (hid H O) P i.q) (hP : P ∈ O) (dom : ∀ b ∈ O, ∃ o, H b = some o) (hdef : defaultsOf i.ps X.env = ([], [])) (hfree : ∀ y ∈ i.sc.names, y.2 = .free → ∃ c, X.env.cells.lookup y.1 = some c) (hclo : cloFrom X.env.cells i.sc.names [] = [])
    (h : ∀ (f c' : Addr) (pm ctv : Value) (H1 : Hp) (s' : Shared), Inv X pins σ H1 s' → (∀ b o, H b = some o → b ≠ P → H1 b = some o) → TabG H1 (hid H1 O) P i.q → H1 f = some (LamO f i pm c' ctv) → H1 c' = some (CodeO c' i.q) → f ∉ O → c' ∉ O → Q (.ref f) s') :
    wpAny (model X.prog X.w) X.A (eval (.Lambda i.ps i.body i.sc pos) X.env) Q E s := by
  obtain ⟨ps, hPt, ht, ha⟩ := hT
  refine PySem.W.kla_eval hdef ?_
  rw [hq]
  have bP : s.heap.BuiltinsAt X.mg P := TB.bm.keeps I.bk
  have hP' : s.heap.get? P = some { cls := .none, data := .fields ps } := I.hok P _ hPt
  have fr : ∀ {b : Addr}, H b = none → b ∉ O := fun {b} e z => by
    obtain ⟨o, q⟩ := dom b z
    rw [e] at q; cases q
  cases hc : codeAmong pos ps.toList with
  | none =>
    refine PySem.W.kla_makeFunction (mg := X.mg) (c := c) (P := P) (ps := ps) (closure_ok hfree) I.ok.glob (I.mod.glob.keeps I.bk) hcode (TB.code.keeps I.bk) hP' ht hc TB.gP bP fun c' ctv h' tk hx hge hlt hrec htb => ?_
    rw [hclo]
    obtain ⟨c2, oc, vs, t, e2, hoc, hd, hv⟩ := hrec
    cases e2
    have hsz : s.heap.objs.size ≤ h'.objs.size := Nat.le_trans hge (Nat.le_of_lt hlt)
    have nC : H c' = none := I.hok.fresh hge
    have I1 := inv_table (t' := tk) (more := #[rawInt pos.line, rawInt pos.col, .ref c']) (h' := h') I hPt (fun b o hb e => hx b o hb e) htb hge ⟨oc, vs, t, hoc, hd, hv⟩
    have nPc : P ≠ c' := ne_of_none hPt nC
    have nF : (upd (upd H P (.tbl (ps ++ #[rawInt pos.line, rawInt pos.col, .ref c']))) c' (CodeO c' i.q)) h'.objs.size = none := I1.hok.fresh (Nat.le_refl _)
    have I2 := I1.laid (t' := tk) (a := h'.objs.size) (o := LamO h'.objs.size i ((X.mg "__name__").getD .none) c' ctv) (h' := h'.push (PySem.W.kla_obj "<lambda>" i.q i.ps i.body i.sc [] ((X.mg "__name__").getD .none) c' ctv)) (fun b o e => Heap.get?_push_of_some _ e) (Nat.le_refl _) (lamO_ok (Heap.get?_push_size _ rfl))
    have nH : H h'.objs.size = none := I.hok.fresh hsz
    have n1 : c' ≠ h'.objs.size := Nat.ne_of_lt hlt
    have n2 : P ≠ h'.objs.size := ne_of_none hPt nH
    have keep : ∀ b o, H b = some o → b ≠ P → (upd (upd (upd H P (.tbl (ps ++ #[rawInt pos.line, rawInt pos.col, .ref c']))) c' (CodeO c' i.q)) h'.objs.size (LamO h'.objs.size i ((X.mg "__name__").getD .none) c' ctv)) b = some o := fun b o e n => by
      rw [upd_ne (ne_of_none e nH), upd_ne (ne_of_none e nC), upd_ne n]
      exact e
    have hc1 : (upd (upd (upd H P (.tbl (ps ++ #[rawInt pos.line, rawInt pos.col, .ref c']))) c' (CodeO c' i.q)) h'.objs.size (LamO h'.objs.size i ((X.mg "__name__").getD .none) c' ctv)) c' = some (CodeO c' i.q) := by
      rw [upd_ne n1, upd_same]
    have eL : (ps ++ #[rawInt pos.line, rawInt pos.col, .ref c']).toList = ps.toList ++ [rawInt pos.line, rawInt pos.col, .ref c'] := by simp
    refine h h'.objs.size c' ((X.mg "__name__").getD .none) ctv _ _ I2 keep ⟨ps ++ #[rawInt pos.line, rawInt pos.col, .ref c'], ?_, ?_, fun p' cv hcv => ?_⟩ upd_same hc1 (fr nH) (fr nC)
    · rw [upd_ne n2, upd_ne nPc, upd_same]
    · rw [eL]; exact PySem.TriplesOk_snoc _ _ _ _ ht
    · rw [eL] at hcv
      rcases among_app _ ht hcv with z | z
      · obtain ⟨c0, e1, e2⟩ := ha p' cv z
        obtain ⟨m1, m2⟩ := hid_some e2
        refine ⟨c0, e1, ?_⟩
        rw [hid_out m1]
        exact keep _ _ m2 fun w => m1 (w ▸ hP)
      · exact ⟨c', z, by rw [hid_out (fr nC)]; exact hc1⟩
  | some cv =>
    obtain ⟨c', e, hco⟩ := ha pos cv hc
    subst e
    obtain ⟨m1, m2⟩ := hid_some hco
    refine PySem.W.kla_makeFunctionHit (mg := X.mg) (c := c) (P := P) (ps := ps) (closure_ok hfree) I.ok.glob (I.mod.glob.keeps I.bk) hcode (TB.code.keeps I.bk) hP' ht hc bP fun ctv h' tk hx hsz => ?_
    rw [hclo]
    have I0 : Inv X pins σ H { s with heap := h', toks := tk } := I.kept hx
    have nF : H h'.objs.size = none := I0.hok.fresh (Nat.le_refl _)
    have I2 := I0.laid (t' := tk) (a := h'.objs.size) (o := LamO h'.objs.size i ((X.mg "__name__").getD .none) c' ctv) (h' := h'.push (PySem.W.kla_obj "<lambda>" i.q i.ps i.body i.sc [] ((X.mg "__name__").getD .none) c' ctv)) (fun b o e => Heap.get?_push_of_some _ e) (Nat.le_refl _) (lamO_ok (Heap.get?_push_size _ rfl))
    have ex : Ex H (upd H h'.objs.size (LamO h'.objs.size i ((X.mg "__name__").getD .none) c' ctv)) := Ex.upd nF
    exact h h'.objs.size c' ((X.mg "__name__").getD .none) ctv _ _ I2 (fun b o e _ => ex b o e) (TabG.of ⟨ps, hPt, ht, ha⟩ ((ex _ _ hPt).trans hPt.symm) (ex.hid O)) upd_same (ex _ _ m2) (fr nF) m1
end
/-- what a def that makes lambdas has -/
structure LamF (c : C) (X : Cx) : Prop where
  tb : ∃ cc P, c.T = [P] ∧ TabB X.base X.mg cc P ∧ X.env.code = .ref cc
  q : X.env.qual ++ "<lambda>" = c.q
section
variable {c : C} {X : Cx} {W : WX} {pos : Pos}
theorem de_lam (n : Nat) {params : Arguments} {body : Expr} {scope : Scope} (g : Gd c X) (L : LamF c X) (hi : lamTab n = ⟨c.q, params, body, scope⟩) (hdef : defaultsOf params X.env = ([], []) := by rfl) (hfree : ∀ y ∈ scope.names, y.2 ≠ .free) (hclo : cloFrom X.env.cells scope.names [] = [] := by rfl) :
    PE X (.Lambda params body scope pos) (tD c W (M.pure (.fn n))) := by
  refine ⟨fun pins s σ H Q I ⟨O, Γ, ρ, sr, p⟩ => ?_⟩
  obtain ⟨cc, P, hT, TB, hcode⟩ := L.tb
  obtain ⟨t1, t2, t3, t4⟩ := sr.tab P (by rw [hT]; exact List.mem_cons_self)
  have hq : X.env.qual ++ "<lambda>" = (LamI.mk c.q params body scope).q := L.q
  refine lam_make3 (i := ⟨c.q, params, body, scope⟩) (O := O) I TB hcode hq t4 (sr.sub P t1) sr.dom hdef (fun y hy e => absurd e (hfree y hy)) hclo fun f c' pm ctv H1 s' I1 k tab hf hc nf nc => ?_
  have kT : ∀ b o, H b = some o → b ∉ c.T → H1 b = some o := fun b o e n => k b o e fun z => n (by rw [hT, z]; exact List.mem_cons_self)
  have s1 : SR c O Γ H1 σ ρ := sr.extT kT fun P' hP' => by
    rw [hT] at hP'
    rcases List.mem_cons.mp hP' with z | z
    · rw [z]; exact tab
    · cases z
  refine ⟨.ref f, H1, I1, rfl, p _ H1 ⟨fun a o e n _ => kT a o e n, fun i d e => ⟨d, e⟩⟩ s1 (.fn (c' := c') (pm := pm) (ctv := ctv) ?_ ?_)⟩
  · rw [hid_out nf, hi]; exact hf
  · rw [hid_out nc, hi]; exact hc
end
end DL

/-! DL, part 22: lambdas called. -/
namespace DL
open PySem L2 LamX
abbrev lamEnv0 (i : LamI) (L f c' : Addr) : PySem.Env := PySem.W.envX i.q i.sc L f (.ref c') []
/-- the context of a lambda's body -/
def lamCx0 (P : Program) (w : World) (K : PySem.W.Frag) (mg : Str → Option Value) (base : Heap) (i : LamI) (A : Around) (outer : List PySem.Env) (s : Shared) (H : Hp) (E : XK) (f c' : Addr) : Cx where
  prog := P
  w := w
  K := K
  mg := mg
  base := base
  A := A.deeper (lamEnv0 i s.heap.objs.size f c')
  N := []
  s_0 := s
  H_0 := H
  env := lamEnv0 i s.heap.objs.size f c'
  outer := outer
  stack := lamEnv0 i s.heap.objs.size f c' :: outer
  ex := []
  fn := fun _ => false
  calm := true
  pn := []
  xe := fun e s' => wpAny (model P w) (A.deeper (lamEnv0 i s.heap.objs.size f c')) (leaving (lamEnv0 i s.heap.objs.size f c') e) (fun _ s'' => L2.CX P w outer H s E e s'') (fun e' s'' => L2.CX P w outer H s E e' s'') s'
structure LamSc (sc : Scope) : Prop where
  kind : sc.kind = .function
  co : sc.isCoroutine = false
  gen : sc.isGenerator = false
  own : ∀ y ∈ sc.names, y.2 ≠ .local ∧ y.2 ≠ .cell ∧ y.2 ≠ .free
def endR : RM D → R D
  | .ok d _ => .ok d
  | .er x _ => .er x
  | .no => .no
/-- the lambda n, called: r -/
def LamOk (P : Program) (w : World) (K : PySem.W.Frag) (mg : Str → Option Value) (base : Heap) (k n : Nat) (r : R D) : Prop :=
  ∀ (A : Around) (outer : List PySem.Env) (s : Shared) (H : Hp) (Q : VK) (E : XK) (f c' : Addr) (pm ctv : Value), Room k A → Env0 P w K mg base A outer s H → H f = some (LamO f (lamTab n) pm c' ctv) → H c' = some (CodeO c' (lamTab n).q) → spD K mg (fun _ => r) [] H Q E →
    codeAny (model P w) A (.call (.ref f) ⟨[], []⟩) (CR (L2.CX P w) outer P w H s Q E) s
section
variable {P : Program} {w : World} {K : PySem.W.Frag} {mg : Str → Option Value} {base : Heap}
theorem lam_start0 {i : LamI} {A : Around} {outer : List PySem.Env} {E : XK} {f c' : Addr} {h₁ : Heap} {tk : Nat} {H : Hp} {s1 : Shared} (L : LamSc i.sc) (e0 : Env0 P w K mg base A outer s1 H) (hd : A.handled = none)
    (hns : h₁.Ns s1.heap.objs.size fun y => ([] : List (Str × Value)).reverse.lookup y) (kp : ∀ b o, s1.heap.get? b = some o → h₁.get? b = some o) :
    Inv (lamCx0 P w K mg base i A outer s1 H E f c') [] [] H { s1 with heap := h₁, toks := tk } := by
  have noA : ∀ b : Addr, b ∉ (lamCx0 P w K mg base i A outer s1 H E f c').ex := fun b z => absurd (show b ∈ ([] : List Addr) from z) (by simp)
  refine ⟨⟨e0.mod, L.kind, rfl, rfl, Nat.le_refl _, fun y z c e1 e2 => ?_, fun y hy => ?_, fun y c z _ => ?_, fun _ => hd, Around.frames_deeper e0.frames, .inr ⟨rfl, rfl⟩, fun b z => absurd z (noA b), e0.bs, e0.bsz, fun b _ _ => noA b,
      fun b z => absurd z (noA b), e0.funs, e0.frf⟩,
    rfl, e0.bare, Un.kept kp, ⟨_, hns, fun i y v e1 e2 e3 => ?_⟩, fun y c e => ?_, e0.hok.fresh (Nat.le_refl _), fun y c e => ?_, fun q hq => absurd (show q ∈ ([] : List (Addr × Obj)) ++ [] from hq) (by simp), e0.hok.kept kp, rfl⟩
  · have e1 : ([] : List (Str × Addr)).lookup y = some c := e1
    cases e1
  · have hy : i.sc.names.lookup y = some .cell ∨ i.sc.names.lookup y = some .free := hy
    rcases hy with hy | hy
    · exact absurd rfl (L.own _ (PySem.mem_of_lookup hy)).2.1
    · exact absurd rfl (L.own _ (PySem.mem_of_lookup hy)).2.2
  · have z : false = true := z
    cases z
  · have e1 : ([] : List Str)[i]? = some y := e1
    simp at e1
  · have e : ([] : List (Str × Addr)).lookup y = some c := e
    cases e
  · have e : ([] : List (Str × Addr)).lookup y = some c := e
    cases e
theorem lamOk_of {k n : Nat} {m : M D} (L : LamSc (lamTab n).sc) (hbind : ∀ (pm cv ctv : Value), bindArgs (PySem.W.kla_fn "<lambda>" (lamTab n).q (lamTab n).ps (lamTab n).body (lamTab n).sc [] pm cv ctv) ⟨[], []⟩ = pure [])
    (hbody : ∀ (A : Around) (outer : List PySem.Env) (s : Shared) (H : Hp) (E : XK) (f c' : Addr) (Oc : List Addr), Room k (A.deeper (lamEnv0 (lamTab n) s.heap.objs.size f c')) →
      PE (lamCx0 P w K mg base (lamTab n) A outer s H E f c') (lamTab n).body (tD (cD K mg H Oc) (fun cls d _ H' => E cls d H') m)) : LamOk P w K mg base (k + 1) n (endR (m [])) := by
  intro A outer s H Q E f c' pm ctv hr e0 hf hc ⟨Oc, ds, dom, r, q⟩
  obtain ⟨of1, _, _⟩ := e0.hok f _ hf
  obtain ⟨⟨oc, vs, t, hoc, hdc, hvc⟩, _, _⟩ := e0.hok c' _ hc
  have lim : s.heap.NoLimit := e0.mod.nolimit.keeps fun b o e => (e0.bs b o e).1
  refine PySem.W.kla_callFunE hr.depth of1 rfl L.co L.gen rfl ⟨c', oc, vs, t, rfl, hoc, hdc, hvc⟩ ?_
  rw [hbind]
  refine wpAny_pure (wpAny_newFunctionEnv (fun y hy => (L.own y hy).2.1) (fun y hy => absurd hy (by simp)) (fun h₁ hns hsb => ⟨lim.fresh _ hsb, ?_⟩) L.kind)
  show codeAny _ _ (.expr (lamTab n).body (lamEnv0 (lamTab n) s.heap.objs.size f c')) _ _
  have kp : ∀ b o, s.heap.get? b = some o → h₁.get? b = some o := fun b o e => hsb.extBut b o (Nat.ne_of_lt (Heap.lt_size e)) (Heap.get?_push_of_some _ e)
  have J : Inv (lamCx0 P w K mg base (lamTab n) A outer s H E f c') [] [] H { s with heap := h₁, toks := s.toks + ([] : List (Str × Value)).length } := lam_start0 L e0 hr.hd hns kp
  cases r
  have st : SR (cD K mg H Oc) Oc (fun _ => True) H [] [] :=
    ⟨fun _ _ _ _ => trivial, rfl, fun _ _ h _ => h, fun _ h => h, dom, trivial, fun i d e => (by simp at e), fun i d e => (by simp at e), fun i j d e _ e1 => (by simp at e1), fun a h => (nomatch h), fun a h => (nomatch h), fun P h => (nomatch h)⟩
  have ht : tD (cD K mg H Oc) (fun cls d _ H' => E cls d H') m [] H Q := by
    refine ⟨Oc, _, [], st, ?_⟩
    have ex : ∀ {Γ' H' ρ'}, SR (cD K mg H Oc) Oc Γ' H' [] ρ' → Ex H H' := fun s a o h => s.keep a o h (by simp)
    cases e : m [] with
    | ok d ρ' => rw [e] at q; exact fun v H' _ s' r' => q v H' (ex s') r'
    | er x ρ' => rw [e] at q; exact fun cls d H' _ s' r' => q cls d H' (ex s') r'
    | no => rw [e] at q; exact q
  refine PySem.W.kla_codeExpr (wpAny_mono ((hbody A outer s H E f c' Oc (hr.deeper _)).run [] _ _ H Q J ht) (fun v s' hq => ?_) fun e s' hq => hq)
  obtain ⟨w', H', J', rv, q⟩ := hq
  exact ⟨w', H', J'.os, J'.bare, J'.base, J'.hok, rv, q⟩
end
def M.act (i : Nat) (F : Nat → R D) : M D := fun ρ => match ρ[i]? with
  | some (.sh (.fn n)) => (F n).at ρ
  | _ => .no
section
variable {c : C} {X : Cx} {W : WX}
/-- deed() -/
theorem de_act (i : Nat) {k : Nat} {F : Nat → R D} {a : Str} {p1 p2 : Pos} (g : Gd c X) (hF : ∀ n, F n ≠ .no → LamOk X.prog X.w X.K X.mg X.base k n (F n)) (hr : Room k X.A) (tk : Takes X W) (hN : X.N[i]? = some a := by rfl)
    (hv : Vis X.env.scope a := by first | exact Or.inl rfl | exact Or.inr (Or.inl rfl) | exact Or.inr (Or.inr rfl)) (hd : (a == ("__debug__" : Str)) = false := by decide) (hcd : (a == ("__classdict__" : Str)) = false := by decide) :
    PE X (.Call (.Name a p1) [] [] p2) (tD c W (M.act i F)) := by
  refine ⟨fun pins s σ H Q I ⟨O, Γ, ρ, sr, p⟩ => ?_⟩
  unfold M.act at p
  split at p
  · rename_i n e
    obtain ⟨v, h1, h2⟩ := sr.sh i _ e
    cases h2 with
    | @fn f c' _ pm ctv hf hc =>
      refine wpAny_Call_Name_kw (thn ((pe_var (pos := p1) (i := i) hN hv hd hcd).run pins s σ H (fun v H1 => v = .ref f ∧ H1 = H) I ⟨.ref f, h1, rfl, rfl⟩) fun u s1 ⟨v, H1, I1, r1, q1⟩ => ?_)
      obtain ⟨ev, eH⟩ := q1
      subst ev
      rw [eH] at I1
      obtain rfl : u = Value.ref f := r1
      obtain ⟨of1, _, _⟩ := I1.hok f _ (hid_some hf).2
      refine PySem.W.callWith_F0 ⟨_, _, _, _, of1⟩ ?_
      have hno : F n ≠ .no := fun z => by rw [z] at p; exact p
      have sp : spD X.K X.mg (fun _ => F n) [] H Q (WE W σ) := by
        have z := spD_of (F := fun _ => F n) (vs := []) (ds := []) sr .nil (show post c W O Γ σ H ρ (Rep c.K c.mg) (M.lift (F n) ρ) Q from p)
        rw [g.1, g.2.1] at z
        exact z
      refine wpAny_call (codeAny_mono (hF n hno X.A X.stack s1 H Q (WE W σ) f c' pm ctv hr I1.env0 (hid_some hf).2 (hid_some hc).2 sp) fun r s' hq => ?_)
      cases r with
      | error e => exact passAt tk σ pins H s1 e s' I1 hq
      | ok fl =>
        cases fl with
        | ret u => exact I1.after hq
        | next => exact False.elim hq
        | brk => exact False.elim hq
        | cont => exact False.elim hq
  · exact p.elim
end
end DL

/-! DL, part 23: in; fresh lists; shares; the law. -/
namespace DL
open PySem L2
/-! ### in -/
def D.vF : D → Option V
  | .non => some .non
  | .bl b => some (.bl b)
  | .int i => some (.int i)
  | .str s => some (.str s)
  | _ => none
def D.vFL : List D → Option (List V)
  | [] => some []
  | d :: ds => match d.vF, D.vFL ds with
    | some v, some vs => some (v :: vs)
    | _, _ => none
def D.inR (neg : Bool) (x y : D) : R D := match y.items with
  | .ok l => (match x.vF, D.vFL l with
    | some v, some vs => .ok (.bl (if neg then !inV v vs else inV v vs))
    | _, _ => .no)
  | _ => .no
theorem vF_rep {K : PySem.W.Frag} {mg : Str → Option Value} {G : Hp} {v w : V} {d : D} (r : Rep K mg G v d) (e : d.vF = some w) : v = w ∧ flatV v = true := by
  cases r with
  | non => cases e; exact ⟨rfl, rfl⟩
  | bl b => cases e; exact ⟨rfl, rfl⟩
  | int i => cases e; exact ⟨rfl, rfl⟩
  | str s => cases e; exact ⟨rfl, rfl⟩
  | _ => cases e
theorem vFL_rep {K : PySem.W.Frag} {mg : Str → Option Value} {G : Hp} : ∀ {vs ws : List V} {ds : List D}, RepL K mg G vs ds → D.vFL ds = some ws → vs = ws ∧ vs.all flatV = true
  | [], ws, [], .nil, e => by cases e; exact ⟨rfl, rfl⟩
  | v :: vs, ws, d :: ds, .cons r t, e => by
    unfold D.vFL at e
    split at e
    · rename_i w us h1 h2
      cases e
      obtain ⟨a1, a2⟩ := vF_rep r h1
      obtain ⟨b1, b2⟩ := vFL_rep t h2
      exact ⟨by rw [a1, b1], by rw [List.all_cons, a2, b2]; rfl⟩
    · cases e
section
variable {c : C} {X : Cx}
theorem in_run {f : Value → Value → Sem Value} {neg : Bool} (g : Gd c X) (h : OpR X f (rIn X.K neg)) : OpD c X f (D.inR neg) := by
  refine ⟨_, h, fun O H x y dx dy d Q dom rx ry e q => ?_⟩
  unfold D.inR at e
  split at e
  · rename_i l hl
    split at e
    · rename_i v vs h1 h2
      cases e
      obtain ⟨a, us, rfl, hq, hr, _⟩ := seq_of ry hl
      obtain ⟨a1, a2⟩ := vF_rep rx h1
      obtain ⟨b1, b2⟩ := vFL_rep hr h2
      subst a1 b1
      rw [g.1] at hq
      exact ⟨a, us, rfl, hq, a2, b2, q _ H (Ex.refl _) (.bl _)⟩
    · cases e
  · cases e
theorem od_in (g : Gd c X) : OpD c X (compareOp .In) (D.inR false) := in_run g op_in_seq
theorem od_notin (g : Gd c X) : OpD c X (compareOp .NotIn) (D.inR true) := in_run g op_notIn_seq
theorem inR_bl {neg : Bool} : ∀ x y d, D.inR neg x y = .ok d → ∃ b, d = .bl b := fun x y d e => by
  unfold D.inR at e
  split at e
  · split at e
    · cases e; exact ⟨_, rfl⟩
    · cases e
  · cases e
end
/-! ### fresh lists -/
section
variable {c : C} {X : Cx} {W : WX} {e a b : Expr} {es : List Expr} {f f1 f2 : M D} {fs : M (List D)} {pos p : Pos}
/-- list(x) as a new list of one's own -/
theorem df_list (g : Gd c X) (hm : X.mg "list" = none) (ha : PA X [e] (tDs c W fs)) (hg : Gl X "list" := by rfl) (he : starEach [e] X.env = (false, eval e X.env) :: starEach [] X.env := by rfl) (hpl : (backTo pos (starEach [] X.env)).any (·.1) = false := by rfl) :
    PE X (.Call (.Name "list" p) [e] [] pos) (tF c W (M.app fs D.listF)) := by
  refine PE.imp (pe_callTy call_list_of hg hm PyProof.Rows.boot_list ha (by decide) (by decide) he hpl) fun σ H Q ⟨O, Γ, ρ, s, p⟩ => ?_
  refine ⟨O, Γ, ρ, s, ?_⟩
  unfold M.app M.bind at p
  cases q : fs ρ with
  | no => rw [q] at p; exact p
  | er x ρ1 => rw [q] at p; exact p
  | ok ds ρ1 =>
    rw [q] at p
    simp only [RM.bind, M.lift] at p
    intro vs H1 st s1 r1
    cases q2 : D.listF ds with
    | no => rw [q2] at p; exact p.elim
    | er x => rw [q2] at p; exact p.elim
    | ok d =>
      rw [q2] at p
      unfold D.listF at q2
      split at q2
      · obtain ⟨v, rfl, h⟩ := one_rep r1
        split at q2
        · rename_i l hl
          cases q2
          obtain ⟨a, ws, rfl, h2, h3, h4⟩ := seq_of h hl
          rw [g.1] at h2
          exact ⟨a, ws, rfl, h2, fun y hy => p y _ (st.trans (Stp.of (Ex.upd hy))) (st.back s s1 hy) (s1.new hy) (s1.isNew hy) (own_newL s1 hy h3 h4)⟩
        · cases q2
      · cases q2
def D.mulL : D → D → R D
  | .lst a, .int k => D.mul (.lst a) (.int k)
  | _, _ => .no
/-- [..] * n as a new list of one's own -/
theorem df_mul (ha : PE X a (tD c W f1)) (hb : PE X b (tD c W f2)) : PE X (.BinOp a .Mult b pos) (tF c W (M.two f1 f2 fun x y => (D.mulL x y).good)) := by
  refine PE.imp (pe_op op_rep ha hb) fun σ H Q ⟨O, Γ, ρ, s, p⟩ => ?_
  refine ⟨O, Γ, ρ, s, ?_⟩
  unfold M.two M.bind at p
  cases q : f1 ρ with
  | no => rw [q] at p; exact p
  | er x ρ1 => rw [q] at p; exact p
  | ok dx ρ1 =>
    rw [q] at p
    simp only [RM.bind] at p
    intro x H1 st s1 r1
    refine ⟨O, Γ, ρ1, s1, ?_⟩
    cases q2 : f2 ρ1 with
    | no => rw [q2] at p; exact p
    | er y ρ2 => rw [q2] at p; exact fun cls d H2 st2 s2 r2 => p cls d H2 (st.trans st2) s2 r2
    | ok dy ρ2 =>
      rw [q2] at p
      simp only [M.lift] at p
      intro y H2 st2 s2 r2
      have r1' := r1.mono (st2.ex s1)
      cases dx with
      | lst l =>
        cases dy with
        | int k =>
          simp only [D.mulL, D.mul] at p
          by_cases hz : k < 2 ^ 63 ∧ -(2 ^ 63) ≤ k ∧ l.length * k.toNat ≤ sizeLine
          · rw [if_pos hz] at p
            cases r2
            cases r1' with
            | lst h1 r1 z1 =>
              refine ⟨_, _, _, rfl, rfl, (hid_some h1).2, hz.2.1, hz.1, by rw [r1.length]; exact hz.2.2, fun y hy => ?_⟩
              have stt := st.trans st2
              exact p y _ (stt.trans (Stp.of (Ex.upd hy))) (stt.back s s2 hy) (s2.new hy) (s2.isNew hy) (own_newL s2 hy (r1.replicate _) (by rw [len_repl]; exact hz.2.2))
          · rw [if_neg hz] at p; exact p.elim
        | _ => exact p.elim
      | _ => exact p.elim
end
/-! ### what was one's own is shared from here on -/
def S.share (i : Nat) : S := fun ρ => match ρ[i]? with
  | some (.ow (.lst l)) => .nx (ρ.set i (.sh (.lst l)))
  | some (.ow (.obj c ns ds)) => .nx (ρ.set i (.sh (.obj c ns ds)))
  | _ => .no
section
variable {c : C} {O : List Addr} {Γ : Hp → Prop} {H H' : Hp} {σ : L2.St} {ρ : Env}
theorem SR.share (s : SR c O Γ H σ ρ) {i : Nat} {d : D} {a : Addr} (hJ : c.J = []) (e : ρ[i]? = some (.ow d)) (ea : σ[i]? = some (some (.ref a))) (hr : Rep c.K c.mg (hid H (O.filter fun b => decide (b ≠ a))) (.ref a) d) : SR c (O.filter fun b => decide (b ≠ a)) Γ H σ (ρ.set i (.sh d)) := by
  obtain ⟨a', h1, h2, h3, h4⟩ := s.ow i d e
  rw [ea] at h1
  cases h1
  have hn : a ∉ c.Oc := by
    rcases h3 with ⟨h, _⟩ | ⟨h, _⟩
    · exact h
    · rw [hJ] at h; cases h
  have sub : ∀ b ∈ O.filter (fun b => decide (b ≠ a)), b ∈ O := fun b hb => (List.mem_filter.mp hb).1
  have x : Ex (hid H O) (hid H (O.filter fun b => decide (b ≠ a))) := ex_hid_sub sub
  refine ⟨s.mo, by rw [List.length_set]; exact s.len, s.keep, fun b hb => List.mem_filter.mpr ⟨s.sub b hb, decide_eq_true fun z => hn (z ▸ hb)⟩, fun b hb => s.dom b (sub b hb), s.mo _ _ x s.gh, fun j d' e' => ?_, fun j d' e' => ?_, fun j k d1 d2 hjk e1 e2 => ?_, s.io, s.jo, s.tabOf (fun _ _ => rfl) x⟩
  · rcases set_none e' with ⟨rfl, z, _⟩ | ⟨hj, e'⟩
    · cases z
      exact ⟨.ref a, ea, hr⟩
    · obtain ⟨v, g1, g2⟩ := s.sh j d' e'
      exact ⟨v, g1, g2.mono x⟩
  · rcases set_none e' with ⟨_, z, _⟩ | ⟨hj, e'⟩
    · cases z
    · obtain ⟨b, g1, g2, g3, g4⟩ := s.ow j d' e'
      refine ⟨b, g1, List.mem_filter.mpr ⟨g2, decide_eq_true fun z => ?_⟩, g3, g4.mono x⟩
      exact s.inj j i d' d hj e' e (by rw [g1, ea, z])
  · rcases set_none e1 with ⟨_, z, _⟩ | ⟨_, e1⟩
    · cases z
    · rcases set_none e2 with ⟨_, z, _⟩ | ⟨_, e2⟩
      · cases z
      · exact s.inj j k d1 d2 hjk e1 e2
theorem not_filter {a : Addr} : a ∉ O.filter fun b => decide (b ≠ a) := fun z => by
  have := (List.mem_filter.mp z).2
  simp at this
variable {X : Cx} {W : WX} {g : S}
theorem share_run {i : Nat} {Z : Ends} (hJ : c.J = []) (h : tS c W (S.seq (S.share i) g) Z σ H) : tS c W g Z σ H := by
  obtain ⟨O, Γ, ρ, s, p⟩ := h
  unfold S.seq S.share at p
  cases e : ρ[i]? with
  | none => rw [e] at p; exact p.elim
  | some z =>
    cases z with
    | un => rw [e] at p; exact p.elim
    | sh _ => rw [e] at p; exact p.elim
    | ow d =>
      obtain ⟨a, h1, h2, h3, h4⟩ := s.ow i d e
      cases d with
      | lst l =>
        rw [e] at p
        obtain ⟨vs, k1, k2, k3⟩ := h4
        exact ⟨_, Γ, _, s.share hJ e h1 (.lst (by rw [hid_out not_filter]; exact k1) (k2.mono (ex_hid_sub fun b hb => (List.mem_filter.mp hb).1)) k3), p⟩
      | obj cn ns ds =>
        rw [e] at p
        exact ⟨_, Γ, _, s.share hJ e h1 (rep_of_own h4 (ex_hid_sub fun b hb => (List.mem_filter.mp hb).1) (hid_out not_filter)), p⟩
      | _ => rw [e] at p; exact p.elim
theorem ds_share {st : Stmt} (i : Nat) (hJ : c.J = []) (h : PS X st (tS c W g)) : PS X st (tS c W (S.seq (S.share i) g)) := PS.imp h fun Z σ H q => share_run hJ q
theorem dss_share {st : List Stmt} (i : Nat) (hJ : c.J = []) (h : PSs X st (tS c W g)) : PSs X st (tS c W (S.seq (S.share i) g)) := PSs.imp h fun Z σ H q => share_run hJ q
end
/-! ### the law -/
/-- the law's promise: a script in, True out; its table at T -/
def spLaw (K : PySem.W.Frag) (T : List Addr) : Sp := fun vs H Q _ => ∃ (a : Addr) (ns : List Int), vs = [.ref a] ∧ ns.length ≤ 63 ∧ (∀ P ∈ T, H P = some (.tbl #[])) ∧ SqL K H a (ns.map V.int) ∧ ∀ H', Q (.bl true) H'
abbrev cL (K : PySem.W.Frag) (mg : Str → Option Value) (H : Hp) (T : List Addr) (q : Str) : C := { K := K, mg := mg, H0 := fun b => if b ∈ T then none else H b, Oc := T, J := [], T := T, q := q }
section
variable {P : Program} {w : World} {K : PySem.W.Frag} {mg : Str → Option Value} {base : Heap}
theorem okLaw {x qual : Str} {st : Stmt} {f : Addr} {fd : FuncData} {N : List Str} {k : Nat} {g : S} {T : List Addr} {q sn : Str} (F : Fun K x qual st f fd) (Sc : FnScope N [sn] (defScope st)) (hN : 1 ≤ N.length)
    (hg : ∀ ns : List Int, ns.length ≤ 63 → ∃ ρ, g (env0 N.length [.sh (.fls (ns.map .int))]) = .rt (.bl true) ρ)
    (hbody : ∀ (cdv : Value) (A : Around) (outer : List PySem.Env) (s : Shared) (H : Hp) (E : XK), Room k (A.deeper (PyProof.Rows.envOfC qual (defScope st) s.heap.objs.size f cdv)) → fd.code = cdv →
      PSs (cxOf (L2.CX P w) P w K mg base N qual (defScope st) f cdv A outer s H E) (defBody st) (tS (cL K mg H T q) (fun cls d _ H' => E cls d H') g)) :
    FnOk P w K mg base (L2.CX P w) (k + 1) f fd [sn] (spLaw K T) := by
  obtain ⟨oc, od, kV, doc, pm, an, cdv, ct, osl, rfl, lk, hcd⟩ := F.ex
  refine fn_of lk hcd Sc (fun vs H Q E h => ?_) (fun A outer s H vs Q E hr h => ?_)
  · obtain ⟨a, ns, rfl, _⟩ := h
    rfl
  · obtain ⟨a, ns, rfl, hl, hT, hS, k2⟩ := h
    obtain ⟨ρ', hρ⟩ := hg ns hl
    refine ⟨_, hbody cdv A outer s H E hr rfl, T, fun _ => True, env0 N.length [.sh (.fls (ns.map .int))], ⟨fun _ _ _ _ => trivial, ?_, fun b o h _ => ?_, fun _ h => h, fun b hb => ⟨_, hT b hb⟩, trivial, fun i d e => ?_, fun i d e => ?_, fun i j d e _ e1 => ?_, fun a h => (nomatch h), fun a h => (nomatch h), fun P' h => ⟨h, (nomatch ·), if_pos h, #[], hT P' h, True.intro, fun pos cv hc => ?_⟩⟩, ?_⟩
    · rw [env0_len (by simpa using hN), start_len (by simpa using hN)]
    · have h : (if b ∈ T then none else H b) = some o := h
      split at h
      · cases h
      · exact h
    · rcases env0_get e with z | z
      · cases i with
        | zero =>
          simp at z
          subst z
          refine ⟨.ref a, start_get rfl (by simpa using hN), .fls (vs := ns.map V.int) ?_ (RepL.ofInts ns) (by rw [List.length_map, sizeLine_eq]; omega)⟩
          rcases hS with (h | ⟨o, h⟩) | h
          · exact .inl (.inl (by rw [hid_out fun z => by rw [hT a z] at h; cases h]; exact h))
          · exact .inl (.inr ⟨o, by rw [hid_out fun z => by rw [hT a z] at h; cases h]; exact h⟩)
          · exact .inr h
        | succ i => simp at z
      · cases z
    · rcases env0_get e with z | z
      · cases i with
        | zero => simp at z
        | succ i => simp at z
      · cases z
    · rcases env0_get e1 with z | z
      · cases i with
        | zero => simp at z
        | succ i => simp at z
      · cases z
    · have z : codeAmong pos [] = some cv := hc
      simp [codeAmong] at z
    · rw [hρ]
      intro v O' σ' H' _ r
      cases r
      exact k2 H'
end
end DL

/-! DL, part 24: xs[::-1]. -/
namespace DL
open PySem L2
def D.rev : D → R D
  | .lst l => .ok (.lst l.reverse)
  | .fls l => .ok (.lst l.reverse)
  | _ => .no
section
variable {c : C} {X : Cx} {W : WX} {e : Expr} {f : M D} {k : Nat} {p1 p2 p3 pos : Pos}
theorem de_rev (g : Gd c X) (he : PE X e (tD c W f)) : PE X (.Subscript e (.Slice none none (some (.UnaryOp .USub (.Constant (.int 1) k p1) p2)) p3) pos) (tD c W (M.one f fun x => (D.rev x).good)) := by
  refine PE.imp (pe_revL he) fun σ H Q ⟨O, Γ, ρ, s, p⟩ => ?_
  refine bindX s p fun d ρ1 v H1 _ ex s1 r1 p1 => ?_
  obtain ⟨d', ed, q⟩ := post_lift s1 p1
  cases r1 with
  | lst h r z =>
    cases ed
    exact ⟨_, _, rfl, .inl (.inl (hid_some h).2), fun p hp => q _ _ (Ex.upd hp) (rep_newL s1.dom hp r.reverse (by rw [List.length_reverse]; exact z))⟩
  | fls h r z =>
    cases ed
    exact ⟨_, _, rfl, by rw [← g.1]; exact (ex_hid H1 O).sql h, fun p hp => q _ _ (Ex.upd hp) (rep_newL s1.dom hp r.reverse (by rw [List.length_reverse]; exact z))⟩
  | _ => cases ed
end
/-! ### the lambdas of a law -/
inductive LamsOk (P : Program) (w : World) (K : PySem.W.Frag) (mg : Str → Option Value) (base : Heap) (k : Nat) : Nat → List (R D) → Prop
  | nil {i : Nat} : LamsOk P w K mg base k i []
  | cons {i : Nat} {r : R D} {l : List (R D)} : LamOk P w K mg base k i r → LamsOk P w K mg base k (i + 1) l → LamsOk P w K mg base k i (r :: l)
theorem LamsOk.get {P : Program} {w : World} {K : PySem.W.Frag} {mg : Str → Option Value} {base : Heap} {k : Nat} : ∀ {l : List (R D)} {i n : Nat} {r : R D}, LamsOk P w K mg base k i l → l[n]? = some r → LamOk P w K mg base k (i + n) r
  | r :: l, i, 0, _, .cons h _, e => by simp at e; subst e; exact h
  | r :: l, i, n + 1, _, .cons _ t, e => by
    have z := LamsOk.get t (n := n) (by simpa using e)
    rw [show i + (n + 1) = i + 1 + n by omega]
    exact z
end DL

namespace DL
open PySem L2 LamX
abbrev top := topS
def tab_int : D → Option Bool
  | .int _ => some true
  | .bl _ => some true
  | .non => some false
  | .str _ => some false
  | .tup _ => some false
  | .lst _ => some false
  | .fls _ => some false
  | _ => none
def tab_bool : D → Option Bool
  | .bl _ => some true
  | .int _ => some false
  | .non => some false
  | .str _ => some false
  | .tup _ => some false
  | .lst _ => some false
  | .fls _ => some false
  | _ => none
def tab_list_tuple : D → Option Bool
  | .tup _ => some true
  | .lst _ => some true
  | .fls _ => some true
  | .bl _ => some false
  | .int _ => some false
  | .non => some false
  | .str _ => some false
  | _ => none
def tab_Noticed : D → Option Bool
  | .obj c _ _ => if c = "Noticed" then some true else if c = "Hidden" then some false else none
  | _ => none
def tab_Hidden : D → Option Bool
  | .obj c _ _ => if c = "Hidden" then some true else if c = "Noticed" then some false else none
  | _ => none
def tryL : List (Str × Bool) := [("BadBlock", true)]
abbrev s_is_integer : Stmt := top 3
abbrev N_is_integer : List Str := ["thing"]
def m_is_integer : S := (S.ret (M.andV (M.one (M.var 0) fun d => (D.isi tab_int d).good) (M.notV (M.one (M.var 0) fun d => (D.isi tab_bool d).good))))
def F_is_integer : List D → R D := defD 1 1 m_is_integer
abbrev s_is_row : Stmt := top 4
abbrev N_is_row : List Str := ["thing"]
def m_is_row : S := (S.ret (M.one (M.var 0) fun d => (D.isi tab_list_tuple d).good))
def F_is_row : List D → R D := defD 1 1 m_is_row
abbrev s_check_words : Stmt := top 9
abbrev N_check_words : List Str := ["words", "word"]
def m_check_words : S := (S.seq (S.ite (M.orB (M.notB (M.tru (M.call (M.cons (M.var 0) M.nil) F_is_row))) (M.tru (M.two (M.app (M.cons (M.var 0) M.nil) D.lenF) (M.pure (.int 40)) fun x y => (D.gt x y).good))) (S.raise "BadBlock") S.skip)
    (S.ite (M.notB (M.tru (M.app (M.cons (M.lc [1] (M.items (M.var 0)) (.nm 1) (M.pure true) (M.andV (M.call (M.cons (M.var 1) M.nil) F_is_integer) (M.chain (M.pure (.int 0)) (M.var 1) (M.pure (.int 9973)) D.le D.lt))) M.nil) D.allF))) (S.raise "BadBlock") S.skip))
def F_check_words : List D → R D := defD 1 2 m_check_words
abbrev s_sums_of : Stmt := top 10
abbrev N_sums_of : List Str := ["words", "plain", "heavy", "at", "word"]
def m_sums_of : S := (S.seq (S.par [1, 2] (M.slSh (M.app (M.cons (M.var 0) M.nil) D.lenF) (M.slSh (M.app (M.cons (M.var 0) M.nil) D.lenF) M.slNil)))
    (S.seq (S.for (M.enum (M.cons (M.var 0) M.nil)) (.tp [(.nm 3), (.nm 4)]) (S.seq (S.set 1 (M.two (M.app (M.cons (M.two (M.var 1) (M.var 4) fun x y => (D.add x y).good) M.nil) D.intF) (M.pure (.int 9973)) fun x y => (D.mod x y).good))
    (S.set 2 (M.two (M.app (M.cons (M.two (M.var 2) (M.two (M.two (M.var 3) (M.pure (.int 1)) fun x y => (D.add x y).good) (M.var 4) fun x y => (D.mul x y).good) fun x y => (D.add x y).good) M.nil) D.intF) (M.pure (.int 9973)) fun x y => (D.mod x y).good))))
    (S.ret (M.app (M.cons (M.var 1) (M.cons (M.var 2) M.nil)) D.mkTup))))
def F_sums_of : List D → R D := defD 1 5 m_sums_of
abbrev s_block_of : Stmt := top 11
abbrev N_block_of : List Str := ["words"]
def m_block_of : S := (S.seq (S.expr (M.call (M.cons (M.var 0) M.nil) F_check_words))
    (S.ret (M.app (M.star (M.var 0) (M.star (M.call (M.cons (M.var 0) M.nil) F_sums_of) M.nil)) D.mkTup)))
def F_block_of : List D → R D := defD 1 1 m_block_of
abbrev s_words_in : Stmt := top 12
abbrev N_words_in : List Str := ["block", "words", "word"]
def m_words_in : S := (S.seq (S.ite (M.orB (M.notB (M.tru (M.call (M.cons (M.var 0) M.nil) F_is_row))) (M.orB (M.tru (M.two (M.app (M.cons (M.var 0) M.nil) D.lenF) (M.pure (.int 2)) fun x y => (D.lt x y).good)) (M.notB (M.tru (M.app (M.cons (M.lc [2] (M.items (M.var 0)) (.nm 2) (M.pure true) (M.call (M.cons (M.var 2) M.nil) F_is_integer)) M.nil) D.allF))))) (S.ret (M.pure .non)) S.skip)
    (S.seq (S.set 1 (M.app (M.cons (M.slice (M.var 0) M.noPart (M.part (M.one (M.pure (.int 2)) fun x => (D.neg x).good))) M.nil) D.tupleF))
    (S.seq (S.ite (M.orB (M.tru (M.two (M.app (M.cons (M.var 1) M.nil) D.lenF) (M.pure (.int 40)) fun x y => (D.gt x y).good)) (M.notB (M.tru (M.app (M.cons (M.lc [2] (M.items (M.var 1)) (.nm 2) (M.pure true) (M.chain (M.pure (.int 0)) (M.var 2) (M.pure (.int 9973)) D.le D.lt)) M.nil) D.allF)))) (S.ret (M.pure .non)) S.skip)
    (S.ret (M.ite (M.tru (M.two (M.call (M.cons (M.var 1) M.nil) F_sums_of) (M.app (M.cons (M.slice (M.var 0) (M.part (M.one (M.pure (.int 2)) fun x => (D.neg x).good)) M.noPart) M.nil) D.tupleF) fun x y => ((D.eqR false) x y).good)) (M.var 1) (M.pure .non))))))
def F_words_in : List D → R D := defD 1 3 m_words_in
abbrev s_check_places : Stmt := top 15
abbrev N_check_places : List Str := ["many", "places", "place"]
def m_check_places : S := (S.seq (S.ite (M.orB (M.notB (M.tru (M.call (M.cons (M.var 0) M.nil) F_is_integer))) (M.orB (M.notB (M.tru (M.chain (M.pure (.int 1)) (M.var 0) (M.pure (.int 40)) D.le D.le))) (M.notB (M.tru (M.call (M.cons (M.var 1) M.nil) F_is_row))))) (S.raise "BadBlock") S.skip)
    (S.ite (M.orB (M.notB (M.tru (M.app (M.cons (M.lc [2] (M.items (M.var 1)) (.nm 2) (M.pure true) (M.andV (M.call (M.cons (M.var 2) M.nil) F_is_integer) (M.chain (M.pure (.int 0)) (M.var 2) (M.two (M.var 0) (M.pure (.int 2)) fun x y => (D.add x y).good) D.le D.lt))) M.nil) D.allF))) (M.tru (M.two (M.one (M.var 1) fun d => (D.lenSet d).good) (M.app (M.cons (M.var 1) M.nil) D.lenF) fun x y => (D.lt x y).good))) (S.raise "BadBlock") S.skip))
def F_check_places : List D → R D := defD 2 3 m_check_places
abbrev s_inverse : Stmt := top 20
abbrev N_inverse : List Str := ["number", "found", "base", "rest"]
def m_inverse : S := (S.seq (S.par [1, 2, 3] (M.slSh (M.pure (.int 1)) (M.slSh (M.two (M.app (M.cons (M.var 0) M.nil) D.intF) (M.pure (.int 9973)) fun x y => (D.mod x y).good) (M.slSh (M.two (M.pure (.int 9973)) (M.pure (.int 2)) fun x y => (D.sub x y).good) M.slNil))))
    (S.seq (whileL (M.tru (M.two (M.var 3) (M.pure (.int 0)) fun x y => (D.gt x y).good)) (S.seq (S.ite (M.tru (M.two (M.two (M.var 3) (M.pure (.int 2)) fun x y => (D.mod x y).good) (M.pure (.int 1)) fun x y => ((D.eqR false) x y).good)) (S.set 1 (M.two (M.app (M.cons (M.two (M.var 1) (M.var 2) fun x y => (D.mul x y).good) M.nil) D.intF) (M.pure (.int 9973)) fun x y => (D.mod x y).good)) S.skip)
    (S.par [2, 3] (M.slSh (M.two (M.app (M.cons (M.two (M.var 2) (M.var 2) fun x y => (D.mul x y).good) M.nil) D.intF) (M.pure (.int 9973)) fun x y => (D.mod x y).good) (M.slSh (M.two (M.var 3) (M.pure (.int 2)) fun x y => (D.fdiv x y).good) M.slNil)))) 20)
    (S.ret (M.var 1))))
def F_inverse : List D → R D := defD 1 4 m_inverse
abbrev s_is_just : Stmt := top 21
abbrev N_is_just : List Str := ["inner", "row", "free", "plain", "heavy", "place", "one"]
def m_is_just : S := (S.seq (S.set 3 (M.two (M.app (M.cons (M.app (M.cons (M.var 1) M.nil) D.sumF) M.nil) D.intF) (M.pure (.int 9973)) fun x y => (D.mod x y).good))
    (S.seq (S.set 4 (M.two (M.app (M.cons (M.app (M.cons (M.lc [5, 6] (M.zip (M.cons (M.var 0) (M.cons (M.var 1) M.nil))) (.tp [(.nm 5), (.nm 6)]) (M.pure true) (M.two (M.two (M.var 5) (M.pure (.int 1)) fun x y => (D.add x y).good) (M.var 6) fun x y => (D.mul x y).good)) M.nil) D.sumF) M.nil) D.intF) (M.pure (.int 9973)) fun x y => (D.mod x y).good))
    (S.ret (M.two (M.app (M.cons (M.two (M.var 3) (M.pure (.int 0)) fun x y => ((D.eqR true) x y).good) (M.cons (M.two (M.var 4) (M.pure (.int 0)) fun x y => ((D.eqR true) x y).good) M.nil)) D.mkLst) (M.app (M.cons (M.var 2) M.nil) D.listF) fun x y => ((D.eqR false) x y).good))))
def F_is_just : List D → R D := defD 3 7 m_is_just
abbrev s_closed_row : Stmt := top 19
abbrev N_closed_row : List Str := ["inner", "front", "free", "plain", "heavy", "last", "step", "place", "one"]
def m_closed_row : S := (S.seq (S.set 3 (M.one (M.app (M.cons (M.var 1) M.nil) D.sumF) fun x => (D.neg x).good))
    (S.seq (S.set 4 (M.one (M.app (M.cons (M.lc [7, 8] (M.zip (M.cons (M.var 0) (M.cons (M.var 1) M.nil))) (.tp [(.nm 7), (.nm 8)]) (M.pure true) (M.two (M.two (M.var 7) (M.pure (.int 1)) fun x y => (D.add x y).good) (M.var 8) fun x y => (D.mul x y).good)) M.nil) D.sumF) fun x => (D.neg x).good))
    (S.seq (S.set 5 (M.lc [7] (M.items (M.slice (M.var 0) (M.part (M.app (M.cons (M.var 1) M.nil) D.lenF)) M.noPart)) (.nm 7) (M.pure true) (M.two (M.var 7) (M.pure (.int 1)) fun x y => (D.add x y).good)))
    (S.seq (S.ite (M.tru (M.two (M.var 5) (M.app M.nil D.mkLst) fun x y => ((D.eqR false) x y).good)) (S.ret (M.app (M.cons (M.var 1) M.nil) D.listF)) S.skip)
    (S.seq (S.ite (M.tru (M.two (M.app (M.cons (M.var 5) M.nil) D.lenF) (M.pure (.int 1)) fun x y => ((D.eqR false) x y).good)) (S.ret (M.app (M.star (M.var 1) (M.cons (M.ite (M.tru (M.two (M.var 2) (M.pure (.int 1)) fun x y => (D.ix x y).good)) (M.var 3) (M.two (M.var 4) (M.call (M.cons (M.two (M.var 5) (M.pure (.int 0)) fun x y => (D.ix x y).good) M.nil) F_inverse) fun x y => (D.mul x y).good)) M.nil)) D.mkLst)) S.skip)
    (S.seq (S.set 6 (M.two (M.app (M.cons (M.two (M.two (M.var 4) (M.two (M.var 3) (M.two (M.var 5) (M.pure (.int 0)) fun x y => (D.ix x y).good) fun x y => (D.mul x y).good) fun x y => (D.sub x y).good) (M.call (M.cons (M.two (M.two (M.var 5) (M.pure (.int 1)) fun x y => (D.ix x y).good) (M.two (M.var 5) (M.pure (.int 0)) fun x y => (D.ix x y).good) fun x y => (D.sub x y).good) M.nil) F_inverse) fun x y => (D.mul x y).good) M.nil) D.intF) (M.pure (.int 9973)) fun x y => (D.mod x y).good))
    (S.ret (M.app (M.star (M.var 1) (M.cons (M.two (M.var 3) (M.var 6) fun x y => (D.sub x y).good) (M.cons (M.var 6) M.nil))) D.mkLst))))))))
def F_closed_row : List D → R D := defD 3 9 m_closed_row
abbrev s_rows_of_changes : Stmt := top 18
abbrev N_rows_of_changes : List Str := ["many", "found", "first", "second", "turn"]
def m_rows_of_changes : S := (S.seq (S.ite (M.tru (M.two (M.var 0) (M.pure (.int 0)) fun x y => ((D.eqR false) x y).good)) (S.ret (M.app (M.cons (M.app M.nil D.mkTup) M.nil) D.mkLst)) S.skip)
    (S.seq (S.own 1 (M.app M.nil D.mkLst))
    (S.seq (S.for (M.range2 (M.cons (M.pure (.int 1)) (M.cons (M.pure (.int 12)) M.nil))) (.nm 2) (S.for (M.range2 (M.cons (M.pure (.int 1)) (M.cons (M.ite (M.tru (M.two (M.var 0) (M.pure (.int 1)) fun x y => (D.gt x y).good)) (M.pure (.int 4)) (M.pure (.int 2))) M.nil))) (.nm 3) (S.chg 1 D.isL (M.slice (M.app (M.cons (M.var 2) (M.cons (M.var 3) (M.star (M.lc [4] (M.range1 (M.cons (M.two (M.var 0) (M.pure (.int 2)) fun x y => (D.sub x y).good) M.nil)) (.nm 4) (M.pure true) (M.pure (.int 1))) M.nil))) D.mkTup) M.noPart (M.part (M.var 0))) D.push)))
    (S.seq (S.share 1) (S.ret (M.var 1))))))
def F_rows_of_changes : List D → R D := defD 1 5 m_rows_of_changes
abbrev s_changes_of : Stmt := top 17
abbrev N_changes_of : List Str := ["inner", "free", "spare", "front", "row", "one"]
def m_changes_of : S := (S.seq (S.set 2 (M.two (M.pure (.int 2)) (M.app (M.cons (M.lc [5] (M.items (M.var 1)) (.nm 5) (M.tru (M.var 5)) (M.var 5)) M.nil) D.lenF) fun x y => (D.sub x y).good))
    (S.seq (S.for (M.items (M.call (M.cons (M.two (M.app (M.cons (M.var 0) M.nil) D.lenF) (M.var 2) fun x y => (D.sub x y).good) M.nil) F_rows_of_changes)) (.nm 3) (S.seq (S.set 4 (M.call (M.cons (M.var 0) (M.cons (M.var 3) (M.cons (M.var 1) M.nil))) F_closed_row))
    (S.ite (M.andB (M.tru (M.two (M.var 4) (M.pure .non) fun x y => ((D.isOp true) x y).good)) (M.andB (M.tru (M.app (M.cons (M.lc [5] (M.items (M.var 4)) (.nm 5) (M.pure true) (M.two (M.two (M.app (M.cons (M.var 5) M.nil) D.intF) (M.pure (.int 9973)) fun x y => (D.mod x y).good) (M.pure (.int 0)) fun x y => ((D.eqR true) x y).good)) M.nil) D.allF)) (M.tru (M.call (M.cons (M.var 0) (M.cons (M.var 4) (M.cons (M.var 1) M.nil))) F_is_just)))) (S.ret (M.var 4)) S.skip)))
    (S.ret (M.pure .non))))
def F_changes_of : List D → R D := defD 2 6 m_changes_of
abbrev s_H_init : Stmt := inClass (top 14) 0
abbrev N_H_init : List Str := ["self", "one", "other"]
def m_H_init : S := (S.seq (S.fld 0 ["Hidden"] "one" (M.app (M.cons (M.var 1) M.nil) D.tupleF))
    (S.fld 0 ["Hidden"] "other" (M.app (M.cons (M.var 2) M.nil) D.tupleF)))
def F_H_init : D → List D → RI := defI 3 3 m_H_init
abbrev s_judge_noticed : Stmt := top 16
abbrev N_judge_noticed : List Str := ["many", "places", "place", "inner", "sums", "words", "one"]
def m_judge_noticed : S := (S.seq (S.expr (M.call (M.cons (M.var 0) (M.cons (M.var 1) M.nil)) F_check_places))
    (S.seq (S.par [3, 4] (M.slSh (M.lc [2] (M.items (M.app (M.cons (M.var 1) M.nil) D.sortedF)) (.nm 2) (M.tru (M.two (M.var 2) (M.var 0) fun x y => (D.lt x y).good)) (M.var 2)) (M.slSh (M.lc [2] (M.items (M.var 1)) (.nm 2) (M.tru (M.two (M.var 2) (M.var 0) fun x y => (D.ge x y).good)) (M.var 2)) M.slNil)))
    (S.seq (S.ite (M.orB (M.tru (M.two (M.two (M.app (M.cons (M.var 3) M.nil) D.lenF) (M.app (M.cons (M.var 4) M.nil) D.lenF) fun x y => (D.add x y).good) (M.pure (.int 3)) fun x y => (D.lt x y).good)) (M.tru (M.two (M.var 3) (M.app M.nil D.mkLst) fun x y => ((D.eqR false) x y).good))) (S.ret (M.pure (.obj "Noticed" [] []))) S.skip)
    (S.seq (S.own 5 (M.two (M.app (M.cons (M.pure (.int 0)) M.nil) D.mkLst) (M.var 0) fun x y => (D.mulL x y).good))
    (S.seq (S.for (M.zip (M.cons (M.var 3) (M.cons (M.call (M.cons (M.var 3) (M.cons (M.app (M.cons (M.two (M.var 0) (M.var 4) fun x y => ((D.inR false) x y).good) (M.cons (M.two (M.two (M.var 0) (M.pure (.int 1)) fun x y => (D.add x y).good) (M.var 4) fun x y => ((D.inR false) x y).good) M.nil)) D.mkLst) M.nil)) F_changes_of) M.nil))) (.tp [(.nm 2), (.nm 6)]) (S.putI 5 (M.two (M.app (M.cons (M.var 6) M.nil) D.intF) (M.pure (.int 9973)) fun x y => (D.mod x y).good) (M.var 2)))
    (S.seq (S.share 5) (S.ret (M.make "Hidden" F_H_init (M.cons (M.call (M.cons (M.two (M.app (M.cons (M.pure (.int 0)) M.nil) D.mkLst) (M.var 0) fun x y => (D.mul x y).good) M.nil) F_block_of) (M.cons (M.call (M.cons (M.var 5) M.nil) F_block_of) M.nil))))))))))
def F_judge_noticed : List D → R D := defD 2 7 m_judge_noticed
abbrev s_N_bool : Stmt := inClass (top 13) 0
abbrev N_N_bool : List Str := ["self"]
def m_N_bool : S := (S.ret (M.pure (.bl true)))
def F_N_bool : List D → R D := defD 1 1 m_N_bool
abbrev s_N_eq : Stmt := inClass (top 13) 1
abbrev N_N_eq : List Str := ["self", "other"]
def m_N_eq : S := (S.ret (M.one (M.var 1) fun d => (D.isi tab_Noticed d).good))
def F_N_eq : List D → R D := defD 2 2 m_N_eq
abbrev s_H_bool : Stmt := inClass (top 14) 1
abbrev N_H_bool : List Str := ["self"]
def m_H_bool : S := (S.ret (M.pure (.bl false)))
def F_H_bool : List D → R D := defD 1 1 m_H_bool
abbrev s_H_eq : Stmt := inClass (top 14) 2
abbrev N_H_eq : List Str := ["self", "other"]
def m_H_eq : S := (S.ret (M.andV (M.one (M.var 1) fun d => (D.isi tab_Hidden d).good) (M.two (M.app (M.cons (M.fld ["Hidden"] "one" (M.var 0)) (M.cons (M.fld ["Hidden"] "other" (M.var 0)) M.nil)) D.mkTup) (M.app (M.cons (M.fld ["Hidden"] "one" (M.var 1)) (M.cons (M.fld ["Hidden"] "other" (M.var 1)) M.nil)) D.mkTup) fun x y => ((D.eqR false) x y).good)))
def F_H_eq : List D → R D := defD 2 2 m_H_eq
def truL : List (Str × (List D → R D)) := [("Noticed", F_N_bool), ("Hidden", F_H_bool)]
def eqL : List (Str × (List D → R D)) := [("Noticed", F_N_eq), ("Hidden", F_H_eq)]
abbrev s_N_shows : Stmt := inClass (top 13) 2
abbrev N_N_shows : List Str := ["self", "many", "places"]
def m_N_shows : S := (S.ret (M.app (M.cons (M.call (M.cons (M.var 1) (M.cons (M.var 2) M.nil)) F_judge_noticed) M.nil) (D.boolF truL)))
def F_N_shows : List D → R D := defD 3 3 m_N_shows
abbrev s_H_shows : Stmt := inClass (top 14) 3
abbrev N_H_shows : List Str := ["self", "many", "places", "at"]
def m_H_shows : S := (S.seq (S.expr (M.call (M.cons (M.var 1) (M.cons (M.var 2) M.nil)) F_check_places))
    (S.seq (S.ite (M.orB (M.tru (M.two (M.call (M.cons (M.fld ["Hidden"] "one" (M.var 0)) M.nil) F_words_in) (M.pure .non) fun x y => ((D.isOp false) x y).good)) (M.orB (M.tru (M.two (M.call (M.cons (M.fld ["Hidden"] "other" (M.var 0)) M.nil) F_words_in) (M.pure .non) fun x y => ((D.isOp false) x y).good)) (M.tru (M.two (M.app (M.cons (M.fld ["Hidden"] "one" (M.var 0)) M.nil) D.lenF) (M.two (M.var 1) (M.pure (.int 2)) fun x y => (D.add x y).good) fun x y => ((D.eqR true) x y).good)))) (S.ret (M.pure (.bl false))) S.skip)
    (S.seq (S.ite (M.tru (M.two (M.app (M.cons (M.fld ["Hidden"] "other" (M.var 0)) M.nil) D.lenF) (M.two (M.var 1) (M.pure (.int 2)) fun x y => (D.add x y).good) fun x y => ((D.eqR true) x y).good)) (S.ret (M.pure (.bl false))) S.skip)
    (S.ret (M.two (M.lc [3] (M.range1 (M.cons (M.two (M.var 1) (M.pure (.int 2)) fun x y => (D.add x y).good) M.nil)) (.nm 3) (M.tru (M.two (M.two (M.fld ["Hidden"] "one" (M.var 0)) (M.var 3) fun x y => (D.ix x y).good) (M.two (M.fld ["Hidden"] "other" (M.var 0)) (M.var 3) fun x y => (D.ix x y).good) fun x y => ((D.eqR true) x y).good)) (M.var 3)) (M.app (M.cons (M.var 2) M.nil) D.sortedF) fun x y => ((D.eqR false) x y).good)))))
def F_H_shows : List D → R D := defD 3 4 m_H_shows
def methL_shows : List (Str × (List D → R D)) := [("Noticed", F_N_shows), ("Hidden", F_H_shows)]
abbrev s_number : Stmt := top 23
abbrev N_number : List Str := ["script", "index", "cell", "turn", "rest", "step", "blend"]
def m_number : S := (S.seq (S.asg (.tp [(.nm 2), (.nm 3)]) (M.ite (M.tru (M.two (M.var 0) (M.app M.nil D.mkLst) fun x y => ((D.eqR true) x y).good)) (M.app (M.cons (M.two (M.var 0) (M.two (M.var 1) (M.app (M.cons (M.var 0) M.nil) D.lenF) fun x y => (D.mod x y).good) fun x y => (D.ix x y).good) (M.cons (M.two (M.var 1) (M.app (M.cons (M.var 0) M.nil) D.lenF) fun x y => (D.fdiv x y).good) M.nil)) D.mkTup) (M.app (M.cons (M.pure (.int 12345)) (M.cons (M.pure (.int 0)) M.nil)) D.mkTup)))
    (S.seq (S.set 4 (M.ite (M.tru (M.two (M.var 3) (M.pure (.int 60)) fun x y => (D.lt x y).good)) (M.two (M.var 2) (M.two (M.pure (.int 10)) (M.pure (.int 18)) fun x y => (D.pow x y).good) fun x y => (D.sub x y).good) (M.pure (.int 0))))
    (S.seq (S.for (M.range1 (M.cons (M.two (M.app (M.cons (M.var 3) M.nil) D.intF) (M.pure (.int 60)) fun x y => (D.mod x y).good) M.nil)) (.nm 5) (S.set 4 (M.two (M.var 4) (M.pure (.int 1009)) fun x y => (D.fdiv x y).good)))
    (S.seq (S.ite (M.tru (M.two (M.var 4) (M.pure (.int 0)) fun x y => (D.gt x y).good)) (S.ret (M.two (M.app (M.cons (M.var 4) M.nil) D.intF) (M.pure (.int 1009)) fun x y => (D.mod x y).good)) S.skip)
    (S.seq (S.set 6 (M.two (M.two (M.two (M.app (M.cons (M.two (M.var 2) (M.two (M.pure (.int 977)) (M.var 1) fun x y => (D.mul x y).good) fun x y => (D.add x y).good) M.nil) D.intF) (M.pure (.int 48271)) fun x y => (D.mul x y).good) (M.two (M.pure (.int 31)) (M.app (M.cons (M.var 0) M.nil) D.lenF) fun x y => (D.mul x y).good) fun x y => (D.add x y).good) (M.pure (.int 2147483647)) fun x y => (D.mod x y).good))
    (S.seq (S.set 6 (M.two (M.two (M.two (M.var 6) (M.var 6) fun x y => (D.mul x y).good) (M.two (M.pure (.int 40503)) (M.var 1) fun x y => (D.mul x y).good) fun x y => (D.add x y).good) (M.pure (.int 2147483629)) fun x y => (D.mod x y).good))
    (S.ret (M.app (M.cons (M.two (M.two (M.two (M.var 6) (M.pure (.int 69621)) fun x y => (D.mul x y).good) (M.two (M.var 6) (M.pure (.int 977)) fun x y => (D.fdiv x y).good) fun x y => (D.add x y).good) (M.pure (.int 2147483587)) fun x y => (D.mod x y).good) M.nil) D.intF))))))))
def F_number : List D → R D := defD 2 7 m_number
abbrev s_take : Stmt := top 24
abbrev N_take : List Str := ["draw", "many"]
def m_take : S := (S.seq (S.augI 0 (M.pure (.int 1)) (M.pure (.int 1)))
    (S.ret (M.two (M.app (M.cons (M.call (M.cons (M.oix 0 (M.pure (.int 0))) (M.cons (M.app (M.cons (M.oix 0 (M.pure (.int 1))) M.nil) D.intF) M.nil)) F_number) M.nil) D.intF) (M.var 1) fun x y => (D.mod x y).good)))
def F_take : D → List D → RI := defI 2 2 m_take
abbrev s_lblock : Stmt := top 26
abbrev N_lblock : List Str := ["words", "plain", "heavy", "at", "word"]
def m_lblock : S := (S.seq (S.set 1 (M.two (M.app (M.cons (M.var 0) M.nil) D.sumF) (M.app (M.cons (M.var 0) M.nil) D.lenF) fun x y => (D.add x y).good))
    (S.seq (S.set 2 (M.two (M.app (M.cons (M.lc [3, 4] (M.enum (M.cons (M.var 0) M.nil)) (.tp [(.nm 3), (.nm 4)]) (M.pure true) (M.two (M.two (M.var 3) (M.pure (.int 1)) fun x y => (D.add x y).good) (M.var 4) fun x y => (D.mul x y).good)) M.nil) D.sumF) (M.app (M.cons (M.var 0) M.nil) D.lenF) fun x y => (D.add x y).good))
    (S.ret (M.two (M.app (M.cons (M.var 0) M.nil) D.tupleF) (M.app (M.cons (M.two (M.var 1) (M.pure (.int 9973)) fun x y => (D.mod x y).good) (M.cons (M.two (M.var 2) (M.pure (.int 9973)) fun x y => (D.mod x y).good) M.nil)) D.mkTup) fun x y => (D.add x y).good))))
def F_lblock : List D → R D := defD 1 5 m_lblock
def m_lam_0 : M D := (M.call (M.cons (M.pure .non) M.nil) F_block_of)
def lamR_0 : R D := endR (m_lam_0 [])
def m_lam_1 : M D := (M.call (M.cons (M.app (M.cons (M.one (M.pure (.int 1)) fun x => (D.neg x).good) M.nil) D.mkLst) M.nil) F_block_of)
def lamR_1 : R D := endR (m_lam_1 [])
def m_lam_2 : M D := (M.call (M.cons (M.app (M.cons (M.pure (.int 9973)) M.nil) D.mkLst) M.nil) F_block_of)
def lamR_2 : R D := endR (m_lam_2 [])
def m_lam_3 : M D := (M.call (M.cons (M.app (M.cons (M.pure (.bl true)) M.nil) D.mkLst) M.nil) F_block_of)
def lamR_3 : R D := endR (m_lam_3 [])
def m_lam_4 : M D := (M.call (M.cons (M.two (M.app (M.cons (M.pure (.int 0)) M.nil) D.mkLst) (M.pure (.int 41)) fun x y => (D.mul x y).good) M.nil) F_block_of)
def lamR_4 : R D := endR (m_lam_4 [])
def m_lam_5 : M D := (M.call (M.cons (M.pure (.int 0)) (M.cons (M.app M.nil D.mkLst) M.nil)) F_judge_noticed)
def lamR_5 : R D := endR (m_lam_5 [])
def m_lam_6 : M D := (M.call (M.cons (M.pure (.int 41)) (M.cons (M.app M.nil D.mkLst) M.nil)) F_judge_noticed)
def lamR_6 : R D := endR (m_lam_6 [])
def m_lam_7 : M D := (M.call (M.cons (M.pure (.int 1)) (M.cons (M.pure .non) M.nil)) F_judge_noticed)
def lamR_7 : R D := endR (m_lam_7 [])
def m_lam_8 : M D := (M.call (M.cons (M.pure (.int 1)) (M.cons (M.app (M.cons (M.pure (.int 3)) M.nil) D.mkLst) M.nil)) F_judge_noticed)
def lamR_8 : R D := endR (m_lam_8 [])
def m_lam_9 : M D := (M.call (M.cons (M.pure (.int 1)) (M.cons (M.app (M.cons (M.one (M.pure (.int 1)) fun x => (D.neg x).good) M.nil) D.mkLst) M.nil)) F_judge_noticed)
def lamR_9 : R D := endR (m_lam_9 [])
def m_lam_10 : M D := (M.call (M.cons (M.pure (.int 1)) (M.cons (M.app (M.cons (M.pure (.int 0)) (M.cons (M.pure (.int 0)) M.nil)) D.mkLst) M.nil)) F_judge_noticed)
def lamR_10 : R D := endR (m_lam_10 [])
def m_lam_11 : M D := (M.call (M.cons (M.pure (.bl true)) (M.cons (M.app M.nil D.mkLst) M.nil)) F_judge_noticed)
def lamR_11 : R D := endR (m_lam_11 [])
def m_lam_12 : M D := (M.meth methL_shows "shows" (M.make "Hidden" F_H_init (M.cons (M.app M.nil D.mkTup) (M.cons (M.app M.nil D.mkTup) M.nil))) (M.cons (M.pure (.int 1)) (M.cons (M.app (M.cons (M.pure (.bl true)) M.nil) D.mkLst) M.nil)))
def lamR_12 : R D := endR (m_lam_12 [])
def m_lam_13 : M D := (M.call (M.cons (M.two (M.app (M.cons (M.pure (.int 9972)) M.nil) D.mkLst) (M.pure (.int 40)) fun x y => (D.mul x y).good) M.nil) F_block_of)
def lamR_13 : R D := endR (m_lam_13 [])
def lamRs : List (R D) := [lamR_0, lamR_1, lamR_2, lamR_3, lamR_4, lamR_5, lamR_6, lamR_7, lamR_8, lamR_9, lamR_10, lamR_11, lamR_12, lamR_13]
def lamF (n : Nat) : R D := (lamRs[n]?).getD .no
abbrev s_refused : Stmt := top 25
abbrev N_refused : List Str := ["deed"]
def m_refused : S := (S.seq (S.tryO tryL (S.expr (M.act 0 lamF)) (S.ret (M.pure (.bl true))))
    (S.ret (M.pure (.bl false))))
def F_refused : List D → R D := defD 1 1 m_refused
abbrev s_law : Stmt := top 27
abbrev N_law : List Str := ["script", "draw", "many", "turn", "words", "block", "late", "again", "at", "places", "found", "inner", "wrong", "place", "deed"]
def m_law : S := (S.seq (S.own 1 (M.app (M.cons (M.var 0) (M.cons (M.pure (.int 0)) M.nil)) D.mkLst))
    (S.seq (S.set 2 (M.two (M.pure (.int 1)) (M.callI 1 (M.cons (M.pure (.int 8)) M.nil) F_take) fun x y => (D.add x y).good))
    (S.seq (S.set 4 (M.lc [3] (M.range1 (M.cons (M.var 2) M.nil)) (.nm 3) (M.pure true) (M.two (M.app (M.cons (M.two (M.two (M.callI 1 (M.cons (M.pure (.int 997)) M.nil) F_take) (M.pure (.int 11)) fun x y => (D.mul x y).good) (M.callI 1 (M.cons (M.pure (.int 11)) M.nil) F_take) fun x y => (D.add x y).good) M.nil) D.intF) (M.pure (.int 9973)) fun x y => (D.mod x y).good)))
    (S.seq (S.set 5 (M.call (M.cons (M.app (M.cons (M.var 4) M.nil) D.tupleF) M.nil) F_block_of))
    (S.seq (S.ite (M.orB (M.tru (M.two (M.var 5) (M.call (M.cons (M.var 4) M.nil) F_lblock) fun x y => ((D.eqR true) x y).good)) (M.orB (M.tru (M.two (M.call (M.cons (M.app (M.cons (M.var 5) M.nil) D.listF) M.nil) F_words_in) (M.app (M.cons (M.var 4) M.nil) D.tupleF) fun x y => ((D.eqR true) x y).good)) (M.orB (M.tru (M.two (M.call (M.cons (M.app M.nil D.mkLst) M.nil) F_block_of) (M.app (M.cons (M.pure (.int 0)) (M.cons (M.pure (.int 0)) M.nil)) D.mkTup) fun x y => ((D.eqR true) x y).good)) (M.tru (M.two (M.call (M.cons (M.app (M.cons (M.pure (.int 0)) (M.cons (M.pure (.int 0)) M.nil)) D.mkTup) M.nil) F_words_in) (M.app M.nil D.mkTup) fun x y => ((D.eqR true) x y).good))))) (S.ret (M.pure (.bl false))) S.skip)
    (S.seq (S.for (M.range1 (M.cons (M.pure (.int 6)) M.nil)) (.nm 3) (S.seq (S.own 6 (M.app (M.cons (M.var 5) M.nil) D.listF))
    (S.seq (S.for (M.range1 (M.cons (M.two (M.pure (.int 1)) (M.callI 1 (M.cons (M.pure (.int 2)) M.nil) F_take) fun x y => (D.add x y).good) M.nil)) (.nm 7) (S.seq (S.set 8 (M.callI 1 (M.cons (M.two (M.var 2) (M.pure (.int 2)) fun x y => (D.add x y).good) M.nil) F_take))
    (S.putI 6 (M.two (M.app (M.cons (M.two (M.two (M.oix 6 (M.var 8)) (M.pure (.int 1)) fun x y => (D.add x y).good) (M.two (M.callI 1 (M.cons (M.pure (.int 997)) M.nil) F_take) (M.pure (.int 9)) fun x y => (D.mul x y).good) fun x y => (D.add x y).good) M.nil) D.intF) (M.pure (.int 9973)) fun x y => (D.mod x y).good) (M.var 8))))
    (S.seq (S.share 6) (S.ite (M.tru (M.two (M.call (M.cons (M.var 6) M.nil) F_words_in) (M.ite (M.tru (M.two (M.app (M.cons (M.var 6) M.nil) D.tupleF) (M.var 5) fun x y => ((D.eqR false) x y).good)) (M.app (M.cons (M.var 4) M.nil) D.tupleF) (M.pure .non)) fun x y => ((D.eqR true) x y).good)) (S.ret (M.pure (.bl false))) S.skip)))))
    (S.seq (S.ite (M.orB (M.andB (M.tru (M.two (M.call (M.cons (M.slice (M.var 5) M.noPart (M.part (M.one (M.pure (.int 1)) fun x => (D.neg x).good))) M.nil) F_words_in) (M.pure .non) fun x y => ((D.isOp true) x y).good)) (M.tru (M.two (M.call (M.cons (M.slice (M.var 5) M.noPart (M.part (M.one (M.pure (.int 3)) fun x => (D.neg x).good))) M.nil) F_lblock) (M.slice (M.var 5) M.noPart (M.part (M.one (M.pure (.int 1)) fun x => (D.neg x).good))) fun x y => ((D.eqR true) x y).good))) (M.andB (M.tru (M.two (M.call (M.cons (M.two (M.var 5) (M.app (M.cons (M.pure (.int 0)) M.nil) D.mkTup) fun x y => (D.add x y).good) M.nil) F_words_in) (M.pure .non) fun x y => ((D.isOp true) x y).good)) (M.tru (M.two (M.call (M.cons (M.slice (M.var 5) M.noPart (M.part (M.one (M.pure (.int 1)) fun x => (D.neg x).good))) M.nil) F_lblock) (M.two (M.var 5) (M.app (M.cons (M.pure (.int 0)) M.nil) D.mkTup) fun x y => (D.add x y).good) fun x y => ((D.eqR true) x y).good)))) (S.ret (M.pure (.bl false))) S.skip)
    (S.seq (S.set 9 (M.one (M.lc [3] (M.range1 (M.cons (M.callI 1 (M.cons (M.pure (.int 6)) M.nil) F_take) M.nil)) (.nm 3) (M.pure true) (M.callI 1 (M.cons (M.two (M.var 2) (M.pure (.int 2)) fun x y => (D.add x y).good) M.nil) F_take)) fun d => (D.sortedSet d).good))
    (S.seq (S.set 10 (M.call (M.cons (M.var 2) (M.cons (M.one (M.var 9) fun x => (D.rev x).good) M.nil)) F_judge_noticed))
    (S.seq (S.set 11 (M.lc [13] (M.items (M.var 9)) (.nm 13) (M.tru (M.two (M.var 13) (M.var 2) fun x y => (D.lt x y).good)) (M.var 13)))
    (S.seq (S.ite (M.orB (M.tru (M.two (M.app (M.cons (M.var 10) M.nil) (D.boolF truL)) (M.orV (M.two (M.var 11) (M.app M.nil D.mkLst) fun x y => ((D.eqR false) x y).good) (M.two (M.app (M.cons (M.var 9) M.nil) D.lenF) (M.pure (.int 3)) fun x y => (D.lt x y).good)) fun x y => ((D.eqR true) x y).good)) (M.orB (M.notB (M.tru (M.meth methL_shows "shows" (M.var 10) (M.cons (M.var 2) (M.cons (M.var 9) M.nil))))) (M.tru (M.two (M.meth methL_shows "shows" (M.pure (.obj "Noticed" [] [])) (M.cons (M.var 2) (M.cons (M.app (M.cons (M.var 9) M.nil) D.tupleF) M.nil))) (M.app (M.cons (M.var 10) M.nil) (D.boolF truL)) fun x y => ((D.eqR true) x y).good)))) (S.ret (M.pure (.bl false))) S.skip)
    (S.seq (S.ite (M.notB (M.truO truL (M.var 10))) (S.seq (S.ite (M.orB (M.tru (M.two (M.call (M.cons (M.fld ["Hidden"] "one" (M.var 10)) M.nil) F_words_in) (M.pure .non) fun x y => ((D.isOp false) x y).good)) (M.orB (M.tru (M.two (M.call (M.cons (M.fld ["Hidden"] "other" (M.var 10)) M.nil) F_words_in) (M.pure .non) fun x y => ((D.isOp false) x y).good)) (M.orB (M.tru (M.two (M.call (M.cons (M.slice (M.fld ["Hidden"] "one" (M.var 10)) M.noPart (M.part (M.one (M.pure (.int 2)) fun x => (D.neg x).good))) M.nil) F_lblock) (M.fld ["Hidden"] "one" (M.var 10)) fun x y => ((D.eqR true) x y).good)) (M.tru (M.two (M.call (M.cons (M.slice (M.fld ["Hidden"] "other" (M.var 10)) M.noPart (M.part (M.one (M.pure (.int 2)) fun x => (D.neg x).good))) M.nil) F_lblock) (M.fld ["Hidden"] "other" (M.var 10)) fun x y => ((D.eqR true) x y).good))))) (S.ret (M.pure (.bl false))) S.skip)
    (S.seq (S.ite (M.orB (M.tru (M.two (M.lc [8] (M.range1 (M.cons (M.two (M.var 2) (M.pure (.int 2)) fun x y => (D.add x y).good) M.nil)) (.nm 8) (M.tru (M.two (M.two (M.fld ["Hidden"] "one" (M.var 10)) (M.var 8) fun x y => (D.ix x y).good) (M.two (M.fld ["Hidden"] "other" (M.var 10)) (M.var 8) fun x y => (D.ix x y).good) fun x y => ((D.eqR true) x y).good)) (M.var 8)) (M.var 9) fun x y => ((D.eqR true) x y).good)) (M.tru (M.two (M.app (M.cons (M.fld ["Hidden"] "one" (M.var 10)) M.nil) D.lenF) (M.two (M.var 2) (M.pure (.int 2)) fun x y => (D.add x y).good) fun x y => ((D.eqR true) x y).good))) (S.ret (M.pure (.bl false))) S.skip)
    (S.ite (M.orB (M.tru (M.meth methL_shows "shows" (M.make "Hidden" F_H_init (M.cons (M.fld ["Hidden"] "one" (M.var 10)) (M.cons (M.fld ["Hidden"] "one" (M.var 10)) M.nil))) (M.cons (M.var 2) (M.cons (M.var 9) M.nil)))) (M.orB (M.tru (M.meth methL_shows "shows" (M.make "Hidden" F_H_init (M.cons (M.fld ["Hidden"] "one" (M.var 10)) (M.cons (M.two (M.slice (M.fld ["Hidden"] "other" (M.var 10)) M.noPart (M.part (M.one (M.pure (.int 1)) fun x => (D.neg x).good))) (M.app (M.cons (M.pure .non) M.nil) D.mkTup) fun x y => (D.add x y).good) M.nil))) (M.cons (M.var 2) (M.cons (M.var 9) M.nil)))) (M.orB (M.tru (M.meth methL_shows "shows" (M.make "Hidden" F_H_init (M.cons (M.fld ["Hidden"] "one" (M.var 10)) (M.cons (M.fld ["Hidden"] "other" (M.var 10)) M.nil))) (M.cons (M.var 2) (M.cons (M.slice (M.var 9) (M.part (M.pure (.int 1))) M.noPart) M.nil)))) (M.tru (M.two (M.make "Hidden" F_H_init (M.cons (M.fld ["Hidden"] "other" (M.var 10)) (M.cons (M.fld ["Hidden"] "one" (M.var 10)) M.nil))) (M.var 10) fun x y => ((D.eqO eqL false) x y).good))))) (S.ret (M.pure (.bl false))) S.skip))) S.skip)
    (S.seq (S.set 12 (M.app (M.cons (M.pure (.fn 0)) (M.cons (M.pure (.fn 1)) (M.cons (M.pure (.fn 2)) (M.cons (M.pure (.fn 3)) (M.cons (M.pure (.fn 4)) (M.cons (M.pure (.fn 5)) (M.cons (M.pure (.fn 6)) (M.cons (M.pure (.fn 7)) M.nil)))))))) D.mkLst))
    (S.seq (S.set 12 (M.two (M.var 12) (M.app (M.cons (M.pure (.fn 8)) (M.cons (M.pure (.fn 9)) (M.cons (M.pure (.fn 10)) (M.cons (M.pure (.fn 11)) (M.cons (M.pure (.fn 12)) M.nil))))) D.mkLst) fun x y => (D.add x y).good))
    (S.seq (S.ite (M.orB (M.notB (M.tru (M.app (M.cons (M.lc [14] (M.items (M.var 12)) (.nm 14) (M.pure true) (M.call (M.cons (M.var 14) M.nil) F_refused)) M.nil) D.allF))) (M.tru (M.call (M.cons (M.pure (.fn 13)) M.nil) F_refused))) (S.ret (M.pure (.bl false))) S.skip)
    (S.ret (M.andV (M.two (M.lc [6] (M.items (M.app (M.cons (M.pure .non) (M.cons (M.pure (.int 5)) (M.cons (M.app M.nil D.mkTup) (M.cons (M.app (M.cons (M.pure (.int 0)) M.nil) D.mkTup) (M.cons (M.app (M.cons (M.pure (.bl true)) (M.cons (M.pure (.int 1)) (M.cons (M.pure (.int 1)) M.nil))) D.mkTup) (M.cons (M.app (M.cons (M.pure (.str "a")) (M.cons (M.pure (.int 0)) (M.cons (M.pure (.int 0)) M.nil))) D.mkTup) (M.cons (M.app (M.cons (M.one (M.pure (.int 1)) fun x => (D.neg x).good) (M.cons (M.pure (.int 0)) (M.cons (M.pure (.int 0)) M.nil))) D.mkTup) (M.cons (M.two (M.app (M.cons (M.pure (.int 0)) M.nil) D.mkLst) (M.pure (.int 43)) fun x y => (D.mul x y).good) M.nil)))))))) D.mkTup)) (.nm 6) (M.pure true) (M.call (M.cons (M.var 6) M.nil) F_words_in)) (M.two (M.app (M.cons (M.pure .non) M.nil) D.mkLst) (M.pure (.int 8)) fun x y => (D.mul x y).good) fun x y => ((D.eqR false) x y).good) (M.andV (M.two (M.pure (.obj "Noticed" [] [])) (M.pure (.obj "Noticed" [] [])) fun x y => ((D.eqO eqL false) x y).good) (M.two (M.pure (.obj "Noticed" [] [])) (M.make "Hidden" F_H_init (M.cons (M.app M.nil D.mkTup) (M.cons (M.app M.nil D.mkTup) M.nil))) fun x y => ((D.eqO eqL true) x y).good)))))))))))))))))))
end DL

namespace DL
open PySem L2
def law_0 : S := (S.own 1 (M.app (M.cons (M.var 0) (M.cons (M.pure (.int 0)) M.nil)) D.mkLst))
def law_1 : S := (S.set 2 (M.two (M.pure (.int 1)) (M.callI 1 (M.cons (M.pure (.int 8)) M.nil) F_take) fun x y => (D.add x y).good))
def law_2 : S := (S.set 4 (M.lc [3] (M.range1 (M.cons (M.var 2) M.nil)) (.nm 3) (M.pure true) (M.two (M.app (M.cons (M.two (M.two (M.callI 1 (M.cons (M.pure (.int 997)) M.nil) F_take) (M.pure (.int 11)) fun x y => (D.mul x y).good) (M.callI 1 (M.cons (M.pure (.int 11)) M.nil) F_take) fun x y => (D.add x y).good) M.nil) D.intF) (M.pure (.int 9973)) fun x y => (D.mod x y).good)))
def law_3 : S := (S.set 5 (M.call (M.cons (M.app (M.cons (M.var 4) M.nil) D.tupleF) M.nil) F_block_of))
def law_4 : S := (S.ite (M.orB (M.tru (M.two (M.var 5) (M.call (M.cons (M.var 4) M.nil) F_lblock) fun x y => ((D.eqR true) x y).good)) (M.orB (M.tru (M.two (M.call (M.cons (M.app (M.cons (M.var 5) M.nil) D.listF) M.nil) F_words_in) (M.app (M.cons (M.var 4) M.nil) D.tupleF) fun x y => ((D.eqR true) x y).good)) (M.orB (M.tru (M.two (M.call (M.cons (M.app M.nil D.mkLst) M.nil) F_block_of) (M.app (M.cons (M.pure (.int 0)) (M.cons (M.pure (.int 0)) M.nil)) D.mkTup) fun x y => ((D.eqR true) x y).good)) (M.tru (M.two (M.call (M.cons (M.app (M.cons (M.pure (.int 0)) (M.cons (M.pure (.int 0)) M.nil)) D.mkTup) M.nil) F_words_in) (M.app M.nil D.mkTup) fun x y => ((D.eqR true) x y).good))))) (S.ret (M.pure (.bl false))) S.skip)
def law_5 : S := (S.for (M.range1 (M.cons (M.pure (.int 6)) M.nil)) (.nm 3) (S.seq (S.own 6 (M.app (M.cons (M.var 5) M.nil) D.listF))
    (S.seq (S.for (M.range1 (M.cons (M.two (M.pure (.int 1)) (M.callI 1 (M.cons (M.pure (.int 2)) M.nil) F_take) fun x y => (D.add x y).good) M.nil)) (.nm 7) (S.seq (S.set 8 (M.callI 1 (M.cons (M.two (M.var 2) (M.pure (.int 2)) fun x y => (D.add x y).good) M.nil) F_take))
    (S.putI 6 (M.two (M.app (M.cons (M.two (M.two (M.oix 6 (M.var 8)) (M.pure (.int 1)) fun x y => (D.add x y).good) (M.two (M.callI 1 (M.cons (M.pure (.int 997)) M.nil) F_take) (M.pure (.int 9)) fun x y => (D.mul x y).good) fun x y => (D.add x y).good) M.nil) D.intF) (M.pure (.int 9973)) fun x y => (D.mod x y).good) (M.var 8))))
    (S.seq (S.share 6) (S.ite (M.tru (M.two (M.call (M.cons (M.var 6) M.nil) F_words_in) (M.ite (M.tru (M.two (M.app (M.cons (M.var 6) M.nil) D.tupleF) (M.var 5) fun x y => ((D.eqR false) x y).good)) (M.app (M.cons (M.var 4) M.nil) D.tupleF) (M.pure .non)) fun x y => ((D.eqR true) x y).good)) (S.ret (M.pure (.bl false))) S.skip)))))
def law_6 : S := (S.ite (M.orB (M.andB (M.tru (M.two (M.call (M.cons (M.slice (M.var 5) M.noPart (M.part (M.one (M.pure (.int 1)) fun x => (D.neg x).good))) M.nil) F_words_in) (M.pure .non) fun x y => ((D.isOp true) x y).good)) (M.tru (M.two (M.call (M.cons (M.slice (M.var 5) M.noPart (M.part (M.one (M.pure (.int 3)) fun x => (D.neg x).good))) M.nil) F_lblock) (M.slice (M.var 5) M.noPart (M.part (M.one (M.pure (.int 1)) fun x => (D.neg x).good))) fun x y => ((D.eqR true) x y).good))) (M.andB (M.tru (M.two (M.call (M.cons (M.two (M.var 5) (M.app (M.cons (M.pure (.int 0)) M.nil) D.mkTup) fun x y => (D.add x y).good) M.nil) F_words_in) (M.pure .non) fun x y => ((D.isOp true) x y).good)) (M.tru (M.two (M.call (M.cons (M.slice (M.var 5) M.noPart (M.part (M.one (M.pure (.int 1)) fun x => (D.neg x).good))) M.nil) F_lblock) (M.two (M.var 5) (M.app (M.cons (M.pure (.int 0)) M.nil) D.mkTup) fun x y => (D.add x y).good) fun x y => ((D.eqR true) x y).good)))) (S.ret (M.pure (.bl false))) S.skip)
def law_7 : S := (S.set 9 (M.one (M.lc [3] (M.range1 (M.cons (M.callI 1 (M.cons (M.pure (.int 6)) M.nil) F_take) M.nil)) (.nm 3) (M.pure true) (M.callI 1 (M.cons (M.two (M.var 2) (M.pure (.int 2)) fun x y => (D.add x y).good) M.nil) F_take)) fun d => (D.sortedSet d).good))
def law_8 : S := (S.set 10 (M.call (M.cons (M.var 2) (M.cons (M.one (M.var 9) fun x => (D.rev x).good) M.nil)) F_judge_noticed))
def law_9 : S := (S.set 11 (M.lc [13] (M.items (M.var 9)) (.nm 13) (M.tru (M.two (M.var 13) (M.var 2) fun x y => (D.lt x y).good)) (M.var 13)))
def law_10 : S := (S.ite (M.orB (M.tru (M.two (M.app (M.cons (M.var 10) M.nil) (D.boolF truL)) (M.orV (M.two (M.var 11) (M.app M.nil D.mkLst) fun x y => ((D.eqR false) x y).good) (M.two (M.app (M.cons (M.var 9) M.nil) D.lenF) (M.pure (.int 3)) fun x y => (D.lt x y).good)) fun x y => ((D.eqR true) x y).good)) (M.orB (M.notB (M.tru (M.meth methL_shows "shows" (M.var 10) (M.cons (M.var 2) (M.cons (M.var 9) M.nil))))) (M.tru (M.two (M.meth methL_shows "shows" (M.pure (.obj "Noticed" [] [])) (M.cons (M.var 2) (M.cons (M.app (M.cons (M.var 9) M.nil) D.tupleF) M.nil))) (M.app (M.cons (M.var 10) M.nil) (D.boolF truL)) fun x y => ((D.eqR true) x y).good)))) (S.ret (M.pure (.bl false))) S.skip)
def law_11 : S := (S.ite (M.notB (M.truO truL (M.var 10))) (S.seq (S.ite (M.orB (M.tru (M.two (M.call (M.cons (M.fld ["Hidden"] "one" (M.var 10)) M.nil) F_words_in) (M.pure .non) fun x y => ((D.isOp false) x y).good)) (M.orB (M.tru (M.two (M.call (M.cons (M.fld ["Hidden"] "other" (M.var 10)) M.nil) F_words_in) (M.pure .non) fun x y => ((D.isOp false) x y).good)) (M.orB (M.tru (M.two (M.call (M.cons (M.slice (M.fld ["Hidden"] "one" (M.var 10)) M.noPart (M.part (M.one (M.pure (.int 2)) fun x => (D.neg x).good))) M.nil) F_lblock) (M.fld ["Hidden"] "one" (M.var 10)) fun x y => ((D.eqR true) x y).good)) (M.tru (M.two (M.call (M.cons (M.slice (M.fld ["Hidden"] "other" (M.var 10)) M.noPart (M.part (M.one (M.pure (.int 2)) fun x => (D.neg x).good))) M.nil) F_lblock) (M.fld ["Hidden"] "other" (M.var 10)) fun x y => ((D.eqR true) x y).good))))) (S.ret (M.pure (.bl false))) S.skip)
    (S.seq (S.ite (M.orB (M.tru (M.two (M.lc [8] (M.range1 (M.cons (M.two (M.var 2) (M.pure (.int 2)) fun x y => (D.add x y).good) M.nil)) (.nm 8) (M.tru (M.two (M.two (M.fld ["Hidden"] "one" (M.var 10)) (M.var 8) fun x y => (D.ix x y).good) (M.two (M.fld ["Hidden"] "other" (M.var 10)) (M.var 8) fun x y => (D.ix x y).good) fun x y => ((D.eqR true) x y).good)) (M.var 8)) (M.var 9) fun x y => ((D.eqR true) x y).good)) (M.tru (M.two (M.app (M.cons (M.fld ["Hidden"] "one" (M.var 10)) M.nil) D.lenF) (M.two (M.var 2) (M.pure (.int 2)) fun x y => (D.add x y).good) fun x y => ((D.eqR true) x y).good))) (S.ret (M.pure (.bl false))) S.skip)
    (S.ite (M.orB (M.tru (M.meth methL_shows "shows" (M.make "Hidden" F_H_init (M.cons (M.fld ["Hidden"] "one" (M.var 10)) (M.cons (M.fld ["Hidden"] "one" (M.var 10)) M.nil))) (M.cons (M.var 2) (M.cons (M.var 9) M.nil)))) (M.orB (M.tru (M.meth methL_shows "shows" (M.make "Hidden" F_H_init (M.cons (M.fld ["Hidden"] "one" (M.var 10)) (M.cons (M.two (M.slice (M.fld ["Hidden"] "other" (M.var 10)) M.noPart (M.part (M.one (M.pure (.int 1)) fun x => (D.neg x).good))) (M.app (M.cons (M.pure .non) M.nil) D.mkTup) fun x y => (D.add x y).good) M.nil))) (M.cons (M.var 2) (M.cons (M.var 9) M.nil)))) (M.orB (M.tru (M.meth methL_shows "shows" (M.make "Hidden" F_H_init (M.cons (M.fld ["Hidden"] "one" (M.var 10)) (M.cons (M.fld ["Hidden"] "other" (M.var 10)) M.nil))) (M.cons (M.var 2) (M.cons (M.slice (M.var 9) (M.part (M.pure (.int 1))) M.noPart) M.nil)))) (M.tru (M.two (M.make "Hidden" F_H_init (M.cons (M.fld ["Hidden"] "other" (M.var 10)) (M.cons (M.fld ["Hidden"] "one" (M.var 10)) M.nil))) (M.var 10) fun x y => ((D.eqO eqL false) x y).good))))) (S.ret (M.pure (.bl false))) S.skip))) S.skip)
def law_12 : S := (S.set 12 (M.app (M.cons (M.pure (.fn 0)) (M.cons (M.pure (.fn 1)) (M.cons (M.pure (.fn 2)) (M.cons (M.pure (.fn 3)) (M.cons (M.pure (.fn 4)) (M.cons (M.pure (.fn 5)) (M.cons (M.pure (.fn 6)) (M.cons (M.pure (.fn 7)) M.nil)))))))) D.mkLst))
def law_13 : S := (S.set 12 (M.two (M.var 12) (M.app (M.cons (M.pure (.fn 8)) (M.cons (M.pure (.fn 9)) (M.cons (M.pure (.fn 10)) (M.cons (M.pure (.fn 11)) (M.cons (M.pure (.fn 12)) M.nil))))) D.mkLst) fun x y => (D.add x y).good))
def law_14 : S := (S.ite (M.orB (M.notB (M.tru (M.app (M.cons (M.lc [14] (M.items (M.var 12)) (.nm 14) (M.pure true) (M.call (M.cons (M.var 14) M.nil) F_refused)) M.nil) D.allF))) (M.tru (M.call (M.cons (M.pure (.fn 13)) M.nil) F_refused))) (S.ret (M.pure (.bl false))) S.skip)
def law_15 : S := (S.ret (M.andV (M.two (M.lc [6] (M.items (M.app (M.cons (M.pure .non) (M.cons (M.pure (.int 5)) (M.cons (M.app M.nil D.mkTup) (M.cons (M.app (M.cons (M.pure (.int 0)) M.nil) D.mkTup) (M.cons (M.app (M.cons (M.pure (.bl true)) (M.cons (M.pure (.int 1)) (M.cons (M.pure (.int 1)) M.nil))) D.mkTup) (M.cons (M.app (M.cons (M.pure (.str "a")) (M.cons (M.pure (.int 0)) (M.cons (M.pure (.int 0)) M.nil))) D.mkTup) (M.cons (M.app (M.cons (M.one (M.pure (.int 1)) fun x => (D.neg x).good) (M.cons (M.pure (.int 0)) (M.cons (M.pure (.int 0)) M.nil))) D.mkTup) (M.cons (M.two (M.app (M.cons (M.pure (.int 0)) M.nil) D.mkLst) (M.pure (.int 43)) fun x y => (D.mul x y).good) M.nil)))))))) D.mkTup)) (.nm 6) (M.pure true) (M.call (M.cons (M.var 6) M.nil) F_words_in)) (M.two (M.app (M.cons (M.pure .non) M.nil) D.mkLst) (M.pure (.int 8)) fun x y => (D.mul x y).good) fun x y => ((D.eqR false) x y).good) (M.andV (M.two (M.pure (.obj "Noticed" [] [])) (M.pure (.obj "Noticed" [] [])) fun x y => ((D.eqO eqL false) x y).good) (M.two (M.pure (.obj "Noticed" [] [])) (M.make "Hidden" F_H_init (M.cons (M.app M.nil D.mkTup) (M.cons (M.app M.nil D.mkTup) M.nil))) fun x y => ((D.eqO eqL true) x y).good))))
theorem law_eq : m_law = S.seq law_0 (S.seq law_1 (S.seq law_2 (S.seq law_3 (S.seq law_4 (S.seq law_5 (S.seq law_6 (S.seq law_7 (S.seq law_8 (S.seq law_9 (S.seq law_10 (S.seq law_11 (S.seq law_12 (S.seq law_13 (S.seq law_14 (law_15))))))))))))))) := rfl
end DL

/-! evaluation of mirrors, rule by rule (for any law) -/
namespace DL
open PySem L2
section
variable {ρ ρ1 ρ2 ρ3 : Env} {f g h : M D} {fs gs : M (List D)} {t t2 : M Bool} {a b d d' : D} {as bs ds : List D} {x : Xn} {i : Nat} {k k' : D → D → R D} {k1 : D → R D} {kl : List D → R D} {F : List D → R D} {v w : Bool} {n m : Int}
theorem e_var (e : ρ[i]? = some (.sh d)) : M.var i ρ = .ok d ρ := by unfold M.var; rw [e]
theorem e_pure {α : Type} {z : α} : M.pure z ρ = .ok z ρ := rfl
theorem e_two (h1 : f ρ = .ok a ρ1) (h2 : g ρ1 = .ok b ρ2) (h3 : k a b = .ok d) : M.two f g (fun x y => (k x y).good) ρ = .ok d ρ2 := by
  unfold M.two M.bind; rw [h1]; simp only [RM.bind]; rw [h2]; simp only [RM.bind, M.lift]; rw [h3]; rfl
theorem e_one (h1 : f ρ = .ok a ρ1) (h3 : k1 a = .ok d) : M.one f (fun x => (k1 x).good) ρ = .ok d ρ1 := by
  unfold M.one M.bind; rw [h1]; simp only [RM.bind, M.lift]; rw [h3]; rfl
theorem e_nil : M.nil ρ = .ok [] ρ := rfl
theorem e_cons (h1 : f ρ = .ok a ρ1) (h2 : fs ρ1 = .ok as ρ2) : M.cons f fs ρ = .ok (a :: as) ρ2 := by
  unfold M.cons M.bind; rw [h1]; simp only [RM.bind]; rw [h2]; rfl
theorem e_star (h1 : f ρ = .ok a ρ1) (h3 : a.items = .ok bs) (h2 : fs ρ1 = .ok as ρ2) : M.star f fs ρ = .ok (bs ++ as) ρ2 := by
  unfold M.star M.bind; rw [h1]; simp only [RM.bind, M.lift]; rw [h3]; simp only [R.good, R.at, RM.bind]; rw [h2]; rfl
theorem e_app (h1 : fs ρ = .ok as ρ1) (h2 : kl as = .ok d) : M.app fs kl ρ = .ok d ρ1 := by
  unfold M.app M.bind; rw [h1]; simp only [RM.bind, M.lift]; rw [h2]; rfl
theorem e_call (h1 : fs ρ = .ok as ρ1) (h2 : F as = .ok d) : M.call fs F ρ = .ok d ρ1 := by
  unfold M.call M.bind; rw [h1]; simp only [RM.bind, M.lift]; rw [h2]; rfl
theorem e_callE (h1 : fs ρ = .ok as ρ1) (h2 : F as = .er x) : M.call fs F ρ = .er x ρ1 := by
  unfold M.call M.bind; rw [h1]; simp only [RM.bind, M.lift]; rw [h2]; rfl
theorem e_tru (h1 : f ρ = .ok a ρ1) (h2 : a.tru = .ok v) : M.tru f ρ = .ok v ρ1 := by
  unfold M.tru M.bind; rw [h1]; simp only [RM.bind, M.lift]; rw [h2]; rfl
theorem e_notB (h1 : t ρ = .ok v ρ1) : M.notB t ρ = .ok (!v) ρ1 := by
  unfold M.notB M.bind; rw [h1]; rfl
theorem e_andF (h1 : t ρ = .ok false ρ1) : M.andB t t2 ρ = .ok false ρ1 := by
  unfold M.andB M.bind; rw [h1]; rfl
theorem e_andT (h1 : t ρ = .ok true ρ1) (h2 : t2 ρ1 = .ok v ρ2) : M.andB t t2 ρ = .ok v ρ2 := by
  unfold M.andB M.bind; rw [h1]; simp only [RM.bind, if_true]; exact h2
theorem e_and (h1 : t ρ = .ok v ρ1) (h2 : v = true → t2 ρ1 = .ok w ρ1) : M.andB t t2 ρ = .ok (v && w) ρ1 := by
  cases v with
  | true => exact e_andT h1 (h2 rfl)
  | false => exact e_andF h1
theorem e_orT (h1 : t ρ = .ok true ρ1) : M.orB t t2 ρ = .ok true ρ1 := by
  unfold M.orB M.bind; rw [h1]; rfl
theorem e_orF (h1 : t ρ = .ok false ρ1) (h2 : t2 ρ1 = .ok v ρ2) : M.orB t t2 ρ = .ok v ρ2 := by
  unfold M.orB M.bind; rw [h1]; simp only [RM.bind, Bool.false_eq_true, if_false]; exact h2
theorem e_or (h1 : t ρ = .ok v ρ1) (h2 : v = false → t2 ρ1 = .ok w ρ1) : M.orB t t2 ρ = .ok (v || w) ρ1 := by
  cases v with
  | true => exact e_orT h1
  | false => exact e_orF h1 (h2 rfl)
theorem e_notV (h1 : f ρ = .ok a ρ1) (h2 : a.tru = .ok v) : M.notV f ρ = .ok (.bl (!v)) ρ1 := by
  unfold M.notV M.bind; rw [h1]; simp only [RM.bind, M.lift]; rw [h2]; rfl
theorem e_andVT (h1 : f ρ = .ok a ρ1) (h2 : a.tru = .ok true) (h3 : g ρ1 = .ok d ρ2) : M.andV f g ρ = .ok d ρ2 := by
  unfold M.andV M.bind; rw [h1]; simp only [RM.bind, M.lift]; rw [h2]; simp only [R.good, R.at, RM.bind, if_true]; exact h3
theorem e_andVF (h1 : f ρ = .ok a ρ1) (h2 : a.tru = .ok false) : M.andV f g ρ = .ok a ρ1 := by
  unfold M.andV M.bind; rw [h1]; simp only [RM.bind, M.lift]; rw [h2]; rfl
theorem e_orVT (h1 : f ρ = .ok a ρ1) (h2 : a.tru = .ok true) : M.orV f g ρ = .ok a ρ1 := by
  unfold M.orV M.bind; rw [h1]; simp only [RM.bind, M.lift]; rw [h2]; rfl
theorem e_orVF (h1 : f ρ = .ok a ρ1) (h2 : a.tru = .ok false) (h3 : g ρ1 = .ok d ρ2) : M.orV f g ρ = .ok d ρ2 := by
  unfold M.orV M.bind; rw [h1]; simp only [RM.bind, M.lift]; rw [h2]; simp only [R.good, R.at, RM.bind, Bool.false_eq_true, if_false]; exact h3
theorem e_iteT {α : Type} {f g : M α} {r : RM α} (h1 : t ρ = .ok true ρ1) (h2 : f ρ1 = r) : M.ite t f g ρ = r := by
  unfold M.ite M.bind; rw [h1]; simp only [RM.bind, if_true]; exact h2
theorem e_iteF {α : Type} {f g : M α} {r : RM α} (h1 : t ρ = .ok false ρ1) (h2 : g ρ1 = r) : M.ite t f g ρ = r := by
  unfold M.ite M.bind; rw [h1]; simp only [RM.bind, Bool.false_eq_true, if_false]; exact h2
theorem e_chainT (h1 : f ρ = .ok a ρ1) (h2 : g ρ1 = .ok b ρ2) (h3 : k a b = .ok (.bl true)) (h4 : h ρ2 = .ok d ρ3) (h5 : k' b d = .ok d') : M.chain f g h k k' ρ = .ok d' ρ3 := by
  unfold M.chain M.bind; rw [h1]; simp only [RM.bind]; rw [h2]; simp only [RM.bind, M.lift]; rw [h3]; simp only [R.good, R.at, RM.bind]; rw [h4]; simp only [RM.bind]; rw [h5]
theorem e_chainF (h1 : f ρ = .ok a ρ1) (h2 : g ρ1 = .ok b ρ2) (h3 : k a b = .ok (.bl false)) : M.chain f g h k k' ρ = .ok (.bl false) ρ2 := by
  unfold M.chain M.bind; rw [h1]; simp only [RM.bind]; rw [h2]; simp only [RM.bind, M.lift]; rw [h3]; rfl
theorem e_chain (h1 : f ρ = .ok a ρ1) (h2 : g ρ1 = .ok b ρ2) (h3 : k a b = .ok (.bl v)) (h4 : v = true → h ρ2 = .ok d ρ2) (h5 : v = true → k' b d = .ok (.bl w)) : M.chain f g h k k' ρ = .ok (.bl (v && w)) ρ2 := by
  cases v with
  | true => exact e_chainT h1 h2 h3 (h4 rfl) (h5 rfl)
  | false => exact e_chainF h1 h2 h3
theorem e_noPart : M.noPart ρ = .ok none ρ := rfl
theorem e_part (h1 : f ρ = .ok (.int n) ρ1) : M.part f ρ = .ok (some n) ρ1 := by
  unfold M.part M.bind; rw [h1]; rfl
theorem e_slice {lo hi : M (Option Int)} {l u : Option Int} (h1 : f ρ = .ok a ρ1) (h2 : lo ρ1 = .ok l ρ2) (h3 : hi ρ2 = .ok u ρ3) (h4 : D.slice l u a = .ok d) : M.slice f lo hi ρ = .ok d ρ3 := by
  unfold M.slice M.bind; rw [h1]; simp only [RM.bind]; rw [h2]; simp only [RM.bind]; rw [h3]; simp only [RM.bind, M.lift]; rw [h4]; rfl
theorem e_items (h1 : f ρ = .ok a ρ1) (h2 : a.items = .ok as) : M.items f ρ = .ok as ρ1 := by
  unfold M.items M.bind; rw [h1]; simp only [RM.bind, M.lift]; rw [h2]; rfl
theorem e_enum (h1 : fs ρ = .ok [a] ρ1) (h2 : a.items = .ok as) : M.enum fs ρ = .ok (as.mapIdx fun i d => .tup [.int (i : Nat), d]) ρ1 := by
  unfold M.enum M.bind; rw [h1]; simp only [RM.bind, M.lift, D.enumL]; rw [h2]; rfl
theorem e_zip (h1 : fs ρ = .ok [a, b] ρ1) (h2 : a.items = .ok as) (h3 : b.items = .ok bs) : M.zip fs ρ = .ok ((as.zip bs).map fun p => .tup [p.1, p.2]) ρ1 := by
  unfold M.zip M.bind; rw [h1]; simp only [RM.bind, M.lift, D.zipL]; rw [h2, h3]; rfl
theorem e_range1 (h1 : fs ρ = .ok [.int n] ρ1) (h2 : n ≤ 16777216 ∧ -(2 ^ 62) ≤ n) : M.range1 fs ρ = .ok (rangeD 0 n.toNat) ρ1 := by
  unfold M.range1 M.bind; rw [h1]; simp only [RM.bind, M.lift, D.range1L]; rw [if_pos h2]; rfl
theorem e_range2 (h1 : fs ρ = .ok [.int m, .int n] ρ1) (h2 : -(2 ^ 62) ≤ m ∧ m < 2 ^ 62 ∧ -(2 ^ 62) ≤ n ∧ n < 2 ^ 62 ∧ (n - m) ≤ 16777216) : M.range2 fs ρ = .ok (rangeD m (n - m).toNat) ρ1 := by
  unfold M.range2 M.bind; rw [h1]; simp only [RM.bind, M.lift, D.range2L]; rw [if_pos h2]; rfl
theorem e_lc {own : List Nat} {fi : M (List D)} {tg : Tg} (h1 : fi ρ = .ok as ρ1) (h2 : lcL own tg t f as (wipeZ ρ1 own) = .ok bs ρ2) (h3 : backZ ρ1 ρ2 own = ρ3) : M.lc own fi tg t f ρ = .ok (.lst bs) ρ3 := by
  unfold M.lc; rw [h1]; dsimp only; rw [h2]; dsimp only; rw [h3]
theorem e_fld {l : List Str} {y : Str} (h1 : f ρ = .ok a ρ1) (h2 : D.fld l y a = .ok d) : M.fld l y f ρ = .ok d ρ1 := by
  unfold M.fld M.bind; rw [h1]; simp only [RM.bind, M.lift]; rw [h2]; rfl
theorem e_oix (h0 : ρ[i]? = some (.ow a)) (h1 : f ρ = .ok b ρ1) (h2 : ρ1[i]? = some (.ow d)) (h3 : D.ix d b = .ok d') : M.oix i f ρ = .ok d' ρ1 := by
  unfold M.oix M.bind M.oget; rw [h0]; simp only [RM.bind]; rw [h1]; simp only [RM.bind]; rw [h2]; simp only [RM.bind, M.lift]; rw [h3]; rfl
theorem e_callI {G : D → List D → RI} {d0 d1 d00 : D} (h0 : ρ[i]? = some (.ow d00)) (h1 : fs ρ = .ok as ρ1) (h2 : ρ1[i]? = some (.ow d0)) (h3 : G d0 as = .ok d d1) : M.callI i fs G ρ = .ok d (ρ1.set i (.ow d1)) := by
  unfold M.callI; rw [h0]; dsimp only; rw [h1]; dsimp only; rw [h2]; dsimp only; rw [h3]
theorem e_act {G : Nat → R D} {n : Nat} (h0 : ρ[i]? = some (.sh (.fn n))) (h1 : G n = .ok d) : M.act i G ρ = .ok d ρ := by
  unfold M.act; rw [h0]; dsimp only; rw [h1]; rfl
theorem e_actE {G : Nat → R D} {n : Nat} (h0 : ρ[i]? = some (.sh (.fn n))) (h1 : G n = .er x) : M.act i G ρ = .er x ρ := by
  unfold M.act; rw [h0]; dsimp only; rw [h1]; rfl
/-! statements -/
variable {g1 g2 : S} {r : Fl}
theorem s_seq (h1 : g1 ρ = .nx ρ1) (h2 : g2 ρ1 = r) : S.seq g1 g2 ρ = r := by unfold S.seq; rw [h1]; exact h2
theorem s_seqR (h1 : g1 ρ = .rt d ρ1) : S.seq g1 g2 ρ = .rt d ρ1 := by unfold S.seq; rw [h1]
theorem s_seqE (h1 : g1 ρ = .er x ρ1) : S.seq g1 g2 ρ = .er x ρ1 := by unfold S.seq; rw [h1]
theorem s_skip : S.skip ρ = .nx ρ := rfl
theorem s_set (h1 : f ρ = .ok d ρ1) : S.set i f ρ = .nx (ρ1.set i (.sh d)) := by unfold S.set; rw [h1]
theorem s_own (h1 : f ρ = .ok d ρ1) : S.own i f ρ = .nx (ρ1.set i (.ow d)) := by unfold S.own; rw [h1]
theorem s_ret (h1 : f ρ = .ok d ρ1) : S.ret f ρ = .rt d ρ1 := by unfold S.ret; rw [h1]
theorem s_retE (h1 : f ρ = .er x ρ1) : S.ret f ρ = .er x ρ1 := by unfold S.ret; rw [h1]
theorem s_expr {α : Type} {f : M α} {z : α} (h1 : f ρ = .ok z ρ1) : S.expr f ρ = .nx ρ1 := by unfold S.expr; rw [h1]
theorem s_exprE {α : Type} {f : M α} (h1 : f ρ = .er x ρ1) : S.expr f ρ = .er x ρ1 := by unfold S.expr; rw [h1]
theorem s_iteT (h1 : t ρ = .ok true ρ1) (h2 : g1 ρ1 = r) : S.ite t g1 g2 ρ = r := by unfold S.ite; rw [h1]; exact h2
theorem s_iteF (h1 : t ρ = .ok false ρ1) (h2 : g2 ρ1 = r) : S.ite t g1 g2 ρ = r := by unfold S.ite; rw [h1]; exact h2
theorem s_asg {tg : Tg} (h1 : f ρ = .ok d ρ1) (h2 : asgD tg d ρ1 = some ρ2) : S.asg tg f ρ = .nx ρ2 := by unfold S.asg; rw [h1]; dsimp only; rw [h2]
theorem e_slNil : M.slNil ρ = .ok [] ρ := rfl
theorem e_slSh {fz : M (List Slot)} {zs : List Slot} (h1 : f ρ = .ok d ρ1) (h2 : fz ρ1 = .ok zs ρ2) : M.slSh f fz ρ = .ok (.sh d :: zs) ρ2 := by
  unfold M.slSh M.bind; rw [h1]; simp only [RM.bind]; rw [h2]; rfl
theorem s_par {is : List Nat} {fz : M (List Slot)} {zs : List Slot} (h1 : fz ρ = .ok zs ρ1) (h2 : zs.length = is.length) : S.par is fz ρ = .nx (setZ is zs ρ1) := by
  unfold S.par; rw [h1]; dsimp only; rw [if_pos h2]
theorem s_for {fi : M (List D)} {tg : Tg} {r : Fl} (h1 : fi ρ = .ok as ρ1) (h2 : forL tg g1 as ρ1 = r) : S.for fi tg g1 ρ = r := by unfold S.for; rw [h1]; exact h2
theorem s_share {l : List D} (h1 : ρ[i]? = some (.ow (.lst l))) : S.share i ρ = .nx (ρ.set i (.sh (.lst l))) := by unfold S.share; rw [h1]
theorem s_append {l : List D} (h0 : ρ[i]? = some (.ow (.lst l))) (h1 : f ρ = .ok d ρ1) (h2 : ρ1[i]? = some (.ow (.lst l))) (h3 : D.push (.lst l) d = .ok a) : S.chg i D.isL f D.push ρ = .nx (ρ1.set i (.ow a)) := by
  unfold S.chg; rw [h0]; simp only [D.isL, if_true]; rw [h1]; dsimp only; rw [h2]; dsimp only; rw [h3]
theorem s_tryO {l : List (Str × Bool)} (h1 : g1 ρ = .nx ρ1) : S.tryO l g1 g2 ρ = .nx ρ1 := by unfold S.tryO; rw [h1]
theorem s_tryE {l : List (Str × Bool)} {r : Fl} (h1 : g1 ρ = .er x ρ1) (h2 : l.lookup x.c = some true) (h3 : g2 ρ1 = r) : S.tryO l g1 g2 ρ = r := by unfold S.tryO; rw [h1]; dsimp only; rw [h2]; exact h3
end
/-! loops -/
theorem for_nil {tg : Tg} {g : S} {ρ : Env} : forL tg g [] ρ = .nx ρ := rfl
theorem for_cons {tg : Tg} {g : S} {ρ ρ1 ρ2 : Env} {d : D} {ds : List D} {r : Fl} (h1 : asgD tg d ρ = some ρ1) (h2 : g ρ1 = .nx ρ2) (h3 : forL tg g ds ρ2 = r) : forL tg g (d :: ds) ρ = r := by
  unfold forL; rw [h1]; dsimp only; rw [h2]; exact h3
theorem for_consR {tg : Tg} {g : S} {ρ ρ1 ρ2 : Env} {d d' : D} {ds : List D} (h1 : asgD tg d ρ = some ρ1) (h2 : g ρ1 = .rt d' ρ2) : forL tg g (d :: ds) ρ = .rt d' ρ2 := by
  unfold forL; rw [h1]; dsimp only; rw [h2]
/-- a comprehension whose turns do one thing each -/
theorem lcL_fm {own : List Nat} {t : Tg} {tt : M Bool} {te : M D} {ρ : Env} {p : D → Bool} {f : D → D} : ∀ {l : List D},
    (∀ d ∈ l, ∃ ρ1, asgD t d ρ = some ρ1 ∧ ∃ ρ2, tt ρ1 = .ok (p d) ρ2 ∧ (p d = true → ∃ ρ3, te ρ2 = .ok (f d) ρ3 ∧ wipeZ ρ3 own = ρ) ∧ (p d = false → wipeZ ρ2 own = ρ)) → lcL own t tt te l ρ = .ok ((l.filter p).map f) ρ
  | [], _ => rfl
  | d :: l, h => by
    have ih := lcL_fm (l := l) fun x hx => h x (List.mem_cons_of_mem _ hx)
    obtain ⟨ρ1, h1, ρ2, h2, h3, h4⟩ := h d List.mem_cons_self
    unfold lcL
    rw [h1]
    dsimp only
    rw [h2]
    cases e : p d with
    | true =>
      obtain ⟨ρ3, h5, h6⟩ := h3 e
      dsimp only
      rw [h5]
      dsimp only
      rw [h6, ih, List.filter_cons_of_pos e]
      rfl
    | false =>
      dsimp only
      rw [h4 e, ih, List.filter_cons_of_neg (by rw [e]; exact Bool.false_ne_true)]
theorem lcL_map {own : List Nat} {t : Tg} {te : M D} {ρ : Env} {f : D → D} {l : List D} (h : ∀ d ∈ l, ∃ ρ1 ρ3, asgD t d ρ = some ρ1 ∧ te ρ1 = .ok (f d) ρ3 ∧ wipeZ ρ3 own = ρ) : lcL own t (M.pure true) te l ρ = .ok (l.map f) ρ := by
  have z := lcL_fm (own := own) (t := t) (tt := M.pure true) (te := te) (ρ := ρ) (p := fun _ => true) (f := f) (l := l) fun d hd => let ⟨ρ1, ρ3, h1, h2, h3⟩ := h d hd; ⟨ρ1, h1, ρ1, rfl, fun _ => ⟨ρ3, h2, h3⟩, fun e => by cases e⟩
  rw [z, List.filter_eq_self.mpr fun _ _ => rfl]
/-! data -/
theorem line_ge {n : Nat} (h : n ≤ 1000) : n ≤ sizeLine := by rw [sizeLine_eq]; omega
theorem mulL {i j : Int} (h : -(2 ^ 64) < i ∧ i < 2 ^ 64) : D.mul (.int i) (.int j) = .ok (.int (i * j)) := by
  exact if_pos (by unfold smallI; rw [decide_eq_true h]; rfl)
theorem mulR {i j : Int} (h : -(2 ^ 64) < j ∧ j < 2 ^ 64) : D.mul (.int i) (.int j) = .ok (.int (i * j)) := by
  exact if_pos (by unfold smallI; rw [decide_eq_true (p := -(2 ^ 64) < j ∧ j < 2 ^ 64) h, Bool.or_true])
theorem modP {i j : Int} (h : 0 < j) : D.mod (.int i) (.int j) = .ok (.int (i % j)) := if_pos h
theorem mkTup_ok {l : List D} (h : l.length ≤ 1000) : D.mkTup l = .ok (.tup l) := if_pos (line_ge h)
theorem mkLst_ok {l : List D} (h : l.length ≤ 1000) : D.mkLst l = .ok (.lst l) := if_pos (line_ge h)
theorem lenF_tup {l : List D} : D.lenF [.tup l] = .ok (.int l.length) := rfl
theorem sum_ints {d : D} {ns : List Int} (h : d.items = .ok (ns.map .int)) : D.sumF [d] = .ok (.int ns.sum) := by
  unfold D.sumF D.ints; dsimp only; rw [h]; dsimp only; rw [intsL_map]
theorem bools_map (l : List D) (f : D → Bool) : D.boolsL (l.map fun d => .bl (f d)) = some (l.map f) := by
  have := boolsL_map (l.map f)
  rw [List.map_map] at this
  exact this
theorem all_bools (l : List D) (f : D → Bool) : D.allF [.lst (l.map fun d => .bl (f d))] = .ok (.bl (l.all f)) := by
  unfold D.allF; dsimp only; rw [bools_map]; dsimp only; rw [List.all_map]; rfl
theorem eq_int {i j : Int} : D.eqR false (.int i) (.int j) = .ok (.bl (i == j)) := by first | rfl | (simp [D.eqR, D.py, SeqAt.shaped, PyData.eqv])
theorem ne_int {i j : Int} : D.eqR true (.int i) (.int j) = .ok (.bl (!(i == j))) := by first | rfl | (simp [D.eqR, D.py, SeqAt.shaped, PyData.eqv])
end DL

namespace DL
open PySem L2
/-! ### is_integer, is_row -/
def isI : D → Bool
  | .int _ => true
  | _ => false
/-- data that these defs know -/
def plainD : D → Bool
  | .obj _ _ _ => false
  | .dct _ _ => false
  | .fn _ => false
  | _ => true
theorem is_integer_eq {d : D} (h : plainD d = true) : F_is_integer [d] = .ok (.bl (isI d)) := by
  cases d <;> first | (simp [plainD] at h; done) | rfl
def isR : D → Bool
  | .tup _ => true
  | .lst _ => true
  | .fls _ => true
  | _ => false
theorem is_row_eq {d : D} (h : plainD d = true) : F_is_row [d] = .ok (.bl (isR d)) := by
  cases d <;> first | (simp [plainD] at h; done) | rfl
theorem row_of {x : D} {l : List D} (hx : x.items = .ok l) : plainD x = true ∧ isR x = true ∧ D.lenF [x] = .ok (.int l.length) := by
  cases x <;> first | (cases hx; exact ⟨rfl, rfl, rfl⟩) | cases hx
theorem not_row {x : D} (h : isR x = false) : ∀ l, x.items ≠ .ok l := fun l e => by
  rw [(row_of e).2.1] at h; cases h
/-! ### check_words -/
/-- a word -/
def okW : D → Bool
  | .int i => decide (0 ≤ i) && decide (i < 9973)
  | _ => false
def badB : Xn := ⟨"BadBlock", [], []⟩
theorem cw_el {ρ : Env} {k : Nat} {d : D} (hk : ρ[k]? = some (.sh d)) (h : plainD d = true) : (M.andV (M.call (M.cons (M.var k) M.nil) F_is_integer) (M.chain (M.pure (.int 0)) (M.var k) (M.pure (.int 9973)) D.le D.lt)) ρ = .ok (.bl (okW d)) ρ := by
  have e := is_integer_eq h
  have c : (M.call (M.cons (M.var k) M.nil) F_is_integer) ρ = .ok (.bl (isI d)) ρ := e_call (e_cons (e_var hk) e_nil) e
  cases d with
  | int i => exact e_andVT c rfl (e_chain e_pure (e_var hk) rfl (fun _ => e_pure) (fun _ => rfl))
  | _ => exact e_andVF c rfl
theorem check_words_ok {x : D} {l : List D} (hx : x.items = .ok l) (hl : ∀ d ∈ l, plainD d = true) :
    F_check_words [x] = if l.length ≤ 40 ∧ l.all okW = true then .ok .non else .er badB := by
  obtain ⟨hp, hr, hn⟩ := row_of hx
  have e := is_row_eq hp
  rw [hr] at e
  have t0 : ∀ ρ : Env, ρ[0]? = some (.sh x) → (M.notB (M.tru (M.call (M.cons (M.var 0) M.nil) F_is_row))) ρ = .ok false ρ := fun ρ h => e_notB (e_tru (e_call (e_cons (e_var h) e_nil) e) rfl)
  have t1 : (M.tru (M.two (M.app (M.cons (M.var 0) M.nil) D.lenF) (M.pure (.int 40)) fun x y => (D.gt x y).good)) [.sh x, .un] = .ok (decide ((40 : Int) < l.length)) [.sh x, .un] := e_tru (e_two (e_app (e_cons (e_var rfl) e_nil) hn) e_pure rfl) rfl
  have lc : lcL [1] (.nm 1) (M.pure true) (M.andV (M.call (M.cons (M.var 1) M.nil) F_is_integer) (M.chain (M.pure (.int 0)) (M.var 1) (M.pure (.int 9973)) D.le D.lt)) l [.sh x, .un] = .ok (l.map fun d => .bl (okW d)) [.sh x, .un] :=
    lcL_map fun d hd => ⟨_, _, rfl, cw_el rfl (hl d hd), rfl⟩
  have t2 : (M.notB (M.tru (M.app (M.cons (M.lc [1] (M.items (M.var 0)) (.nm 1) (M.pure true) (M.andV (M.call (M.cons (M.var 1) M.nil) F_is_integer) (M.chain (M.pure (.int 0)) (M.var 1) (M.pure (.int 9973)) D.le D.lt))) M.nil) D.allF))) [.sh x, .un] = .ok (!(l.all okW)) [.sh x, .un] :=
    e_notB (e_tru (e_app (e_cons (e_lc (e_items (e_var rfl) hx) lc rfl) e_nil) (all_bools l okW)) rfl)
  show endD (m_check_words [.sh x, .un]) = _
  by_cases h1 : l.length ≤ 40
  · have c1 : (M.orB (M.notB (M.tru (M.call (M.cons (M.var 0) M.nil) F_is_row))) (M.tru (M.two (M.app (M.cons (M.var 0) M.nil) D.lenF) (M.pure (.int 40)) fun x y => (D.gt x y).good))) [.sh x, .un] = .ok false [.sh x, .un] := by
      refine e_orF (t0 _ rfl) ?_
      rw [t1, decide_eq_false (by omega)]
    cases h2 : l.all okW with
    | true =>
      rw [h2] at t2
      have z : m_check_words [.sh x, .un] = .nx [.sh x, .un] := s_seq (s_iteF c1 s_skip) (s_iteF t2 s_skip)
      rw [z, if_pos ⟨h1, rfl⟩]; rfl
    | false =>
      rw [h2] at t2
      have z : m_check_words [.sh x, .un] = .er badB [.sh x, .un] := s_seq (s_iteF c1 s_skip) (s_iteT t2 rfl)
      rw [z, if_neg (by simp)]; rfl
  · have c1 : (M.orB (M.notB (M.tru (M.call (M.cons (M.var 0) M.nil) F_is_row))) (M.tru (M.two (M.app (M.cons (M.var 0) M.nil) D.lenF) (M.pure (.int 40)) fun x y => (D.gt x y).good))) [.sh x, .un] = .ok true [.sh x, .un] := by
      refine e_orF (t0 _ rfl) ?_
      rw [t1, decide_eq_true (by omega)]
    have z : m_check_words [.sh x, .un] = .er badB [.sh x, .un] := s_seqE (s_iteT c1 rfl)
    rw [z, if_neg fun w => h1 w.1]; rfl
theorem check_words_not {x : D} (hp : plainD x = true) (hr : isR x = false) : F_check_words [x] = .er badB := by
  have e := is_row_eq hp
  rw [hr] at e
  have z : m_check_words [.sh x, .un] = .er badB [.sh x, .un] := s_seqE (s_iteT (e_orT (e_notB (e_tru (e_call (e_cons (e_var rfl) e_nil) e) rfl))) rfl)
  show endD (m_check_words [.sh x, .un]) = _
  rw [z]; rfl
/-! ### sums_of -/
/-- the two sums, place by place -/
def sumsF : Int → Int → Nat → List Int → Int × Int
  | p, h, _, [] => (p, h)
  | p, h, i, w :: r => sumsF ((p + w) % 9973) ((h + (i + 1) * w) % 9973) (i + 1) r
theorem sums_loop {x : D} : ∀ (ws : List Int) (p h : Int) (i : Nat) (s3 s4 : Slot), i + ws.length ≤ 100000 → ∃ s3' s4', forL (.tp [(.nm 3), (.nm 4)]) (S.seq (S.set 1 (M.two (M.app (M.cons (M.two (M.var 1) (M.var 4) fun x y => (D.add x y).good) M.nil) D.intF) (M.pure (.int 9973)) fun x y => (D.mod x y).good))
    (S.set 2 (M.two (M.app (M.cons (M.two (M.var 2) (M.two (M.two (M.var 3) (M.pure (.int 1)) fun x y => (D.add x y).good) (M.var 4) fun x y => (D.mul x y).good) fun x y => (D.add x y).good) M.nil) D.intF) (M.pure (.int 9973)) fun x y => (D.mod x y).good)))
    ((ws.map D.int).mapIdx fun j d => .tup [.int ((i + j : Nat) : Int), d]) [.sh x, .sh (.int p), .sh (.int h), s3, s4] = .nx [.sh x, .sh (.int (sumsF p h i ws).1), .sh (.int (sumsF p h i ws).2), s3', s4']
  | [], p, h, i, s3, s4, _ => ⟨s3, s4, rfl⟩
  | w :: ws, p, h, i, s3, s4, hz => by
    have hz' : i + 1 + ws.length ≤ 100000 := by rw [List.length_cons] at hz; omega
    obtain ⟨a, b, ih⟩ := sums_loop (x := x) ws ((p + w) % 9973) ((h + (i + 1) * w) % 9973) (i + 1) (.sh (.int i)) (.sh (.int w)) hz'
    refine ⟨a, b, ?_⟩
    rw [List.map_cons, List.mapIdx_cons]
    refine for_cons (ρ1 := [.sh x, .sh (.int p), .sh (.int h), .sh (.int i), .sh (.int w)]) rfl (ρ2 := [.sh x, .sh (.int ((p + w) % 9973)), .sh (.int ((h + (i + 1) * w) % 9973)), .sh (.int i), .sh (.int w)]) ?_ ?_
    · refine s_seq (ρ1 := [.sh x, .sh (.int ((p + w) % 9973)), .sh (.int h), .sh (.int i), .sh (.int w)]) ?_ ?_
      · exact s_set (d := .int ((p + w) % 9973)) (e_two (e_app (e_cons (e_two (e_var rfl) (e_var rfl) rfl) e_nil) rfl) e_pure (modP (by decide)))
      · exact s_set (d := .int ((h + (i + 1) * w) % 9973)) (e_two (e_app (e_cons (e_two (e_var rfl) (e_two (e_two (e_var rfl) e_pure rfl) (e_var rfl) (mulL (by constructor <;> omega))) rfl) e_nil) rfl) e_pure (modP (by decide)))
    · have ee : ((ws.map D.int).mapIdx fun j d => D.tup [.int ((i + (j + 1) : Nat) : Int), d]) = (ws.map D.int).mapIdx fun j d => D.tup [.int ((i + 1 + j : Nat) : Int), d] := by
        congr 1; funext j d; rw [show i + (j + 1) = i + 1 + j by omega]
      show forL _ _ (List.mapIdx (fun j d => D.tup [.int ((i + (j + 1) : Nat) : Int), d]) (ws.map D.int)) _ = _
      rw [ee]
      exact ih
def sums (ws : List Int) : Int × Int := sumsF ws.length ws.length 0 ws
theorem sums_of_ok {x : D} {ws : List Int} (hx : x.items = .ok (ws.map .int)) (hz : ws.length ≤ 1000) : F_sums_of [x] = .ok (.tup [.int (sums ws).1, .int (sums ws).2]) := by
  obtain ⟨hp, hr, hn⟩ := row_of hx
  rw [List.length_map] at hn
  obtain ⟨a, b, hl⟩ := sums_loop (x := x) ws ws.length ws.length 0 .un .un (by omega)
  have z : m_sums_of [.sh x, .un, .un, .un, .un] = .rt (.tup [.int (sums ws).1, .int (sums ws).2]) [.sh x, .sh (.int (sums ws).1), .sh (.int (sums ws).2), a, b] := by
    refine s_seq (ρ1 := [.sh x, .sh (.int ws.length), .sh (.int ws.length), .un, .un]) ?_ (s_seq (ρ1 := [.sh x, .sh (.int (sums ws).1), .sh (.int (sums ws).2), a, b]) (s_for (e_enum (e_cons (e_var rfl) e_nil) hx) ?_) ?_)
    · exact s_par (e_slSh (e_app (e_cons (e_var rfl) e_nil) hn) (e_slSh (e_app (e_cons (e_var rfl) e_nil) hn) e_slNil)) rfl
    · have ee : ((ws.map D.int).mapIdx fun j d => D.tup [.int (j : Nat), d]) = (ws.map D.int).mapIdx fun j d => D.tup [.int ((0 + j : Nat) : Int), d] := by
        congr 1; funext j d; rw [Nat.zero_add]
      rw [ee]; exact hl
    · exact s_ret (e_app (e_cons (e_var rfl) (e_cons (e_var rfl) e_nil)) (mkTup_ok (Nat.le_of_ble_eq_true rfl)))
  show endD (m_sums_of [.sh x, .un, .un, .un, .un]) = _
  rw [z]; rfl
/-! ### block_of -/
theorem wordsOk {ws : List Int} : (ws.map D.int).all okW = ws.all fun i => decide (0 ≤ i) && decide (i < 9973) := by
  rw [List.all_map]; rfl
theorem intsPlain (ws : List Int) : ∀ d ∈ ws.map D.int, plainD d = true := fun d hd => by
  obtain ⟨i, _, rfl⟩ := List.mem_map.mp hd; rfl
/-- what block_of makes of words -/
def blockI (ws : List Int) : List Int := ws ++ [(sums ws).1, (sums ws).2]
def good (ws : List Int) : Prop := ws.length ≤ 40 ∧ ∀ i ∈ ws, 0 ≤ i ∧ i < 9973
theorem good_all {ws : List Int} (h : ∀ i ∈ ws, 0 ≤ i ∧ i < 9973) : (ws.map D.int).all okW = true := by
  rw [wordsOk, List.all_eq_true]
  intro i hi
  rw [decide_eq_true (h i hi).1, decide_eq_true (h i hi).2]; rfl
theorem block_of_ok {x : D} {ws : List Int} (hx : x.items = .ok (ws.map .int)) (h : good ws) : F_block_of [x] = .ok (.tup ((blockI ws).map .int)) := by
  have c := check_words_ok hx (intsPlain ws)
  rw [if_pos ⟨by rw [List.length_map]; exact h.1, good_all h.2⟩] at c
  have s := sums_of_ok hx (by have := h.1; omega)
  have z : m_block_of [.sh x] = .rt (.tup ((blockI ws).map .int)) [.sh x] := by
    refine s_seq (s_expr (e_call (e_cons (e_var rfl) e_nil) c)) (s_ret (e_app (e_star (e_var rfl) hx (e_star (e_call (e_cons (e_var rfl) e_nil) s) rfl e_nil)) ?_))
    have ee : List.map D.int ws ++ ([D.int (sums ws).1, D.int (sums ws).2] ++ []) = (blockI ws).map .int := by
      unfold blockI; rw [List.map_append]; rfl
    rw [ee]
    exact mkTup_ok (by have := h.1; simp [blockI]; omega)
  show endD (m_block_of [.sh x]) = _
  rw [z]; rfl
theorem block_of_bad {x : D} (h : F_check_words [x] = .er badB) : F_block_of [x] = .er badB := by
  have z : m_block_of [.sh x] = .er badB [.sh x] := s_seqE (s_exprE (e_callE (e_cons (e_var rfl) e_nil) h))
  show endD (m_block_of [.sh x]) = _
  rw [z]; rfl
/-! ### _law_block -/
def heavyI (ws : List Int) : Int := (ws.mapIdx fun i w => ((i : Int) + 1) * w).sum
theorem lblock_ok {x : D} {ws : List Int} (hx : x.items = .ok (ws.map .int)) (hz : ws.length ≤ 900) : F_lblock [x] = .ok (.tup (ws.map .int ++ [.int ((ws.sum + ws.length) % 9973), .int ((heavyI ws + ws.length) % 9973)])) := by
  obtain ⟨hp, hr, hn⟩ := row_of hx
  rw [List.length_map] at hn
  have lc : ∀ (l : List D) (z0 : Slot), (∀ d ∈ l, ∃ i w : Int, d = .tup [.int i, .int w] ∧ 0 ≤ i ∧ i < 100000) → lcL [3, 4] (.tp [(.nm 3), (.nm 4)]) (M.pure true) (M.two (M.two (M.var 3) (M.pure (.int 1)) fun x y => (D.add x y).good) (M.var 4) fun x y => (D.mul x y).good) l [.sh x, z0, .un, .un, .un] = .ok (l.map fun d => match d with | .tup [.int i, .int w] => .int ((i + 1) * w) | d => d) [.sh x, z0, .un, .un, .un] := fun l z0 h =>
    lcL_map fun d hd => by
      obtain ⟨i, w, rfl, h1, h2⟩ := h d hd
      exact ⟨_, [.sh x, z0, .un, .sh (.int i), .sh (.int w)], rfl, e_two (e_two (e_var rfl) e_pure rfl) (e_var rfl) (mulL (by constructor <;> omega)), rfl⟩
  have lc2 := lc ((ws.map D.int).mapIdx fun i d => .tup [.int (i : Nat), d]) (.sh (.int (ws.sum + ws.length))) fun d hd => by
    obtain ⟨i, hi, e⟩ := List.mem_mapIdx.mp hd
    rw [List.length_map] at hi
    exact ⟨i, ws[i], by rw [← e, List.getElem_map], by omega, by omega⟩
  have ee : (((ws.map D.int).mapIdx fun i d => D.tup [.int (i : Nat), d]).map fun d => match d with | .tup [.int i, .int w] => D.int ((i + 1) * w) | d => d) = (ws.mapIdx fun i w => ((i : Int) + 1) * w).map .int := by
    apply List.ext_getElem
    · simp
    · intro i h1 h2
      simp
  rw [ee] at lc2
  have z : m_lblock [.sh x, .un, .un, .un, .un] = .rt (.tup (ws.map .int ++ [.int ((ws.sum + ws.length) % 9973), .int ((heavyI ws + ws.length) % 9973)])) [.sh x, .sh (.int (ws.sum + ws.length)), .sh (.int (heavyI ws + ws.length)), .un, .un] := by
    refine s_seq (ρ1 := [.sh x, .sh (.int (ws.sum + ws.length)), .un, .un, .un]) ?_ (s_seq (ρ1 := [.sh x, .sh (.int (ws.sum + ws.length)), .sh (.int (heavyI ws + ws.length)), .un, .un]) ?_ ?_)
    · exact s_set (d := .int (ws.sum + ws.length)) (e_two (e_app (e_cons (e_var rfl) e_nil) (sum_ints hx)) (e_app (e_cons (e_var rfl) e_nil) hn) rfl)
    · exact s_set (d := .int (heavyI ws + ws.length)) (e_two (k := D.add) (a := .int (heavyI ws)) (ρ1 := [.sh x, .sh (.int (ws.sum + ws.length)), .un, .un, .un]) (e_app (e_cons (e_lc (e_enum (e_cons (e_var rfl) e_nil) hx) lc2 rfl) e_nil) (sum_ints (ns := ws.mapIdx fun i w => ((i : Int) + 1) * w) rfl)) (e_app (e_cons (e_var rfl) e_nil) hn) rfl)
    · refine s_ret (e_two (a := .tup (ws.map .int)) (e_app (e_cons (e_var rfl) e_nil) (by show (match x.items with | .ok l => R.ok (D.tup l) | _ => .no) = _; rw [hx])) (e_app (e_cons (e_two (e_var rfl) e_pure (modP (by decide))) (e_cons (e_two (e_var rfl) e_pure (modP (by decide))) e_nil)) (mkTup_ok (Nat.le_of_ble_eq_true rfl))) ?_)
      show (if _ then _ else _) = _
      rw [if_pos (line_ge (by simp; omega))]
  show endD (m_lblock [.sh x, .un, .un, .un, .un]) = _
  rw [z]; rfl
/-! ### the sums, in one step -/
theorem sumsF_eq : ∀ (ws : List Int) (p h : Int) (i : Nat), (sumsF p h i ws).1 % 9973 = (p + ws.sum) % 9973 ∧ (sumsF p h i ws).2 % 9973 = (h + (ws.mapIdx fun j w => ((i + j : Nat) + 1 : Int) * w).sum) % 9973
  | [], p, h, i => by simp [sumsF]
  | w :: ws, p, h, i => by
    obtain ⟨a, b⟩ := sumsF_eq ws ((p + w) % 9973) ((h + (i + 1) * w) % 9973) (i + 1)
    unfold sumsF
    refine ⟨?_, ?_⟩
    · rw [a, List.sum_cons, Int.emod_add_emod]
      congr 1; omega
    · rw [b, List.mapIdx_cons, List.sum_cons, Int.emod_add_emod]
      have e : (ws.mapIdx fun j w => ((i + 1 + j : Nat) + 1 : Int) * w) = ws.mapIdx fun j w => ((i + (j + 1) : Nat) + 1 : Int) * w := by
        congr 1; funext j w; rw [show i + 1 + j = i + (j + 1) by omega]
      rw [e]
      congr 1
      simp only [Nat.add_zero]
      omega
theorem sumsF_range : ∀ (ws : List Int) (p h : Int) (i : Nat), ws ≠ [] → (0 ≤ (sumsF p h i ws).1 ∧ (sumsF p h i ws).1 < 9973) ∧ (0 ≤ (sumsF p h i ws).2 ∧ (sumsF p h i ws).2 < 9973)
  | [w], p, h, i, _ => by
    unfold sumsF sumsF
    exact ⟨⟨Int.emod_nonneg _ (by decide), Int.emod_lt_of_pos _ (by decide)⟩, ⟨Int.emod_nonneg _ (by decide), Int.emod_lt_of_pos _ (by decide)⟩⟩
  | w :: v :: ws, p, h, i, _ => by
    unfold sumsF
    exact sumsF_range (v :: ws) _ _ _ (by simp)
theorem heavy0 (ws : List Int) : (ws.mapIdx fun j w => ((0 + j : Nat) + 1 : Int) * w).sum = heavyI ws := by
  unfold heavyI
  congr 1
  congr 1; funext j w; rw [Nat.zero_add]
theorem sums_range {ws : List Int} (hz : ws.length ≤ 1000) : (0 ≤ (sums ws).1 ∧ (sums ws).1 < 9973) ∧ (0 ≤ (sums ws).2 ∧ (sums ws).2 < 9973) := by
  cases ws with
  | nil => decide
  | cons w ws => exact sumsF_range _ _ _ _ (by simp)
theorem sums_eq {ws : List Int} (hz : ws.length ≤ 1000) : sums ws = ((ws.sum + ws.length) % 9973, (heavyI ws + ws.length) % 9973) := by
  obtain ⟨⟨a1, a2⟩, ⟨b1, b2⟩⟩ := sums_range hz
  obtain ⟨c1, c2⟩ := sumsF_eq ws ws.length ws.length 0
  rw [heavy0] at c2
  have e1 : (sums ws).1 = (ws.sum + ws.length) % 9973 := by
    have := Int.emod_eq_of_lt a1 a2
    unfold sums at this ⊢
    rw [← this, c1, Int.add_comm]
  have e2 : (sums ws).2 = (heavyI ws + ws.length) % 9973 := by
    have := Int.emod_eq_of_lt b1 b2
    unfold sums at this ⊢
    rw [← this, c2, Int.add_comm]
  rw [← e1, ← e2]
theorem lblock_is {x : D} {ws : List Int} (hx : x.items = .ok (ws.map .int)) (hz : ws.length ≤ 900) : F_lblock [x] = .ok (.tup ((blockI ws).map .int)) := by
  rw [lblock_ok hx hz]
  unfold blockI
  rw [sums_eq (by omega), List.map_append]
  rfl
end DL

namespace DL
open PySem L2
/-! ### equality of rows of ints -/
theorem py_ints : ∀ ns : List Int, D.pyL (ns.map D.int) = some (ns.map PyData.int)
  | [] => rfl
  | n :: ns => by rw [List.map_cons]; unfold D.pyL; rw [py_ints ns]; rfl
theorem lay_ints : ∀ ns : List Int, PyData.canLayAll0 (ns.map PyData.int) = true
  | [] => by unfold PyData.canLayAll0; rfl
  | n :: ns => by rw [List.map_cons]; unfold PyData.canLayAll0 PyData.canLay0; rw [lay_ints ns]; rfl
theorem dep_ints : ∀ ns : List Int, PyData.depthAll (ns.map PyData.int) = 0
  | [] => by unfold PyData.depthAll; rfl
  | n :: ns => by rw [List.map_cons]; unfold PyData.depthAll PyData.depth; rw [dep_ints ns]; rfl
theorem shaped_tup (ns : List Int) : SeqAt.shaped (.tuple (ns.map PyData.int)) = true := by
  unfold SeqAt.shaped PyData.canLay0 PyData.depth; rw [lay_ints, dep_ints]; rfl
theorem shaped_lst (ns : List Int) : SeqAt.shaped (.list (ns.map PyData.int)) = true := by
  unfold SeqAt.shaped PyData.canLay0 PyData.depth; rw [lay_ints, dep_ints]; rfl
theorem eqv_ints : ∀ as bs : List Int, PyData.eqvAll (as.map PyData.int) (bs.map PyData.int) = decide (as = bs)
  | [], [] => by unfold PyData.eqvAll; rfl
  | [], b :: bs => by rw [List.map_cons]; unfold PyData.eqvAll; rfl
  | a :: as, [] => by rw [List.map_cons]; unfold PyData.eqvAll; rfl
  | a :: as, b :: bs => by
    rw [List.map_cons, List.map_cons]; unfold PyData.eqvAll PyData.eqv; rw [eqv_ints as bs]
    by_cases h : a = b
    · subst h
      by_cases h2 : as = bs
      · subst h2; simp
      · simp [h2]
    · simp [h]
theorem eqR_tup {neg : Bool} (as bs : List Int) : D.eqR neg (.tup (as.map .int)) (.tup (bs.map .int)) = .ok (.bl (if neg then !decide (as = bs) else decide (as = bs))) := by
  have h : ∀ ns : List Int, D.py (.tup (ns.map .int)) = some (.tuple (ns.map .int)) := fun ns => by unfold D.py; rw [py_ints]; rfl
  unfold D.eqR; rw [h, h]; dsimp only; rw [shaped_tup, shaped_tup]
  unfold PyData.eqv; rw [eqv_ints]; rfl
theorem eqR_lst {neg : Bool} (as bs : List Int) : D.eqR neg (.lst (as.map .int)) (.lst (bs.map .int)) = .ok (.bl (if neg then !decide (as = bs) else decide (as = bs))) := by
  have h : ∀ ns : List Int, D.py (.lst (ns.map .int)) = some (.list (ns.map .int)) := fun ns => by unfold D.py; rw [py_ints]; rfl
  unfold D.eqR; rw [h, h]; dsimp only; rw [shaped_lst, shaped_lst]
  unfold PyData.eqv; rw [eqv_ints]; rfl
theorem eqR_tn {neg : Bool} (as : List Int) : D.eqR neg (.tup (as.map .int)) .non = .ok (.bl neg) := by
  have h : ∀ ns : List Int, D.py (.tup (ns.map .int)) = some (.tuple (ns.map .int)) := fun ns => by unfold D.py; rw [py_ints]; rfl
  unfold D.eqR; rw [h]
  show (if SeqAt.shaped (.tuple (as.map .int)) && SeqAt.shaped .none then _ else _) = _
  rw [shaped_tup]
  cases neg <;> rfl
theorem eqR_nt {neg : Bool} (as : List Int) : D.eqR neg .non (.tup (as.map .int)) = .ok (.bl neg) := by
  have h : ∀ ns : List Int, D.py (.tup (ns.map .int)) = some (.tuple (ns.map .int)) := fun ns => by unfold D.py; rw [py_ints]; rfl
  unfold D.eqR; rw [h]
  show (if SeqAt.shaped .none && SeqAt.shaped (.tuple (as.map .int)) then _ else _) = _
  rw [shaped_tup]
  cases neg <;> rfl
theorem eqR_nn {neg : Bool} : D.eqR neg .non .non = .ok (.bl (!neg)) := by cases neg <;> rfl
/-! ### slices -/
theorem cut_end (l : List D) (k : Nat) (h : k ≤ l.length) (hk : 0 < k) : cutD l none (some (-(k : Int))) = l.take (l.length - k) := by
  unfold cutD HT.sIx
  simp only [List.drop_zero, Nat.sub_zero]
  rw [if_pos (by omega)]
  congr 1; omega
theorem cut_last (l : List D) (k : Nat) (h : k ≤ l.length) (hk : 0 < k) : cutD l (some (-(k : Int))) none = l.drop (l.length - k) := by
  unfold cutD HT.sIx
  simp only
  rw [if_pos (by omega)]
  rw [show (-(k : Int) + (l.length : Int)).toNat = l.length - k by omega]
  exact List.take_of_length_le (by rw [List.length_drop]; omega)
/-! ### words_in -/
/-- what words_in makes of a row of ints -/
def wordsI (bs : List Int) : Option (List Int) :=
  if 2 ≤ bs.length ∧ bs.length ≤ 42 ∧ (∀ i ∈ bs.take (bs.length - 2), 0 ≤ i ∧ i < 9973) ∧ [(sums (bs.take (bs.length - 2))).1, (sums (bs.take (bs.length - 2))).2] = bs.drop (bs.length - 2) then some (bs.take (bs.length - 2)) else none
def optT : Option (List Int) → D
  | some ws => .tup (ws.map .int)
  | none => .non
theorem wi_all {x : D} {l : List D} (hx : x.items = .ok l) (hl : ∀ d ∈ l, plainD d = true) : (M.notB (M.tru (M.app (M.cons (M.lc [2] (M.items (M.var 0)) (.nm 2) (M.pure true) (M.call (M.cons (M.var 2) M.nil) F_is_integer)) M.nil) D.allF))) [.sh x, .un, .un] = .ok (!(l.all isI)) [.sh x, .un, .un] :=
  e_notB (e_tru (e_app (e_cons (e_lc (e_items (e_var rfl) hx) (lcL_map (f := fun d => .bl (isI d)) fun d hd => ⟨_, _, rfl, e_call (e_cons (e_var rfl) e_nil) (is_integer_eq (hl d hd)), rfl⟩) rfl) e_nil) (all_bools l isI)) rfl)
theorem words_in_not {x : D} (hp : plainD x = true) (hr : isR x = false) : F_words_in [x] = .ok .non := by
  have e := is_row_eq hp
  rw [hr] at e
  have z : m_words_in [.sh x, .un, .un] = .rt .non [.sh x, .un, .un] := s_seqR (s_iteT (e_orT (e_notB (e_tru (e_call (e_cons (e_var rfl) e_nil) e) rfl))) (s_ret e_pure))
  show endD (m_words_in [.sh x, .un, .un]) = _
  rw [z]; rfl
theorem words_in_bad {x : D} {l : List D} (hx : x.items = .ok l) (hl : ∀ d ∈ l, plainD d = true) (h : l.length < 2 ∨ l.all isI = false) : F_words_in [x] = .ok .non := by
  obtain ⟨hp, hr, hn⟩ := row_of hx
  have e := is_row_eq hp
  rw [hr] at e
  have t0 : (M.notB (M.tru (M.call (M.cons (M.var 0) M.nil) F_is_row))) [.sh x, .un, .un] = .ok false [.sh x, .un, .un] := e_notB (e_tru (e_call (e_cons (e_var rfl) e_nil) e) rfl)
  have t1 : (M.tru (M.two (M.app (M.cons (M.var 0) M.nil) D.lenF) (M.pure (.int 2)) fun x y => (D.lt x y).good)) [.sh x, .un, .un] = .ok (decide ((l.length : Int) < 2)) [.sh x, .un, .un] := e_tru (e_two (e_app (e_cons (e_var rfl) e_nil) hn) e_pure rfl) rfl
  have t2 := wi_all hx hl
  have c : (M.orB (M.tru (M.two (M.app (M.cons (M.var 0) M.nil) D.lenF) (M.pure (.int 2)) fun x y => (D.lt x y).good)) (M.notB (M.tru (M.app (M.cons (M.lc [2] (M.items (M.var 0)) (.nm 2) (M.pure true) (M.call (M.cons (M.var 2) M.nil) F_is_integer)) M.nil) D.allF)))) [.sh x, .un, .un] = .ok true [.sh x, .un, .un] := by
    by_cases h1 : l.length < 2
    · exact e_orT (by rw [t1, decide_eq_true (by omega)])
    · rcases h with h | h
      · exact absurd h h1
      · exact e_orF (by rw [t1, decide_eq_false (by omega)]) (by rw [t2, h]; rfl)
  have z : m_words_in [.sh x, .un, .un] = .rt .non [.sh x, .un, .un] := s_seqR (s_iteT (e_orF t0 c) (s_ret e_pure))
  show endD (m_words_in [.sh x, .un, .un]) = _
  rw [z]; rfl
theorem isI_ints (bs : List Int) : (bs.map D.int).all isI = true := by
  rw [List.all_map, List.all_eq_true]; intro i _; rfl
def rng (i : Int) : Bool := decide (0 ≤ i) && decide (i < 9973)
theorem rng_all {ws : List Int} : ws.all rng = true ↔ ∀ i ∈ ws, 0 ≤ i ∧ i < 9973 := by
  rw [List.all_eq_true]
  constructor
  · intro h i hi
    have := h i hi
    unfold rng at this
    rw [Bool.and_eq_true, decide_eq_true_eq, decide_eq_true_eq] at this
    exact this
  · intro h i hi
    unfold rng
    rw [Bool.and_eq_true, decide_eq_true_eq, decide_eq_true_eq]
    exact h i hi
theorem words_in_ok {x : D} {bs : List Int} (hx : x = .tup (bs.map .int) ∨ x = .lst (bs.map .int)) (hz : bs.length ≤ 1000) : F_words_in [x] = .ok (optT (wordsI bs)) := by
  have hi : x.items = .ok (bs.map .int) := by rcases hx with rfl | rfl <;> rfl
  by_cases h2 : bs.length < 2
  · rw [words_in_bad hi (intsPlain bs) (.inl (by rw [List.length_map]; exact h2))]
    unfold wordsI
    rw [if_neg (by omega)]; rfl
  · obtain ⟨hp, hr, hn⟩ := row_of hi
    rw [List.length_map] at hn
    have e := is_row_eq hp
    rw [hr] at e
    have t0 : (M.notB (M.tru (M.call (M.cons (M.var 0) M.nil) F_is_row))) [.sh x, .un, .un] = .ok false [.sh x, .un, .un] := e_notB (e_tru (e_call (e_cons (e_var rfl) e_nil) e) rfl)
    have t1 : (M.tru (M.two (M.app (M.cons (M.var 0) M.nil) D.lenF) (M.pure (.int 2)) fun x y => (D.lt x y).good)) [.sh x, .un, .un] = .ok false [.sh x, .un, .un] := by
      rw [show (M.tru (M.two (M.app (M.cons (M.var 0) M.nil) D.lenF) (M.pure (.int 2)) fun x y => (D.lt x y).good)) [.sh x, .un, .un] = .ok (decide ((bs.length : Int) < 2)) [.sh x, .un, .un] from e_tru (e_two (e_app (e_cons (e_var rfl) e_nil) hn) e_pure rfl) rfl, decide_eq_false (by omega)]
    have t2 := wi_all hi (intsPlain bs)
    rw [isI_ints] at t2
    generalize hws : bs.take (bs.length - 2) = ws
    generalize hts : bs.drop (bs.length - 2) = ts
    have wl : ws.length = bs.length - 2 := by rw [← hws, List.length_take]; omega
    have c1 : ∀ ρ : Env, ρ[0]? = some (.sh x) → (M.app (M.cons (M.slice (M.var 0) M.noPart (M.part (M.one (M.pure (.int 2)) fun x => (D.neg x).good))) M.nil) D.tupleF) ρ = .ok (.tup (ws.map .int)) ρ := fun ρ h0 => by
      have hc : cutD (bs.map D.int) none (some (-2)) = ws.map D.int := by
        rw [show (-2 : Int) = -((2 : Nat) : Int) from rfl, cut_end _ 2 (by rw [List.length_map]; omega) (by decide), List.length_map, ← List.map_take, hws]
      rcases hx with rfl | rfl
      · exact e_app (e_cons (e_slice (d := .tup (ws.map .int)) (e_var h0) e_noPart (e_part (e_one e_pure rfl)) (by show R.ok (D.tup (cutD (bs.map .int) none (some (-2)))) = _; rw [hc])) e_nil) rfl
      · exact e_app (e_cons (e_slice (d := .lst (ws.map .int)) (e_var h0) e_noPart (e_part (e_one e_pure rfl)) (by show R.ok (D.lst (cutD (bs.map .int) none (some (-2)))) = _; rw [hc])) e_nil) rfl
    have c2 : ∀ ρ : Env, ρ[0]? = some (.sh x) → (M.app (M.cons (M.slice (M.var 0) (M.part (M.one (M.pure (.int 2)) fun x => (D.neg x).good)) M.noPart) M.nil) D.tupleF) ρ = .ok (.tup (ts.map .int)) ρ := fun ρ h0 => by
      have hc : cutD (bs.map D.int) (some (-2)) none = ts.map D.int := by
        rw [show (-2 : Int) = -((2 : Nat) : Int) from rfl, cut_last _ 2 (by rw [List.length_map]; omega) (by decide), List.length_map, ← List.map_drop, hts]
      rcases hx with rfl | rfl
      · exact e_app (e_cons (e_slice (d := .tup (ts.map .int)) (e_var h0) (e_part (e_one e_pure rfl)) e_noPart (by show R.ok (D.tup (cutD (bs.map .int) (some (-2)) none)) = _; rw [hc])) e_nil) rfl
      · exact e_app (e_cons (e_slice (d := .lst (ts.map .int)) (e_var h0) (e_part (e_one e_pure rfl)) e_noPart (by show R.ok (D.lst (cutD (bs.map .int) (some (-2)) none)) = _; rw [hc])) e_nil) rfl
    have t3 : (M.tru (M.two (M.app (M.cons (M.var 1) M.nil) D.lenF) (M.pure (.int 40)) fun x y => (D.gt x y).good)) [.sh x, .sh (.tup (ws.map .int)), .un] = .ok (decide ((40 : Int) < ws.length)) [.sh x, .sh (.tup (ws.map .int)), .un] :=
      e_tru (e_two (a := .int ws.length) (e_app (e_cons (e_var rfl) e_nil) (by show R.ok (D.int ((ws.map D.int).length : Nat)) = _; rw [List.length_map])) e_pure rfl) rfl
    have t4 : (M.notB (M.tru (M.app (M.cons (M.lc [2] (M.items (M.var 1)) (.nm 2) (M.pure true) (M.chain (M.pure (.int 0)) (M.var 2) (M.pure (.int 9973)) D.le D.lt)) M.nil) D.allF))) [.sh x, .sh (.tup (ws.map .int)), .un] = .ok (!(ws.all rng)) [.sh x, .sh (.tup (ws.map .int)), .un] := by
      have lc : lcL [2] (.nm 2) (M.pure true) (M.chain (M.pure (.int 0)) (M.var 2) (M.pure (.int 9973)) D.le D.lt) (ws.map .int) [.sh x, .sh (.tup (ws.map .int)), .un] = .ok ((ws.map D.int).map fun d => .bl (okW d)) [.sh x, .sh (.tup (ws.map .int)), .un] :=
        lcL_map fun d hd => by
          obtain ⟨i, _, rfl⟩ := List.mem_map.mp hd
          exact ⟨_, [.sh x, .sh (.tup (ws.map .int)), .sh (.int i)], rfl, e_chain e_pure (e_var rfl) rfl (fun _ => e_pure) (fun _ => rfl), rfl⟩
      have := e_notB (e_tru (e_app (e_cons (e_lc (e_items (e_var (ρ := [.sh x, .sh (.tup (ws.map .int)), .un]) (i := 1) rfl) rfl) lc rfl) e_nil) (all_bools (ws.map D.int) okW)) rfl)
      rw [wordsOk] at this
      exact this
    have t5 : (M.tru (M.two (M.call (M.cons (M.var 1) M.nil) F_sums_of) (M.app (M.cons (M.slice (M.var 0) (M.part (M.one (M.pure (.int 2)) fun x => (D.neg x).good)) M.noPart) M.nil) D.tupleF) fun x y => ((D.eqR false) x y).good)) [.sh x, .sh (.tup (ws.map .int)), .un] = .ok (decide ([(sums ws).1, (sums ws).2] = ts)) [.sh x, .sh (.tup (ws.map .int)), .un] :=
      e_tru (e_two (e_call (e_cons (e_var rfl) e_nil) (sums_of_ok (ws := ws) rfl (by omega))) (c2 _ rfl) (eqR_tup (neg := false) [(sums ws).1, (sums ws).2] ts)) rfl
    have first : ∀ {g : S} {r : Fl}, g [.sh x, .sh (.tup (ws.map .int)), .un] = r → S.seq (S.ite (M.orB (M.notB (M.tru (M.call (M.cons (M.var 0) M.nil) F_is_row))) (M.orB (M.tru (M.two (M.app (M.cons (M.var 0) M.nil) D.lenF) (M.pure (.int 2)) fun x y => (D.lt x y).good)) (M.notB (M.tru (M.app (M.cons (M.lc [2] (M.items (M.var 0)) (.nm 2) (M.pure true) (M.call (M.cons (M.var 2) M.nil) F_is_integer)) M.nil) D.allF))))) (S.ret (M.pure .non)) S.skip)
        (S.seq (S.set 1 (M.app (M.cons (M.slice (M.var 0) M.noPart (M.part (M.one (M.pure (.int 2)) fun x => (D.neg x).good))) M.nil) D.tupleF)) g) [.sh x, .un, .un] = r := fun {g r} h =>
      s_seq (s_iteF (e_orF t0 (e_orF t1 t2)) s_skip) (s_seq (s_set (c1 _ rfl)) h)
    have z : ∃ ρ, m_words_in [.sh x, .un, .un] = .rt (optT (wordsI bs)) ρ := by
      unfold wordsI
      rw [hws, hts]
      by_cases h3 : ws.length ≤ 40
      · by_cases h4 : ws.all rng = true
        · by_cases h5 : [(sums ws).1, (sums ws).2] = ts
          · rw [if_pos ⟨by omega, by omega, rng_all.mp h4, h5⟩]
            exact ⟨_, first (s_seq (s_iteF (e_orF (by rw [t3, decide_eq_false (by omega)]) (by rw [t4, h4]; rfl)) s_skip) (s_ret (e_iteT (by rw [t5, decide_eq_true h5]) (e_var rfl))))⟩
          · rw [if_neg fun w => h5 w.2.2.2]
            exact ⟨_, first (s_seq (s_iteF (e_orF (by rw [t3, decide_eq_false (by omega)]) (by rw [t4, h4]; rfl)) s_skip) (s_ret (e_iteF (by rw [t5, decide_eq_false h5]) e_pure)))⟩
        · rw [if_neg fun w => h4 (rng_all.mpr w.2.2.1)]
          exact ⟨_, first (s_seqR (s_iteT (e_orF (by rw [t3, decide_eq_false (by omega)]) (by rw [t4, Bool.eq_false_iff.mpr h4]; rfl)) (s_ret e_pure)))⟩
      · rw [if_neg fun w => h3 (by have := w.2.1; omega)]
        exact ⟨_, first (s_seqR (s_iteT (e_orT (by rw [t3, decide_eq_true (by omega)])) (s_ret e_pure)))⟩
    obtain ⟨ρ, z⟩ := z
    show endD (m_words_in [.sh x, .un, .un]) = _
    rw [z]; rfl
end DL

namespace DL
open PySem L2
/-! ### _law_number, _law_take -/
theorem fdivP {i j : Int} (h : 0 < j ∧ j < 1073741824) : D.fdiv (.int i) (.int j) = .ok (.int (i / j)) := if_pos h
theorem eqR_fl {neg : Bool} (as : List Int) : D.eqR neg (.fls (as.map .int)) (.lst []) = .ok (.bl (if neg then !decide (as = []) else decide (as = []))) := by
  have h : D.py (.fls (as.map .int)) = some (.list (as.map .int)) := by unfold D.py; rw [py_ints]; rfl
  unfold D.eqR; rw [h]
  show (if SeqAt.shaped (.list (as.map .int)) && SeqAt.shaped (.list (([] : List Int).map .int)) then R.ok (D.bl (if neg then !PyData.eqv (.list (as.map .int)) (.list (([] : List Int).map .int)) else PyData.eqv (.list (as.map .int)) (.list (([] : List Int).map .int)))) else _) = _
  rw [shaped_lst, shaped_lst]
  unfold PyData.eqv; rw [eqv_ints]; rfl
theorem atI_pos {α : Type} {l : List α} {k : Int} (h0 : 0 ≤ k) (h1 : k < l.length) : atI l k = l[k.toNat]? := by
  unfold atI ixN
  rw [if_pos h0, if_pos (by omega)]; rfl
theorem ix_fls {s : List Int} {k : Int} (h0 : 0 ≤ k) (h1 : k < s.length) : ∃ c, D.ix (.fls (s.map .int)) (.int k) = .ok (.int c) := by
  have hk : k.toNat < s.length := by omega
  refine ⟨s[k.toNat], ?_⟩
  show (match atI (s.map D.int) k with | some d => R.ok d | none => .no) = _
  rw [atI_pos h0 (by rw [List.length_map]; exact h1), List.getElem?_map, List.getElem?_eq_getElem hk]; rfl
theorem num_loop {a b c d e : Slot} : ∀ (ds : List D) (r : Int) (s5 : Slot), ∃ r' s5', forL (.nm 5) (S.set 4 (M.two (M.var 4) (M.pure (.int 1009)) fun x y => (D.fdiv x y).good)) ds [a, b, c, d, .sh (.int r), s5, e] = .nx [a, b, c, d, .sh (.int r'), s5', e]
  | [], r, s5 => ⟨r, s5, rfl⟩
  | x :: ds, r, s5 => by
    obtain ⟨r', s5', h⟩ := num_loop (a := a) (b := b) (c := c) (d := d) (e := e) ds (r / 1009) (.sh x)
    exact ⟨r', s5', for_cons rfl (s_set (d := .int (r / 1009)) (e_two (e_var rfl) e_pure (fdivP (by decide)))) h⟩
theorem number_ok {s : List Int} {k : Int} (hk : 0 ≤ k) (hs : s.length ≤ 63) : ∃ r, F_number [.fls (s.map .int), .int k] = .ok (.int r) := by
  have hn : D.lenF [D.fls (s.map .int)] = .ok (.int s.length) := by show R.ok (D.int ((s.map D.int).length : Nat)) = _; rw [List.length_map]
  have first : ∃ c t : Int, S.asg (.tp [(.nm 2), (.nm 3)]) (M.ite (M.tru (M.two (M.var 0) (M.app M.nil D.mkLst) fun x y => ((D.eqR true) x y).good)) (M.app (M.cons (M.two (M.var 0) (M.two (M.var 1) (M.app (M.cons (M.var 0) M.nil) D.lenF) fun x y => (D.mod x y).good) fun x y => (D.ix x y).good) (M.cons (M.two (M.var 1) (M.app (M.cons (M.var 0) M.nil) D.lenF) fun x y => (D.fdiv x y).good) M.nil)) D.mkTup) (M.app (M.cons (M.pure (.int 12345)) (M.cons (M.pure (.int 0)) M.nil)) D.mkTup)) [.sh (.fls (s.map .int)), .sh (.int k), .un, .un, .un, .un, .un] = .nx [.sh (.fls (s.map .int)), .sh (.int k), .sh (.int c), .sh (.int t), .un, .un, .un] := by
    have tt : (M.tru (M.two (M.var 0) (M.app M.nil D.mkLst) fun x y => ((D.eqR true) x y).good)) [.sh (.fls (s.map .int)), .sh (.int k), .un, .un, .un, .un, .un] = .ok (!decide (s = [])) [.sh (.fls (s.map .int)), .sh (.int k), .un, .un, .un, .un, .un] :=
      e_tru (e_two (e_var rfl) (e_app e_nil (mkLst_ok (Nat.le_of_ble_eq_true rfl))) (eqR_fl s)) rfl
    by_cases h : s = []
    · exact ⟨12345, 0, s_asg (d := .tup [.int 12345, .int 0]) (e_iteF (by rw [tt, decide_eq_true h]; rfl) (e_app (e_cons e_pure (e_cons e_pure e_nil)) (mkTup_ok (Nat.le_of_ble_eq_true rfl)))) rfl⟩
    · have hl : 0 < s.length := List.length_pos_iff.mpr h
      obtain ⟨c, hc⟩ := ix_fls (s := s) (k := k % s.length) (Int.emod_nonneg _ (by omega)) (Int.emod_lt_of_pos _ (by omega))
      exact ⟨c, k / s.length, s_asg (d := .tup [.int c, .int (k / s.length)]) (e_iteT (by rw [tt, decide_eq_false h]; rfl) (e_app (e_cons (e_two (e_var rfl) (e_two (e_var rfl) (e_app (e_cons (e_var rfl) e_nil) hn) (modP (by omega))) hc) (e_cons (e_two (e_var rfl) (e_app (e_cons (e_var rfl) e_nil) hn) (fdivP (by omega))) e_nil)) (mkTup_ok (Nat.le_of_ble_eq_true rfl)))) rfl⟩
  obtain ⟨c, t, first⟩ := first
  have second : ∃ r : Int, S.set 4 (M.ite (M.tru (M.two (M.var 3) (M.pure (.int 60)) fun x y => (D.lt x y).good)) (M.two (M.var 2) (M.two (M.pure (.int 10)) (M.pure (.int 18)) fun x y => (D.pow x y).good) fun x y => (D.sub x y).good) (M.pure (.int 0))) [.sh (.fls (s.map .int)), .sh (.int k), .sh (.int c), .sh (.int t), .un, .un, .un] = .nx [.sh (.fls (s.map .int)), .sh (.int k), .sh (.int c), .sh (.int t), .sh (.int r), .un, .un] := by
    have tt : (M.tru (M.two (M.var 3) (M.pure (.int 60)) fun x y => (D.lt x y).good)) [.sh (.fls (s.map .int)), .sh (.int k), .sh (.int c), .sh (.int t), .un, .un, .un] = .ok (decide (t < 60)) [.sh (.fls (s.map .int)), .sh (.int k), .sh (.int c), .sh (.int t), .un, .un, .un] := e_tru (e_two (e_var rfl) e_pure rfl) rfl
    by_cases h : t < 60
    · rw [decide_eq_true h] at tt; exact ⟨c - 10 ^ 18, s_set (d := .int (c - 10 ^ 18)) (e_iteT tt (e_two (e_var rfl) (e_two e_pure e_pure (d := .int (10 ^ 18)) rfl) rfl))⟩
    · rw [decide_eq_false h] at tt; exact ⟨0, s_set (e_iteF tt e_pure)⟩
  obtain ⟨r, second⟩ := second
  obtain ⟨r2, s5, third⟩ := num_loop (a := .sh (.fls (s.map .int))) (b := .sh (.int k)) (c := .sh (.int c)) (d := .sh (.int t)) (e := .un) (rangeD 0 (t % 60).toNat) r .un
  have ht := Int.emod_nonneg t (show (60 : Int) ≠ 0 by decide)
  have ht2 := Int.emod_lt_of_pos t (show (0 : Int) < 60 by decide)
  have test : (M.tru (M.two (M.var 4) (M.pure (.int 0)) fun x y => (D.gt x y).good)) [.sh (.fls (s.map .int)), .sh (.int k), .sh (.int c), .sh (.int t), .sh (.int r2), s5, .un] = .ok (decide (0 < r2)) [.sh (.fls (s.map .int)), .sh (.int k), .sh (.int c), .sh (.int t), .sh (.int r2), s5, .un] := e_tru (e_two (e_var rfl) e_pure rfl) rfl
  have z : ∃ q ρ, m_number [.sh (.fls (s.map .int)), .sh (.int k), .un, .un, .un, .un, .un] = .rt (.int q) ρ := by
    by_cases h : 0 < r2
    · refine ⟨r2 % 1009, [.sh (.fls (s.map .int)), .sh (.int k), .sh (.int c), .sh (.int t), .sh (.int r2), s5, .un], s_seq first (s_seq second (s_seq (s_for (e_range1 (e_cons (e_two (e_app (e_cons (e_var rfl) e_nil) rfl) e_pure (modP (by decide))) e_nil) (by constructor <;> omega)) third) (s_seqR (s_iteT (by rw [test, decide_eq_true h]) (s_ret ?_)))))⟩
      exact e_two (e_app (e_cons (e_var rfl) e_nil) rfl) e_pure (modP (by decide))
    · generalize hb : ((c + 977 * k) * 48271 + 31 * s.length) % 2147483647 = bl
      have b0 : 0 ≤ bl := by rw [← hb]; exact Int.emod_nonneg _ (by decide)
      have b1 : bl < 2147483647 := by rw [← hb]; exact Int.emod_lt_of_pos _ (by decide)
      generalize hb2 : (bl * bl + 40503 * k) % 2147483629 = b2
      refine ⟨(b2 * 69621 + b2 / 977) % 2147483587, [.sh (.fls (s.map .int)), .sh (.int k), .sh (.int c), .sh (.int t), .sh (.int r2), s5, .sh (.int b2)], s_seq first (s_seq second (s_seq (s_for (e_range1 (e_cons (e_two (e_app (e_cons (e_var rfl) e_nil) rfl) e_pure (modP (by decide))) e_nil) (by constructor <;> omega)) third) (s_seq (s_iteF (by rw [test, decide_eq_false h]) s_skip) (s_seq (ρ1 := [.sh (.fls (s.map .int)), .sh (.int k), .sh (.int c), .sh (.int t), .sh (.int r2), s5, .sh (.int bl)]) ?_ (s_seq (ρ1 := [.sh (.fls (s.map .int)), .sh (.int k), .sh (.int c), .sh (.int t), .sh (.int r2), s5, .sh (.int b2)]) ?_ ?_)))))⟩
      · refine s_set (d := .int bl) (e_two (e_two (e_two (e_app (e_cons (e_two (e_var rfl) (e_two e_pure (e_var rfl) (mulL (by decide))) rfl) e_nil) rfl) e_pure (mulR (by decide))) (e_two e_pure (e_app (e_cons (e_var rfl) e_nil) hn) (mulL (by decide))) rfl) e_pure ?_)
        rw [modP (by decide), hb]
      · refine s_set (d := .int b2) (e_two (e_two (e_two (e_var rfl) (e_var rfl) (mulL (by constructor <;> omega))) (e_two e_pure (e_var rfl) (mulL (by decide))) rfl) e_pure ?_)
        rw [modP (by decide), hb2]
      · refine s_ret (e_app (e_cons (e_two (e_two (e_two (e_var rfl) e_pure (mulR (by decide))) (e_two (e_var rfl) e_pure (fdivP (by decide))) rfl) e_pure (modP (by decide))) e_nil) rfl)
  obtain ⟨q, ρ, z⟩ := z
  refine ⟨q, ?_⟩
  show endD (m_number [.sh (.fls (s.map .int)), .sh (.int k), .un, .un, .un, .un, .un]) = _
  rw [z]; rfl
/-- the draw -/
def drawD (s : List Int) (k : Int) : D := .lst [.fls (s.map .int), .int k]
theorem take_ok {s : List Int} {k m : Int} (hk : 0 ≤ k) (hs : s.length ≤ 63) (hm : 0 < m) : ∃ r, 0 ≤ r ∧ r < m ∧ F_take (drawD s k) [.int m] = .ok (.int r) (drawD s (k + 1)) := by
  obtain ⟨q, hq⟩ := number_ok (s := s) (k := k + 1) (by omega) hs
  refine ⟨q % m, Int.emod_nonneg _ (by omega), Int.emod_lt_of_pos _ hm, ?_⟩
  have z : m_take [.ow (drawD s k), .sh (.int m)] = .rt (.int (q % m)) [.ow (drawD s (k + 1)), .sh (.int m)] := by
    refine s_seq (ρ1 := [.ow (drawD s (k + 1)), .sh (.int m)]) rfl (s_ret (e_two (e_app (e_cons (e_call (e_cons (e_oix (d := drawD s (k + 1)) (a := drawD s (k + 1)) rfl e_pure rfl rfl) (e_cons (e_app (e_cons (e_oix (d := drawD s (k + 1)) (a := drawD s (k + 1)) rfl e_pure rfl rfl) e_nil) rfl) e_nil)) hq) e_nil) rfl) (e_var rfl) (modP hm)))
  show endI (m_take [.ow (drawD s k), .sh (.int m)]) = _
  rw [z]; rfl
end DL

namespace DL
open PySem L2
section
variable {ρ ρ1 ρ2 : Env} {f g : M D} {fs : M (List D)} {a d d' : D} {as bs ds : List D} {i : Nat} {v : Bool}
theorem s_putI {l : List D} {v : D} {n : Int} {j : Nat} (h1 : f ρ = .ok v ρ1) (h0 : ρ1[i]? = some (.ow a)) (h2 : g ρ1 = .ok (.int n) ρ2) (h3 : ρ2[i]? = some (.ow (.lst l))) (h4 : ixN l.length n = some j) : S.putI i f g ρ = .nx (ρ2.set i (.ow (.lst (l.set j v)))) := by
  unfold S.putI; rw [h1]; dsimp only; rw [h0]; dsimp only; rw [h2]; dsimp only; rw [h3]; dsimp only; rw [h4]
theorem e_make {cn c : Str} {G : D → List D → RI} {ns : List Str} {vs : List D} (h1 : fs ρ = .ok ds ρ1) (h2 : G (.obj cn [] []) ds = .ok .non (.obj c ns vs)) : M.make cn G fs ρ = .ok (.obj c ns vs) ρ1 := by
  unfold M.make M.bind; rw [h1]; simp only [RM.bind]; rw [h2]
theorem e_meth {l : List (Str × (List D → R D))} {mn c : Str} {ns : List Str} {F : List D → R D} (h1 : f ρ = .ok (.obj c ns ds) ρ1) (h0 : mn ∉ ns) (hl : l.lookup c = some F) (h2 : fs ρ1 = .ok as ρ2) (h3 : F (.obj c ns ds :: as) = .ok d) : M.meth l mn f fs ρ = .ok d ρ2 := by
  unfold M.meth M.bind; rw [h1]; simp only [RM.bind, if_neg h0, hl]; rw [h2]; simp only [RM.bind, M.lift]; rw [h3]; rfl
theorem e_truO {l : List (Str × (List D → R D))} (h1 : f ρ = .ok a ρ1) (h2 : D.truO l a = .ok v) : M.truO l f ρ = .ok v ρ1 := by
  unfold M.truO M.bind; rw [h1]; simp only [RM.bind, M.lift]; rw [h2]; rfl
end
/-- a comprehension that keeps some of the ints -/
theorem lcL_ints {own : List Nat} {t : Tg} {tt : M Bool} {te : M D} {ρ : Env} {p : Int → Bool} : ∀ {l : List Int}, (∀ i ∈ l, ∃ ρ1, asgD t (.int i) ρ = some ρ1 ∧ tt ρ1 = .ok (p i) ρ1 ∧ te ρ1 = .ok (.int i) ρ1 ∧ wipeZ ρ1 own = ρ) → lcL own t tt te (l.map .int) ρ = .ok ((l.filter p).map .int) ρ
  | [], _ => rfl
  | i :: l, h => by
    obtain ⟨ρ1, h1, h2, h3, h4⟩ := h i List.mem_cons_self
    have ih := lcL_ints (l := l) fun j hj => h j (List.mem_cons_of_mem _ hj)
    rw [List.map_cons]; unfold lcL
    rw [h1]; dsimp only; rw [h2]
    cases hp : p i with
    | true => dsimp only; rw [h3]; dsimp only; rw [h4, ih, List.filter_cons_of_pos hp]; rfl
    | false => dsimp only; rw [h4, ih, List.filter_cons_of_neg (by rw [hp]; exact Bool.false_ne_true)]
theorem intsOf {x : D} {ps : List Int} (hx : x.items = .ok (ps.map .int)) : x.ints = some ps := by
  unfold D.ints; rw [hx]; dsimp only; rw [intsL_map]
/-! ### check_places -/
def okP (m : Int) : D → Bool
  | .int i => decide (0 ≤ i) && decide (i < m + 2)
  | _ => false
theorem cp_el {ρ : Env} {m : Int} {d : D} (hk : ρ[2]? = some (.sh d)) (h0 : ρ[0]? = some (.sh (.int m))) (h : plainD d = true) : (M.andV (M.call (M.cons (M.var 2) M.nil) F_is_integer) (M.chain (M.pure (.int 0)) (M.var 2) (M.two (M.var 0) (M.pure (.int 2)) fun x y => (D.add x y).good) D.le D.lt)) ρ = .ok (.bl (okP m d)) ρ := by
  have e := is_integer_eq h
  have c : (M.call (M.cons (M.var 2) M.nil) F_is_integer) ρ = .ok (.bl (isI d)) ρ := e_call (e_cons (e_var hk) e_nil) e
  cases d with
  | int i => exact e_andVT c rfl (e_chain e_pure (e_var hk) rfl (fun _ => e_two (e_var h0) e_pure rfl) (fun _ => rfl))
  | _ => exact e_andVF c rfl
theorem okP_all {m : Int} {ps : List Int} (h : ∀ i ∈ ps, 0 ≤ i ∧ i < m + 2) : (ps.map D.int).all (okP m) = true := by
  rw [List.all_map, List.all_eq_true]
  intro i hi
  show (decide (0 ≤ i) && decide (i < m + 2)) = true
  rw [decide_eq_true (h i hi).1, decide_eq_true (h i hi).2]; rfl
theorem check_places_ok {m : Int} {x : D} {ps : List Int} (hx : x.items = .ok (ps.map .int)) (h1 : 1 ≤ m) (h2 : m ≤ 40) (hr : ∀ i ∈ ps, 0 ≤ i ∧ i < m + 2) (hz : ps.length < 64) (hn : (sortU ps).length = ps.length) : F_check_places [.int m, x] = .ok .non := by
  obtain ⟨hp, hrow, hlen⟩ := row_of hx
  have e := is_row_eq hp
  rw [hrow] at e
  rw [List.length_map] at hlen
  have c1 : (M.orB (M.notB (M.tru (M.call (M.cons (M.var 0) M.nil) F_is_integer))) (M.orB (M.notB (M.tru (M.chain (M.pure (.int 1)) (M.var 0) (M.pure (.int 40)) D.le D.le))) (M.notB (M.tru (M.call (M.cons (M.var 1) M.nil) F_is_row))))) [.sh (.int m), .sh x, .un] = .ok false [.sh (.int m), .sh x, .un] := by
    refine e_orF (e_notB (v := true) (e_tru (e_call (e_cons (e_var rfl) e_nil) rfl) rfl)) (e_orF ?_ (e_notB (v := true) (e_tru (e_call (e_cons (e_var rfl) e_nil) e) rfl)))
    have z : (M.tru (M.chain (M.pure (.int 1)) (M.var 0) (M.pure (.int 40)) D.le D.le)) [.sh (.int m), .sh x, .un] = .ok (decide (1 ≤ m) && decide (m ≤ 40)) [.sh (.int m), .sh x, .un] := e_tru (e_chain e_pure (e_var rfl) rfl (fun _ => e_pure) (fun _ => rfl)) rfl
    rw [decide_eq_true h1, decide_eq_true h2] at z
    exact e_notB z
  have lc : lcL [2] (.nm 2) (M.pure true) (M.andV (M.call (M.cons (M.var 2) M.nil) F_is_integer) (M.chain (M.pure (.int 0)) (M.var 2) (M.two (M.var 0) (M.pure (.int 2)) fun x y => (D.add x y).good) D.le D.lt)) (ps.map .int) [.sh (.int m), .sh x, .un] = .ok ((ps.map D.int).map fun d => .bl (okP m d)) [.sh (.int m), .sh x, .un] :=
    lcL_map fun d hd => ⟨_, _, rfl, cp_el rfl rfl (intsPlain ps d hd), rfl⟩
  have c2 : (M.orB (M.notB (M.tru (M.app (M.cons (M.lc [2] (M.items (M.var 1)) (.nm 2) (M.pure true) (M.andV (M.call (M.cons (M.var 2) M.nil) F_is_integer) (M.chain (M.pure (.int 0)) (M.var 2) (M.two (M.var 0) (M.pure (.int 2)) fun x y => (D.add x y).good) D.le D.lt))) M.nil) D.allF))) (M.tru (M.two (M.one (M.var 1) fun d => (D.lenSet d).good) (M.app (M.cons (M.var 1) M.nil) D.lenF) fun x y => (D.lt x y).good))) [.sh (.int m), .sh x, .un] = .ok false [.sh (.int m), .sh x, .un] := by
    have al := all_bools (ps.map D.int) (okP m)
    rw [okP_all hr] at al
    have ls : D.lenSet x = .ok (.int ps.length) := by
      unfold D.lenSet D.setU; rw [intsOf hx]; dsimp only; rw [if_pos hz]; dsimp only; rw [hn]
    have z : (M.tru (M.two (M.one (M.var 1) fun d => (D.lenSet d).good) (M.app (M.cons (M.var 1) M.nil) D.lenF) fun x y => (D.lt x y).good)) [.sh (.int m), .sh x, .un] = .ok (decide ((ps.length : Int) < ps.length)) [.sh (.int m), .sh x, .un] := e_tru (e_two (e_one (e_var rfl) ls) (e_app (e_cons (e_var rfl) e_nil) hlen) rfl) rfl
    rw [decide_eq_false (by omega)] at z
    exact e_orF (e_notB (v := true) (e_tru (e_app (e_cons (e_lc (e_items (e_var rfl) hx) lc rfl) e_nil) al) rfl)) z
  have z : m_check_places [.sh (.int m), .sh x, .un] = .nx [.sh (.int m), .sh x, .un] := s_seq (s_iteF c1 s_skip) (s_iteF c2 s_skip)
  show endD (m_check_places [.sh (.int m), .sh x, .un]) = _
  rw [z]; rfl
end DL

namespace DL
open PySem L2
def iv : Int → Nat → List Int
  | _, 0 => []
  | a, k + 1 => a :: iv (a + 1) k
def subs : List Int → List (List Int)
  | [] => [[]]
  | x :: r => (subs r).map (x :: ·) ++ subs r
def rowOf (inner : List Int) (f0 f1 : Bool) : Option (List Int) := match F_changes_of [.lst (inner.map .int), .lst [.bl f0, .bl f1]] with
  | .ok (.lst l) => D.intsL l
  | _ => none
def setW : List Int → List (Int × Int) → List Int
  | ws, [] => ws
  | ws, p :: q => setW (ws.set p.1.toNat (p.2 % 9973)) q
def upto (n : Nat) : List Int := (List.range n).map fun (i : Nat) => (0 : Int) + i
def diffs (a b : List Int) : List Int := (upto a.length).filter fun i => !(a[i.toNat]? == b[i.toNat]?)
def chkM (inner row : List Int) (f0 f1 : Bool) (m : Nat) : Bool :=
  !(inner.all fun i => decide (i < m)) || (let ws := setW (List.replicate m 0) (inner.zip row); decide (diffs (blockI (List.replicate m 0)) (blockI ws) = inner ++ ((if f0 then [(m : Int)] else []) ++ (if f1 then [(m : Int) + 1] else []))))
def chkR (inner : List Int) (f0 f1 : Bool) : Bool := match rowOf inner f0 f1 with
  | some row => decide (row.length = inner.length) && (chkM inner row f0 f1 1 && chkM inner row f0 f1 2 && chkM inner row f0 f1 3 && chkM inner row f0 f1 4 && chkM inner row f0 f1 5 && chkM inner row f0 f1 6 && chkM inner row f0 f1 7 && chkM inner row f0 f1 8)
  | none => false
def cnt (f0 f1 : Bool) : Nat := (if f0 then 1 else 0) + (if f1 then 1 else 0)
def due (p : List Int) (f0 f1 : Bool) : Bool := !p.isEmpty && decide (3 ≤ p.length + cnt f0 f1) && decide (p.length + cnt f0 f1 ≤ 5)
theorem cert00 : ((subs (upto 8)).all fun p => !due p false false || chkR p false false) = true := by decide +kernel
theorem cert01 : ((subs (upto 8)).all fun p => !due p false true || chkR p false true) = true := by decide +kernel
theorem cert10 : ((subs (upto 8)).all fun p => !due p true false || chkR p true false) = true := by decide +kernel
theorem cert11 : ((subs (upto 8)).all fun p => !due p true true || chkR p true true) = true := by decide +kernel
theorem cert {p : List Int} {f0 f1 : Bool} (hp : p ∈ subs (upto 8)) (h : due p f0 f1 = true) : chkR p f0 f1 = true := by
  cases f0 <;> cases f1
  · have := List.all_eq_true.mp cert00 p hp; rw [h] at this; exact this
  · have := List.all_eq_true.mp cert01 p hp; rw [h] at this; exact this
  · have := List.all_eq_true.mp cert10 p hp; rw [h] at this; exact this
  · have := List.all_eq_true.mp cert11 p hp; rw [h] at this; exact this
/-! ### sorted places -/
inductive Inc : Int → Int → List Int → Prop
  | nil {a b : Int} : Inc a b []
  | cons {a b x : Int} {r : List Int} (h1 : a ≤ x) (h2 : x < b) (h3 : Inc (x + 1) b r) : Inc a b (x :: r)
theorem upto_iv : ∀ (n : Nat) (a : Int), (List.range n).map (fun (i : Nat) => a + i) = iv a n
  | 0, a => rfl
  | n + 1, a => by
    rw [List.range_succ_eq_map, List.map_cons, List.map_map]
    show (a + (0 : Nat)) :: _ = a :: iv (a + 1) n
    rw [← upto_iv n (a + 1)]
    congr 1
    · omega
    · apply List.map_congr_left; intro i _; show a + ((i + 1 : Nat) : Int) = a + 1 + i; omega
theorem inc_subs : ∀ (n : Nat) (a : Int) (p : List Int), Inc a (a + n) p → p ∈ subs (iv a n)
  | 0, a, p, h => by
    cases h with
    | nil => exact List.mem_cons_self
    | cons h1 h2 h3 => omega
  | n + 1, a, p, h => by
    show p ∈ (subs (iv (a + 1) n)).map (a :: ·) ++ subs (iv (a + 1) n)
    cases h with
    | nil => exact List.mem_append_right _ (inc_subs n (a + 1) [] .nil)
    | @cons _ _ x r h1 h2 h3 =>
      by_cases e : x = a
      · subst e
        refine List.mem_append_left _ (List.mem_map.mpr ⟨r, inc_subs n (x + 1) r ?_, rfl⟩)
        rw [show x + 1 + (n : Int) = x + ((n + 1 : Nat) : Int) by omega]; exact h3
      · refine List.mem_append_right _ (inc_subs n (a + 1) (x :: r) (.cons (by omega) (by omega) ?_))
        rw [show a + 1 + (n : Int) = a + ((n + 1 : Nat) : Int) by omega]; exact h3
theorem Inc.mono {a a' b : Int} {p : List Int} (h : Inc a b p) (k : a' ≤ a) : Inc a' b p := by
  cases h with
  | nil => exact .nil
  | cons h1 h2 h3 => exact .cons (by omega) h2 h3
theorem insU_inc {x b : Int} (hb : x < b) : ∀ {a : Int} {p : List Int}, a ≤ x → Inc a b p → Inc a b (insU x p)
  | a, [], h, _ => .cons h hb .nil
  | a, y :: r, h, .cons h1 h2 h3 => by
    unfold insU
    by_cases c : x < y
    · rw [if_pos c]; exact .cons h hb (.cons (by omega) h2 h3)
    · rw [if_neg c]
      by_cases e : x = y
      · rw [if_pos e]; exact .cons h1 h2 h3
      · rw [if_neg e]; exact .cons h1 h2 (insU_inc hb (by omega) h3)
theorem sortU_inc {b : Int} : ∀ {l : List Int}, (∀ i ∈ l, 0 ≤ i ∧ i < b) → Inc 0 b (sortU l)
  | [], _ => .nil
  | x :: r, h => insU_inc (h x List.mem_cons_self).2 (h x List.mem_cons_self).1 (sortU_inc fun i hi => h i (List.mem_cons_of_mem _ hi))
theorem Inc.filt {m b : Int} : ∀ {a : Int} {p : List Int}, Inc a b p → Inc a m (p.filter fun i : Int => decide (i < m))
  | _, [], _ => .nil
  | _, x :: r, .cons h1 h2 h3 => by
    by_cases c : x < m
    · rw [List.filter_cons_of_pos (by simp only [decide_eq_true c])]; exact .cons h1 c h3.filt
    · rw [List.filter_cons_of_neg (by simp only [decide_eq_false c]; exact Bool.false_ne_true)]; exact h3.filt.mono (by omega)
theorem Inc.wide {b c : Int} (k : b ≤ c) : ∀ {a : Int} {p : List Int}, Inc a b p → Inc a c p
  | _, [], _ => .nil
  | _, x :: r, .cons h1 h2 h3 => .cons h1 (by omega) (h3.wide k)
/-! what is asked of sorted places: by trying all of them -/
def inn (m : Nat) (p : List Int) : List Int := p.filter fun i : Int => decide (i < (m : Int))
def sms (m : Nat) (p : List Int) : List Int := p.filter fun i : Int => decide (i ≥ (m : Int))
def f0 (m : Nat) (p : List Int) : Bool := decide ((m : Int) ∈ sms m p.reverse)
def f1 (m : Nat) (p : List Int) : Bool := decide ((m : Int) + 1 ∈ sms m p.reverse)
def fact (m : Nat) (p : List Int) : Bool :=
  decide (sortI p = p) && (decide (sortI p.reverse = p) && (decide ((sortU p).length = p.length) && (decide ((sortU p.reverse).length = p.length) &&
  ((p.all fun i : Int => decide (0 ≤ i) && decide (i < (m : Int) + 2)) &&
  (((inn m p).all fun i : Int => decide (0 ≤ i) && decide (i < (m : Int))) &&
  (decide (p = inn m p ++ ((if f0 m p then [(m : Int)] else []) ++ (if f1 m p then [(m : Int) + 1] else [])))
  && (decide ((sms m p.reverse).length = cnt (f0 m p) (f1 m p)) && decide (sortI p.tail = p.tail))))))))
theorem facts1 : ((subs (upto 3)).all (fact 1)) = true := by decide +kernel
theorem facts2 : ((subs (upto 4)).all (fact 2)) = true := by decide +kernel
theorem facts3 : ((subs (upto 5)).all (fact 3)) = true := by decide +kernel
theorem facts4 : ((subs (upto 6)).all (fact 4)) = true := by decide +kernel
theorem facts5 : ((subs (upto 7)).all (fact 5)) = true := by decide +kernel
theorem facts6 : ((subs (upto 8)).all (fact 6)) = true := by decide +kernel
theorem facts7 : ((subs (upto 9)).all (fact 7)) = true := by decide +kernel
theorem facts8 : ((subs (upto 10)).all (fact 8)) = true := by decide +kernel
theorem inn_subs {m : Nat} (h8 : m ≤ 8) {p : List Int} (h : Inc 0 (m + 2) p) : inn m p ∈ subs (upto 8) := by
  unfold upto; rw [upto_iv]
  exact inc_subs 8 0 _ ((h.filt (m := (m : Int))).wide (by omega))
theorem facts {m : Nat} (h1 : 1 ≤ m) (h8 : m ≤ 8) {p : List Int} (h : Inc 0 (m + 2) p) : fact m p = true := by
  have q : p ∈ subs (upto (m + 2)) := by
    unfold upto; rw [upto_iv]; exact inc_subs (m + 2) 0 p (by rw [show (0 : Int) + ((m + 2 : Nat) : Int) = (m : Int) + 2 by omega]; exact h)
  rcases (by omega : m = 1 ∨ m = 2 ∨ m = 3 ∨ m = 4 ∨ m = 5 ∨ m = 6 ∨ m = 7 ∨ m = 8) with e | e | e | e | e | e | e | e <;> subst e
  · exact List.all_eq_true.mp facts1 p q
  · exact List.all_eq_true.mp facts2 p q
  · exact List.all_eq_true.mp facts3 p q
  · exact List.all_eq_true.mp facts4 p q
  · exact List.all_eq_true.mp facts5 p q
  · exact List.all_eq_true.mp facts6 p q
  · exact List.all_eq_true.mp facts7 p q
  · exact List.all_eq_true.mp facts8 p q
end DL

namespace DL
open PySem L2
/-! ### judge_noticed -/
theorem inR_ints {i : Int} (l : List Int) : D.inR false (.int i) (.lst (l.map .int)) = .ok (.bl (decide (i ∈ l))) := by
  have h1 : ∀ l : List Int, D.vFL (l.map .int) = some (l.map V.int) := fun l => by
    induction l with
    | nil => rfl
    | cons a l ih => rw [List.map_cons]; unfold D.vFL; rw [ih]; rfl
  have h2 : inV (.int i) (l.map V.int) = decide (i ∈ l) := by
    induction l with
    | nil => rfl
    | cons a l ih =>
      have e : inV (.int i) ((a :: l).map V.int) = (eqV (.int a) (.int i) || inV (.int i) (l.map V.int)) := rfl
      have e2 : eqV (.int a) (.int i) = decide (i = a) := by
        by_cases c : i = a
        · subst c; rw [decide_eq_true rfl]; simp [eqV]
        · rw [decide_eq_false c]; simp [eqV]; omega
      rw [e, e2, ih, Bool.eq_iff_iff]; simp
  unfold D.inR D.items
  dsimp only
  rw [h1, show D.vF (.int i) = some (.int i) from rfl]
  dsimp only
  rw [h2]; rfl
theorem zeros_ok {m : Nat} (h8 : m ≤ 8) : D.mul (.lst [.int 0]) (.int m) = .ok (.lst ((List.replicate m (0 : Int)).map .int)) := by
  rcases (by omega : m = 0 ∨ m = 1 ∨ m = 2 ∨ m = 3 ∨ m = 4 ∨ m = 5 ∨ m = 6 ∨ m = 7 ∨ m = 8) with e | e | e | e | e | e | e | e | e <;> subst e <;> rfl
theorem zerosL_ok {m : Nat} (h8 : m ≤ 8) : D.mulL (.lst [.int 0]) (.int m) = .ok (.lst ((List.replicate m (0 : Int)).map .int)) := by
  unfold D.mulL; exact zeros_ok h8
theorem hinit {a b : List D} : F_H_init (.obj "Hidden" [] []) [.tup a, .tup b] = .ok .non (.obj "Hidden" ["one", "other"] [.tup a, .tup b]) := by rfl
theorem set_int (ws : List Int) (j : Nat) (v : Int) : (ws.map D.int).set j (.int v) = (ws.set j v).map .int := by rw [List.map_set]
theorem put_loop {a b c d : Slot} : ∀ (qs : List (Int × Int)) (ws : List Int) (s2 s6 : Slot), (∀ q ∈ qs, 0 ≤ q.1 ∧ q.1 < ws.length) → ∃ s2' s6', forL (.tp [(.nm 2), (.nm 6)]) (S.putI 5 (M.two (M.app (M.cons (M.var 6) M.nil) D.intF) (M.pure (.int 9973)) fun x y => (D.mod x y).good) (M.var 2)) (qs.map fun q => .tup [.int q.1, .int q.2]) [a, b, s2, c, d, .ow (.lst (ws.map .int)), s6] = .nx [a, b, s2', c, d, .ow (.lst ((setW ws qs).map .int)), s6']
  | [], ws, s2, s6, _ => ⟨s2, s6, rfl⟩
  | q :: qs, ws, s2, s6, h => by
    obtain ⟨h0, h1⟩ := h q List.mem_cons_self
    have hix : ixN (ws.map D.int).length q.1 = some q.1.toNat := by
      unfold ixN; rw [List.length_map, if_pos h0, if_pos (by omega)]
    obtain ⟨s2', s6', ih⟩ := put_loop (a := a) (b := b) (c := c) (d := d) qs (ws.set q.1.toNat (q.2 % 9973)) (.sh (.int q.1)) (.sh (.int q.2)) fun r hr => by rw [List.length_set]; exact h r (List.mem_cons_of_mem _ hr)
    refine ⟨s2', s6', ?_⟩
    rw [List.map_cons]
    refine for_cons (ρ1 := [a, b, .sh (.int q.1), c, d, .ow (.lst (ws.map .int)), .sh (.int q.2)]) rfl (s_putI (e_two (e_app (e_cons (e_var rfl) e_nil) rfl) e_pure (modP (by decide))) rfl (e_var rfl) rfl hix) ?_
    rw [set_int]
    exact ih
theorem setW_len : ∀ (qs : List (Int × Int)) (ws : List Int), (setW ws qs).length = ws.length
  | [], ws => rfl
  | q :: qs, ws => by show (setW (ws.set _ _) qs).length = _; rw [setW_len qs, List.length_set]
theorem setW_rng : ∀ (qs : List (Int × Int)) (ws : List Int), (∀ i ∈ ws, 0 ≤ i ∧ i < 9973) → ∀ i ∈ setW ws qs, 0 ≤ i ∧ i < 9973
  | [], ws, h => h
  | q :: qs, ws, h => setW_rng qs (ws.set q.1.toNat (q.2 % 9973)) fun i hi => by
    rcases List.mem_or_eq_of_mem_set hi with hi | hi
    · exact h i hi
    · subst hi; exact ⟨Int.emod_nonneg _ (by decide), Int.emod_lt_of_pos _ (by decide)⟩
def rowP (m : Nat) (p : List Int) : List Int := (rowOf (inn m p) (f0 m p) (f1 m p)).getD []
def otherP (m : Nat) (p : List Int) : List Int := setW (List.replicate m 0) ((inn m p).zip (rowP m p))
def noted (m : Nat) (p : List Int) : Prop := (inn m p).length + (sms m p.reverse).length < 3 ∨ inn m p = []
instance (m : Nat) (p : List Int) : Decidable (noted m p) := inferInstanceAs (Decidable (_ ∨ _))
def hid1 (m : Nat) : List Int := blockI (List.replicate m 0)
def hid2 (m : Nat) (p : List Int) : List Int := blockI (otherP m p)
def hidD (a b : List Int) : D := .obj "Hidden" ["one", "other"] [.tup (a.map .int), .tup (b.map .int)]
theorem good0 {m : Nat} (h8 : m ≤ 8) : good (List.replicate m 0) := ⟨by rw [List.length_replicate]; omega, fun i hi => by rw [(List.mem_replicate.mp hi).2]; decide⟩
theorem goodP {m : Nat} (h8 : m ≤ 8) (p : List Int) : good (otherP m p) := ⟨by unfold otherP; rw [setW_len, List.length_replicate]; omega, setW_rng _ _ (good0 h8).2⟩
/-- all that is known of sorted places -/
structure Known (m : Nat) (p : List Int) : Prop where
  s1 : sortI p = p
  s2 : sortI p.reverse = p
  u1 : (sortU p).length = p.length
  u2 : (sortU p.reverse).length = p.length
  rg : ∀ i ∈ p, 0 ≤ i ∧ i < (m : Int) + 2
  ri : ∀ i ∈ inn m p, 0 ≤ i ∧ i < (m : Int)
  sp : p = inn m p ++ ((if f0 m p then [(m : Int)] else []) ++ (if f1 m p then [(m : Int) + 1] else []))
  cn : (sms m p.reverse).length = cnt (f0 m p) (f1 m p)
  st : sortI p.tail = p.tail
theorem known {m : Nat} (h1 : 1 ≤ m) (h8 : m ≤ 8) {p : List Int} (h : Inc 0 (m + 2) p) : Known m p := by
  have z := facts h1 h8 h
  unfold fact at z
  simp only [Bool.and_eq_true, decide_eq_true_eq, List.all_eq_true] at z
  obtain ⟨a, b, c, d, e, f, g, i, j⟩ := z
  exact ⟨a, b, c, d, e, f, g, i, j⟩
theorem row_ok {m : Nat} (h1 : 1 ≤ m) (h8 : m ≤ 8) {p : List Int} (h : Inc 0 (m + 2) p) (hl : p.length ≤ 5) (hn : ¬ noted m p) : rowOf (inn m p) (f0 m p) (f1 m p) = some (rowP m p) ∧ (rowP m p).length = (inn m p).length ∧ diffs (hid1 m) (hid2 m p) = p := by
  have k := known h1 h8 h
  have hi := inn_subs h8 h
  have n1 : 3 ≤ (inn m p).length + cnt (f0 m p) (f1 m p) := by rw [← k.cn]; exact Nat.not_lt.mp fun q => hn (Or.inl q)
  have n2 : inn m p ≠ [] := fun q => hn (Or.inr q)
  have n3 : (inn m p).length + cnt (f0 m p) (f1 m p) = p.length := by
    have := congrArg List.length k.sp
    rw [List.length_append, List.length_append] at this
    rw [this]; unfold cnt
    cases f0 m p <;> cases f1 m p <;> rfl
  have du : due (inn m p) (f0 m p) (f1 m p) = true := by
    unfold due
    rw [decide_eq_true n1, decide_eq_true (by omega)]
    cases q : inn m p with
    | nil => exact absurd q n2
    | cons _ _ => rfl
  have c := cert hi du
  unfold chkR at c
  cases q : rowOf (inn m p) (f0 m p) (f1 m p) with
  | none => rw [q] at c; cases c
  | some row =>
    rw [q] at c; dsimp only at c
    simp only [Bool.and_eq_true, decide_eq_true_eq] at c
    have er : rowP m p = row := by unfold rowP; rw [q]; rfl
    obtain ⟨cl, c⟩ := c
    refine ⟨by rw [er], by rw [er]; exact cl, ?_⟩
    have cm : chkM (inn m p) row (f0 m p) (f1 m p) m = true := by
      obtain ⟨⟨⟨⟨⟨⟨⟨c1, c2⟩, c3⟩, c4⟩, c5⟩, c6⟩, c7⟩, c8⟩ := c
      rcases (by omega : m = 1 ∨ m = 2 ∨ m = 3 ∨ m = 4 ∨ m = 5 ∨ m = 6 ∨ m = 7 ∨ m = 8) with e | e | e | e | e | e | e | e <;> subst e <;> assumption
    unfold chkM at cm
    have ia : ((inn m p).all fun i => decide (i < (m : Int))) = true := List.all_eq_true.mpr fun i hi => decide_eq_true (k.ri i hi).2
    rw [ia] at cm
    simp only [Bool.not_true, Bool.false_or, decide_eq_true_eq] at cm
    unfold hid1 hid2 otherP
    rw [er, cm]
    exact k.sp.symm
theorem intsL_some {l : List D} {r : List Int} (h : D.intsL l = some r) : l = r.map .int := intsL_eq h
theorem changes_ok {p : List Int} {a b : Bool} {r : List Int} (h : rowOf p a b = some r) : F_changes_of [.lst (p.map .int), .lst [.bl a, .bl b]] = .ok (.lst (r.map .int)) := by
  unfold rowOf at h
  split at h
  · rename_i l e
    rw [e, intsL_eq h]
  · cases h
/-- slots of judge_noticed after the places are sorted out -/
theorem judge_ok {m : Nat} (h1 : 1 ≤ m) (h8 : m ≤ 8) {p : List Int} (h : Inc 0 (m + 2) p) (hl : p.length ≤ 5) {x : D} {ps : List Int} (hx : x.items = .ok (ps.map .int)) (hps : ps = p ∨ ps = p.reverse) :
    F_judge_noticed [.int m, x] = .ok (if noted m p then .obj "Noticed" [] [] else hidD (hid1 m) (hid2 m p)) := by
  have k := known h1 h8 h
  have hs : sortI ps = p := by rcases hps with e | e <;> rw [e]; exact k.s1; exact k.s2
  have hlen : ps.length = p.length := by rcases hps with e | e <;> rw [e]; exact List.length_reverse
  have hu : (sortU ps).length = ps.length := by rw [hlen]; rcases hps with e | e <;> rw [e]; exact k.u1; exact k.u2
  have hr : ∀ i ∈ ps, 0 ≤ i ∧ i < (m : Int) + 2 := fun i hi => k.rg i (by rcases hps with e | e <;> rw [e] at hi; exact hi; exact List.mem_reverse.mp hi)
  have hsl : (sms m ps).length = (sms m p.reverse).length := by rcases hps with e | e <;> rw [e]; unfold sms; rw [List.filter_reverse, List.length_reverse]
  have hmem : ∀ i, decide (i ∈ sms m ps) = decide (i ∈ sms m p.reverse) := fun i => by rcases hps with e | e <;> rw [e]; unfold sms; rw [List.filter_reverse]; exact decide_eq_decide.mpr List.mem_reverse.symm
  have c1 := check_places_ok hx (m := (m : Int)) (by omega) (by omega) hr (by omega) hu
  have st1 : S.expr (M.call (M.cons (M.var 0) (M.cons (M.var 1) M.nil)) F_check_places) [.sh (.int m), .sh x, .un, .un, .un, .un, .un] = .nx [.sh (.int m), .sh x, .un, .un, .un, .un, .un] := s_expr (e_call (e_cons (e_var rfl) (e_cons (e_var rfl) e_nil)) c1)
  have so : D.sortedF [x] = .ok (.lst (p.map .int)) := by unfold D.sortedF; dsimp only; rw [intsOf hx]; dsimp only; rw [hs]
  have st2 : S.par [3, 4] (M.slSh (M.lc [2] (M.items (M.app (M.cons (M.var 1) M.nil) D.sortedF)) (.nm 2) (M.tru (M.two (M.var 2) (M.var 0) fun x y => (D.lt x y).good)) (M.var 2)) (M.slSh (M.lc [2] (M.items (M.var 1)) (.nm 2) (M.tru (M.two (M.var 2) (M.var 0) fun x y => (D.ge x y).good)) (M.var 2)) M.slNil)) [.sh (.int m), .sh x, .un, .un, .un, .un, .un] = .nx [.sh (.int m), .sh x, .un, .sh (.lst ((inn m p).map .int)), .sh (.lst ((sms m ps).map .int)), .un, .un] := by
    have lA : (M.lc [2] (M.items (M.app (M.cons (M.var 1) M.nil) D.sortedF)) (.nm 2) (M.tru (M.two (M.var 2) (M.var 0) fun x y => (D.lt x y).good)) (M.var 2)) [.sh (.int m), .sh x, .un, .un, .un, .un, .un] = .ok (.lst ((inn m p).map .int)) [.sh (.int m), .sh x, .un, .un, .un, .un, .un] := e_lc (e_items (e_app (e_cons (e_var rfl) e_nil) so) rfl) (lcL_ints (p := fun i => decide (i < (m : Int))) fun i hi => ⟨_, rfl, e_tru (e_two (e_var rfl) (e_var rfl) rfl) rfl, e_var rfl, rfl⟩) rfl
    have lB : (M.lc [2] (M.items (M.var 1)) (.nm 2) (M.tru (M.two (M.var 2) (M.var 0) fun x y => (D.ge x y).good)) (M.var 2)) [.sh (.int m), .sh x, .un, .un, .un, .un, .un] = .ok (.lst ((sms m ps).map .int)) [.sh (.int m), .sh x, .un, .un, .un, .un, .un] := e_lc (e_items (e_var rfl) hx) (lcL_ints (p := fun i => decide (i ≥ (m : Int))) fun i hi => ⟨_, rfl, e_tru (e_two (e_var rfl) (e_var rfl) rfl) rfl, e_var rfl, rfl⟩) rfl
    exact (s_par (e_slSh lA (e_slSh lB e_slNil)) rfl).trans rfl
  have t1 : (M.tru (M.two (M.two (M.app (M.cons (M.var 3) M.nil) D.lenF) (M.app (M.cons (M.var 4) M.nil) D.lenF) fun x y => (D.add x y).good) (M.pure (.int 3)) fun x y => (D.lt x y).good)) [.sh (.int m), .sh x, .un, .sh (.lst ((inn m p).map .int)), .sh (.lst ((sms m ps).map .int)), .un, .un] = .ok (decide ((((inn m p).map D.int).length : Int) + ((sms m ps).map D.int).length < 3)) [.sh (.int m), .sh x, .un, .sh (.lst ((inn m p).map .int)), .sh (.lst ((sms m ps).map .int)), .un, .un] :=
    e_tru (e_two (e_two (e_app (e_cons (e_var rfl) e_nil) rfl) (e_app (e_cons (e_var rfl) e_nil) rfl) rfl) e_pure rfl) rfl
  rw [List.length_map, List.length_map, hsl] at t1
  have t2 : (M.tru (M.two (M.var 3) (M.app M.nil D.mkLst) fun x y => ((D.eqR false) x y).good)) [.sh (.int m), .sh x, .un, .sh (.lst ((inn m p).map .int)), .sh (.lst ((sms m ps).map .int)), .un, .un] = .ok (decide (inn m p = [])) [.sh (.int m), .sh x, .un, .sh (.lst ((inn m p).map .int)), .sh (.lst ((sms m ps).map .int)), .un, .un] :=
    e_tru (e_two (e_var rfl) (e_app e_nil (mkLst_ok (Nat.le_of_ble_eq_true rfl))) (eqR_lst (neg := false) (inn m p) [])) rfl
  show endD (m_judge_noticed [.sh (.int m), .sh x, .un, .un, .un, .un, .un]) = _
  by_cases hn : noted m p
  · rw [if_pos hn]
    have z : m_judge_noticed [.sh (.int m), .sh x, .un, .un, .un, .un, .un] = .rt (.obj "Noticed" [] []) [.sh (.int m), .sh x, .un, .sh (.lst ((inn m p).map .int)), .sh (.lst ((sms m ps).map .int)), .un, .un] := by
      refine s_seq st1 (s_seq st2 (s_seqR (s_iteT ?_ (s_ret e_pure))))
      by_cases q : (inn m p).length + (sms m p.reverse).length < 3
      · exact e_orT (by rw [t1, decide_eq_true (by omega)])
      · exact e_orF (by rw [t1, decide_eq_false (by omega)]) (by rw [t2, decide_eq_true (hn.resolve_left q)])
    rw [z]; rfl
  · rw [if_neg hn]
    obtain ⟨r1, r2, _⟩ := row_ok h1 h8 h hl hn
    have g1 : decide ((m : Int) ∈ sms m ps) = f0 m p := hmem _
    have g2 : decide ((m : Int) + 1 ∈ sms m ps) = f1 m p := hmem _
    have ch := changes_ok r1
    obtain ⟨s2', s6', lp⟩ := put_loop (a := .sh (.int m)) (b := .sh x) (c := .sh (.lst ((inn m p).map .int))) (d := .sh (.lst ((sms m ps).map .int))) ((inn m p).zip (rowP m p)) (List.replicate m 0) .un .un fun q hq => by
      rw [List.length_replicate]
      exact k.ri q.1 (List.of_mem_zip hq).1
    have zp : ((((inn m p).map D.int).zip ((rowP m p).map D.int)).map fun p => D.tup [p.1, p.2]) = ((inn m p).zip (rowP m p)).map fun q => D.tup [.int q.1, .int q.2] := by
      rw [List.zip_map, List.map_map]; rfl
    have c0 : (M.orB (M.tru (M.two (M.two (M.app (M.cons (M.var 3) M.nil) D.lenF) (M.app (M.cons (M.var 4) M.nil) D.lenF) fun x y => (D.add x y).good) (M.pure (.int 3)) fun x y => (D.lt x y).good)) (M.tru (M.two (M.var 3) (M.app M.nil D.mkLst) fun x y => ((D.eqR false) x y).good))) [.sh (.int m), .sh x, .un, .sh (.lst ((inn m p).map .int)), .sh (.lst ((sms m ps).map .int)), .un, .un] = .ok false [.sh (.int m), .sh x, .un, .sh (.lst ((inn m p).map .int)), .sh (.lst ((sms m ps).map .int)), .un, .un] :=
      e_orF (by rw [t1, decide_eq_false]; intro q; exact hn (Or.inl (by omega))) (by rw [t2, decide_eq_false]; intro q; exact hn (Or.inr q))
    have z : m_judge_noticed [.sh (.int m), .sh x, .un, .un, .un, .un, .un] = .rt (hidD (hid1 m) (hid2 m p)) [.sh (.int m), .sh x, s2', .sh (.lst ((inn m p).map .int)), .sh (.lst ((sms m ps).map .int)), .sh (.lst ((otherP m p).map .int)), s6'] := by
      exact s_seq st1 (s_seq st2 (s_seq (s_iteF c0 s_skip) (s_seq (s_own (d := .lst ((List.replicate m (0 : Int)).map .int)) (e_two (e_app (e_cons e_pure e_nil) (mkLst_ok (Nat.le_of_ble_eq_true rfl))) (e_var rfl) (zerosL_ok h8))) (s_seq (s_for (e_zip (e_cons (e_var rfl) (e_cons (e_call (e_cons (e_var rfl) (e_cons (e_app (e_cons (e_two (e_var rfl) (e_var rfl) (inR_ints _)) (e_cons (e_two (e_two (e_var rfl) e_pure rfl) (e_var rfl) (inR_ints _)) e_nil)) (mkLst_ok (Nat.le_of_ble_eq_true rfl))) e_nil)) (by rw [g1, g2]; exact ch)) e_nil)) rfl rfl) (by rw [zp]; exact lp)) (s_seq (s_share rfl) (s_ret (e_make (e_cons (e_call (e_cons (e_two (e_app (e_cons e_pure e_nil) (mkLst_ok (Nat.le_of_ble_eq_true rfl))) (e_var rfl) (zeros_ok h8)) e_nil) (block_of_ok (ws := List.replicate m 0) rfl (good0 h8))) (e_cons (e_call (e_cons (e_var rfl) e_nil) (block_of_ok (ws := otherP m p) rfl (goodP h8 p))) e_nil)) hinit)))))))
    rw [z]; rfl
end DL

namespace DL
open PySem L2
theorem blockI_len (ws : List Int) : (blockI ws).length = ws.length + 2 := by unfold blockI; rw [List.length_append]; rfl
theorem wordsI_block {ws : List Int} (h : good ws) : wordsI (blockI ws) = some ws := by
  have t : (blockI ws).take ((blockI ws).length - 2) = ws := by rw [blockI_len]; unfold blockI; simp
  have d : (blockI ws).drop ((blockI ws).length - 2) = [(sums ws).1, (sums ws).2] := by rw [blockI_len]; unfold blockI; simp
  unfold wordsI
  rw [t, d, if_pos ⟨by rw [blockI_len]; omega, by rw [blockI_len]; have := h.1; omega, h.2, rfl⟩]
/-- only blocks have words -/
theorem wordsI_some {bs ws : List Int} (h : wordsI bs = some ws) : bs = blockI ws ∧ good ws := by
  unfold wordsI at h
  split at h
  · rename_i c
    obtain ⟨c1, c2, c3, c4⟩ := c
    cases h
    refine ⟨?_, by rw [List.length_take]; omega, c3⟩
    unfold blockI
    rw [c4, List.take_append_drop]
  · cases h
theorem ixT {a : List Int} {i : Int} (h0 : 0 ≤ i) (h1 : i < a.length) : D.ix (.tup (a.map .int)) (.int i) = .ok (.int (a[i.toNat]?.getD 0)) := by
  have hk : i.toNat < a.length := by omega
  show (match atI (a.map D.int) i with | some d => R.ok d | none => .no) = _
  rw [atI_pos h0 (by rw [List.length_map]; exact h1), List.getElem?_map, List.getElem?_eq_getElem hk]; rfl
theorem range_ints (n : Nat) : rangeD 0 n = (upto n).map .int := by unfold rangeD upto; rw [List.map_map]; rfl
theorem upto_mem {n : Nat} {i : Int} (h : i ∈ upto n) : 0 ≤ i ∧ i < n := by
  unfold upto at h
  obtain ⟨j, hj, e⟩ := List.mem_map.mp h
  have := List.mem_range.mp hj
  omega
theorem diff_lc {ρ : Env} {k : Nat} {ea eb : M D} {a b : List Int} {n : Nat} (ha : a.length = n) (hb : b.length = n)
    (h : ∀ i : Int, ∃ ρ1, asgD (.nm k) (.int i) ρ = some ρ1 ∧ ea ρ1 = .ok (.tup (a.map .int)) ρ1 ∧ eb ρ1 = .ok (.tup (b.map .int)) ρ1 ∧ ρ1[k]? = some (.sh (.int i)) ∧ wipeZ ρ1 [k] = ρ) :
    lcL [k] (.nm k) (M.tru (M.two (M.two ea (M.var k) fun x y => (D.ix x y).good) (M.two eb (M.var k) fun x y => (D.ix x y).good) fun x y => ((D.eqR true) x y).good)) (M.var k) (rangeD 0 n) ρ = .ok (.map .int (diffs a b)) ρ := by
  rw [range_ints]
  unfold diffs
  rw [ha]
  refine lcL_ints (p := fun i => !(a[i.toNat]? == b[i.toNat]?)) fun i hi => ?_
  obtain ⟨h0, h1⟩ := upto_mem hi
  obtain ⟨ρ1, e1, e2, e3, e4, e5⟩ := h i
  refine ⟨ρ1, e1, ?_, e_var e4, e5⟩
  refine e_tru (e_two (e_two e2 (e_var e4) (ixT h0 (by omega))) (e_two e3 (e_var e4) (ixT h0 (by omega))) ne_int) ?_
  rw [List.getElem?_eq_getElem (show i.toNat < a.length by omega), List.getElem?_eq_getElem (show i.toNat < b.length by omega)]
  rfl
theorem hfld_one {a b : D} : D.fld ["Hidden"] "one" (.obj "Hidden" ["one", "other"] [a, b]) = .ok a := rfl
theorem hfld_other {a b : D} : D.fld ["Hidden"] "other" (.obj "Hidden" ["one", "other"] [a, b]) = .ok b := rfl
theorem isOp_opt {neg : Bool} {o : Option (List Int)} : D.isOp neg (optT o) .non = .ok (.bl (if neg then o.isSome else o.isNone)) := by cases o <;> cases neg <;> rfl
theorem range2_ok {f : M D} {ρ : Env} {m : Nat} (hm : m ≤ 100) (e : f ρ = .ok (.int m) ρ) : M.range1 (M.cons (M.two f (M.pure (.int 2)) fun x y => (D.add x y).good) M.nil) ρ = .ok (rangeD 0 (m + 2)) ρ := by
  have := e_range1 (ρ := ρ) (ρ1 := ρ) (n := (m : Int) + 2) (fs := M.cons (M.two f (M.pure (.int 2)) fun x y => (D.add x y).good) M.nil) (e_cons (e_two e e_pure rfl) e_nil) (by constructor <;> omega)
  rw [show ((m : Int) + 2).toNat = m + 2 by omega] at this
  exact this
/-- Hidden.shows, both of ints -/
theorem shows_ok {m : Nat} {x : D} {ps a b : List Int} (hm : m ≤ 8) (hc : F_check_places [.int m, x] = .ok .non) (hx : x.items = .ok (ps.map .int)) (ha : a.length = m + 2) (hb : b.length = m + 2) (wa : (wordsI a).isNone = false) (wb : (wordsI b).isNone = false) :
    F_H_shows [hidD a b, .int m, x] = .ok (.bl (decide (diffs a b = sortI ps))) := by
  have f1 : ∀ ρ : Env, ρ[0]? = some (.sh (hidD a b)) → M.fld ["Hidden"] "one" (M.var 0) ρ = .ok (.tup (a.map .int)) ρ := fun ρ e => e_fld (e_var e) hfld_one
  have f2 : ∀ ρ : Env, ρ[0]? = some (.sh (hidD a b)) → M.fld ["Hidden"] "other" (M.var 0) ρ = .ok (.tup (b.map .int)) ρ := fun ρ e => e_fld (e_var e) hfld_other
  have w1 : (M.tru (M.two (M.call (M.cons (M.fld ["Hidden"] "one" (M.var 0)) M.nil) F_words_in) (M.pure .non) fun x y => ((D.isOp false) x y).good)) [.sh (hidD a b), .sh (.int m), .sh x, .un] = .ok (wordsI a).isNone [.sh (hidD a b), .sh (.int m), .sh x, .un] := e_tru (e_two (e_call (e_cons (f1 _ rfl) e_nil) (words_in_ok (Or.inl rfl) (by omega))) e_pure (isOp_opt (neg := false))) rfl
  have w2 : (M.tru (M.two (M.call (M.cons (M.fld ["Hidden"] "other" (M.var 0)) M.nil) F_words_in) (M.pure .non) fun x y => ((D.isOp false) x y).good)) [.sh (hidD a b), .sh (.int m), .sh x, .un] = .ok (wordsI b).isNone [.sh (hidD a b), .sh (.int m), .sh x, .un] := e_tru (e_two (e_call (e_cons (f2 _ rfl) e_nil) (words_in_ok (Or.inl rfl) (by omega))) e_pure (isOp_opt (neg := false))) rfl
  rw [wa] at w1
  rw [wb] at w2
  have l1 : (M.tru (M.two (M.app (M.cons (M.fld ["Hidden"] "one" (M.var 0)) M.nil) D.lenF) (M.two (M.var 1) (M.pure (.int 2)) fun x y => (D.add x y).good) fun x y => ((D.eqR true) x y).good)) [.sh (hidD a b), .sh (.int m), .sh x, .un] = .ok (!(((a.map D.int).length : Int) == (m : Int) + 2)) [.sh (hidD a b), .sh (.int m), .sh x, .un] := e_tru (e_two (e_app (e_cons (f1 _ rfl) e_nil) rfl) (e_two (e_var rfl) e_pure rfl) ne_int) rfl
  have l2 : (M.tru (M.two (M.app (M.cons (M.fld ["Hidden"] "other" (M.var 0)) M.nil) D.lenF) (M.two (M.var 1) (M.pure (.int 2)) fun x y => (D.add x y).good) fun x y => ((D.eqR true) x y).good)) [.sh (hidD a b), .sh (.int m), .sh x, .un] = .ok (!(((b.map D.int).length : Int) == (m : Int) + 2)) [.sh (hidD a b), .sh (.int m), .sh x, .un] := e_tru (e_two (e_app (e_cons (f2 _ rfl) e_nil) rfl) (e_two (e_var rfl) e_pure rfl) ne_int) rfl
  rw [List.length_map, ha, show ((m + 2 : Nat) : Int) = (m : Int) + 2 by omega, BEq.rfl] at l1
  rw [List.length_map, hb, show ((m + 2 : Nat) : Int) = (m : Int) + 2 by omega, BEq.rfl] at l2
  have so : D.sortedF [x] = .ok (.lst ((sortI ps).map .int)) := by unfold D.sortedF; dsimp only; rw [intsOf hx]
  have z : m_H_shows [.sh (hidD a b), .sh (.int m), .sh x, .un] = .rt (.bl (decide (diffs a b = sortI ps))) [.sh (hidD a b), .sh (.int m), .sh x, .un] :=
    s_seq (s_expr (e_call (e_cons (e_var rfl) (e_cons (e_var rfl) e_nil)) hc)) (s_seq (s_iteF (e_orF w1 (e_orF w2 l1)) s_skip) (s_seq (s_iteF l2 s_skip) (s_ret (e_two (e_lc (range2_ok (by omega) (e_var rfl)) (diff_lc ha hb fun i => ⟨_, rfl, f1 _ rfl, f2 _ rfl, rfl, rfl⟩) (ρ3 := [.sh (hidD a b), .sh (.int m), .sh x, .un]) rfl) (e_app (e_cons (e_var rfl) e_nil) so) (eqR_lst (neg := false) _ _)))))
  show endD (m_H_shows [.sh (hidD a b), .sh (.int m), .sh x, .un]) = _
  rw [z]; rfl
/-- one of them no row of ints -/
theorem shows_bad {m : Nat} {x : D} {a : List Int} {l : List D} (hc : F_check_places [.int m, x] = .ok .non) (hz : a.length ≤ 1000) (hl : ∀ d ∈ l, plainD d = true) (hb : l.all isI = false) :
    F_H_shows [.obj "Hidden" ["one", "other"] [.tup (a.map .int), .tup l], .int m, x] = .ok (.bl false) := by
  have f1 : ∀ ρ : Env, ρ[0]? = some (.sh (.obj "Hidden" ["one", "other"] [.tup (a.map .int), .tup l])) → M.fld ["Hidden"] "one" (M.var 0) ρ = .ok (.tup (a.map .int)) ρ := fun ρ e => e_fld (e_var e) hfld_one
  have f2 : ∀ ρ : Env, ρ[0]? = some (.sh (.obj "Hidden" ["one", "other"] [.tup (a.map .int), .tup l])) → M.fld ["Hidden"] "other" (M.var 0) ρ = .ok (.tup l) ρ := fun ρ e => e_fld (e_var e) hfld_other
  have w1 : (M.tru (M.two (M.call (M.cons (M.fld ["Hidden"] "one" (M.var 0)) M.nil) F_words_in) (M.pure .non) fun x y => ((D.isOp false) x y).good)) [.sh (.obj "Hidden" ["one", "other"] [.tup (a.map .int), .tup l]), .sh (.int m), .sh x, .un] = .ok (wordsI a).isNone [.sh (.obj "Hidden" ["one", "other"] [.tup (a.map .int), .tup l]), .sh (.int m), .sh x, .un] := e_tru (e_two (e_call (e_cons (f1 _ rfl) e_nil) (words_in_ok (Or.inl rfl) hz)) e_pure (isOp_opt (neg := false))) rfl
  have w2 : (M.tru (M.two (M.call (M.cons (M.fld ["Hidden"] "other" (M.var 0)) M.nil) F_words_in) (M.pure .non) fun x y => ((D.isOp false) x y).good)) [.sh (.obj "Hidden" ["one", "other"] [.tup (a.map .int), .tup l]), .sh (.int m), .sh x, .un] = .ok true [.sh (.obj "Hidden" ["one", "other"] [.tup (a.map .int), .tup l]), .sh (.int m), .sh x, .un] := e_tru (e_two (e_call (e_cons (f2 _ rfl) e_nil) (words_in_bad (x := .tup l) rfl hl (Or.inr hb))) e_pure rfl) rfl
  have z : m_H_shows [.sh (.obj "Hidden" ["one", "other"] [.tup (a.map .int), .tup l]), .sh (.int m), .sh x, .un] = .rt (.bl false) [.sh (.obj "Hidden" ["one", "other"] [.tup (a.map .int), .tup l]), .sh (.int m), .sh x, .un] := by
    refine s_seq (s_expr (e_call (e_cons (e_var rfl) (e_cons (e_var rfl) e_nil)) hc)) (s_seqR (s_iteT ?_ (s_ret e_pure)))
    cases c : (wordsI a).isNone with
    | true => rw [c] at w1; exact e_orT w1
    | false => rw [c] at w1; exact e_orF w1 (e_orT w2)
  show endD (m_H_shows [.sh (.obj "Hidden" ["one", "other"] [.tup (a.map .int), .tup l]), .sh (.int m), .sh x, .un]) = _
  rw [z]; rfl
theorem diffs_self (a : List Int) : diffs a a = [] := by
  unfold diffs
  rw [List.filter_eq_nil_iff]
  intro i _
  simp
end DL

namespace DL
open PySem L2
theorem ne_tup_self (a : List Int) : D.eqR true (.tup (a.map .int)) (.tup (a.map .int)) = .ok (.bl false) := by rw [eqR_tup, decide_eq_true rfl]; rfl
theorem ne_lst_self (a : List Int) : D.eqR true (.lst (a.map .int)) (.lst (a.map .int)) = .ok (.bl false) := by rw [eqR_lst, decide_eq_true rfl]; rfl
theorem add_tup {a b : List D} (h : a.length + b.length ≤ 1000) : D.add (.tup a) (.tup b) = .ok (.tup (a ++ b)) := if_pos (line_ge h)
theorem slice2 (ws : List Int) : D.slice none (some (-2)) (.tup ((blockI ws).map .int)) = .ok (.tup (ws.map .int)) := by
  show R.ok (D.tup (cutD ((blockI ws).map .int) none (some (-2)))) = _
  rw [show (-2 : Int) = -((2 : Nat) : Int) from rfl, cut_end _ 2 (by rw [List.length_map, blockI_len]; omega) (by decide), List.length_map, ← List.map_take, blockI_len]
  congr 3
  unfold blockI; simp
theorem slice1 {b : List Int} (hb : 1 ≤ b.length) : D.slice none (some (-1)) (.tup (b.map .int)) = .ok (.tup ((b.take (b.length - 1)).map .int)) := by
  show R.ok (D.tup (cutD (b.map .int) none (some (-1)))) = _
  rw [show (-1 : Int) = -((1 : Nat) : Int) from rfl, cut_end _ 1 (by rw [List.length_map]; omega) (by decide), List.length_map, ← List.map_take]
theorem sliceT (p : List Int) : D.slice (some 1) none (.lst (p.map .int)) = .ok (.lst (p.tail.map .int)) := by
  show R.ok (D.lst (cutD (p.map .int) (some 1) none)) = _
  congr 2
  unfold cutD HT.sIx
  cases p with
  | nil => rfl
  | cons a r =>
    simp only
    rw [if_neg (by decide), List.take_of_length_le]
    · rw [show min (1 : Int).toNat ((a :: r).map D.int).length = 1 by rw [List.length_map, List.length_cons]; show min 1 (r.length + 1) = 1; omega]; rfl
    · rw [List.length_drop]; exact Nat.le_refl _
theorem boolF_noted {m : Nat} {p : List Int} : D.boolF truL [if noted m p then .obj "Noticed" [] [] else hidD (hid1 m) (hid2 m p)] = .ok (.bl (decide (noted m p))) := by
  by_cases h : noted m p
  · rw [if_pos h, decide_eq_true h]; rfl
  · rw [if_neg h, decide_eq_false h]; rfl
theorem truO_noted {m : Nat} {p : List Int} : D.truO truL (if noted m p then .obj "Noticed" [] [] else hidD (hid1 m) (hid2 m p)) = .ok (decide (noted m p)) := by
  by_cases h : noted m p
  · rw [if_pos h, decide_eq_true h]; rfl
  · rw [if_neg h, decide_eq_false h]; rfl
theorem N_shows_ok {m : Nat} (h1 : 1 ≤ m) (h8 : m ≤ 8) {p : List Int} (h : Inc 0 (m + 2) p) (hl : p.length ≤ 5) {x o : D} {ps : List Int} (hx : x.items = .ok (ps.map .int)) (hps : ps = p ∨ ps = p.reverse) : F_N_shows [o, .int m, x] = .ok (.bl (decide (noted m p))) := by
  have z : m_N_shows [.sh o, .sh (.int m), .sh x] = .rt (.bl (decide (noted m p))) [.sh o, .sh (.int m), .sh x] := s_ret (e_app (e_cons (e_call (e_cons (e_var rfl) (e_cons (e_var rfl) e_nil)) (judge_ok h1 h8 h hl hx hps)) e_nil) boolF_noted)
  show endD (m_N_shows [.sh o, .sh (.int m), .sh x]) = _
  rw [z]; rfl
theorem eq_bl {neg a b : Bool} : D.eqR neg (.bl a) (.bl b) = .ok (.bl (if neg then !(a == b) else a == b)) := by cases neg <;> cases a <;> cases b <;> rfl
theorem noted_iff {m : Nat} {p : List Int} (k : Known m p) : decide (noted m p) = (decide (inn m p = []) || decide ((p.length : Int) < 3)) := by
  have n3 : (inn m p).length + (sms m p.reverse).length = p.length := by
    have := congrArg List.length k.sp
    rw [List.length_append, List.length_append] at this
    rw [this, k.cn]; unfold cnt
    cases f0 m p <;> cases f1 m p <;> rfl
  rw [Bool.eq_iff_iff]
  simp only [Bool.or_eq_true, decide_eq_true_eq]
  unfold noted
  constructor
  · rintro (a | a)
    · exact Or.inr (by omega)
    · exact Or.inl a
  · rintro (a | a)
    · exact Or.inr a
    · exact Or.inl (by omega)
section
variable {m : Nat} {p : List Int} {s0 s1 s4 s5 s7 : Slot} {d3 d6 d8 : D}
def fD (m : Nat) (p : List Int) : D := if noted m p then .obj "Noticed" [] [] else hidD (hid1 m) (hid2 m p)
def pD (p : List Int) : D := .lst (p.map .int)
theorem run8 (h1 : 1 ≤ m) (h8 : m ≤ 8) (h : Inc 0 (m + 2) p) (hl : p.length ≤ 5) : law_8 [s0, s1, .sh (.int m), .sh d3, s4, s5, .sh d6, s7, .sh d8, .sh (pD p), .un, .un, .un, .un, .un] = .nx [s0, s1, .sh (.int m), .sh d3, s4, s5, .sh d6, s7, .sh d8, .sh (pD p), .sh (fD m p), .un, .un, .un, .un] :=
  s_set (e_call (e_cons (e_var rfl) (e_cons (e_one (d := .lst (p.reverse.map .int)) (e_var rfl) (by show R.ok (D.lst (p.map D.int).reverse) = _; rw [List.map_reverse])) e_nil)) (judge_ok h1 h8 h hl rfl (Or.inr rfl)))
theorem run9 : law_9 [s0, s1, .sh (.int m), .sh d3, s4, s5, .sh d6, s7, .sh d8, .sh (pD p), .sh (fD m p), .un, .un, .un, .un] = .nx [s0, s1, .sh (.int m), .sh d3, s4, s5, .sh d6, s7, .sh d8, .sh (pD p), .sh (fD m p), .sh (pD (inn m p)), .un, .un, .un] := by
  have lA : (M.lc [13] (M.items (M.var 9)) (.nm 13) (M.tru (M.two (M.var 13) (M.var 2) fun x y => (D.lt x y).good)) (M.var 13)) [s0, s1, .sh (.int m), .sh d3, s4, s5, .sh d6, s7, .sh d8, .sh (pD p), .sh (fD m p), .un, .un, .un, .un] = .ok (pD (inn m p)) [s0, s1, .sh (.int m), .sh d3, s4, s5, .sh d6, s7, .sh d8, .sh (pD p), .sh (fD m p), .un, .un, .un, .un] := e_lc (e_items (e_var rfl) (as := p.map .int) rfl) (lcL_ints (p := fun i => decide (i < (m : Int))) fun i hi => ⟨_, rfl, e_tru (e_two (e_var rfl) (e_var rfl) rfl) rfl, e_var rfl, rfl⟩) rfl
  exact s_set lA
theorem run10 (h1 : 1 ≤ m) (h8 : m ≤ 8) (h : Inc 0 (m + 2) p) (hl : p.length ≤ 5) : law_10 [s0, s1, .sh (.int m), .sh d3, s4, s5, .sh d6, s7, .sh d8, .sh (pD p), .sh (fD m p), .sh (pD (inn m p)), .un, .un, .un] = .nx [s0, s1, .sh (.int m), .sh d3, s4, s5, .sh d6, s7, .sh d8, .sh (pD p), .sh (fD m p), .sh (pD (inn m p)), .un, .un, .un] := by
  have k := known h1 h8 h
  have nb := noted_iff k
  have e3 : D.lenF [pD p] = .ok (.int p.length) := by show R.ok (D.int ((p.map D.int).length : Nat)) = _; rw [List.length_map]
  have v1 : (M.orV (M.two (M.var 11) (M.app M.nil D.mkLst) fun x y => ((D.eqR false) x y).good) (M.two (M.app (M.cons (M.var 9) M.nil) D.lenF) (M.pure (.int 3)) fun x y => (D.lt x y).good)) [s0, s1, .sh (.int m), .sh d3, s4, s5, .sh d6, s7, .sh d8, .sh (pD p), .sh (fD m p), .sh (pD (inn m p)), .un, .un, .un] = .ok (.bl (decide (noted m p))) [s0, s1, .sh (.int m), .sh d3, s4, s5, .sh d6, s7, .sh d8, .sh (pD p), .sh (fD m p), .sh (pD (inn m p)), .un, .un, .un] := by
    have e1 : D.eqR false (pD (inn m p)) (.lst []) = .ok (.bl (decide (inn m p = []))) := eqR_lst (neg := false) (inn m p) []
    rw [nb]
    by_cases q : inn m p = []
    · rw [decide_eq_true q] at e1 ⊢
      exact e_orVT (e_two (e_var rfl) (e_app e_nil (mkLst_ok (Nat.le_of_ble_eq_true rfl))) e1) rfl
    · rw [decide_eq_false q] at e1 ⊢
      exact e_orVF (e_two (e_var rfl) (e_app e_nil (mkLst_ok (Nat.le_of_ble_eq_true rfl))) e1) rfl (e_two (e_app (e_cons (e_var rfl) e_nil) e3) e_pure rfl)
  have sh1 : (M.meth methL_shows "shows" (M.var 10) (M.cons (M.var 2) (M.cons (M.var 9) M.nil))) [s0, s1, .sh (.int m), .sh d3, s4, s5, .sh d6, s7, .sh d8, .sh (pD p), .sh (fD m p), .sh (pD (inn m p)), .un, .un, .un] = .ok (.bl true) [s0, s1, .sh (.int m), .sh d3, s4, s5, .sh d6, s7, .sh d8, .sh (pD p), .sh (fD m p), .sh (pD (inn m p)), .un, .un, .un] := by
    by_cases q : noted m p
    · have e : F_N_shows [.obj "Noticed" [] [], .int m, pD p] = .ok (.bl true) := by rw [N_shows_ok h1 h8 h hl (x := pD p) rfl (Or.inl rfl), decide_eq_true q]
      have ef : fD m p = .obj "Noticed" [] [] := if_pos q
      rw [ef]
      exact e_meth (e_var rfl) (by decide) rfl (e_cons (e_var rfl) (e_cons (e_var rfl) e_nil)) e
    · obtain ⟨r1, r2, r3⟩ := row_ok h1 h8 h hl q
      have hc : F_check_places [.int m, pD p] = .ok .non := check_places_ok (x := pD p) rfl (by omega) (by omega) k.rg (by omega) k.u1
      have e : F_H_shows [hidD (hid1 m) (hid2 m p), .int m, pD p] = .ok (.bl true) := by
        rw [shows_ok h8 hc rfl (by unfold hid1; rw [blockI_len, List.length_replicate]) (by unfold hid2 otherP; rw [blockI_len, setW_len, List.length_replicate]) (by unfold hid1; rw [wordsI_block (good0 h8)]; rfl) (by unfold hid2; rw [wordsI_block (goodP h8 p)]; rfl), r3, k.s1, decide_eq_true rfl]
      have ef : fD m p = hidD (hid1 m) (hid2 m p) := if_neg q
      rw [ef]
      exact e_meth (e_var rfl) (by decide) rfl (e_cons (e_var rfl) (e_cons (e_var rfl) e_nil)) e
  have sh2 : F_N_shows [.obj "Noticed" [] [], .int m, .tup (p.map .int)] = .ok (.bl (decide (noted m p))) := N_shows_ok h1 h8 h hl rfl (Or.inl rfl)
  have bo : D.boolF truL [fD m p] = .ok (.bl (decide (noted m p))) := boolF_noted
  have self : D.eqR true (.bl (decide (noted m p))) (.bl (decide (noted m p))) = .ok (.bl false) := by rw [eq_bl, BEq.rfl]; rfl
  exact s_iteF (e_orF (e_tru (e_two (e_app (e_cons (e_var rfl) e_nil) bo) v1 self) rfl) (e_orF (e_notB (v := true) (e_tru sh1 rfl)) (e_tru (e_two (e_meth (f := M.pure (.obj "Noticed" [] [])) e_pure (by decide) rfl (e_cons (e_var rfl) (e_cons (e_app (e_cons (e_var rfl) e_nil) rfl) e_nil)) sh2) (e_app (e_cons (e_var rfl) e_nil) bo) self) rfl))) s_skip
end
end DL

namespace DL
open PySem L2
theorem py_pair (a b : List Int) : D.py (.tup [.tup (a.map .int), .tup (b.map .int)]) = some (.tuple [.tuple (a.map .int), .tuple (b.map .int)]) := by
  have h : ∀ ns : List Int, D.py (.tup (ns.map .int)) = some (.tuple (ns.map .int)) := fun ns => by unfold D.py; rw [py_ints]; rfl
  have h2 : D.pyL [.tup (a.map .int), .tup (b.map .int)] = some [.tuple (a.map .int), .tuple (b.map .int)] := by simp [D.pyL, h]
  show Option.map _ (D.pyL [.tup (a.map .int), .tup (b.map .int)]) = _
  rw [h2]; rfl
theorem shaped_pair (a b : List Int) : SeqAt.shaped (.tuple [.tuple (a.map PyData.int), .tuple (b.map .int)]) = true := by
  unfold SeqAt.shaped
  have c : ∀ ns : List Int, PyData.canLay0 (.tuple (ns.map PyData.int)) = true := fun ns => by unfold PyData.canLay0; exact lay_ints ns
  have d : ∀ ns : List Int, PyData.depth (.tuple (ns.map PyData.int)) = 1 := fun ns => by unfold PyData.depth; rw [dep_ints]
  have c2 : PyData.canLay0 (.tuple [.tuple (a.map PyData.int), .tuple (b.map .int)]) = true := by
    simp only [PyData.canLay0, PyData.canLayAll0, lay_ints]; rfl
  have d2 : PyData.depth (.tuple [.tuple (a.map PyData.int), .tuple (b.map .int)]) = 2 := by
    simp only [PyData.depth, PyData.depthAll, dep_ints]; rfl
  rw [c2, d2]; rfl
theorem eqR_pair {neg : Bool} (a b a' b' : List Int) : D.eqR neg (.tup [.tup (a.map .int), .tup (b.map .int)]) (.tup [.tup (a'.map .int), .tup (b'.map .int)]) = .ok (.bl (if neg then !(decide (a = a') && decide (b = b')) else decide (a = a') && decide (b = b'))) := by
  unfold D.eqR
  rw [py_pair, py_pair]; dsimp only
  rw [shaped_pair, shaped_pair]
  have e : PyData.eqv (.tuple [.tuple (a.map PyData.int), .tuple (b.map .int)]) (.tuple [.tuple (a'.map PyData.int), .tuple (b'.map .int)]) = (decide (a = a') && decide (b = b')) := by
    simp only [PyData.eqv, PyData.eqvAll, eqv_ints, Bool.and_true]
  rw [e]; rfl
theorem H_eq_ok (a b a' b' : List Int) : F_H_eq [hidD a b, hidD a' b'] = .ok (.bl (decide (a = a') && decide (b = b'))) := by
  have z : m_H_eq [.sh (hidD a b), .sh (hidD a' b')] = .rt (.bl (decide (a = a') && decide (b = b'))) [.sh (hidD a b), .sh (hidD a' b')] :=
    s_ret (e_andVT (e_one (d := .bl true) (e_var rfl) rfl) rfl (e_two (e_app (e_cons (e_fld (e_var rfl) hfld_one) (e_cons (e_fld (e_var rfl) hfld_other) e_nil)) (mkTup_ok (Nat.le_of_ble_eq_true rfl))) (e_app (e_cons (e_fld (e_var rfl) hfld_one) (e_cons (e_fld (e_var rfl) hfld_other) e_nil)) (mkTup_ok (Nat.le_of_ble_eq_true rfl))) (eqR_pair (neg := false) a b a' b')))
  show endD (m_H_eq [.sh (hidD a b), .sh (hidD a' b')]) = _
  rw [z]; rfl
theorem Inc.tail {a b : Int} : ∀ {p : List Int}, Inc a b p → Inc a b p.tail
  | [], _ => .nil
  | _ :: _, .cons h1 h2 h3 => h3.mono (by omega)
section
variable {m : Nat} {p : List Int} {s0 s1 s4 s5 s7 : Slot} {d3 d6 d8 : D}
theorem run11 (h1 : 1 ≤ m) (h8 : m ≤ 8) (h : Inc 0 (m + 2) p) (hl : p.length ≤ 5) : law_11 [s0, s1, .sh (.int m), .sh d3, s4, s5, .sh d6, s7, .sh d8, .sh (pD p), .sh (fD m p), .sh (pD (inn m p)), .un, .un, .un] = .nx [s0, s1, .sh (.int m), .sh d3, s4, s5, .sh d6, s7, .sh d8, .sh (pD p), .sh (fD m p), .sh (pD (inn m p)), .un, .un, .un] := by
  have k := known h1 h8 h
  have kt := known h1 h8 h.tail
  by_cases q : noted m p
  · have e : D.truO truL (fD m p) = .ok true := by rw [← decide_eq_true q]; exact truO_noted
    exact s_iteF (e_notB (v := true) (e_truO (e_var rfl) e)) s_skip
  · have e : D.truO truL (fD m p) = .ok false := by rw [← decide_eq_false q]; exact truO_noted
    obtain ⟨r1, r2, r3⟩ := row_ok h1 h8 h hl q
    have np : p ≠ [] := fun e => q (by subst e; exact Or.inr rfl)
    have ef : fD m p = hidD (hid1 m) (hid2 m p) := if_neg q
    rw [ef] at e ⊢
    have la : (hid1 m).length = m + 2 := by unfold hid1; rw [blockI_len, List.length_replicate]
    have lb : (hid2 m p).length = m + 2 := by unfold hid2 otherP; rw [blockI_len, setW_len, List.length_replicate]
    have wa : wordsI (hid1 m) = some (List.replicate m 0) := wordsI_block (good0 h8)
    have wb : wordsI (hid2 m p) = some (otherP m p) := wordsI_block (goodP h8 p)
    have wia : F_words_in [.tup ((hid1 m).map .int)] = .ok (.tup ((List.replicate m (0 : Int)).map .int)) := by rw [words_in_ok (Or.inl rfl) (by omega), wa]; rfl
    have wib : F_words_in [.tup ((hid2 m p).map .int)] = .ok (.tup ((otherP m p).map .int)) := by rw [words_in_ok (Or.inl rfl) (by omega), wb]; rfl
    have ba : F_lblock [.tup ((List.replicate m (0 : Int)).map .int)] = .ok (.tup ((hid1 m).map .int)) := lblock_is rfl (by rw [List.length_replicate]; omega)
    have bb : F_lblock [.tup ((otherP m p).map .int)] = .ok (.tup ((hid2 m p).map .int)) := lblock_is rfl (by have := (goodP h8 p).1; omega)
    have hc : F_check_places [.int m, pD p] = .ok .non := check_places_ok (x := pD p) rfl (by omega) (by omega) k.rg (by omega) k.u1
    have hct : F_check_places [.int m, pD p.tail] = .ok .non := check_places_ok (x := pD p.tail) rfl (by omega) (by omega) kt.rg (by rw [List.length_tail]; omega) kt.u1
    have x1 : F_H_shows [hidD (hid1 m) (hid1 m), .int m, pD p] = .ok (.bl false) := by
      rw [shows_ok h8 hc rfl la la (by rw [wa]; rfl) (by rw [wa]; rfl), diffs_self, k.s1, decide_eq_false fun e => np e.symm]
    have x2 : F_H_shows [.obj "Hidden" ["one", "other"] [.tup ((hid1 m).map .int), .tup ((((hid2 m p).take ((hid2 m p).length - 1)).map .int) ++ [.non])], .int m, pD p] = .ok (.bl false) :=
      shows_bad hc (by omega) (fun d hd => by
        rcases List.mem_append.mp hd with hd | hd
        · exact intsPlain _ d hd
        · rw [List.mem_singleton.mp hd]; rfl) (by rw [List.all_append]; simp [isI])
    have x3 : F_H_shows [hidD (hid1 m) (hid2 m p), .int m, pD p.tail] = .ok (.bl false) := by
      rw [shows_ok h8 hct rfl la lb (by rw [wa]; rfl) (by rw [wb]; rfl), r3, k.st, decide_eq_false]
      intro e; have := congrArg List.length e; rw [List.length_tail] at this; have := List.length_pos_iff.mpr np; omega
    have hne : hid2 m p ≠ hid1 m := fun e => by rw [e, diffs_self] at r3; exact np r3.symm
    have x4 : D.eqO eqL false (hidD (hid2 m p) (hid1 m)) (hidD (hid1 m) (hid2 m p)) = .ok (.bl false) := by
      have z := H_eq_ok (hid2 m p) (hid1 m) (hid1 m) (hid2 m p)
      rw [decide_eq_false hne, Bool.false_and] at z
      show (match F_H_eq [hidD (hid2 m p) (hid1 m), hidD (hid1 m) (hid2 m p)] with | .ok (.bl k) => R.ok (D.bl (if false then !k else k)) | _ => R.no) = _
      rw [z]; rfl
    generalize hA : hid1 m = A at *
    generalize hB : hid2 m p = B at *
    have f1 : ∀ ρ : Env, ρ[10]? = some (.sh (hidD A B)) → M.fld ["Hidden"] "one" (M.var 10) ρ = .ok (.tup (A.map .int)) ρ := fun ρ e => e_fld (e_var e) hfld_one
    have f2 : ∀ ρ : Env, ρ[10]? = some (.sh (hidD A B)) → M.fld ["Hidden"] "other" (M.var 10) ρ = .ok (.tup (B.map .int)) ρ := fun ρ e => e_fld (e_var e) hfld_other
    have sA : D.slice none (some (-2)) (.tup (A.map .int)) = .ok (.tup ((List.replicate m (0 : Int)).map .int)) := by rw [← hA]; exact slice2 _
    have sB : D.slice none (some (-2)) (.tup (B.map .int)) = .ok (.tup ((otherP m p).map .int)) := by rw [← hB]; exact slice2 _
    have sB1 := slice1 (b := B) (by omega)
    have lA : D.lenF [.tup (A.map .int)] = .ok (.int ((m : Int) + 2)) := by show R.ok (D.int ((A.map D.int).length : Nat)) = _; rw [List.length_map, la]; rfl
    have nl : D.eqR true (.int ((m : Int) + 2)) (.int ((m : Int) + 2)) = .ok (.bl false) := by rw [ne_int, BEq.rfl]; rfl
    have ad : D.add (.tup ((B.take (B.length - 1)).map .int)) (.tup [.non]) = .ok (.tup ((B.take (B.length - 1)).map .int ++ [.non])) := add_tup (by rw [List.length_map, List.length_take]; show _ + 1 ≤ _; omega)
    have dl := diff_lc (k := 8) (ρ := [s0, s1, .sh (.int m), .sh d3, s4, s5, .sh d6, s7, .un, .sh (pD p), .sh (hidD A B), .sh (pD (inn m p)), .un, .un, .un]) (ea := M.fld ["Hidden"] "one" (M.var 10)) (eb := M.fld ["Hidden"] "other" (M.var 10)) la lb fun i => ⟨_, rfl, f1 _ rfl, f2 _ rfl, rfl, rfl⟩
    rw [r3] at dl
    have lc : (M.lc [8] (M.range1 (M.cons (M.two (M.var 2) (M.pure (.int 2)) fun x y => (D.add x y).good) M.nil)) (.nm 8) (M.tru (M.two (M.two (M.fld ["Hidden"] "one" (M.var 10)) (M.var 8) fun x y => (D.ix x y).good) (M.two (M.fld ["Hidden"] "other" (M.var 10)) (M.var 8) fun x y => (D.ix x y).good) fun x y => ((D.eqR true) x y).good)) (M.var 8)) [s0, s1, .sh (.int m), .sh d3, s4, s5, .sh d6, s7, .sh d8, .sh (pD p), .sh (hidD A B), .sh (pD (inn m p)), .un, .un, .un] = .ok (pD p) [s0, s1, .sh (.int m), .sh d3, s4, s5, .sh d6, s7, .sh d8, .sh (pD p), .sh (hidD A B), .sh (pD (inn m p)), .un, .un, .un] :=
      e_lc (range2_ok (by omega) (e_var rfl)) dl rfl
    refine s_iteT (e_notB (v := false) (e_truO (e_var rfl) e)) (s_seq (s_iteF (e_orF (e_tru (e_two (e_call (e_cons (f1 _ rfl) e_nil) wia) e_pure rfl) rfl) (e_orF (e_tru (e_two (e_call (e_cons (f2 _ rfl) e_nil) wib) e_pure rfl) rfl) (e_orF (e_tru (e_two (e_call (e_cons (e_slice (f1 _ rfl) e_noPart (e_part (e_one e_pure rfl)) sA) e_nil) ba) (f1 _ rfl) (ne_tup_self A)) rfl) (e_tru (e_two (e_call (e_cons (e_slice (f2 _ rfl) e_noPart (e_part (e_one e_pure rfl)) sB) e_nil) bb) (f2 _ rfl) (ne_tup_self B)) rfl)))) s_skip) (s_seq (s_iteF (e_orF (e_tru (e_two lc (e_var rfl) (ne_lst_self p)) rfl) (e_tru (e_two (e_app (e_cons (f1 _ rfl) e_nil) lA) (e_two (e_var rfl) e_pure rfl) nl) rfl)) s_skip) (s_iteF (e_orF (e_tru (e_meth (e_make (e_cons (f1 _ rfl) (e_cons (f1 _ rfl) e_nil)) hinit) (by decide) rfl (e_cons (e_var rfl) (e_cons (e_var rfl) e_nil)) x1) rfl) (e_orF (e_tru (e_meth (e_make (e_cons (f1 _ rfl) (e_cons (e_two (e_slice (f2 _ rfl) e_noPart (e_part (e_one e_pure rfl)) sB1) (e_app (e_cons e_pure e_nil) (mkTup_ok (Nat.le_of_ble_eq_true rfl))) ad) e_nil)) hinit) (by decide) rfl (e_cons (e_var rfl) (e_cons (e_var rfl) e_nil)) x2) rfl) (e_orF (e_tru (e_meth (e_make (e_cons (f1 _ rfl) (e_cons (f2 _ rfl) e_nil)) hinit) (by decide) rfl (e_cons (e_var rfl) (e_cons (e_slice (e_var rfl) (e_part e_pure) e_noPart (sliceT p)) e_nil)) x3) rfl) (e_tru (e_two (e_make (e_cons (f2 _ rfl) (e_cons (f1 _ rfl) e_nil)) hinit) (e_var rfl) x4) rfl)))) s_skip)))
end
end DL

namespace DL
open PySem L2
def isB (b : Bool) : R D → Bool
  | .ok (.bl c) => b == c
  | _ => false
theorem isB_eq {b : Bool} {r : R D} (h : isB b r = true) : r = .ok (.bl b) := by
  unfold isB at h
  split at h
  · rw [← eq_of_beq h]
  · cases h
def isN : R D → Bool
  | .ok .non => true
  | _ => false
theorem isN_eq {r : R D} (h : isN r = true) : r = .ok .non := by
  unfold isN at h
  split at h
  · rfl
  · cases h
theorem add_lst {a b : List D} (h : a.length + b.length ≤ 1000) : D.add (.lst a) (.lst b) = .ok (.lst (a ++ b)) := if_pos (line_ge h)
theorem refs : ((List.range 13).all fun n => isB true (F_refused [.fn n])) = true := by decide +kernel
theorem ref13 : F_refused [.fn 13] = .ok (.bl false) := isB_eq (by decide +kernel)
theorem ref_of {d : D} (h : d ∈ (List.range 13).map D.fn) : F_refused [d] = .ok (.bl true) := by
  obtain ⟨n, hn, e⟩ := List.mem_map.mp h
  rw [← e]
  exact isB_eq (List.all_eq_true.mp refs n hn)
def lates : List D := [.non, .int 5, .tup [], .tup [.int 0], .tup [.bl true, .int 1, .int 1], .tup [.str "a", .int 0, .int 0], .tup [.int (-1), .int 0, .int 0], .lst (List.replicate 43 (.int 0))]
theorem lates_all : (lates.all fun d => isN (F_words_in [d])) = true := by decide +kernel
theorem lates_of {d : D} (h : d ∈ lates) : F_words_in [d] = .ok .non := isN_eq (List.all_eq_true.mp lates_all d h)
section
variable {s0 s1 s2 s3 s4 s5 s7 s8 s9 s10 s11 : Slot} {d6 d12 : D}
theorem run12 : law_12 [s0, s1, s2, s3, s4, s5, .sh d6, s7, s8, s9, s10, s11, .un, .un, .un] = .nx [s0, s1, s2, s3, s4, s5, .sh d6, s7, s8, s9, s10, s11, .sh (.lst [.fn 0, .fn 1, .fn 2, .fn 3, .fn 4, .fn 5, .fn 6, .fn 7]), .un, .un] :=
  s_set (e_app (e_cons e_pure (e_cons e_pure (e_cons e_pure (e_cons e_pure (e_cons e_pure (e_cons e_pure (e_cons e_pure (e_cons e_pure e_nil)))))))) (mkLst_ok (Nat.le_of_ble_eq_true rfl)))
theorem run13 : law_13 [s0, s1, s2, s3, s4, s5, .sh d6, s7, s8, s9, s10, s11, .sh (.lst [.fn 0, .fn 1, .fn 2, .fn 3, .fn 4, .fn 5, .fn 6, .fn 7]), .un, .un] = .nx [s0, s1, s2, s3, s4, s5, .sh d6, s7, s8, s9, s10, s11, .sh (.lst ((List.range 13).map .fn)), .un, .un] := by
  have e : D.add (.lst [.fn 0, .fn 1, .fn 2, .fn 3, .fn 4, .fn 5, .fn 6, .fn 7]) (.lst [.fn 8, .fn 9, .fn 10, .fn 11, .fn 12]) = .ok (.lst ((List.range 13).map .fn)) := add_lst (a := [.fn 0, .fn 1, .fn 2, .fn 3, .fn 4, .fn 5, .fn 6, .fn 7]) (b := [.fn 8, .fn 9, .fn 10, .fn 11, .fn 12]) (Nat.le_of_ble_eq_true rfl)
  exact s_set (e_two (e_var rfl) (e_app (e_cons e_pure (e_cons e_pure (e_cons e_pure (e_cons e_pure (e_cons e_pure e_nil))))) (mkLst_ok (Nat.le_of_ble_eq_true rfl))) e)
theorem run14 : law_14 [s0, s1, s2, s3, s4, s5, .sh d6, s7, s8, s9, s10, s11, .sh (.lst ((List.range 13).map .fn)), .un, .un] = .nx [s0, s1, s2, s3, s4, s5, .sh d6, s7, s8, s9, s10, s11, .sh (.lst ((List.range 13).map .fn)), .un, .un] := by
  have lc : (M.lc [14] (M.items (M.var 12)) (.nm 14) (M.pure true) (M.call (M.cons (M.var 14) M.nil) F_refused)) [s0, s1, s2, s3, s4, s5, .sh d6, s7, s8, s9, s10, s11, .sh (.lst ((List.range 13).map .fn)), .un, .un] = .ok (.lst (((List.range 13).map D.fn).map fun d => .bl ((fun _ => true) d))) [s0, s1, s2, s3, s4, s5, .sh d6, s7, s8, s9, s10, s11, .sh (.lst ((List.range 13).map .fn)), .un, .un] :=
    e_lc (e_items (e_var rfl) rfl) (lcL_map (f := fun d => .bl ((fun _ => true) d)) fun d hd => ⟨_, _, rfl, e_call (e_cons (e_var rfl) e_nil) (ref_of hd), rfl⟩) rfl
  have al : D.allF [.lst (((List.range 13).map D.fn).map fun d => .bl ((fun _ => true) d))] = .ok (.bl true) := by rw [all_bools]; rfl
  exact s_iteF (e_orF (e_notB (v := true) (e_tru (e_app (e_cons lc e_nil) al) rfl)) (e_tru (e_call (e_cons e_pure e_nil) ref13) rfl)) s_skip
theorem run15 : ∃ ρ, law_15 [s0, s1, s2, s3, s4, s5, .sh d6, s7, s8, s9, s10, s11, .sh d12, .un, .un] = .rt (.bl true) ρ := by
  have m43 : D.mul (.lst [.int 0]) (.int 43) = .ok (.lst (List.replicate 43 (.int 0))) := rfl
  have m8 : D.mul (.lst [.non]) (.int 8) = .ok (.lst (List.replicate 8 .non)) := rfl
  have e1 : D.eqR false (.lst (lates.map fun _ => .non)) (.lst (List.replicate 8 .non)) = .ok (.bl true) := isB_eq (by decide +kernel)
  have e2 : D.eqO eqL false (.obj "Noticed" [] []) (.obj "Noticed" [] []) = .ok (.bl true) := isB_eq (by decide +kernel)
  have e3 : D.eqO eqL true (.obj "Noticed" [] []) (.obj "Hidden" ["one", "other"] [.tup [], .tup []]) = .ok (.bl true) := isB_eq (by decide +kernel)
  have lc : lcL [6] (.nm 6) (M.pure true) (M.call (M.cons (M.var 6) M.nil) F_words_in) lates [s0, s1, s2, s3, s4, s5, .un, s7, s8, s9, s10, s11, .sh d12, .un, .un] = .ok (lates.map fun _ => .non) [s0, s1, s2, s3, s4, s5, .un, s7, s8, s9, s10, s11, .sh d12, .un, .un] :=
    lcL_map (f := fun _ => .non) fun d hd => ⟨_, _, rfl, e_call (e_cons (e_var rfl) e_nil) (lates_of hd), rfl⟩
  have t : ∀ l : List D, l.length ≤ 1000 → D.mkTup l = .ok (.tup l) := fun l h => mkTup_ok h
  have it : (M.items (M.app (M.cons (M.pure .non) (M.cons (M.pure (.int 5)) (M.cons (M.app M.nil D.mkTup) (M.cons (M.app (M.cons (M.pure (.int 0)) M.nil) D.mkTup) (M.cons (M.app (M.cons (M.pure (.bl true)) (M.cons (M.pure (.int 1)) (M.cons (M.pure (.int 1)) M.nil))) D.mkTup) (M.cons (M.app (M.cons (M.pure (.str "a")) (M.cons (M.pure (.int 0)) (M.cons (M.pure (.int 0)) M.nil))) D.mkTup) (M.cons (M.app (M.cons (M.one (M.pure (.int 1)) fun x => (D.neg x).good) (M.cons (M.pure (.int 0)) (M.cons (M.pure (.int 0)) M.nil))) D.mkTup) (M.cons (M.two (M.app (M.cons (M.pure (.int 0)) M.nil) D.mkLst) (M.pure (.int 43)) fun x y => (D.mul x y).good) M.nil)))))))) D.mkTup)) [s0, s1, s2, s3, s4, s5, .sh d6, s7, s8, s9, s10, s11, .sh d12, .un, .un] = .ok lates [s0, s1, s2, s3, s4, s5, .sh d6, s7, s8, s9, s10, s11, .sh d12, .un, .un] :=
    e_items (a := .tup lates) (e_app (as := lates) (e_cons e_pure (e_cons e_pure (e_cons (e_app e_nil (t _ (Nat.le_of_ble_eq_true rfl))) (e_cons (e_app (e_cons e_pure e_nil) (t _ (Nat.le_of_ble_eq_true rfl))) (e_cons (e_app (e_cons e_pure (e_cons e_pure (e_cons e_pure e_nil))) (t _ (Nat.le_of_ble_eq_true rfl))) (e_cons (e_app (e_cons e_pure (e_cons e_pure (e_cons e_pure e_nil))) (t _ (Nat.le_of_ble_eq_true rfl))) (e_cons (e_app (e_cons (e_one (d := .int (-1)) e_pure rfl) (e_cons e_pure (e_cons e_pure e_nil))) (t _ (Nat.le_of_ble_eq_true rfl))) (e_cons (e_two (e_app (e_cons e_pure e_nil) (mkLst_ok (Nat.le_of_ble_eq_true rfl))) e_pure m43) e_nil)))))))) (t _ (Nat.le_of_ble_eq_true rfl))) rfl
  refine ⟨[s0, s1, s2, s3, s4, s5, .sh d6, s7, s8, s9, s10, s11, .sh d12, .un, .un], s_ret (e_andVT (e_two (e_lc it lc (ρ3 := [s0, s1, s2, s3, s4, s5, .sh d6, s7, s8, s9, s10, s11, .sh d12, .un, .un]) rfl) (e_two (e_app (e_cons e_pure e_nil) (mkLst_ok (Nat.le_of_ble_eq_true rfl))) e_pure m8) e1) rfl (e_andVT (e_two e_pure e_pure e2) rfl (e_two e_pure (e_make (e_cons (e_app e_nil (mkTup_ok (Nat.le_of_ble_eq_true rfl))) (e_cons (e_app e_nil (mkTup_ok (Nat.le_of_ble_eq_true rfl))) e_nil)) hinit) e3)))⟩
end
end DL

namespace DL
open PySem L2
/-! ### a block with one or two changed places is no block, or the same block -/
theorem one_eq {k : Nat} {d : Int} (hk : 1 ≤ k) (h8 : k ≤ 8) (h : ((k : Int) * d) % 9973 = 0) (h1 : -9973 < d) (h2 : d < 9973) : d = 0 := by
  rcases (by omega : k = 1 ∨ k = 2 ∨ k = 3 ∨ k = 4 ∨ k = 5 ∨ k = 6 ∨ k = 7 ∨ k = 8) with e | e | e | e | e | e | e | e <;> subst e <;> omega
theorem two_eq {i j : Nat} {d1 d2 : Int} (hi : i < 8) (hj : j < 8) (hne : i ≠ j) (h1 : (d1 + d2) % 9973 = 0) (h2 : (((i : Int) + 1) * d1 + ((j : Int) + 1) * d2) % 9973 = 0) (a1 : -9973 < d1) (a2 : d1 < 9973) (b1 : -9973 < d2) (b2 : d2 < 9973) : d1 = 0 ∧ d2 = 0 := by
  have e : ((i : Int) + 1) * d1 + ((j : Int) + 1) * d2 = ((i : Int) - j) * d1 + ((j : Int) + 1) * (d1 + d2) := by
    simp only [Int.add_mul, Int.sub_mul, Int.mul_add]; omega
  have dv : (9973 : Int) ∣ ((i : Int) - j) * d1 := by
    have x1 : (9973 : Int) ∣ d1 + d2 := Int.dvd_of_emod_eq_zero h1
    have x2 : (9973 : Int) ∣ ((i : Int) - j) * d1 + ((j : Int) + 1) * (d1 + d2) := by rw [← e]; exact Int.dvd_of_emod_eq_zero h2
    have x3 : (9973 : Int) ∣ ((j : Int) + 1) * (d1 + d2) := (let ⟨c, hc⟩ := x1; ⟨((j : Int) + 1) * c, by rw [hc, ← Int.mul_assoc, Int.mul_comm ((j : Int) + 1) 9973, Int.mul_assoc]⟩)
    exact (Int.dvd_add_left x3).mp x2
  have z : d1 = 0 := by
    rcases Nat.lt_or_gt_of_ne hne with c | c
    · refine one_eq (k := j - i) (by omega) (by omega) ?_ a1 a2
      have : (((j - i : Nat) : Int) * d1) = -(((i : Int) - j) * d1) := by rw [show ((j - i : Nat) : Int) = -((i : Int) - j) by omega, Int.neg_mul]
      rw [this]; exact Int.emod_eq_zero_of_dvd (Int.dvd_neg.mpr dv)
    · refine one_eq (k := i - j) (by omega) (by omega) ?_ a1 a2
      rw [show ((i - j : Nat) : Int) = (i : Int) - j by omega]; exact Int.emod_eq_zero_of_dvd dv
  exact ⟨z, by omega⟩
theorem sum_set : ∀ (ws : List Int) (i : Nat) (x : Int) (hi : i < ws.length), (ws.set i x).sum = ws.sum + (x - ws[i])
  | a :: ws, 0, x, _ => by show x + ws.sum = a + ws.sum + (x - a); omega
  | a :: ws, i + 1, x, hi => by
    have := sum_set ws i x (by simpa using hi)
    show a + (ws.set i x).sum = a + ws.sum + (x - ws[i]'(by simpa using hi)); omega
theorem heavy_set (ws : List Int) (i : Nat) (x : Int) (hi : i < ws.length) : heavyI (ws.set i x) = heavyI ws + ((i : Int) + 1) * (x - ws[i]) := by
  unfold heavyI
  rw [List.mapIdx_set, sum_set _ i _ (by rw [List.length_mapIdx]; exact hi), List.getElem_mapIdx, Int.mul_sub]
end DL

namespace DL
open PySem L2
theorem set_same {ws : List Int} {i : Nat} {x : Int} (hi : i < ws.length) (h : x - ws[i] = 0) : ws.set i x = ws := by
  rw [show x = ws[i] by omega]; exact List.set_getElem_self hi
theorem plain_eq {a b n : Int} (h : (a + n) % 9973 = (b + n) % 9973) : (b - a) % 9973 = 0 := by omega
/-- one word changed, one of the sums kept -/
theorem late_one {ws : List Int} (h8 : ws.length ≤ 8) (hg : good ws) {i : Nat} {x : Int} (hi : i < ws.length) (hx : 0 ≤ x ∧ x < 9973) (h : (sums ws).1 = (sums (ws.set i x)).1 ∨ (sums ws).2 = (sums (ws.set i x)).2) : ws.set i x = ws := by
  have r := hg.2 ws[i] (List.getElem_mem hi)
  rw [sums_eq (by omega), sums_eq (by rw [List.length_set]; omega), List.length_set, sum_set ws i x hi, heavy_set ws i x hi] at h
  refine set_same hi ?_
  rcases h with h | h
  · have z := plain_eq h
    exact one_eq (k := 1) (by omega) (by omega) (by rw [show ((1 : Nat) : Int) * (x - ws[i]) = ws.sum + (x - ws[i]) - ws.sum by omega]; exact z) (by omega) (by omega)
  · have z := plain_eq h
    exact one_eq (k := i + 1) (by omega) (by omega) (by rw [show (((i + 1 : Nat) : Int) * (x - ws[i])) = heavyI ws + ((i : Int) + 1) * (x - ws[i]) - heavyI ws by rw [show ((i + 1 : Nat) : Int) = (i : Int) + 1 by omega]; omega]; exact z) (by omega) (by omega)
theorem late_both {ws : List Int} (h8 : ws.length ≤ 8) (hg : good ws) {i j : Nat} {x y : Int} (hi : i < ws.length) (hj : j < ws.length) (hx : 0 ≤ x ∧ x < 9973) (hy : 0 ≤ y ∧ y < 9973) (h1 : (sums ws).1 = (sums ((ws.set i x).set j y)).1) (h2 : (sums ws).2 = (sums ((ws.set i x).set j y)).2) : (ws.set i x).set j y = ws := by
  by_cases q : i = j
  · subst q
    rw [List.set_set] at h1 ⊢
    exact late_one h8 hg hi hy (Or.inl h1)
  · have r1 := hg.2 ws[i] (List.getElem_mem hi)
    have r2 := hg.2 ws[j] (List.getElem_mem hj)
    have hj' : j < (ws.set i x).length := by rw [List.length_set]; exact hj
    have gj : (ws.set i x)[j] = ws[j] := List.getElem_set_ne q hj'
    rw [sums_eq (by omega), sums_eq (by rw [List.length_set, List.length_set]; omega), List.length_set, List.length_set] at h1 h2
    rw [sum_set _ j y hj', sum_set ws i x hi, gj] at h1
    rw [heavy_set _ j y hj', heavy_set ws i x hi, gj] at h2
    have z1 := plain_eq h1
    have z2 := plain_eq h2
    obtain ⟨e1, e2⟩ := two_eq (i := i) (j := j) (d1 := x - ws[i]) (d2 := y - ws[j]) (by omega) (by omega) q (by rw [show x - ws[i] + (y - ws[j]) = ws.sum + (x - ws[i]) + (y - ws[j]) - ws.sum by omega]; exact z1) (by
      rw [show ((i : Int) + 1) * (x - ws[i]) + ((j : Int) + 1) * (y - ws[j]) = heavyI ws + ((i : Int) + 1) * (x - ws[i]) + ((j : Int) + 1) * (y - ws[j]) - heavyI ws by omega]; exact z2) (by omega) (by omega) (by omega) (by omega)
    rw [set_same hi e1]; exact set_same hj e2
theorem late_two {ws : List Int} (hg : good ws) (h8 : ws.length ≤ 8) {i j : Nat} (hi : i < ws.length + 2) (hj : j < ws.length + 2) {x y : Int} (hx : 0 ≤ x ∧ x < 9973) (hy : 0 ≤ y ∧ y < 9973) {ws' : List Int} (h : wordsI (((blockI ws).set i x).set j y) = some ws') : ((blockI ws).set i x).set j y = blockI ws := by
  obtain ⟨e, g⟩ := wordsI_some h
  have lw : ws'.length = ws.length := by
    have := congrArg List.length e
    rw [List.length_set, List.length_set, blockI_len, blockI_len] at this; omega
  suffices q : ws' = ws by rw [e, q]
  have e0 := e
  unfold blockI at e
  by_cases ci : i < ws.length
  · rw [List.set_append_left _ _ ci] at e
    by_cases cj : j < ws.length
    · rw [List.set_append_left _ _ (by rw [List.length_set]; exact cj)] at e
      obtain ⟨a, b⟩ := List.append_inj e (by rw [List.length_set, List.length_set, lw])
      simp only [List.cons.injEq, and_true] at b
      rw [← a] at b ⊢
      exact late_both h8 hg ci cj hx hy b.1 b.2
    · rw [List.set_append_right _ _ (by rw [List.length_set]; omega)] at e
      obtain ⟨a, b⟩ := List.append_inj e (by rw [List.length_set, lw])
      rw [← a] at b ⊢
      rw [List.length_set] at b
      refine late_one h8 hg ci hx ?_
      rcases (by omega : j - ws.length = 0 ∨ j - ws.length = 1) with k | k <;> rw [k] at b <;> simp only [List.set_cons_zero, List.set_cons_succ, List.cons.injEq, and_true] at b
      · exact Or.inr b.2
      · exact Or.inl b.1
  · rw [List.set_append_right _ _ (by omega)] at e
    by_cases cj : j < ws.length
    · rw [List.set_append_left _ _ cj] at e
      obtain ⟨a, b⟩ := List.append_inj e (by rw [List.length_set, lw])
      rw [← a] at b ⊢
      refine late_one h8 hg cj hy ?_
      rcases (by omega : i - ws.length = 0 ∨ i - ws.length = 1) with k | k <;> rw [k] at b <;> simp only [List.set_cons_zero, List.set_cons_succ, List.cons.injEq, and_true] at b
      · exact Or.inr b.2
      · exact Or.inl b.1
    · rw [List.set_append_right _ _ (by omega)] at e
      exact (List.append_inj e lw.symm).1.symm
/-- what words_in answers to a late block -/
theorem late_words {ws : List Int} (hg : good ws) (h8 : ws.length ≤ 8) {i j : Nat} (hi : i < ws.length + 2) (hj : j < ws.length + 2) {x y : Int} (hx : 0 ≤ x ∧ x < 9973) (hy : 0 ≤ y ∧ y < 9973) : wordsI (((blockI ws).set i x).set j y) = if ((blockI ws).set i x).set j y = blockI ws then some ws else none := by
  by_cases c : ((blockI ws).set i x).set j y = blockI ws
  · rw [if_pos c, c]; exact wordsI_block hg
  · rw [if_neg c]
    cases q : wordsI (((blockI ws).set i x).set j y) with
    | none => rfl
    | some ws' => exact absurd (late_two hg h8 hi hj hx hy q) c
end DL

namespace DL
open PySem L2
/-! ### the draws, the first block -/
theorem e_take {sc : List Int} {ρ : Env} {g : M D} {k c : Int} (hs : sc.length ≤ 63) (hk : 0 ≤ k) (h0 : ρ[1]? = some (.ow (drawD sc k))) (hg : g ρ = .ok (.int c) ρ) (hc : 0 < c) : ∃ r, 0 ≤ r ∧ r < c ∧ M.callI 1 (M.cons g M.nil) F_take ρ = .ok (.int r) (ρ.set 1 (.ow (drawD sc (k + 1)))) := by
  obtain ⟨r, r0, r1, e⟩ := take_ok hk hs hc
  exact ⟨r, r0, r1, e_callI h0 (e_cons hg e_nil) h0 e⟩
section
variable {sc : List Int} {s0 : Slot}
theorem run0 : law_0 [.sh (.fls (sc.map .int)), .un, .un, .un, .un, .un, .un, .un, .un, .un, .un, .un, .un, .un, .un] = .nx [.sh (.fls (sc.map .int)), .ow (drawD sc 0), .un, .un, .un, .un, .un, .un, .un, .un, .un, .un, .un, .un, .un] :=
  s_own (e_app (e_cons (e_var rfl) (e_cons e_pure e_nil)) (mkLst_ok (Nat.le_of_ble_eq_true rfl)))
theorem run1 (hs : sc.length ≤ 63) : ∃ m : Nat, 1 ≤ m ∧ m ≤ 8 ∧ law_1 [s0, .ow (drawD sc 0), .un, .un, .un, .un, .un, .un, .un, .un, .un, .un, .un, .un, .un] = .nx [s0, .ow (drawD sc 1), .sh (.int m), .un, .un, .un, .un, .un, .un, .un, .un, .un, .un, .un, .un] := by
  obtain ⟨r, r0, r1, e⟩ := e_take (ρ := [s0, .ow (drawD sc 0), .un, .un, .un, .un, .un, .un, .un, .un, .un, .un, .un, .un, .un]) (g := M.pure (.int 8)) hs (Int.le_refl 0) rfl e_pure (by decide)
  refine ⟨(1 + r).toNat, by omega, by omega, ?_⟩
  rw [show (((1 + r).toNat : Nat) : Int) = 1 + r by omega]
  exact s_set (e_two e_pure e rfl)
/-- one word -/
theorem word_el (hs : sc.length ≤ 63) {ρ : Env} {k : Int} (hk : 0 ≤ k) (h0 : ρ[1]? = some (.ow (drawD sc k))) : ∃ w, 0 ≤ w ∧ w < 9973 ∧ (M.two (M.app (M.cons (M.two (M.two (M.callI 1 (M.cons (M.pure (.int 997)) M.nil) F_take) (M.pure (.int 11)) fun x y => (D.mul x y).good) (M.callI 1 (M.cons (M.pure (.int 11)) M.nil) F_take) fun x y => (D.add x y).good) M.nil) D.intF) (M.pure (.int 9973)) fun x y => (D.mod x y).good) ρ = .ok (.int w) (ρ.set 1 (.ow (drawD sc (k + 2)))) := by
  obtain ⟨r, _, _, e⟩ := e_take (ρ := ρ) (g := M.pure (.int 997)) hs hk h0 e_pure (by decide)
  have hl : 1 < ρ.length := (List.getElem?_eq_some_iff.mp h0).1
  obtain ⟨r', _, _, e'⟩ := e_take (ρ := ρ.set 1 (.ow (drawD sc (k + 1)))) (k := k + 1) (g := M.pure (.int 11)) hs (by omega) (List.getElem?_set_self hl) e_pure (by decide)
  rw [List.set_set, show k + 1 + 1 = k + 2 by omega] at e'
  exact ⟨(r * 11 + r') % 9973, Int.emod_nonneg _ (by decide), Int.emod_lt_of_pos _ (by decide), e_two (e_app (e_cons (e_two (e_two e e_pure (mulR (by decide))) e' rfl) e_nil) rfl) e_pure (modP (by decide))⟩
end
end DL

namespace DL
open PySem L2
section
variable {sc : List Int} {s0 : Slot}
abbrev wordT : M D := (M.two (M.app (M.cons (M.two (M.two (M.callI 1 (M.cons (M.pure (.int 997)) M.nil) F_take) (M.pure (.int 11)) fun x y => (D.mul x y).good) (M.callI 1 (M.cons (M.pure (.int 11)) M.nil) F_take) fun x y => (D.add x y).good) M.nil) D.intF) (M.pure (.int 9973)) fun x y => (D.mod x y).good)
theorem words_loop (hs : sc.length ≤ 63) {s2 : Slot} {r : List Slot} : ∀ (ds : List D) (k : Int), 0 ≤ k → ∃ (ws : List Int) (k' : Int), 0 ≤ k' ∧ ws.length = ds.length ∧ (∀ w ∈ ws, 0 ≤ w ∧ w < 9973) ∧ lcL [3] (.nm 3) (M.pure true) wordT ds (s0 :: .ow (drawD sc k) :: s2 :: .un :: r) = .ok (ws.map .int) (s0 :: .ow (drawD sc k') :: s2 :: .un :: r)
  | [], k, hk => ⟨[], k, hk, rfl, (fun _ h => by cases h), rfl⟩
  | d :: ds, k, hk => by
    obtain ⟨w, w0, w1, e⟩ := word_el (ρ := s0 :: .ow (drawD sc k) :: s2 :: .sh d :: r) hs hk rfl
    obtain ⟨ws, k', h1, h2, h3, h4⟩ := words_loop (s2 := s2) (r := r) hs ds (k + 2) (by omega)
    refine ⟨w :: ws, k', h1, by simp only [List.length_cons, h2], fun x hx => ?_, ?_⟩
    · rcases List.mem_cons.mp hx with c | c
      · subst c; exact ⟨w0, w1⟩
      · exact h3 x c
    · unfold lcL
      rw [show asgD (.nm 3) d (s0 :: .ow (drawD sc k) :: s2 :: .un :: r) = some (s0 :: .ow (drawD sc k) :: s2 :: .sh d :: r) from rfl]
      dsimp only
      rw [show M.pure true (s0 :: .ow (drawD sc k) :: s2 :: .sh d :: r) = .ok true (s0 :: .ow (drawD sc k) :: s2 :: .sh d :: r) from rfl]
      dsimp only
      rw [show wordT _ = _ from e]
      dsimp only
      rw [show wipeZ ((s0 :: .ow (drawD sc k) :: s2 :: .sh d :: r).set 1 (.ow (drawD sc (k + 2)))) [3] = (s0 :: .ow (drawD sc (k + 2)) :: s2 :: .un :: r) from rfl, h4]
      rfl
theorem run2 (hs : sc.length ≤ 63) {m : Nat} (h8 : m ≤ 8) : ∃ (ws : List Int) (k : Int), 0 ≤ k ∧ ws.length = m ∧ (∀ w ∈ ws, 0 ≤ w ∧ w < 9973) ∧ law_2 [s0, .ow (drawD sc 1), .sh (.int m), .un, .un, .un, .un, .un, .un, .un, .un, .un, .un, .un, .un] = .nx [s0, .ow (drawD sc k), .sh (.int m), .un, .sh (.lst (ws.map .int)), .un, .un, .un, .un, .un, .un, .un, .un, .un, .un] := by
  obtain ⟨ws, k, hk, hl, hw, e⟩ := words_loop (s0 := s0) (s2 := .sh (.int m)) (r := [.un, .un, .un, .un, .un, .un, .un, .un, .un, .un, .un]) hs (rangeD 0 m) 1 (by decide)
  refine ⟨ws, k, hk, by rw [hl]; unfold rangeD; rw [List.length_map, List.length_range], hw, ?_⟩
  have ra : M.range1 (M.cons (M.var 2) M.nil) [s0, .ow (drawD sc 1), .sh (.int m), .un, .un, .un, .un, .un, .un, .un, .un, .un, .un, .un, .un] = .ok (rangeD 0 m) [s0, .ow (drawD sc 1), .sh (.int m), .un, .un, .un, .un, .un, .un, .un, .un, .un, .un, .un, .un] := e_range1 (n := (m : Int)) (e_cons (e_var rfl) e_nil) (by constructor <;> omega)
  exact s_set (e_lc ra e (ρ3 := [s0, .ow (drawD sc k), .sh (.int m), .un, .un, .un, .un, .un, .un, .un, .un, .un, .un, .un, .un]) rfl)
end
end DL

namespace DL
open PySem L2
section
variable {sc : List Int} {s0 s1 s2 : Slot} {ws : List Int}
theorem run3 (hg : good ws) : law_3 [s0, s1, s2, .un, .sh (.lst (ws.map .int)), .un, .un, .un, .un, .un, .un, .un, .un, .un, .un] = .nx [s0, s1, s2, .un, .sh (.lst (ws.map .int)), .sh (.tup ((blockI ws).map .int)), .un, .un, .un, .un, .un, .un, .un, .un, .un] :=
  s_set (e_call (e_cons (e_app (e_cons (e_var rfl) e_nil) rfl) e_nil) (block_of_ok (x := .tup (ws.map .int)) rfl hg))
theorem run4 (hg : good ws) : law_4 [s0, s1, s2, .un, .sh (.lst (ws.map .int)), .sh (.tup ((blockI ws).map .int)), .un, .un, .un, .un, .un, .un, .un, .un, .un] = .nx [s0, s1, s2, .un, .sh (.lst (ws.map .int)), .sh (.tup ((blockI ws).map .int)), .un, .un, .un, .un, .un, .un, .un, .un, .un] := by
  have hl := hg.1
  have b := lblock_is (x := .lst (ws.map .int)) (ws := ws) rfl (by omega)
  have w : F_words_in [.lst ((blockI ws).map .int)] = .ok (.tup (ws.map .int)) := by rw [words_in_ok (Or.inr rfl) (by rw [blockI_len]; omega), wordsI_block hg]; rfl
  have b0 : F_block_of [.lst []] = .ok (.tup [.int 0, .int 0]) := block_of_ok (x := .lst []) (ws := []) rfl ⟨by decide, fun _ h => by cases h⟩
  have n0 : D.eqR true (.tup [.int 0, .int 0]) (.tup [.int 0, .int 0]) = .ok (.bl false) := ne_tup_self [0, 0]
  have w0 : F_words_in [.tup [.int 0, .int 0]] = .ok (.tup []) := by
    have z := words_in_ok (x := .tup [.int 0, .int 0]) (bs := [0, 0]) (Or.inl rfl) (by decide)
    rw [show ([0, 0] : List Int) = blockI [] from rfl, wordsI_block ⟨by decide, fun _ h => by cases h⟩] at z
    exact z
  exact s_iteF (e_orF (e_tru (e_two (e_var rfl) (e_call (e_cons (e_var rfl) e_nil) b) (ne_tup_self _)) rfl) (e_orF (e_tru (e_two (e_call (e_cons (e_app (e_cons (e_var rfl) e_nil) rfl) e_nil) w) (e_app (e_cons (e_var rfl) e_nil) rfl) (ne_tup_self ws)) rfl) (e_orF (e_tru (e_two (e_call (e_cons (e_app e_nil (mkLst_ok (Nat.le_of_ble_eq_true rfl))) e_nil) b0) (e_app (e_cons e_pure (e_cons e_pure e_nil)) (mkTup_ok (Nat.le_of_ble_eq_true rfl))) n0) rfl) (e_tru (e_two (e_call (e_cons (e_app (e_cons e_pure (e_cons e_pure e_nil)) (mkTup_ok (Nat.le_of_ble_eq_true rfl))) e_nil) w0) (e_app e_nil (mkTup_ok (Nat.le_of_ble_eq_true rfl))) (ne_tup_self [])) rfl)))) s_skip
end
end DL

namespace DL
open PySem L2
section
variable {sc : List Int} {s0 s4 s5 s7 : Slot} {d6 d8 : D}
abbrev placeT : M D := M.callI 1 (M.cons (M.two (M.var 2) (M.pure (.int 2)) fun x y => (D.add x y).good) M.nil) F_take
theorem places_loop (hs : sc.length ≤ 63) {m : Nat} {r : List Slot} : ∀ (ds : List D) (k : Int), 0 ≤ k → ∃ (ps : List Int) (k' : Int), 0 ≤ k' ∧ ps.length = ds.length ∧ (∀ w ∈ ps, 0 ≤ w ∧ w < (m : Int) + 2) ∧ lcL [3] (.nm 3) (M.pure true) placeT ds (s0 :: .ow (drawD sc k) :: .sh (.int m) :: .un :: r) = .ok (ps.map .int) (s0 :: .ow (drawD sc k') :: .sh (.int m) :: .un :: r)
  | [], k, hk => ⟨[], k, hk, rfl, (fun _ h => by cases h), rfl⟩
  | d :: ds, k, hk => by
    obtain ⟨w, w0, w1, e⟩ := e_take (ρ := s0 :: .ow (drawD sc k) :: .sh (.int m) :: .sh d :: r) (g := M.two (M.var 2) (M.pure (.int 2)) fun x y => (D.add x y).good) (c := (m : Int) + 2) hs hk rfl (e_two (e_var rfl) e_pure rfl) (by omega)
    obtain ⟨ps, k', h1, h2, h3, h4⟩ := places_loop (m := m) (r := r) hs ds (k + 1) (by omega)
    refine ⟨w :: ps, k', h1, by simp only [List.length_cons, h2], fun x hx => ?_, ?_⟩
    · rcases List.mem_cons.mp hx with c | c
      · subst c; exact ⟨w0, w1⟩
      · exact h3 x c
    · unfold lcL
      rw [show asgD (.nm 3) d (s0 :: .ow (drawD sc k) :: .sh (.int m) :: .un :: r) = some (s0 :: .ow (drawD sc k) :: .sh (.int m) :: .sh d :: r) from rfl]
      dsimp only
      rw [show M.pure true (s0 :: .ow (drawD sc k) :: .sh (.int m) :: .sh d :: r) = .ok true (s0 :: .ow (drawD sc k) :: .sh (.int m) :: .sh d :: r) from rfl]
      dsimp only
      rw [show placeT _ = _ from e]
      dsimp only
      rw [show wipeZ ((s0 :: .ow (drawD sc k) :: .sh (.int m) :: .sh d :: r).set 1 (.ow (drawD sc (k + 1)))) [3] = (s0 :: .ow (drawD sc (k + 1)) :: .sh (.int m) :: .un :: r) from rfl, h4]
      rfl
theorem insU_le (x : Int) : ∀ l : List Int, (insU x l).length ≤ l.length + 1
  | [] => Nat.le_refl _
  | y :: r => by
    unfold insU; split
    · exact Nat.le_refl _
    · split
      · exact Nat.le_succ _
      · have := insU_le x r; simp only [List.length_cons]; omega
theorem sortU_le : ∀ l : List Int, (sortU l).length ≤ l.length
  | [] => Nat.le_refl _
  | x :: r => by have := insU_le x (sortU r); have := sortU_le r; show (insU x (sortU r)).length ≤ r.length + 1; omega
theorem run7 (hs : sc.length ≤ 63) {m : Nat} {k : Int} (hk : 0 ≤ k) {d3 : D} : ∃ (p : List Int) (k' : Int), 0 ≤ k' ∧ Inc 0 (m + 2) p ∧ p.length ≤ 5 ∧ law_7 [s0, .ow (drawD sc k), .sh (.int m), .sh d3, s4, s5, .sh d6, s7, .sh d8, .un, .un, .un, .un, .un, .un] = .nx [s0, .ow (drawD sc k'), .sh (.int m), .sh d3, s4, s5, .sh d6, s7, .sh d8, .sh (pD p), .un, .un, .un, .un, .un] := by
  obtain ⟨n, n0, n1, en⟩ := e_take (ρ := [s0, .ow (drawD sc k), .sh (.int m), .sh d3, s4, s5, .sh d6, s7, .sh d8, .un, .un, .un, .un, .un, .un]) (g := M.pure (.int 6)) hs hk rfl e_pure (by decide)
  obtain ⟨ps, k', h1, h2, h3, h4⟩ := places_loop (s0 := s0) (m := m) (r := [s4, s5, .sh d6, s7, .sh d8, .un, .un, .un, .un, .un, .un]) hs (rangeD 0 n.toNat) (k + 1) (by omega)
  have hl : ps.length ≤ 5 := by rw [h2]; unfold rangeD; rw [List.length_map, List.length_range]; omega
  refine ⟨sortU ps, k', h1, sortU_inc h3, Nat.le_trans (sortU_le ps) hl, ?_⟩
  have so : D.sortedSet (.lst (ps.map .int)) = .ok (pD (sortU ps)) := by
    unfold D.sortedSet D.setU; rw [intsOf (x := .lst (ps.map .int)) rfl]; dsimp only; rw [if_pos (by omega)]; rfl
  exact s_set (e_one (e_lc (e_range1 (e_cons en e_nil) (by constructor <;> omega)) h4 (ρ3 := [s0, .ow (drawD sc k'), .sh (.int m), .sh d3, s4, s5, .sh d6, s7, .sh d8, .un, .un, .un, .un, .un, .un]) rfl) so)
end
end DL

namespace DL
open PySem L2
theorem sliceK (k : Nat) (hk : 0 < k) {b : List Int} (hb : k ≤ b.length) : D.slice none (some (-(k : Int))) (.tup (b.map .int)) = .ok (.tup ((b.take (b.length - k)).map .int)) := by
  show R.ok (D.tup (cutD (b.map .int) none (some (-(k : Int))))) = _
  rw [cut_end _ k (by rw [List.length_map]; omega) hk, List.length_map, ← List.map_take]
section
variable {s0 s1 s2 s3 s4 s6 s7 s8 s9 : Slot} {ws : List Int}
theorem run6 (hg : good ws) (h1 : 1 ≤ ws.length) (h8 : ws.length ≤ 8) : law_6 [s0, s1, s2, s3, s4, .sh (.tup ((blockI ws).map .int)), s6, s7, s8, s9, .un, .un, .un, .un, .un] = .nx [s0, s1, s2, s3, s4, .sh (.tup ((blockI ws).map .int)), s6, s7, s8, s9, .un, .un, .un, .un, .un] := by
  generalize hb : blockI ws = b
  have lb : b.length = ws.length + 2 := by rw [← hb, blockI_len]
  have sl1 : D.slice none (some (-1)) (.tup (b.map .int)) = .ok (.tup ((b.take (b.length - 1)).map .int)) := slice1 (by omega)
  have sl3 : D.slice none (some (-3)) (.tup (b.map .int)) = .ok (.tup ((b.take (b.length - 3)).map .int)) := sliceK 3 (by decide) (by omega)
  have ad : D.add (.tup (b.map .int)) (.tup [.int 0]) = .ok (.tup ((b ++ [0]).map .int)) := by
    rw [add_tup (by rw [List.length_map]; show _ + 1 ≤ _; omega), List.map_append]; rfl
  have wi1 : F_words_in [.tup ((b.take (b.length - 1)).map .int)] = .ok (optT (wordsI (b.take (b.length - 1)))) := words_in_ok (Or.inl rfl) (by rw [List.length_take]; omega)
  have wi2 : F_words_in [.tup ((b ++ [0]).map .int)] = .ok (optT (wordsI (b ++ [0]))) := words_in_ok (Or.inl rfl) (by rw [List.length_append]; show _ + 1 ≤ _; omega)
  have i1 : D.isOp true (optT (wordsI (b.take (b.length - 1)))) .non = .ok (.bl (wordsI (b.take (b.length - 1))).isSome) := isOp_opt (neg := true)
  have i2 : D.isOp true (optT (wordsI (b ++ [0]))) .non = .ok (.bl (wordsI (b ++ [0])).isSome) := isOp_opt (neg := true)
  have t1 := e_tru (e_two (e_call (e_cons (e_slice (ρ := [s0, s1, s2, s3, s4, .sh (.tup (b.map .int)), s6, s7, s8, s9, .un, .un, .un, .un, .un]) (e_var (i := 5) rfl) e_noPart (e_part (e_one e_pure rfl)) sl1) e_nil) wi1) e_pure i1) rfl
  have t2 := e_tru (e_two (e_call (e_cons (e_two (ρ := [s0, s1, s2, s3, s4, .sh (.tup (b.map .int)), s6, s7, s8, s9, .un, .un, .un, .un, .un]) (e_var (i := 5) rfl) (e_app (e_cons e_pure e_nil) (mkTup_ok (Nat.le_of_ble_eq_true rfl))) ad) e_nil) wi2) e_pure i2) rfl
  have lbk : ∀ c : List Int, c.length ≤ 900 → F_lblock [.tup (c.map .int)] = .ok (.tup ((blockI c).map .int)) := fun c h => lblock_is rfl h
  refine s_iteF (ρ1 := [s0, s1, s2, s3, s4, .sh (.tup (b.map .int)), s6, s7, s8, s9, .un, .un, .un, .un, .un]) (e_orF (ρ1 := [s0, s1, s2, s3, s4, .sh (.tup (b.map .int)), s6, s7, s8, s9, .un, .un, .un, .un, .un]) ?_ ?_) s_skip
  · cases q : wordsI (b.take (b.length - 1)) with
    | none => rw [q] at t1; exact e_andF t1
    | some w =>
      rw [q] at t1
      obtain ⟨e, g⟩ := wordsI_some q
      have lw : w.length + 2 = b.length - 1 := by have := congrArg List.length e; rw [blockI_len, List.length_take] at this; omega
      have e3 : b.take (b.length - 3) = w := by
        have : (b.take (b.length - 1)).take (b.length - 3) = (blockI w).take w.length := by rw [e, show b.length - 3 = w.length by omega]
        rw [List.take_take, show min (b.length - 3) (b.length - 1) = b.length - 3 by omega] at this
        rw [this]; unfold blockI; exact List.take_left
      have lk := lbk (b.take (b.length - 3)) (by rw [List.length_take]; omega)
      rw [e3, ← e, ← e3] at lk
      exact e_andT t1 (e_tru (e_two (e_call (e_cons (e_slice (e_var rfl) e_noPart (e_part (e_one e_pure rfl)) sl3) e_nil) lk) (e_slice (e_var rfl) e_noPart (e_part (e_one e_pure rfl)) sl1) (ne_tup_self _)) rfl)
  · cases q : wordsI (b ++ [0]) with
    | none => rw [q] at t2; exact e_andF t2
    | some w =>
      rw [q] at t2
      obtain ⟨e, g⟩ := wordsI_some q
      have lw : w.length + 2 = b.length + 1 := by have := congrArg List.length e; rw [blockI_len, List.length_append] at this; exact this.symm
      have e1 : b.take (b.length - 1) = w := by
        have : (b ++ [0]).take (b.length - 1) = (blockI w).take w.length := by rw [e, show b.length - 1 = w.length by omega]
        rw [List.take_append_of_le_length (by omega)] at this
        rw [this]; unfold blockI; exact List.take_left
      have lk := lbk (b.take (b.length - 1)) (by rw [List.length_take]; omega)
      rw [e1, ← e, ← e1] at lk
      exact e_andT t2 (e_tru (e_two (e_call (e_cons (e_slice (e_var rfl) e_noPart (e_part (e_one e_pure rfl)) sl1) e_nil) lk) (e_two (e_var rfl) (e_app (e_cons e_pure e_nil) (mkTup_ok (Nat.le_of_ble_eq_true rfl))) ad) (ne_tup_self _)) rfl)
end
end DL

namespace DL
open PySem L2
section
variable {sc : List Int} {s0 s3 s4 s5 s6 s7 s8 : Slot} {r : List Slot}
abbrev hitS : S := (S.seq (S.set 8 (M.callI 1 (M.cons (M.two (M.var 2) (M.pure (.int 2)) fun x y => (D.add x y).good) M.nil) F_take))
    (S.putI 6 (M.two (M.app (M.cons (M.two (M.two (M.oix 6 (M.var 8)) (M.pure (.int 1)) fun x y => (D.add x y).good) (M.two (M.callI 1 (M.cons (M.pure (.int 997)) M.nil) F_take) (M.pure (.int 9)) fun x y => (D.mul x y).good) fun x y => (D.add x y).good) M.nil) D.intF) (M.pure (.int 9973)) fun x y => (D.mod x y).good) (M.var 8)))
theorem ixL {a : List Int} {i : Int} (h0 : 0 ≤ i) (h1 : i < a.length) : D.ix (.lst (a.map .int)) (.int i) = .ok (.int (a[i.toNat]?.getD 0)) := by
  have hk : i.toNat < a.length := by omega
  show (match atI (a.map D.int) i with | some d => R.ok d | none => .no) = _
  rw [atI_pos h0 (by rw [List.length_map]; exact h1), List.getElem?_map, List.getElem?_eq_getElem hk]; rfl
theorem hit (hs : sc.length ≤ 63) {m : Nat} {l : List Int} (hl : l.length = m + 2) {k : Int} (hk : 0 ≤ k) : ∃ (j : Nat) (x k' : Int), j < m + 2 ∧ (0 ≤ x ∧ x < 9973) ∧ 0 ≤ k' ∧ hitS (s0 :: .ow (drawD sc k) :: .sh (.int m) :: s3 :: s4 :: s5 :: .ow (.lst (l.map .int)) :: s7 :: s8 :: r) = .nx (s0 :: .ow (drawD sc k') :: .sh (.int m) :: s3 :: s4 :: s5 :: .ow (.lst ((l.set j x).map .int)) :: s7 :: .sh (.int j) :: r) := by
  obtain ⟨a, a0, a1, ea⟩ := e_take (ρ := s0 :: .ow (drawD sc k) :: .sh (.int m) :: s3 :: s4 :: s5 :: .ow (.lst (l.map .int)) :: s7 :: s8 :: r) (g := M.two (M.var 2) (M.pure (.int 2)) fun x y => (D.add x y).good) (c := (m : Int) + 2) hs hk rfl (e_two (e_var rfl) e_pure rfl) (by omega)
  obtain ⟨b, b0, b1, eb⟩ := e_take (ρ := s0 :: .ow (drawD sc (k + 1)) :: .sh (.int m) :: s3 :: s4 :: s5 :: .ow (.lst (l.map .int)) :: s7 :: .sh (.int a) :: r) (g := M.pure (.int 997)) (c := 997) hs (k := k + 1) (by omega) rfl e_pure (by decide)
  have ix := ixL (a := l) a0 (by omega)
  refine ⟨a.toNat, (l[a.toNat]?.getD 0 + 1 + b * 9) % 9973, k + 1 + 1, by omega, ⟨Int.emod_nonneg _ (by decide), Int.emod_lt_of_pos _ (by decide)⟩, by omega, ?_⟩
  have hix : ixN (l.map D.int).length a = some a.toNat := by
    unfold ixN; rw [List.length_map, if_pos a0, if_pos (by omega)]
  have s1 : S.set 8 (M.callI 1 (M.cons (M.two (M.var 2) (M.pure (.int 2)) fun x y => (D.add x y).good) M.nil) F_take) (s0 :: .ow (drawD sc k) :: .sh (.int m) :: s3 :: s4 :: s5 :: .ow (.lst (l.map .int)) :: s7 :: s8 :: r) = .nx (s0 :: .ow (drawD sc (k + 1)) :: .sh (.int m) :: s3 :: s4 :: s5 :: .ow (.lst (l.map .int)) :: s7 :: .sh (.int a) :: r) := s_set ea
  have ev : (M.two (M.app (M.cons (M.two (M.two (M.oix 6 (M.var 8)) (M.pure (.int 1)) fun x y => (D.add x y).good) (M.two (M.callI 1 (M.cons (M.pure (.int 997)) M.nil) F_take) (M.pure (.int 9)) fun x y => (D.mul x y).good) fun x y => (D.add x y).good) M.nil) D.intF) (M.pure (.int 9973)) fun x y => (D.mod x y).good) (s0 :: .ow (drawD sc (k + 1)) :: .sh (.int m) :: s3 :: s4 :: s5 :: .ow (.lst (l.map .int)) :: s7 :: .sh (.int a) :: r) = .ok (.int ((l[a.toNat]?.getD 0 + 1 + b * 9) % 9973)) (s0 :: .ow (drawD sc (k + 1 + 1)) :: .sh (.int m) :: s3 :: s4 :: s5 :: .ow (.lst (l.map .int)) :: s7 :: .sh (.int a) :: r) :=
    e_two (e_app (e_cons (e_two (e_two (e_oix (a := .lst (l.map .int)) (d := .lst (l.map .int)) rfl (e_var rfl) rfl ix) e_pure rfl) (e_two eb e_pure (mulR (by decide))) rfl) e_nil) rfl) e_pure (modP (by decide))
  refine s_seq s1 ((s_putI ev rfl (e_var (ρ := s0 :: .ow (drawD sc (k + 1 + 1)) :: .sh (.int m) :: s3 :: s4 :: s5 :: .ow (.lst (l.map .int)) :: s7 :: .sh (.int a) :: r) rfl) rfl hix).trans ?_)
  rw [set_int, show ((a.toNat : Nat) : Int) = a by omega]
  rfl
end
end DL

namespace DL
open PySem L2
section
variable {sc : List Int} {s0 : Slot} {r : List Slot}
abbrev turnS : S := (S.seq (S.own 6 (M.app (M.cons (M.var 5) M.nil) D.listF))
    (S.seq (S.for (M.range1 (M.cons (M.two (M.pure (.int 1)) (M.callI 1 (M.cons (M.pure (.int 2)) M.nil) F_take) fun x y => (D.add x y).good) M.nil)) (.nm 7) hitS)
    (S.seq (S.share 6) (S.ite (M.tru (M.two (M.call (M.cons (M.var 6) M.nil) F_words_in) (M.ite (M.tru (M.two (M.app (M.cons (M.var 6) M.nil) D.tupleF) (M.var 5) fun x y => ((D.eqR false) x y).good)) (M.app (M.cons (M.var 4) M.nil) D.tupleF) (M.pure .non)) fun x y => ((D.eqR true) x y).good)) (S.ret (M.pure (.bl false))) S.skip))))
theorem ne_opt_self (o : Option (List Int)) : D.eqR true (optT o) (optT o) = .ok (.bl false) := by
  cases o with
  | none => exact eqR_nn
  | some l => exact ne_tup_self l
/-- one or two changes -/
theorem hits (hs : sc.length ≤ 63) {m : Nat} {l : List Int} (hl : l.length = m + 2) {s3 s4 s5 s7 s8 : Slot} {k : Int} (hk : 0 ≤ k) {n : Int} (n0 : 0 ≤ n) (n2 : n < 2) : ∃ (i j : Nat) (x y k' : Int) (d7 d8 : D), i < m + 2 ∧ j < m + 2 ∧ (0 ≤ x ∧ x < 9973) ∧ (0 ≤ y ∧ y < 9973) ∧ 0 ≤ k' ∧ forL (.nm 7) hitS (rangeD 0 (1 + n).toNat) (s0 :: .ow (drawD sc k) :: .sh (.int m) :: s3 :: s4 :: s5 :: .ow (.lst (l.map .int)) :: s7 :: s8 :: r) = .nx (s0 :: .ow (drawD sc k') :: .sh (.int m) :: s3 :: s4 :: s5 :: .ow (.lst (((l.set i x).set j y).map .int)) :: .sh d7 :: .sh d8 :: r) := by
  rcases (by omega : n = 0 ∨ n = 1) with e | e <;> subst e
  · obtain ⟨i, x, k1, hi, hx, hk1, e1⟩ := hit (s0 := s0) (s3 := s3) (s4 := s4) (s5 := s5) (s7 := .sh (.int 0)) (s8 := s8) (r := r) hs hl hk
    refine ⟨i, i, x, x, k1, .int 0, .int i, hi, hi, hx, hx, hk1, ?_⟩
    rw [List.set_set, show rangeD 0 (1 + (0 : Int)).toNat = [D.int 0] from rfl]
    exact for_cons rfl e1 rfl
  · obtain ⟨i, x, k1, hi, hx, hk1, e1⟩ := hit (s0 := s0) (s3 := s3) (s4 := s4) (s5 := s5) (s7 := .sh (.int 0)) (s8 := s8) (r := r) hs hl hk
    obtain ⟨j, y, k2, hj, hy, hk2, e2⟩ := hit (s0 := s0) (s3 := s3) (s4 := s4) (s5 := s5) (s7 := .sh (.int 1)) (s8 := .sh (.int i)) (r := r) (l := l.set i x) hs (by rw [List.length_set]; exact hl) hk1
    refine ⟨i, j, x, y, k2, .int 1, .int j, hi, hj, hx, hy, hk2, ?_⟩
    rw [show rangeD 0 (1 + (1 : Int)).toNat = [D.int 0, D.int 1] from rfl]
    exact for_cons rfl e1 (for_cons rfl e2 rfl)
theorem turn (hs : sc.length ≤ 63) {ws : List Int} (hg : good ws) (h8 : ws.length ≤ 8) {s3 s6 s7 s8 : Slot} {k : Int} (hk : 0 ≤ k) : ∃ (k' : Int) (d6 d7 d8 : D), 0 ≤ k' ∧ turnS (s0 :: .ow (drawD sc k) :: .sh (.int ws.length) :: s3 :: .sh (.lst (ws.map .int)) :: .sh (.tup ((blockI ws).map .int)) :: s6 :: s7 :: s8 :: r) = .nx (s0 :: .ow (drawD sc k') :: .sh (.int ws.length) :: s3 :: .sh (.lst (ws.map .int)) :: .sh (.tup ((blockI ws).map .int)) :: .sh d6 :: .sh d7 :: .sh d8 :: r) := by
  obtain ⟨n, n0, n2, en⟩ := e_take (ρ := s0 :: .ow (drawD sc k) :: .sh (.int ws.length) :: s3 :: .sh (.lst (ws.map .int)) :: .sh (.tup ((blockI ws).map .int)) :: .ow (.lst ((blockI ws).map .int)) :: s7 :: s8 :: r) (g := M.pure (.int 2)) hs hk rfl e_pure (by decide)
  obtain ⟨i, j, x, y, k', d7, d8, hi, hj, hx, hy, hk', lp⟩ := hits (s0 := s0) (r := r) (m := ws.length) (l := blockI ws) (s3 := s3) (s4 := .sh (.lst (ws.map .int))) (s5 := .sh (.tup ((blockI ws).map .int))) (s7 := s7) (s8 := s8) hs (blockI_len ws) (k := k + 1) (by omega) n0 n2
  have lw := late_words hg h8 hi hj hx hy
  have ll : (((blockI ws).set i x).set j y).length ≤ 1000 := by rw [List.length_set, List.length_set, blockI_len]; omega
  generalize ((blockI ws).set i x).set j y = late at *
  have wi : F_words_in [.lst (late.map .int)] = .ok (optT (wordsI late)) := words_in_ok (Or.inr rfl) ll
  rw [lw] at wi
  refine ⟨k', .lst (late.map .int), d7, d8, hk', ?_⟩
  have it : (M.ite (M.tru (M.two (M.app (M.cons (M.var 6) M.nil) D.tupleF) (M.var 5) fun x y => ((D.eqR false) x y).good)) (M.app (M.cons (M.var 4) M.nil) D.tupleF) (M.pure .non)) (s0 :: .ow (drawD sc k') :: .sh (.int ws.length) :: s3 :: .sh (.lst (ws.map .int)) :: .sh (.tup ((blockI ws).map .int)) :: .sh (.lst (late.map .int)) :: .sh d7 :: .sh d8 :: r) = .ok (optT (if late = blockI ws then some ws else none)) (s0 :: .ow (drawD sc k') :: .sh (.int ws.length) :: s3 :: .sh (.lst (ws.map .int)) :: .sh (.tup ((blockI ws).map .int)) :: .sh (.lst (late.map .int)) :: .sh d7 :: .sh d8 :: r) := by
    have tt : (M.tru (M.two (M.app (M.cons (M.var 6) M.nil) D.tupleF) (M.var 5) fun x y => ((D.eqR false) x y).good)) (s0 :: .ow (drawD sc k') :: .sh (.int ws.length) :: s3 :: .sh (.lst (ws.map .int)) :: .sh (.tup ((blockI ws).map .int)) :: .sh (.lst (late.map .int)) :: .sh d7 :: .sh d8 :: r) = .ok (decide (late = blockI ws)) (s0 :: .ow (drawD sc k') :: .sh (.int ws.length) :: s3 :: .sh (.lst (ws.map .int)) :: .sh (.tup ((blockI ws).map .int)) :: .sh (.lst (late.map .int)) :: .sh d7 :: .sh d8 :: r) :=
      e_tru (e_two (a := .tup (late.map .int)) (e_app (e_cons (e_var rfl) e_nil) rfl) (e_var rfl) (eqR_tup (neg := false) late (blockI ws))) rfl
    by_cases c : late = blockI ws
    · rw [decide_eq_true c] at tt; rw [if_pos c]
      exact e_iteT tt (e_app (e_cons (e_var rfl) e_nil) rfl)
    · rw [decide_eq_false c] at tt; rw [if_neg c]
      exact e_iteF tt e_pure
  have own6 : S.own 6 (M.app (M.cons (M.var 5) M.nil) D.listF) (s0 :: .ow (drawD sc k) :: .sh (.int ws.length) :: s3 :: .sh (.lst (ws.map .int)) :: .sh (.tup ((blockI ws).map .int)) :: s6 :: s7 :: s8 :: r) = .nx (s0 :: .ow (drawD sc k) :: .sh (.int ws.length) :: s3 :: .sh (.lst (ws.map .int)) :: .sh (.tup ((blockI ws).map .int)) :: .ow (.lst ((blockI ws).map .int)) :: s7 :: s8 :: r) := s_own (e_app (e_cons (e_var rfl) e_nil) rfl)
  exact s_seq own6 (s_seq (s_for (e_range1 (n := 1 + n) (e_cons (e_two e_pure en rfl) e_nil) (by constructor <;> omega)) lp) (s_seq (s_share rfl) (s_iteF (e_tru (e_two (e_call (e_cons (e_var rfl) e_nil) wi) it (ne_opt_self _)) rfl) s_skip)))
theorem turns (hs : sc.length ≤ 63) {ws : List Int} (hg : good ws) (h8 : ws.length ≤ 8) : ∀ (ds : List D) (k : Int) (s3 s6 s7 s8 : Slot), ds ≠ [] → 0 ≤ k → ∃ (k' : Int) (d3 d6 d7 d8 : D), 0 ≤ k' ∧ forL (.nm 3) turnS ds (s0 :: .ow (drawD sc k) :: .sh (.int ws.length) :: s3 :: .sh (.lst (ws.map .int)) :: .sh (.tup ((blockI ws).map .int)) :: s6 :: s7 :: s8 :: r) = .nx (s0 :: .ow (drawD sc k') :: .sh (.int ws.length) :: .sh d3 :: .sh (.lst (ws.map .int)) :: .sh (.tup ((blockI ws).map .int)) :: .sh d6 :: .sh d7 :: .sh d8 :: r)
  | [], _, _, _, _, _, h, _ => absurd rfl h
  | [d], k, s3, s6, s7, s8, _, hk => by
    obtain ⟨k1, d6, d7, d8, hk1, e1⟩ := turn (s0 := s0) (r := r) (s3 := .sh d) (s6 := s6) (s7 := s7) (s8 := s8) hs hg h8 hk
    exact ⟨k1, d, d6, d7, d8, hk1, for_cons rfl e1 rfl⟩
  | d :: e :: ds, k, s3, s6, s7, s8, _, hk => by
    obtain ⟨k1, d6, d7, d8, hk1, e1⟩ := turn (s0 := s0) (r := r) (s3 := .sh d) (s6 := s6) (s7 := s7) (s8 := s8) hs hg h8 hk
    obtain ⟨k2, c3, c6, c7, c8, hk2, e2⟩ := turns hs hg h8 (e :: ds) k1 (.sh d) (.sh d6) (.sh d7) (.sh d8) (by simp) hk1
    exact ⟨k2, c3, c6, c7, c8, hk2, for_cons rfl e1 e2⟩
theorem run5 (hs : sc.length ≤ 63) {ws : List Int} (hg : good ws) (h8 : ws.length ≤ 8) {k : Int} (hk : 0 ≤ k) : ∃ (k' : Int) (d3 d6 d7 d8 : D), 0 ≤ k' ∧ law_5 [s0, .ow (drawD sc k), .sh (.int ws.length), .un, .sh (.lst (ws.map .int)), .sh (.tup ((blockI ws).map .int)), .un, .un, .un, .un, .un, .un, .un, .un, .un] = .nx [s0, .ow (drawD sc k'), .sh (.int ws.length), .sh d3, .sh (.lst (ws.map .int)), .sh (.tup ((blockI ws).map .int)), .sh d6, .sh d7, .sh d8, .un, .un, .un, .un, .un, .un] := by
  obtain ⟨k', d3, d6, d7, d8, hk', e⟩ := turns (s0 := s0) (r := [.un, .un, .un, .un, .un, .un]) hs hg h8 (rangeD 0 6) k .un .un .un .un (by simp [rangeD]) hk
  exact ⟨k', d3, d6, d7, d8, hk', s_for (e_range1 (n := 6) (e_cons e_pure e_nil) (by decide)) e⟩
end
end DL

namespace DL
open PySem L2
theorem hlaw : ∀ ns : List Int, ns.length ≤ 63 → ∃ ρ, m_law (env0 N_law.length [.sh (.fls (ns.map .int))]) = .rt (.bl true) ρ := by
  intro sc hs
  obtain ⟨m, m1, m8, e1⟩ := run1 (s0 := .sh (.fls (sc.map .int))) hs
  obtain ⟨ws, k, hk, hl, hw, e2⟩ := run2 (s0 := .sh (.fls (sc.map .int))) hs m8
  have hg : good ws := ⟨by omega, hw⟩
  subst hl
  obtain ⟨k5, d3, d6, d7, d8, hk5, e5⟩ := run5 (s0 := .sh (.fls (sc.map .int))) hs hg m8 hk
  obtain ⟨p, k7, hk7, hp, hpl, e7⟩ := run7 (s0 := .sh (.fls (sc.map .int))) (s4 := .sh (.lst (ws.map .int))) (s5 := .sh (.tup ((blockI ws).map .int))) (s7 := .sh d7) (d6 := d6) (d8 := d8) (d3 := d3) (m := ws.length) hs hk5
  obtain ⟨ρ, e15⟩ := run15 (s0 := .sh (.fls (sc.map .int))) (s1 := .ow (drawD sc k7)) (s2 := .sh (.int ws.length)) (s3 := .sh d3) (s4 := .sh (.lst (ws.map .int))) (s5 := .sh (.tup ((blockI ws).map .int))) (d6 := d6) (s7 := .sh d7) (s8 := .sh d8) (s9 := .sh (pD p)) (s10 := .sh (fD ws.length p)) (s11 := .sh (pD (inn ws.length p))) (d12 := .lst ((List.range 13).map .fn))
  refine ⟨ρ, ?_⟩
  rw [law_eq, show env0 N_law.length [.sh (.fls (sc.map .int))] = [.sh (.fls (sc.map .int)), .un, .un, .un, .un, .un, .un, .un, .un, .un, .un, .un, .un, .un, .un] from rfl]
  exact s_seq run0 (s_seq e1 (s_seq e2 (s_seq (run3 hg) (s_seq (run4 hg) (s_seq e5 (s_seq (run6 hg m1 m8) (s_seq e7 (s_seq (run8 m1 m8 hp hpl) (s_seq run9 (s_seq (run10 m1 m8 hp hpl) (s_seq (run11 m1 m8 hp hpl) (s_seq run12 (s_seq run13 (s_seq run14 e15))))))))))))))
end DL

namespace DL
open PySem L2 LamX
structure Ad where
  a_is_integer : Addr
  d_is_integer : FuncData
  a_is_row : Addr
  d_is_row : FuncData
  a_check_words : Addr
  d_check_words : FuncData
  a_sums_of : Addr
  d_sums_of : FuncData
  a_block_of : Addr
  d_block_of : FuncData
  a_words_in : Addr
  d_words_in : FuncData
  a_check_places : Addr
  d_check_places : FuncData
  a_inverse : Addr
  d_inverse : FuncData
  a_is_just : Addr
  d_is_just : FuncData
  a_closed_row : Addr
  d_closed_row : FuncData
  a_rows_of_changes : Addr
  d_rows_of_changes : FuncData
  a_changes_of : Addr
  d_changes_of : FuncData
  a_H_init : Addr
  d_H_init : FuncData
  a_judge_noticed : Addr
  d_judge_noticed : FuncData
  a_N_bool : Addr
  d_N_bool : FuncData
  a_N_eq : Addr
  d_N_eq : FuncData
  a_H_bool : Addr
  d_H_bool : FuncData
  a_H_eq : Addr
  d_H_eq : FuncData
  a_N_shows : Addr
  d_N_shows : FuncData
  a_H_shows : Addr
  d_H_shows : FuncData
  a_number : Addr
  d_number : FuncData
  a_take : Addr
  d_take : FuncData
  a_lblock : Addr
  d_lblock : FuncData
  a_refused : Addr
  d_refused : FuncData
  a_law : Addr
  d_law : FuncData
  c_Noticed : Addr
  c_Hidden : Addr
  c_BadBlock : Addr
structure Txt (K : PySem.W.Frag) (mg : Str → Option Value) (A : Ad) : Prop where
  F_is_integer : Fun K "is_integer" "is_integer" s_is_integer A.a_is_integer A.d_is_integer
  m_is_integer : mg "is_integer" = some (.ref A.a_is_integer)
  b_is_integer : L2.Binds K A.d_is_integer ["thing"] []
  F_is_row : Fun K "is_row" "is_row" s_is_row A.a_is_row A.d_is_row
  m_is_row : mg "is_row" = some (.ref A.a_is_row)
  b_is_row : L2.Binds K A.d_is_row ["thing"] []
  F_check_words : Fun K "check_words" "check_words" s_check_words A.a_check_words A.d_check_words
  m_check_words : mg "check_words" = some (.ref A.a_check_words)
  b_check_words : L2.Binds K A.d_check_words ["words"] []
  F_sums_of : Fun K "sums_of" "sums_of" s_sums_of A.a_sums_of A.d_sums_of
  m_sums_of : mg "sums_of" = some (.ref A.a_sums_of)
  b_sums_of : L2.Binds K A.d_sums_of ["words"] []
  F_block_of : Fun K "block_of" "block_of" s_block_of A.a_block_of A.d_block_of
  m_block_of : mg "block_of" = some (.ref A.a_block_of)
  b_block_of : L2.Binds K A.d_block_of ["words"] []
  F_words_in : Fun K "words_in" "words_in" s_words_in A.a_words_in A.d_words_in
  m_words_in : mg "words_in" = some (.ref A.a_words_in)
  b_words_in : L2.Binds K A.d_words_in ["block"] []
  F_check_places : Fun K "check_places" "check_places" s_check_places A.a_check_places A.d_check_places
  m_check_places : mg "check_places" = some (.ref A.a_check_places)
  b_check_places : L2.Binds K A.d_check_places ["many", "places"] []
  F_inverse : Fun K "inverse" "inverse" s_inverse A.a_inverse A.d_inverse
  m_inverse : mg "inverse" = some (.ref A.a_inverse)
  b_inverse : L2.Binds K A.d_inverse ["number"] []
  F_is_just : Fun K "is_just" "is_just" s_is_just A.a_is_just A.d_is_just
  m_is_just : mg "is_just" = some (.ref A.a_is_just)
  b_is_just : L2.Binds K A.d_is_just ["inner", "row", "free"] []
  F_closed_row : Fun K "closed_row" "closed_row" s_closed_row A.a_closed_row A.d_closed_row
  m_closed_row : mg "closed_row" = some (.ref A.a_closed_row)
  b_closed_row : L2.Binds K A.d_closed_row ["inner", "front", "free"] []
  F_rows_of_changes : Fun K "rows_of_changes" "rows_of_changes" s_rows_of_changes A.a_rows_of_changes A.d_rows_of_changes
  m_rows_of_changes : mg "rows_of_changes" = some (.ref A.a_rows_of_changes)
  b_rows_of_changes : L2.Binds K A.d_rows_of_changes ["many"] []
  F_changes_of : Fun K "changes_of" "changes_of" s_changes_of A.a_changes_of A.d_changes_of
  m_changes_of : mg "changes_of" = some (.ref A.a_changes_of)
  b_changes_of : L2.Binds K A.d_changes_of ["inner", "free"] []
  F_H_init : Fun K "__init__" "Hidden.__init__" s_H_init A.a_H_init A.d_H_init
  b_H_init : L2.Binds K A.d_H_init ["self", "one", "other"] []
  F_judge_noticed : Fun K "judge_noticed" "judge_noticed" s_judge_noticed A.a_judge_noticed A.d_judge_noticed
  m_judge_noticed : mg "judge_noticed" = some (.ref A.a_judge_noticed)
  b_judge_noticed : L2.Binds K A.d_judge_noticed ["many", "places"] []
  F_N_bool : Fun K "__bool__" "Noticed.__bool__" s_N_bool A.a_N_bool A.d_N_bool
  b_N_bool : L2.Binds K A.d_N_bool ["self"] []
  F_N_eq : Fun K "__eq__" "Noticed.__eq__" s_N_eq A.a_N_eq A.d_N_eq
  b_N_eq : L2.Binds K A.d_N_eq ["self", "other"] []
  F_H_bool : Fun K "__bool__" "Hidden.__bool__" s_H_bool A.a_H_bool A.d_H_bool
  b_H_bool : L2.Binds K A.d_H_bool ["self"] []
  F_H_eq : Fun K "__eq__" "Hidden.__eq__" s_H_eq A.a_H_eq A.d_H_eq
  b_H_eq : L2.Binds K A.d_H_eq ["self", "other"] []
  F_N_shows : Fun K "shows" "Noticed.shows" s_N_shows A.a_N_shows A.d_N_shows
  b_N_shows : L2.Binds K A.d_N_shows ["self", "many", "places"] []
  F_H_shows : Fun K "shows" "Hidden.shows" s_H_shows A.a_H_shows A.d_H_shows
  b_H_shows : L2.Binds K A.d_H_shows ["self", "many", "places"] []
  F_number : Fun K "_law_number" "_law_number" s_number A.a_number A.d_number
  m_number : mg "_law_number" = some (.ref A.a_number)
  b_number : L2.Binds K A.d_number ["script", "index"] []
  F_take : Fun K "_law_take" "_law_take" s_take A.a_take A.d_take
  m_take : mg "_law_take" = some (.ref A.a_take)
  b_take : L2.Binds K A.d_take ["draw", "many"] []
  F_lblock : Fun K "_law_block" "_law_block" s_lblock A.a_lblock A.d_lblock
  m_lblock : mg "_law_block" = some (.ref A.a_lblock)
  b_lblock : L2.Binds K A.d_lblock ["words"] []
  F_refused : Fun K "_law_refused" "_law_refused" s_refused A.a_refused A.d_refused
  m_refused : mg "_law_refused" = some (.ref A.a_refused)
  b_refused : L2.Binds K A.d_refused ["deed"] []
  F_law : Fun K "law" "law" s_law A.a_law A.d_law
  m_law : mg "law" = some (.ref A.a_law)
  b_law : L2.Binds K A.d_law ["script"] []
  n_all : mg "all" = none
  n_bool : mg "bool" = none
  n_enumerate : mg "enumerate" = none
  n_int : mg "int" = none
  n_isinstance : mg "isinstance" = none
  n_len : mg "len" = none
  n_list : mg "list" = none
  n_range : mg "range" = none
  n_set : mg "set" = none
  n_sorted : mg "sorted" = none
  n_sum : mg "sum" = none
  n_tuple : mg "tuple" = none
  n_zip : mg "zip" = none
  v_MOST_WORDS : ∃ t, mg "MOST_WORDS" = some (.int 40 t)
  v_PRIME : ∃ t, mg "PRIME" = some (.int 9973 t)
  m_Noticed : mg "Noticed" = some (.ref A.c_Noticed)
  mk_Noticed : Mk0 K A.c_Noticed
  i_Noticed : IsiC K A.c_Noticed
  m_Hidden : mg "Hidden" = some (.ref A.c_Hidden)
  mk_Hidden : Mk K A.c_Hidden A.a_H_init
  i_Hidden : IsiC K A.c_Hidden
  m_BadBlock : mg "BadBlock" = some (.ref A.c_BadBlock)
  x_BadBlock : PySem.W.excIn K A.c_BadBlock [.type "ValueError", .type "Exception", .type "BaseException", .type "object"] "ValueError.__new__" = true
  k_BadBlock : PySem.W.keepIn K (.ref A.c_BadBlock) = true
  s_BadBlock : PySem.W.subIn K (.ref A.c_BadBlock) (.type "BaseException") = some true
  t_BadBlock : PySem.W.typeIn K (.ref A.c_BadBlock) = some (.type "type")
  exm : PySem.W.exmOne K (.ref A.c_BadBlock) (.ref A.c_BadBlock) = some true
  kHN : PySem.W.kitOne K (.ref A.c_Hidden) (.ref A.c_Noticed) = some false
  kNH : PySem.W.kitOne K (.ref A.c_Noticed) (.ref A.c_Hidden) = some false
  na_one : NoAttr K A.c_Hidden "one"
  na_other : NoAttr K A.c_Hidden "other"
  sh_N : Meth K A.c_Noticed "shows" A.a_N_shows
  eq_N : PySem.W.findIn K (.ref A.c_Noticed) "__eq__" = some (some (.ref A.a_N_eq))
  fe_N : PySem.W.isFn K (.ref A.a_N_eq) = true
  bo_N : PySem.W.findIn K (.ref A.c_Noticed) "__bool__" = some (some (.ref A.a_N_bool))
  fb_N : PySem.W.isFn K (.ref A.a_N_bool) = true
  ne_N : PySem.W.findIn K (.ref A.c_Noticed) "__ne__" = some (some (.builtin "object.__ne__"))
  nf_NN : PySem.W.notFirst K A.c_Noticed (.ref A.c_Noticed) = true
  nf_NH : PySem.W.notFirst K A.c_Noticed (.ref A.c_Hidden) = true
  sh_H : Meth K A.c_Hidden "shows" A.a_H_shows
  eq_H : PySem.W.findIn K (.ref A.c_Hidden) "__eq__" = some (some (.ref A.a_H_eq))
  fe_H : PySem.W.isFn K (.ref A.a_H_eq) = true
  bo_H : PySem.W.findIn K (.ref A.c_Hidden) "__bool__" = some (some (.ref A.a_H_bool))
  fb_H : PySem.W.isFn K (.ref A.a_H_bool) = true
  ne_H : PySem.W.findIn K (.ref A.c_Hidden) "__ne__" = some (some (.builtin "object.__ne__"))
  nf_HN : PySem.W.notFirst K A.c_Hidden (.ref A.c_Noticed) = true
  nf_HH : PySem.W.notFirst K A.c_Hidden (.ref A.c_Hidden) = true

section
variable {P : Program} {w : World} {K : PySem.W.Frag} {mg : Str → Option Value} {base : Heap} {A : Ad}
theorem kit1 {K : PySem.W.Frag} {t u : Value} {b : Bool} (h : PySem.W.kitOne K t u = some b) : PySem.W.kitAny K t [u] = some b := kitAny_cons h (fun e => by rw [e]; exact kitAny_nil) fun e => e
theorem kit2 {K : PySem.W.Frag} {t u v : Value} {b b2 : Bool} (h : PySem.W.kitOne K t u = some b) (h2 : PySem.W.kitOne K t v = some b2) : PySem.W.kitAny K t [u, v] = some (b || b2) := by
  cases b with
  | true => exact kitAny_cons h (fun e => by cases e) fun _ => rfl
  | false => exact kitAny_cons h (fun _ => by rw [kit1 h2]; rfl) fun e => by cases e
theorem isiT_int {X : Cx} (T : Txt X.K X.mg A) : IsiT X [.type "int"] tab_int := fun d b h => by
  cases d <;> simp only [tab_int, Option.some.injEq, reduceCtorEq] at h <;> subst h <;> exact ⟨⟨_, rfl, kit1 (kit_ty (by decide +kernel))⟩, fun _ _ _ z => by cases z⟩
theorem isiT_bool {X : Cx} (T : Txt X.K X.mg A) : IsiT X [.type "bool"] tab_bool := fun d b h => by
  cases d <;> simp only [tab_bool, Option.some.injEq, reduceCtorEq] at h <;> subst h <;> exact ⟨⟨_, rfl, kit1 (kit_ty (by decide +kernel))⟩, fun _ _ _ z => by cases z⟩
theorem isiT_list_tuple {X : Cx} (T : Txt X.K X.mg A) : IsiT X [.type "list", .type "tuple"] tab_list_tuple := fun d b h => by
  cases d with
  | tup l => cases h; exact ⟨⟨_, rfl, kit2 (b := false) (b2 := true) (kit_ty (by decide +kernel)) (kit_ty (by decide +kernel))⟩, fun _ _ _ z => by cases z⟩
  | lst l => cases h; exact ⟨⟨_, rfl, kit2 (b := true) (b2 := false) (kit_ty (by decide +kernel)) (kit_ty (by decide +kernel))⟩, fun _ _ _ z => by cases z⟩
  | fls l => cases h; exact ⟨⟨_, rfl, kit2 (b := true) (b2 := false) (kit_ty (by decide +kernel)) (kit_ty (by decide +kernel))⟩, fun _ _ _ z => by cases z⟩
  | bl l => cases h; exact ⟨⟨_, rfl, kit2 (b := false) (b2 := false) (kit_ty (by decide +kernel)) (kit_ty (by decide +kernel))⟩, fun _ _ _ z => by cases z⟩
  | int l => cases h; exact ⟨⟨_, rfl, kit2 (b := false) (b2 := false) (kit_ty (by decide +kernel)) (kit_ty (by decide +kernel))⟩, fun _ _ _ z => by cases z⟩
  | str l => cases h; exact ⟨⟨_, rfl, kit2 (b := false) (b2 := false) (kit_ty (by decide +kernel)) (kit_ty (by decide +kernel))⟩, fun _ _ _ z => by cases z⟩
  | non => cases h; exact ⟨⟨_, rfl, kit2 (b := false) (b2 := false) (kit_ty (by decide +kernel)) (kit_ty (by decide +kernel))⟩, fun _ _ _ z => by cases z⟩
  | _ => cases h
theorem one_cls {mg : Str → Option Value} {c : Str} {C C' : Addr} (h : mg c = some (.ref C)) (h' : mg c = some (.ref C')) : C' = C := by
  rw [h] at h'; cases h'; rfl
theorem isiT_Noticed {X : Cx} (T : Txt X.K X.mg A) : IsiT X [.ref A.c_Noticed] tab_Noticed := fun d b h => by
  cases d with
  | obj c ns ds =>
    simp only [tab_Noticed] at h
    by_cases h1 : c = "Noticed"
    · rw [if_pos h1] at h
      cases h
      subst h1
      refine ⟨⟨_, T.m_Noticed, kit1 (if_pos (beq_self_eq_true _))⟩, fun c' ns' ds' z C hC => ?_⟩
      cases z
      rw [one_cls T.m_Noticed hC]; exact T.i_Noticed
    · rw [if_neg h1] at h
      by_cases h2 : c = "Hidden"
      · rw [if_pos h2] at h
        cases h
        subst h2
        refine ⟨⟨_, T.m_Hidden, kit1 T.kHN⟩, fun c' ns' ds' z C hC => ?_⟩
        cases z
        rw [one_cls T.m_Hidden hC]; exact T.i_Hidden
      · rw [if_neg h2] at h; cases h
  | _ => cases h
theorem isiT_Hidden {X : Cx} (T : Txt X.K X.mg A) : IsiT X [.ref A.c_Hidden] tab_Hidden := fun d b h => by
  cases d with
  | obj c ns ds =>
    simp only [tab_Hidden] at h
    by_cases h1 : c = "Hidden"
    · rw [if_pos h1] at h
      cases h
      subst h1
      refine ⟨⟨_, T.m_Hidden, kit1 (if_pos (beq_self_eq_true _))⟩, fun c' ns' ds' z C hC => ?_⟩
      cases z
      rw [one_cls T.m_Hidden hC]; exact T.i_Hidden
    · rw [if_neg h1] at h
      by_cases h2 : c = "Noticed"
      · rw [if_pos h2] at h
        cases h
        subst h2
        refine ⟨⟨_, T.m_Noticed, kit1 T.kNH⟩, fun c' ns' ds' z C hC => ?_⟩
        cases z
        rw [one_cls T.m_Noticed hC]; exact T.i_Noticed
      · rw [if_neg h2] at h; cases h
  | _ => cases h
theorem fld_one (T : Txt K mg A) : ∀ cn ∈ (["Hidden"] : List Str), ∀ C0, mg cn = some (.ref C0) → Cls K C0 ∧ NoAttr K C0 "one" := fun cn h C0 hC => by
  rw [List.mem_singleton.mp h] at hC
  rw [one_cls T.m_Hidden hC]; exact ⟨T.i_Hidden.cl, T.na_one⟩
theorem fld_other (T : Txt K mg A) : ∀ cn ∈ (["Hidden"] : List Str), ∀ C0, mg cn = some (.ref C0) → Cls K C0 ∧ NoAttr K C0 "other" := fun cn h C0 hC => by
  rw [List.mem_singleton.mp h] at hC
  rw [one_cls T.m_Hidden hC]; exact ⟨T.i_Hidden.cl, T.na_other⟩
theorem tryF {X : Cx} (T : Txt X.K X.mg A) : ∀ p ∈ tryL, ∀ C', X.mg p.1 = some (.ref C') → PySem.W.exmOne X.K (.ref C') (.ref A.c_BadBlock) = some p.2 := fun p h C' hC => by
  rw [List.mem_singleton.mp h] at hC ⊢
  rw [one_cls T.m_BadBlock hC]; exact T.exm
theorem sc_is_integer : FnScope N_is_integer ["thing"] (defScope s_is_integer) := ⟨rfl, rfl, rfl, by decide +kernel, rfl, by decide +kernel, by decide +kernel⟩
theorem ok_is_integer (T : Txt K mg A) : FnOk P w K mg base (L2.CX P w) 1 A.a_is_integer A.d_is_integer ["thing"] (spD K mg F_is_integer) := by
  refine okD (N := N_is_integer) (g := m_is_integer) 1 T.F_is_integer sc_is_integer rfl (by decide) fun cdv Ar outer s H Oc E hr => ?_
  have g : Gd (cD K mg H Oc) (cxOf (L2.CX P w) P w K mg base N_is_integer "is_integer" (defScope s_is_integer) A.a_is_integer cdv Ar outer s H E) := ⟨rfl, rfl, rfl⟩
  have tk : Takes (cxOf (L2.CX P w) P w K mg base N_is_integer "is_integer" (defScope s_is_integer) A.a_is_integer cdv Ar outer s H E) (fun cls d _ H' => E cls d H') := takes_of rfl rfl rfl rfl
  have hu := hr.units
  have sc := sc_is_integer
  exact (ds_one (ds_ret (de_and g (de_isi1 g T.n_isinstance (pe_bltn (v := .ty "int") rfl T.n_int PyProof.Rows.boot_int rfl) (.ty _) (isiT_int T) (de_var 0)) (de_one (de_not g (de_isi1 g T.n_isinstance (pe_bltn (v := .ty "bool") rfl T.n_bool PyProof.Rows.boot_bool rfl) (.ty _) (isiT_bool T) (de_var 0)))))))
theorem sc_is_row : FnScope N_is_row ["thing"] (defScope s_is_row) := ⟨rfl, rfl, rfl, by decide +kernel, rfl, by decide +kernel, by decide +kernel⟩
theorem ok_is_row (T : Txt K mg A) : FnOk P w K mg base (L2.CX P w) 1 A.a_is_row A.d_is_row ["thing"] (spD K mg F_is_row) := by
  refine okD (N := N_is_row) (g := m_is_row) 1 T.F_is_row sc_is_row rfl (by decide) fun cdv Ar outer s H Oc E hr => ?_
  have g : Gd (cD K mg H Oc) (cxOf (L2.CX P w) P w K mg base N_is_row "is_row" (defScope s_is_row) A.a_is_row cdv Ar outer s H E) := ⟨rfl, rfl, rfl⟩
  have tk : Takes (cxOf (L2.CX P w) P w K mg base N_is_row "is_row" (defScope s_is_row) A.a_is_row cdv Ar outer s H E) (fun cls d _ H' => E cls d H') := takes_of rfl rfl rfl rfl
  have hu := hr.units
  have sc := sc_is_row
  exact (ds_one (ds_ret (de_isiT g T.n_isinstance (cvs := [.ty "list", .ty "tuple"]) (ks_cons (pe_bltn (v := .ty "list") rfl T.n_list PyProof.Rows.boot_list rfl) (ks_cons (pe_bltn (v := .ty "tuple") rfl T.n_tuple PyProof.Rows.boot_tuple rfl) ks_nil)) (by show 2 ≤ sizeLine; decide) (.cons (.ty _) (.cons (.ty _) .nil)) (isiT_list_tuple T) (de_var 0))))
theorem sc_check_words : FnScope N_check_words ["words"] (defScope s_check_words) := ⟨rfl, rfl, rfl, by decide +kernel, rfl, by decide +kernel, by decide +kernel⟩
theorem ok_check_words (T : Txt K mg A) : FnOk P w K mg base (L2.CX P w) 3 A.a_check_words A.d_check_words ["words"] (spD K mg F_check_words) := by
  refine okD (N := N_check_words) (g := m_check_words) 1 T.F_check_words sc_check_words rfl (by decide) fun cdv Ar outer s H Oc E hr => ?_
  have g : Gd (cD K mg H Oc) (cxOf (L2.CX P w) P w K mg base N_check_words "check_words" (defScope s_check_words) A.a_check_words cdv Ar outer s H E) := ⟨rfl, rfl, rfl⟩
  have tk : Takes (cxOf (L2.CX P w) P w K mg base N_check_words "check_words" (defScope s_check_words) A.a_check_words cdv Ar outer s H E) (fun cls d _ H' => E cls d H') := takes_of rfl rfl rfl rfl
  have hu := hr.units
  have sc := sc_check_words
  exact (ds_cons (ds_if (dt_bool (dw_or (dt_not (dt_val g (de_call g (ok_is_row T) (hr.mono (by decide)) T.m_is_row T.F_is_row.kp T.b_is_row tk (da_cons (de_var 0) da_nil)))) (dw_or1 (dt_cmp g od_gt ordI_bl (de_callB (cd_len g) T.n_len PySem.boot_len (da_cons (de_var 0) da_nil)) (de_glob (v := .int 40) T.v_MOST_WORDS.choose_spec ⟨_, rfl⟩ (fun _ => .int 40)))))) (ds_one (ds_raise0 g tk PySem.F.excBase_ValueError T.x_BadBlock T.m_BadBlock T.k_BadBlock (raises_own T.s_BadBlock T.t_BadBlock))) ds_nil)
    (ds_one (ds_if (dt_not (dt_val g (de_callB (cd_all g) T.n_all PyProof.Rows.boot_all (da_cons (de_lc [("word", 1)] (fun _ _ => .inr rfl) (by decide) g sc.nd (show BlkOk N_check_words (defScope s_check_words) _ [("word", 1)] from blkOk_by (by decide +kernel)) (di_seq g (de_var 0)) (fun _ _ _ _ _ => (dg_name 1 sc.nd (.inr rfl))) (fun _ _ _ _ _ => dts_nil) (fun _ _ _ _ _ => (de_and g (de_call g (ok_is_integer T) (hr.mono (by decide)) T.m_is_integer T.F_is_integer.kp T.b_is_integer L2.takes0 (da_cons (de_var 1) da_nil)) (de_one (de_chain od_le od_lt de_int (de_var 1) (de_glob (v := .int 9973) T.v_PRIME.choose_spec ⟨_, rfl⟩ (fun _ => .int 9973))))))) da_nil)))) (ds_one (ds_raise0 g tk PySem.F.excBase_ValueError T.x_BadBlock T.m_BadBlock T.k_BadBlock (raises_own T.s_BadBlock T.t_BadBlock))) ds_nil)))
theorem sc_sums_of : FnScope N_sums_of ["words"] (defScope s_sums_of) := ⟨rfl, rfl, rfl, by decide +kernel, rfl, by decide +kernel, by decide +kernel⟩
theorem ok_sums_of (T : Txt K mg A) : FnOk P w K mg base (L2.CX P w) 1 A.a_sums_of A.d_sums_of ["words"] (spD K mg F_sums_of) := by
  refine okD (N := N_sums_of) (g := m_sums_of) 1 T.F_sums_of sc_sums_of rfl (by decide) fun cdv Ar outer s H Oc E hr => ?_
  have g : Gd (cD K mg H Oc) (cxOf (L2.CX P w) P w K mg base N_sums_of "sums_of" (defScope s_sums_of) A.a_sums_of cdv Ar outer s H E) := ⟨rfl, rfl, rfl⟩
  have tk : Takes (cxOf (L2.CX P w) P w K mg base N_sums_of "sums_of" (defScope s_sums_of) A.a_sums_of cdv Ar outer s H E) (fun cls d _ H' => E cls d H') := takes_of rfl rfl rfl rfl
  have hu := hr.units
  have sc := sc_sums_of
  exact (ds_cons (ds_par 1 2 g sc.nd (.inr rfl) (.inr rfl) (dl_sh (de_callB (cd_len g) T.n_len PySem.boot_len (da_cons (de_var 0) da_nil)) (dl_sh (de_callB (cd_len g) T.n_len PySem.boot_len (da_cons (de_var 0) da_nil)) dl_nil)))
    (ds_cons (ds_for g (passes_of rfl) (di_enum g T.n_enumerate (da_cons (de_var 0) da_nil)) (dg_tup g (dgs_cons (dg_name 3 sc.nd (.inr rfl)) (dgs_cons (dg_name 4 sc.nd (.inr rfl)) dgs_nil))) (ds_cons (ds_set 1 sc.nd (.inr rfl) (de_bin od_mod (de_callT (cd_int) T.n_int PyProof.Rows.boot_int (da_cons (de_bin (od_add g) (de_var 1) (de_var 4)) da_nil)) (de_glob (v := .int 9973) T.v_PRIME.choose_spec ⟨_, rfl⟩ (fun _ => .int 9973))))
    (ds_one (ds_set 2 sc.nd (.inr rfl) (de_bin od_mod (de_callT (cd_int) T.n_int PyProof.Rows.boot_int (da_cons (de_bin (od_add g) (de_var 2) (de_bin od_mul (de_bin (od_add g) (de_var 3) de_int) (de_var 4))) da_nil)) (de_glob (v := .int 9973) T.v_PRIME.choose_spec ⟨_, rfl⟩ (fun _ => .int 9973)))))))
    (ds_one (ds_ret (de_tup (da_cons (de_var 1) (da_cons (de_var 2) da_nil)))))))
theorem sc_block_of : FnScope N_block_of ["words"] (defScope s_block_of) := ⟨rfl, rfl, rfl, by decide +kernel, rfl, by decide +kernel, by decide +kernel⟩
theorem ok_block_of (T : Txt K mg A) : FnOk P w K mg base (L2.CX P w) 5 A.a_block_of A.d_block_of ["words"] (spD K mg F_block_of) := by
  refine okD (N := N_block_of) (g := m_block_of) 1 T.F_block_of sc_block_of rfl (by decide) fun cdv Ar outer s H Oc E hr => ?_
  have g : Gd (cD K mg H Oc) (cxOf (L2.CX P w) P w K mg base N_block_of "block_of" (defScope s_block_of) A.a_block_of cdv Ar outer s H E) := ⟨rfl, rfl, rfl⟩
  have tk : Takes (cxOf (L2.CX P w) P w K mg base N_block_of "block_of" (defScope s_block_of) A.a_block_of cdv Ar outer s H E) (fun cls d _ H' => E cls d H') := takes_of rfl rfl rfl rfl
  have hu := hr.units
  have sc := sc_block_of
  exact (ds_cons (ds_expr (de_call g (ok_check_words T) (hr.mono (by decide)) T.m_check_words T.F_check_words.kp T.b_check_words tk (da_cons (de_var 0) da_nil)))
    (ds_one (ds_ret (de_tup (da_star g (de_var 0) (da_star g (de_call g (ok_sums_of T) (hr.mono (by decide)) T.m_sums_of T.F_sums_of.kp T.b_sums_of tk (da_cons (de_var 0) da_nil)) da_nil))))))
theorem sc_words_in : FnScope N_words_in ["block"] (defScope s_words_in) := ⟨rfl, rfl, rfl, by decide +kernel, rfl, by decide +kernel, by decide +kernel⟩
theorem ok_words_in (T : Txt K mg A) : FnOk P w K mg base (L2.CX P w) 3 A.a_words_in A.d_words_in ["block"] (spD K mg F_words_in) := by
  refine okD (N := N_words_in) (g := m_words_in) 1 T.F_words_in sc_words_in rfl (by decide) fun cdv Ar outer s H Oc E hr => ?_
  have g : Gd (cD K mg H Oc) (cxOf (L2.CX P w) P w K mg base N_words_in "words_in" (defScope s_words_in) A.a_words_in cdv Ar outer s H E) := ⟨rfl, rfl, rfl⟩
  have tk : Takes (cxOf (L2.CX P w) P w K mg base N_words_in "words_in" (defScope s_words_in) A.a_words_in cdv Ar outer s H E) (fun cls d _ H' => E cls d H') := takes_of rfl rfl rfl rfl
  have hu := hr.units
  have sc := sc_words_in
  exact (ds_cons (ds_if (dt_bool (dw_or (dt_not (dt_val g (de_call g (ok_is_row T) (hr.mono (by decide)) T.m_is_row T.F_is_row.kp T.b_is_row tk (da_cons (de_var 0) da_nil)))) (dw_or (dt_cmp g od_lt ordI_bl (de_callB (cd_len g) T.n_len PySem.boot_len (da_cons (de_var 0) da_nil)) de_int) (dw_or1 (dt_not (dt_val g (de_callB (cd_all g) T.n_all PyProof.Rows.boot_all (da_cons (de_lc [("word", 2)] (fun _ _ => .inr rfl) (by decide) g sc.nd (show BlkOk N_words_in (defScope s_words_in) _ [("word", 2)] from blkOk_by (by decide +kernel)) (di_seq g (de_var 0)) (fun _ _ _ _ _ => (dg_name 2 sc.nd (.inr rfl))) (fun _ _ _ _ _ => dts_nil) (fun _ _ _ _ _ => (de_call g (ok_is_integer T) (hr.mono (by decide)) T.m_is_integer T.F_is_integer.kp T.b_is_integer L2.takes0 (da_cons (de_var 2) da_nil)))) da_nil)))))))) (ds_one (ds_ret de_non)) ds_nil)
    (ds_cons (ds_set 1 sc.nd (.inr rfl) (de_callT (cd_tuple g) T.n_tuple PyProof.Rows.boot_tuple (da_cons (de_slice g (de_var 0) do_none (do_some (de_un ud_neg de_int))) da_nil)))
    (ds_cons (ds_if (dt_bool (dw_or (dt_cmp g od_gt ordI_bl (de_callB (cd_len g) T.n_len PySem.boot_len (da_cons (de_var 1) da_nil)) (de_glob (v := .int 40) T.v_MOST_WORDS.choose_spec ⟨_, rfl⟩ (fun _ => .int 40))) (dw_or1 (dt_not (dt_val g (de_callB (cd_all g) T.n_all PyProof.Rows.boot_all (da_cons (de_lc [("word", 2)] (fun _ _ => .inr rfl) (by decide) g sc.nd (show BlkOk N_words_in (defScope s_words_in) _ [("word", 2)] from blkOk_by (by decide +kernel)) (di_seq g (de_var 1)) (fun _ _ _ _ _ => (dg_name 2 sc.nd (.inr rfl))) (fun _ _ _ _ _ => dts_nil) (fun _ _ _ _ _ => (de_chain od_le od_lt de_int (de_var 2) (de_glob (v := .int 9973) T.v_PRIME.choose_spec ⟨_, rfl⟩ (fun _ => .int 9973))))) da_nil))))))) (ds_one (ds_ret de_non)) ds_nil)
    (ds_one (ds_ret (de_if (dt_cmp g (od_eq g hu) eqR_bl (de_call g (ok_sums_of T) (hr.mono (by decide)) T.m_sums_of T.F_sums_of.kp T.b_sums_of tk (da_cons (de_var 1) da_nil)) (de_callT (cd_tuple g) T.n_tuple PyProof.Rows.boot_tuple (da_cons (de_slice g (de_var 0) (do_some (de_un ud_neg de_int)) do_none) da_nil))) (de_var 1) de_non))))))
theorem sc_check_places : FnScope N_check_places ["many", "places"] (defScope s_check_places) := ⟨rfl, rfl, rfl, by decide +kernel, rfl, by decide +kernel, by decide +kernel⟩
theorem ok_check_places (T : Txt K mg A) : FnOk P w K mg base (L2.CX P w) 3 A.a_check_places A.d_check_places ["many", "places"] (spD K mg F_check_places) := by
  refine okD (N := N_check_places) (g := m_check_places) 2 T.F_check_places sc_check_places rfl (by decide) fun cdv Ar outer s H Oc E hr => ?_
  have g : Gd (cD K mg H Oc) (cxOf (L2.CX P w) P w K mg base N_check_places "check_places" (defScope s_check_places) A.a_check_places cdv Ar outer s H E) := ⟨rfl, rfl, rfl⟩
  have tk : Takes (cxOf (L2.CX P w) P w K mg base N_check_places "check_places" (defScope s_check_places) A.a_check_places cdv Ar outer s H E) (fun cls d _ H' => E cls d H') := takes_of rfl rfl rfl rfl
  have hu := hr.units
  have sc := sc_check_places
  exact (ds_cons (ds_if (dt_bool (dw_or (dt_not (dt_val g (de_call g (ok_is_integer T) (hr.mono (by decide)) T.m_is_integer T.F_is_integer.kp T.b_is_integer tk (da_cons (de_var 0) da_nil)))) (dw_or (dt_not (dt_chain od_le od_le ordI_bl de_int (de_var 0) (de_glob (v := .int 40) T.v_MOST_WORDS.choose_spec ⟨_, rfl⟩ (fun _ => .int 40)))) (dw_or1 (dt_not (dt_val g (de_call g (ok_is_row T) (hr.mono (by decide)) T.m_is_row T.F_is_row.kp T.b_is_row tk (da_cons (de_var 1) da_nil)))))))) (ds_one (ds_raise0 g tk PySem.F.excBase_ValueError T.x_BadBlock T.m_BadBlock T.k_BadBlock (raises_own T.s_BadBlock T.t_BadBlock))) ds_nil)
    (ds_one (ds_if (dt_bool (dw_or (dt_not (dt_val g (de_callB (cd_all g) T.n_all PyProof.Rows.boot_all (da_cons (de_lc [("place", 2)] (fun _ _ => .inr rfl) (by decide) g sc.nd (show BlkOk N_check_places (defScope s_check_places) _ [("place", 2)] from blkOk_by (by decide +kernel)) (di_seq g (de_var 1)) (fun _ _ _ _ _ => (dg_name 2 sc.nd (.inr rfl))) (fun _ _ _ _ _ => dts_nil) (fun _ _ _ _ _ => (de_and g (de_call g (ok_is_integer T) (hr.mono (by decide)) T.m_is_integer T.F_is_integer.kp T.b_is_integer L2.takes0 (da_cons (de_var 2) da_nil)) (de_one (de_chain od_le od_lt de_int (de_var 2) (de_bin (od_add g) (de_var 0) de_int)))))) da_nil)))) (dw_or1 (dt_cmp g od_lt ordI_bl (de_lenSet g T.n_len T.n_set (de_var 1)) (de_callB (cd_len g) T.n_len PySem.boot_len (da_cons (de_var 1) da_nil)))))) (ds_one (ds_raise0 g tk PySem.F.excBase_ValueError T.x_BadBlock T.m_BadBlock T.k_BadBlock (raises_own T.s_BadBlock T.t_BadBlock))) ds_nil)))
theorem sc_inverse : FnScope N_inverse ["number"] (defScope s_inverse) := ⟨rfl, rfl, rfl, by decide +kernel, rfl, by decide +kernel, by decide +kernel⟩
theorem ok_inverse (T : Txt K mg A) : FnOk P w K mg base (L2.CX P w) 1 A.a_inverse A.d_inverse ["number"] (spD K mg F_inverse) := by
  refine okD (N := N_inverse) (g := m_inverse) 1 T.F_inverse sc_inverse rfl (by decide) fun cdv Ar outer s H Oc E hr => ?_
  have g : Gd (cD K mg H Oc) (cxOf (L2.CX P w) P w K mg base N_inverse "inverse" (defScope s_inverse) A.a_inverse cdv Ar outer s H E) := ⟨rfl, rfl, rfl⟩
  have tk : Takes (cxOf (L2.CX P w) P w K mg base N_inverse "inverse" (defScope s_inverse) A.a_inverse cdv Ar outer s H E) (fun cls d _ H' => E cls d H') := takes_of rfl rfl rfl rfl
  have hu := hr.units
  have sc := sc_inverse
  exact (ds_cons (ds_par3 1 2 3 g sc.nd (.inr rfl) (.inr rfl) (.inr rfl) (dl_sh de_int (dl_sh (de_bin od_mod (de_callT (cd_int) T.n_int PyProof.Rows.boot_int (da_cons (de_var 0) da_nil)) (de_glob (v := .int 9973) T.v_PRIME.choose_spec ⟨_, rfl⟩ (fun _ => .int 9973))) (dl_sh (de_bin od_sub (de_glob (v := .int 9973) T.v_PRIME.choose_spec ⟨_, rfl⟩ (fun _ => .int 9973)) de_int) dl_nil))))
    (ds_cons (ds_while 20 (passes_of rfl) (dt_cmp g od_gt ordI_bl (de_var 3) de_int) (ds_cons (ds_if (dt_cmp g (od_eq g hu) eqR_bl (de_bin od_mod (de_var 3) de_int) de_int) (ds_one (ds_set 1 sc.nd (.inr rfl) (de_bin od_mod (de_callT (cd_int) T.n_int PyProof.Rows.boot_int (da_cons (de_bin od_mul (de_var 1) (de_var 2)) da_nil)) (de_glob (v := .int 9973) T.v_PRIME.choose_spec ⟨_, rfl⟩ (fun _ => .int 9973))))) ds_nil)
    (ds_one (ds_par 2 3 g sc.nd (.inr rfl) (.inr rfl) (dl_sh (de_bin od_mod (de_callT (cd_int) T.n_int PyProof.Rows.boot_int (da_cons (de_bin od_mul (de_var 2) (de_var 2)) da_nil)) (de_glob (v := .int 9973) T.v_PRIME.choose_spec ⟨_, rfl⟩ (fun _ => .int 9973))) (dl_sh (de_bin od_fdiv (de_var 3) de_int) dl_nil))))))
    (ds_one (ds_ret (de_var 1)))))
theorem sc_is_just : FnScope N_is_just ["inner", "row", "free"] (defScope s_is_just) := ⟨rfl, rfl, rfl, by decide +kernel, rfl, by decide +kernel, by decide +kernel⟩
theorem ok_is_just (T : Txt K mg A) : FnOk P w K mg base (L2.CX P w) 1 A.a_is_just A.d_is_just ["inner", "row", "free"] (spD K mg F_is_just) := by
  refine okD (N := N_is_just) (g := m_is_just) 3 T.F_is_just sc_is_just rfl (by decide) fun cdv Ar outer s H Oc E hr => ?_
  have g : Gd (cD K mg H Oc) (cxOf (L2.CX P w) P w K mg base N_is_just "is_just" (defScope s_is_just) A.a_is_just cdv Ar outer s H E) := ⟨rfl, rfl, rfl⟩
  have tk : Takes (cxOf (L2.CX P w) P w K mg base N_is_just "is_just" (defScope s_is_just) A.a_is_just cdv Ar outer s H E) (fun cls d _ H' => E cls d H') := takes_of rfl rfl rfl rfl
  have hu := hr.units
  have sc := sc_is_just
  exact (ds_cons (ds_set 3 sc.nd (.inr rfl) (de_bin od_mod (de_callT (cd_int) T.n_int PyProof.Rows.boot_int (da_cons (de_callB (cd_sum g) T.n_sum PyProof.Rows.boot_sum (da_cons (de_var 1) da_nil)) da_nil)) (de_glob (v := .int 9973) T.v_PRIME.choose_spec ⟨_, rfl⟩ (fun _ => .int 9973))))
    (ds_cons (ds_set 4 sc.nd (.inr rfl) (de_bin od_mod (de_callT (cd_int) T.n_int PyProof.Rows.boot_int (da_cons (de_callB (cd_sum g) T.n_sum PyProof.Rows.boot_sum (da_cons (de_lc [("place", 5), ("one", 6)] (fun _ _ => .inr rfl) (by decide) g sc.nd (show BlkOk N_is_just (defScope s_is_just) _ [("place", 5), ("one", 6)] from blkOk_by (by decide +kernel)) (di_zip g T.n_zip (da_cons (de_var 0) (da_cons (de_var 1) da_nil))) (fun _ _ _ _ _ => (dg_tup g (dgs_cons (dg_name 5 sc.nd (.inr rfl)) (dgs_cons (dg_name 6 sc.nd (.inr rfl)) dgs_nil)))) (fun _ _ _ _ _ => dts_nil) (fun _ _ _ _ _ => (de_bin od_mul (de_bin (od_add g) (de_var 5) de_int) (de_var 6)))) da_nil)) da_nil)) (de_glob (v := .int 9973) T.v_PRIME.choose_spec ⟨_, rfl⟩ (fun _ => .int 9973))))
    (ds_one (ds_ret (de_cmp (od_eq g hu) (de_lst (da_cons (de_cmp (od_ne g hu) (de_var 3) de_int) (da_cons (de_cmp (od_ne g hu) (de_var 4) de_int) da_nil))) (de_callT (cd_list g) T.n_list PyProof.Rows.boot_list (da_cons (de_var 2) da_nil)))))))
theorem sc_closed_row : FnScope N_closed_row ["inner", "front", "free"] (defScope s_closed_row) := ⟨rfl, rfl, rfl, by decide +kernel, rfl, by decide +kernel, by decide +kernel⟩
theorem ok_closed_row (T : Txt K mg A) : FnOk P w K mg base (L2.CX P w) 3 A.a_closed_row A.d_closed_row ["inner", "front", "free"] (spD K mg F_closed_row) := by
  refine okD (N := N_closed_row) (g := m_closed_row) 3 T.F_closed_row sc_closed_row rfl (by decide) fun cdv Ar outer s H Oc E hr => ?_
  have g : Gd (cD K mg H Oc) (cxOf (L2.CX P w) P w K mg base N_closed_row "closed_row" (defScope s_closed_row) A.a_closed_row cdv Ar outer s H E) := ⟨rfl, rfl, rfl⟩
  have tk : Takes (cxOf (L2.CX P w) P w K mg base N_closed_row "closed_row" (defScope s_closed_row) A.a_closed_row cdv Ar outer s H E) (fun cls d _ H' => E cls d H') := takes_of rfl rfl rfl rfl
  have hu := hr.units
  have sc := sc_closed_row
  exact (ds_cons (ds_set 3 sc.nd (.inr rfl) (de_un ud_neg (de_callB (cd_sum g) T.n_sum PyProof.Rows.boot_sum (da_cons (de_var 1) da_nil))))
    (ds_cons (ds_set 4 sc.nd (.inr rfl) (de_un ud_neg (de_callB (cd_sum g) T.n_sum PyProof.Rows.boot_sum (da_cons (de_lc [("place", 7), ("one", 8)] (fun _ _ => .inr rfl) (by decide) g sc.nd (show BlkOk N_closed_row (defScope s_closed_row) _ [("place", 7), ("one", 8)] from blkOk_by (by decide +kernel)) (di_zip g T.n_zip (da_cons (de_var 0) (da_cons (de_var 1) da_nil))) (fun _ _ _ _ _ => (dg_tup g (dgs_cons (dg_name 7 sc.nd (.inr rfl)) (dgs_cons (dg_name 8 sc.nd (.inr rfl)) dgs_nil)))) (fun _ _ _ _ _ => dts_nil) (fun _ _ _ _ _ => (de_bin od_mul (de_bin (od_add g) (de_var 7) de_int) (de_var 8)))) da_nil))))
    (ds_cons (ds_setLc (i := 5) [("place", 7)] (.inr rfl) (fun _ _ => .inr rfl) (by decide) g sc.nd rfl rfl (by rfl) (show BlkOk N_closed_row (defScope s_closed_row) _ [("place", 7)] from blkOk_by (by decide +kernel)) (di_seq g (de_slice g (de_var 0) (do_some (de_callB (cd_len g) T.n_len PySem.boot_len (da_cons (de_var 1) da_nil))) do_none)) (fun _ _ _ _ _ => (dg_name 7 sc.nd (.inr rfl))) (fun _ _ _ _ _ => dts_nil) (fun _ _ _ _ _ => (de_bin (od_add g) (de_var 7) de_int)))
    (ds_cons (ds_if (dt_cmp g (od_eq g hu) eqR_bl (de_var 5) (de_lst da_nil)) (ds_one (ds_ret (de_callT (cd_list g) T.n_list PyProof.Rows.boot_list (da_cons (de_var 1) da_nil)))) ds_nil)
    (ds_cons (ds_if (dt_cmp g (od_eq g hu) eqR_bl (de_callB (cd_len g) T.n_len PySem.boot_len (da_cons (de_var 5) da_nil)) de_int) (ds_one (ds_ret (de_lst (da_star g (de_var 1) (da_cons (de_if (dt_val g (de_ix g (de_var 2) de_int)) (de_var 3) (de_bin od_mul (de_var 4) (de_call g (ok_inverse T) (hr.mono (by decide)) T.m_inverse T.F_inverse.kp T.b_inverse tk (da_cons (de_ix g (de_var 5) de_int) da_nil)))) da_nil))))) ds_nil)
    (ds_cons (ds_set 6 sc.nd (.inr rfl) (de_bin od_mod (de_callT (cd_int) T.n_int PyProof.Rows.boot_int (da_cons (de_bin od_mul (de_bin od_sub (de_var 4) (de_bin od_mul (de_var 3) (de_ix g (de_var 5) de_int))) (de_call g (ok_inverse T) (hr.mono (by decide)) T.m_inverse T.F_inverse.kp T.b_inverse tk (da_cons (de_bin od_sub (de_ix g (de_var 5) de_int) (de_ix g (de_var 5) de_int)) da_nil))) da_nil)) (de_glob (v := .int 9973) T.v_PRIME.choose_spec ⟨_, rfl⟩ (fun _ => .int 9973))))
    (ds_one (ds_ret (de_lst (da_star g (de_var 1) (da_cons (de_bin od_sub (de_var 3) (de_var 6)) (da_cons (de_var 6) da_nil))))))))))))
theorem sc_rows_of_changes : FnScope N_rows_of_changes ["many"] (defScope s_rows_of_changes) := ⟨rfl, rfl, rfl, by decide +kernel, rfl, by decide +kernel, by decide +kernel⟩
theorem ok_rows_of_changes (T : Txt K mg A) : FnOk P w K mg base (L2.CX P w) 1 A.a_rows_of_changes A.d_rows_of_changes ["many"] (spD K mg F_rows_of_changes) := by
  refine okD (N := N_rows_of_changes) (g := m_rows_of_changes) 1 T.F_rows_of_changes sc_rows_of_changes rfl (by decide) fun cdv Ar outer s H Oc E hr => ?_
  have g : Gd (cD K mg H Oc) (cxOf (L2.CX P w) P w K mg base N_rows_of_changes "rows_of_changes" (defScope s_rows_of_changes) A.a_rows_of_changes cdv Ar outer s H E) := ⟨rfl, rfl, rfl⟩
  have tk : Takes (cxOf (L2.CX P w) P w K mg base N_rows_of_changes "rows_of_changes" (defScope s_rows_of_changes) A.a_rows_of_changes cdv Ar outer s H E) (fun cls d _ H' => E cls d H') := takes_of rfl rfl rfl rfl
  have hu := hr.units
  have sc := sc_rows_of_changes
  exact (ds_cons (ds_if (dt_cmp g (od_eq g hu) eqR_bl (de_var 0) de_int) (ds_one (ds_ret (de_lst (da_cons (de_tup da_nil) da_nil)))) ds_nil)
    (ds_cons (ds_own 1 sc.nd (.inr rfl) (df_lst da_nil))
    (ds_cons (ds_for g (passes_of rfl) (di_range2 T.n_range (da_cons de_int (da_cons de_int da_nil))) (dg_name 2 sc.nd (.inr rfl)) (ds_one (ds_for g (passes_of rfl) (di_range2 T.n_range (da_cons de_int (da_cons (de_if (dt_cmp g od_gt ordI_bl (de_var 0) de_int) de_int de_int) da_nil))) (dg_name 3 sc.nd (.inr rfl)) (ds_one (ds_append 1 (de_slice g (de_tup (da_cons (de_var 2) (da_cons (de_var 3) (da_star g (de_lc [("turn", 4)] (fun _ _ => .inr rfl) (by decide) g sc.nd (show BlkOk N_rows_of_changes (defScope s_rows_of_changes) _ [("turn", 4)] from blkOk_by (by decide +kernel)) (di_range1 T.n_range (da_cons (de_bin od_sub (de_var 0) de_int) da_nil)) (fun _ _ _ _ _ => (dg_name 4 sc.nd (.inr rfl))) (fun _ _ _ _ _ => dts_nil) (fun _ _ _ _ _ => de_int)) da_nil)))) do_none (do_some (de_var 0))))))))
    (ds_one (ds_share 1 rfl (ds_ret (de_var 1)))))))
theorem sc_changes_of : FnScope N_changes_of ["inner", "free"] (defScope s_changes_of) := ⟨rfl, rfl, rfl, by decide +kernel, rfl, by decide +kernel, by decide +kernel⟩
theorem ok_changes_of (T : Txt K mg A) : FnOk P w K mg base (L2.CX P w) 5 A.a_changes_of A.d_changes_of ["inner", "free"] (spD K mg F_changes_of) := by
  refine okD (N := N_changes_of) (g := m_changes_of) 2 T.F_changes_of sc_changes_of rfl (by decide) fun cdv Ar outer s H Oc E hr => ?_
  have g : Gd (cD K mg H Oc) (cxOf (L2.CX P w) P w K mg base N_changes_of "changes_of" (defScope s_changes_of) A.a_changes_of cdv Ar outer s H E) := ⟨rfl, rfl, rfl⟩
  have tk : Takes (cxOf (L2.CX P w) P w K mg base N_changes_of "changes_of" (defScope s_changes_of) A.a_changes_of cdv Ar outer s H E) (fun cls d _ H' => E cls d H') := takes_of rfl rfl rfl rfl
  have hu := hr.units
  have sc := sc_changes_of
  exact (ds_cons (ds_set 2 sc.nd (.inr rfl) (de_bin od_sub de_int (de_callB (cd_len g) T.n_len PySem.boot_len (da_cons (de_lc [("one", 5)] (fun _ _ => .inr rfl) (by decide) g sc.nd (show BlkOk N_changes_of (defScope s_changes_of) _ [("one", 5)] from blkOk_by (by decide +kernel)) (di_seq g (de_var 1)) (fun _ _ _ _ _ => (dg_name 5 sc.nd (.inr rfl))) (fun _ _ _ _ _ => (dts_one (dt_val g (de_var 5)))) (fun _ _ _ _ _ => (de_var 5))) da_nil))))
    (ds_cons (ds_for g (passes_of rfl) (di_seq g (de_call g (ok_rows_of_changes T) (hr.mono (by decide)) T.m_rows_of_changes T.F_rows_of_changes.kp T.b_rows_of_changes tk (da_cons (de_bin od_sub (de_callB (cd_len g) T.n_len PySem.boot_len (da_cons (de_var 0) da_nil)) (de_var 2)) da_nil))) (dg_name 3 sc.nd (.inr rfl)) (ds_cons (ds_set 4 sc.nd (.inr rfl) (de_call g (ok_closed_row T) (hr.mono (by decide)) T.m_closed_row T.F_closed_row.kp T.b_closed_row tk (da_cons (de_var 0) (da_cons (de_var 3) (da_cons (de_var 1) da_nil)))))
    (ds_one (ds_if (dt_bool (dw_and (dt_cmp g od_isnot isOp_bl (de_var 4) de_non) (dw_and (dt_val g (de_callB (cd_all g) T.n_all PyProof.Rows.boot_all (da_cons (de_lc [("one", 5)] (fun _ _ => .inr rfl) (by decide) g sc.nd (show BlkOk N_changes_of (defScope s_changes_of) _ [("one", 5)] from blkOk_by (by decide +kernel)) (di_seq g (de_var 4)) (fun _ _ _ _ _ => (dg_name 5 sc.nd (.inr rfl))) (fun _ _ _ _ _ => dts_nil) (fun _ _ _ _ _ => (de_cmp (od_ne g hu) (de_bin od_mod (de_callT (cd_int) T.n_int PyProof.Rows.boot_int (da_cons (de_var 5) da_nil)) (de_glob (v := .int 9973) T.v_PRIME.choose_spec ⟨_, rfl⟩ (fun _ => .int 9973))) de_int))) da_nil))) (dw_and1 (dt_val g (de_call g (ok_is_just T) (hr.mono (by decide)) T.m_is_just T.F_is_just.kp T.b_is_just tk (da_cons (de_var 0) (da_cons (de_var 4) (da_cons (de_var 1) da_nil))))))))) (ds_one (ds_ret (de_var 4))) ds_nil))))
    (ds_one (ds_ret de_non))))
theorem sc_H_init : FnScope N_H_init ["self", "one", "other"] (defScope s_H_init) := ⟨rfl, rfl, rfl, by decide +kernel, rfl, by decide +kernel, by decide +kernel⟩
theorem ok_H_init (T : Txt K mg A) : FnOk P w K mg base (L2.CX P w) 1 A.a_H_init A.d_H_init ["self", "one", "other"] (spI K mg F_H_init) := by
  refine okI (N := N_H_init) (g := m_H_init) 3 T.F_H_init sc_H_init rfl (by decide) fun cdv Ar outer s H Oc a E hr => ?_
  have g : Gd (cI K mg H Oc a) (cxOf (L2.CX P w) P w K mg base N_H_init "Hidden.__init__" (defScope s_H_init) A.a_H_init cdv Ar outer s H E) := ⟨rfl, rfl, rfl⟩
  have tk : Takes (cxOf (L2.CX P w) P w K mg base N_H_init "Hidden.__init__" (defScope s_H_init) A.a_H_init cdv Ar outer s H E) (fun cls d _ H' => E cls d H') := takes_of rfl rfl rfl rfl
  have hu := hr.units
  have sc := sc_H_init
  exact (ds_cons (ds_fld 0 ["Hidden"] g (fld_one T) (de_callT (cd_tuple g) T.n_tuple PyProof.Rows.boot_tuple (da_cons (de_var 1) da_nil)))
    (ds_one (ds_fld 0 ["Hidden"] g (fld_other T) (de_callT (cd_tuple g) T.n_tuple PyProof.Rows.boot_tuple (da_cons (de_var 2) da_nil)))))
theorem sc_judge_noticed : FnScope N_judge_noticed ["many", "places"] (defScope s_judge_noticed) := ⟨rfl, rfl, rfl, by decide +kernel, rfl, by decide +kernel, by decide +kernel⟩
theorem ok_judge_noticed (T : Txt K mg A) : FnOk P w K mg base (L2.CX P w) 7 A.a_judge_noticed A.d_judge_noticed ["many", "places"] (spD K mg F_judge_noticed) := by
  refine okD (N := N_judge_noticed) (g := m_judge_noticed) 2 T.F_judge_noticed sc_judge_noticed rfl (by decide) fun cdv Ar outer s H Oc E hr => ?_
  have g : Gd (cD K mg H Oc) (cxOf (L2.CX P w) P w K mg base N_judge_noticed "judge_noticed" (defScope s_judge_noticed) A.a_judge_noticed cdv Ar outer s H E) := ⟨rfl, rfl, rfl⟩
  have tk : Takes (cxOf (L2.CX P w) P w K mg base N_judge_noticed "judge_noticed" (defScope s_judge_noticed) A.a_judge_noticed cdv Ar outer s H E) (fun cls d _ H' => E cls d H') := takes_of rfl rfl rfl rfl
  have hu := hr.units
  have sc := sc_judge_noticed
  exact (ds_cons (ds_expr (de_call g (ok_check_places T) (hr.mono (by decide)) T.m_check_places T.F_check_places.kp T.b_check_places tk (da_cons (de_var 0) (da_cons (de_var 1) da_nil))))
    (ds_cons (ds_par 3 4 g sc.nd (.inr rfl) (.inr rfl) (dl_sh (de_lc [("place", 2)] (fun _ _ => .inr rfl) (by decide) g sc.nd (show BlkOk N_judge_noticed (defScope s_judge_noticed) _ [("place", 2)] from blkOk_by (by decide +kernel)) (di_seq g (de_callB (cd_sorted g) T.n_sorted PyProof.Rows.boot_sorted (da_cons (de_var 1) da_nil))) (fun _ _ _ _ _ => (dg_name 2 sc.nd (.inr rfl))) (fun _ _ _ _ _ => (dts_one (dt_cmp g od_lt ordI_bl (de_var 2) (de_var 0)))) (fun _ _ _ _ _ => (de_var 2))) (dl_sh (de_lc [("place", 2)] (fun _ _ => .inr rfl) (by decide) g sc.nd (show BlkOk N_judge_noticed (defScope s_judge_noticed) _ [("place", 2)] from blkOk_by (by decide +kernel)) (di_seq g (de_var 1)) (fun _ _ _ _ _ => (dg_name 2 sc.nd (.inr rfl))) (fun _ _ _ _ _ => (dts_one (dt_cmp g od_ge ordI_bl (de_var 2) (de_var 0)))) (fun _ _ _ _ _ => (de_var 2))) dl_nil)))
    (ds_cons (ds_if (dt_bool (dw_or (dt_cmp g od_lt ordI_bl (de_bin (od_add g) (de_callB (cd_len g) T.n_len PySem.boot_len (da_cons (de_var 3) da_nil)) (de_callB (cd_len g) T.n_len PySem.boot_len (da_cons (de_var 4) da_nil))) de_int) (dw_or1 (dt_cmp g (od_eq g hu) eqR_bl (de_var 3) (de_lst da_nil))))) (ds_one (ds_ret (de_mk0 g T.mk_Noticed T.m_Noticed))) ds_nil)
    (ds_cons (ds_own 5 sc.nd (.inr rfl) (df_mul (de_lst (da_cons de_int da_nil)) (de_var 0)))
    (ds_cons (ds_for g (passes_of rfl) (di_zip g T.n_zip (da_cons (de_var 3) (da_cons (de_call g (ok_changes_of T) (hr.mono (by decide)) T.m_changes_of T.F_changes_of.kp T.b_changes_of tk (da_cons (de_var 3) (da_cons (de_lst (da_cons (de_cmp (od_in g) (de_var 0) (de_var 4)) (da_cons (de_cmp (od_in g) (de_bin (od_add g) (de_var 0) de_int) (de_var 4)) da_nil))) da_nil))) da_nil))) (dg_tup g (dgs_cons (dg_name 2 sc.nd (.inr rfl)) (dgs_cons (dg_name 6 sc.nd (.inr rfl)) dgs_nil))) (ds_one (ds_putI 5 (de_bin od_mod (de_callT (cd_int) T.n_int PyProof.Rows.boot_int (da_cons (de_var 6) da_nil)) (de_glob (v := .int 9973) T.v_PRIME.choose_spec ⟨_, rfl⟩ (fun _ => .int 9973))) (de_var 2) (hp := pg_sub (pv 5) (de_var 2) set_list))))
    (ds_one (ds_share 5 rfl (ds_ret (de_make g T.mk_Hidden (ok_H_init T) (hr.mono (by decide)) T.m_Hidden T.b_H_init tk (da_cons (de_call g (ok_block_of T) (hr.mono (by decide)) T.m_block_of T.F_block_of.kp T.b_block_of tk (da_cons (de_bin od_mul (de_lst (da_cons de_int da_nil)) (de_var 0)) da_nil)) (da_cons (de_call g (ok_block_of T) (hr.mono (by decide)) T.m_block_of T.F_block_of.kp T.b_block_of tk (da_cons (de_var 5) da_nil)) da_nil)))))))))))
theorem sc_N_bool : FnScope N_N_bool ["self"] (defScope s_N_bool) := ⟨rfl, rfl, rfl, by decide +kernel, rfl, by decide +kernel, by decide +kernel⟩
theorem ok_N_bool (T : Txt K mg A) : FnOk P w K mg base (L2.CX P w) 1 A.a_N_bool A.d_N_bool ["self"] (spD K mg F_N_bool) := by
  refine okD (N := N_N_bool) (g := m_N_bool) 1 T.F_N_bool sc_N_bool rfl (by decide) fun cdv Ar outer s H Oc E hr => ?_
  have g : Gd (cD K mg H Oc) (cxOf (L2.CX P w) P w K mg base N_N_bool "Noticed.__bool__" (defScope s_N_bool) A.a_N_bool cdv Ar outer s H E) := ⟨rfl, rfl, rfl⟩
  have tk : Takes (cxOf (L2.CX P w) P w K mg base N_N_bool "Noticed.__bool__" (defScope s_N_bool) A.a_N_bool cdv Ar outer s H E) (fun cls d _ H' => E cls d H') := takes_of rfl rfl rfl rfl
  have hu := hr.units
  have sc := sc_N_bool
  exact (ds_one (ds_ret de_bl))
theorem sc_N_eq : FnScope N_N_eq ["self", "other"] (defScope s_N_eq) := ⟨rfl, rfl, rfl, by decide +kernel, rfl, by decide +kernel, by decide +kernel⟩
theorem ok_N_eq (T : Txt K mg A) : FnOk P w K mg base (L2.CX P w) 1 A.a_N_eq A.d_N_eq ["self", "other"] (spD K mg F_N_eq) := by
  refine okD (N := N_N_eq) (g := m_N_eq) 2 T.F_N_eq sc_N_eq rfl (by decide) fun cdv Ar outer s H Oc E hr => ?_
  have g : Gd (cD K mg H Oc) (cxOf (L2.CX P w) P w K mg base N_N_eq "Noticed.__eq__" (defScope s_N_eq) A.a_N_eq cdv Ar outer s H E) := ⟨rfl, rfl, rfl⟩
  have tk : Takes (cxOf (L2.CX P w) P w K mg base N_N_eq "Noticed.__eq__" (defScope s_N_eq) A.a_N_eq cdv Ar outer s H E) (fun cls d _ H' => E cls d H') := takes_of rfl rfl rfl rfl
  have hu := hr.units
  have sc := sc_N_eq
  exact (ds_one (ds_ret (de_isi1 g T.n_isinstance (pe_glob (v := .ref A.c_Noticed) rfl T.m_Noticed rfl) (.own _) (isiT_Noticed T) (de_var 1))))
theorem sc_H_bool : FnScope N_H_bool ["self"] (defScope s_H_bool) := ⟨rfl, rfl, rfl, by decide +kernel, rfl, by decide +kernel, by decide +kernel⟩
theorem ok_H_bool (T : Txt K mg A) : FnOk P w K mg base (L2.CX P w) 1 A.a_H_bool A.d_H_bool ["self"] (spD K mg F_H_bool) := by
  refine okD (N := N_H_bool) (g := m_H_bool) 1 T.F_H_bool sc_H_bool rfl (by decide) fun cdv Ar outer s H Oc E hr => ?_
  have g : Gd (cD K mg H Oc) (cxOf (L2.CX P w) P w K mg base N_H_bool "Hidden.__bool__" (defScope s_H_bool) A.a_H_bool cdv Ar outer s H E) := ⟨rfl, rfl, rfl⟩
  have tk : Takes (cxOf (L2.CX P w) P w K mg base N_H_bool "Hidden.__bool__" (defScope s_H_bool) A.a_H_bool cdv Ar outer s H E) (fun cls d _ H' => E cls d H') := takes_of rfl rfl rfl rfl
  have hu := hr.units
  have sc := sc_H_bool
  exact (ds_one (ds_ret de_bl))
theorem sc_H_eq : FnScope N_H_eq ["self", "other"] (defScope s_H_eq) := ⟨rfl, rfl, rfl, by decide +kernel, rfl, by decide +kernel, by decide +kernel⟩
theorem ok_H_eq (T : Txt K mg A) : FnOk P w K mg base (L2.CX P w) 1 A.a_H_eq A.d_H_eq ["self", "other"] (spD K mg F_H_eq) := by
  refine okD (N := N_H_eq) (g := m_H_eq) 2 T.F_H_eq sc_H_eq rfl (by decide) fun cdv Ar outer s H Oc E hr => ?_
  have g : Gd (cD K mg H Oc) (cxOf (L2.CX P w) P w K mg base N_H_eq "Hidden.__eq__" (defScope s_H_eq) A.a_H_eq cdv Ar outer s H E) := ⟨rfl, rfl, rfl⟩
  have tk : Takes (cxOf (L2.CX P w) P w K mg base N_H_eq "Hidden.__eq__" (defScope s_H_eq) A.a_H_eq cdv Ar outer s H E) (fun cls d _ H' => E cls d H') := takes_of rfl rfl rfl rfl
  have hu := hr.units
  have sc := sc_H_eq
  exact (ds_one (ds_ret (de_and g (de_isi1 g T.n_isinstance (pe_glob (v := .ref A.c_Hidden) rfl T.m_Hidden rfl) (.own _) (isiT_Hidden T) (de_var 1)) (de_one (de_cmp (od_eq g hu) (de_tup (da_cons (de_fld ["Hidden"] g (fld_one T) (de_var 0)) (da_cons (de_fld ["Hidden"] g (fld_other T) (de_var 0)) da_nil))) (de_tup (da_cons (de_fld ["Hidden"] g (fld_one T) (de_var 1)) (da_cons (de_fld ["Hidden"] g (fld_other T) (de_var 1)) da_nil))))))))
theorem sc_N_shows : FnScope N_N_shows ["self", "many", "places"] (defScope s_N_shows) := ⟨rfl, rfl, rfl, by decide +kernel, rfl, by decide +kernel, by decide +kernel⟩
theorem truF_all {X : Cx} (T : Txt X.K X.mg A) : TruF X 1 truL := fun p h C hC => by
  rcases List.mem_cons.mp h with h | h
  · rw [h] at hC ⊢
    rw [one_cls T.m_Noticed hC]; exact ⟨_, _, _, T.bo_N, T.fb_N, ok_N_bool T, T.b_N_bool⟩
  · rw [List.mem_singleton.mp h] at hC ⊢
    rw [one_cls T.m_Hidden hC]; exact ⟨_, _, _, T.bo_H, T.fb_H, ok_H_bool T, T.b_H_bool⟩
theorem eqF_all {X : Cx} (T : Txt X.K X.mg A) : EqF X 1 eqL := by
  refine ⟨fun p h C hC => ?_, fun p h C hC => ?_, fun p h q h2 C C2 hC hC2 => ?_⟩
  · rcases List.mem_cons.mp h with h | h
    · rw [h] at hC ⊢
      rw [one_cls T.m_Noticed hC]; exact ⟨_, _, _, T.eq_N, T.fe_N, ok_N_eq T, T.b_N_eq⟩
    · rw [List.mem_singleton.mp h] at hC ⊢
      rw [one_cls T.m_Hidden hC]; exact ⟨_, _, _, T.eq_H, T.fe_H, ok_H_eq T, T.b_H_eq⟩
  · rcases List.mem_cons.mp h with h | h
    · rw [h] at hC
      rw [one_cls T.m_Noticed hC]; exact ⟨T.ne_N, T.i_Noticed.hm⟩
    · rw [List.mem_singleton.mp h] at hC
      rw [one_cls T.m_Hidden hC]; exact ⟨T.ne_H, T.i_Hidden.hm⟩
  · rcases List.mem_cons.mp h with h | h <;> rcases List.mem_cons.mp h2 with h2 | h2
    · rw [h] at hC; rw [h2] at hC2
      rw [one_cls T.m_Noticed hC, one_cls T.m_Noticed hC2]; exact T.nf_NN
    · rw [h] at hC; rw [List.mem_singleton.mp h2] at hC2
      rw [one_cls T.m_Noticed hC, one_cls T.m_Hidden hC2]; exact T.nf_NH
    · rw [List.mem_singleton.mp h] at hC; rw [h2] at hC2
      rw [one_cls T.m_Hidden hC, one_cls T.m_Noticed hC2]; exact T.nf_HN
    · rw [List.mem_singleton.mp h] at hC; rw [List.mem_singleton.mp h2] at hC2
      rw [one_cls T.m_Hidden hC, one_cls T.m_Hidden hC2]; exact T.nf_HH
theorem ok_N_shows (T : Txt K mg A) : FnOk P w K mg base (L2.CX P w) 9 A.a_N_shows A.d_N_shows ["self", "many", "places"] (spD K mg F_N_shows) := by
  refine okD (N := N_N_shows) (g := m_N_shows) 3 T.F_N_shows sc_N_shows rfl (by decide) fun cdv Ar outer s H Oc E hr => ?_
  have g : Gd (cD K mg H Oc) (cxOf (L2.CX P w) P w K mg base N_N_shows "Noticed.shows" (defScope s_N_shows) A.a_N_shows cdv Ar outer s H E) := ⟨rfl, rfl, rfl⟩
  have tk : Takes (cxOf (L2.CX P w) P w K mg base N_N_shows "Noticed.shows" (defScope s_N_shows) A.a_N_shows cdv Ar outer s H E) (fun cls d _ H' => E cls d H') := takes_of rfl rfl rfl rfl
  have hu := hr.units
  have sc := sc_N_shows
  exact (ds_one (ds_ret (de_callT (cd_bool g (hr.mono (by decide)) (truF_all T)) T.n_bool PyProof.Rows.boot_bool (da_cons (de_call g (ok_judge_noticed T) (hr.mono (by decide)) T.m_judge_noticed T.F_judge_noticed.kp T.b_judge_noticed tk (da_cons (de_var 1) (da_cons (de_var 2) da_nil))) da_nil))))
theorem sc_H_shows : FnScope N_H_shows ["self", "many", "places"] (defScope s_H_shows) := ⟨rfl, rfl, rfl, by decide +kernel, rfl, by decide +kernel, by decide +kernel⟩
theorem ok_H_shows (T : Txt K mg A) : FnOk P w K mg base (L2.CX P w) 5 A.a_H_shows A.d_H_shows ["self", "many", "places"] (spD K mg F_H_shows) := by
  refine okD (N := N_H_shows) (g := m_H_shows) 3 T.F_H_shows sc_H_shows rfl (by decide) fun cdv Ar outer s H Oc E hr => ?_
  have g : Gd (cD K mg H Oc) (cxOf (L2.CX P w) P w K mg base N_H_shows "Hidden.shows" (defScope s_H_shows) A.a_H_shows cdv Ar outer s H E) := ⟨rfl, rfl, rfl⟩
  have tk : Takes (cxOf (L2.CX P w) P w K mg base N_H_shows "Hidden.shows" (defScope s_H_shows) A.a_H_shows cdv Ar outer s H E) (fun cls d _ H' => E cls d H') := takes_of rfl rfl rfl rfl
  have hu := hr.units
  have sc := sc_H_shows
  exact (ds_cons (ds_expr (de_call g (ok_check_places T) (hr.mono (by decide)) T.m_check_places T.F_check_places.kp T.b_check_places tk (da_cons (de_var 1) (da_cons (de_var 2) da_nil))))
    (ds_cons (ds_if (dt_bool (dw_or (dt_cmp g od_is isOp_bl (de_call g (ok_words_in T) (hr.mono (by decide)) T.m_words_in T.F_words_in.kp T.b_words_in tk (da_cons (de_fld ["Hidden"] g (fld_one T) (de_var 0)) da_nil)) de_non) (dw_or (dt_cmp g od_is isOp_bl (de_call g (ok_words_in T) (hr.mono (by decide)) T.m_words_in T.F_words_in.kp T.b_words_in tk (da_cons (de_fld ["Hidden"] g (fld_other T) (de_var 0)) da_nil)) de_non) (dw_or1 (dt_cmp g (od_ne g hu) eqR_bl (de_callB (cd_len g) T.n_len PySem.boot_len (da_cons (de_fld ["Hidden"] g (fld_one T) (de_var 0)) da_nil)) (de_bin (od_add g) (de_var 1) de_int)))))) (ds_one (ds_ret de_bl)) ds_nil)
    (ds_cons (ds_if (dt_cmp g (od_ne g hu) eqR_bl (de_callB (cd_len g) T.n_len PySem.boot_len (da_cons (de_fld ["Hidden"] g (fld_other T) (de_var 0)) da_nil)) (de_bin (od_add g) (de_var 1) de_int)) (ds_one (ds_ret de_bl)) ds_nil)
    (ds_one (ds_ret (de_cmp (od_eq g hu) (de_lc [("at", 3)] (fun _ _ => .inr rfl) (by decide) g sc.nd (show BlkOk N_H_shows (defScope s_H_shows) _ [("at", 3)] from blkOk_by (by decide +kernel)) (di_range1 T.n_range (da_cons (de_bin (od_add g) (de_var 1) de_int) da_nil)) (fun _ _ _ _ _ => (dg_name 3 sc.nd (.inr rfl))) (fun _ _ _ _ _ => (dts_one (dt_cmp g (od_ne g hu) eqR_bl (de_ix g (de_fld ["Hidden"] g (fld_one T) (de_var 0)) (de_var 3)) (de_ix g (de_fld ["Hidden"] g (fld_other T) (de_var 0)) (de_var 3))))) (fun _ _ _ _ _ => (de_var 3))) (de_callB (cd_sorted g) T.n_sorted PyProof.Rows.boot_sorted (da_cons (de_var 2) da_nil))))))))
theorem sc_number : FnScope N_number ["script", "index"] (defScope s_number) := ⟨rfl, rfl, rfl, by decide +kernel, rfl, by decide +kernel, by decide +kernel⟩
theorem meth_shows {X : Cx} (T : Txt X.K X.mg A) : Meths X 9 "shows" methL_shows := fun p h C hC => by
  rcases List.mem_cons.mp h with h | h
  · rw [h] at hC ⊢
    rw [one_cls T.m_Noticed hC]; exact ⟨T.i_Noticed.cl, _, _, _, T.sh_N, ok_N_shows T, T.b_N_shows⟩
  · rw [List.mem_singleton.mp h] at hC ⊢
    rw [one_cls T.m_Hidden hC]; exact ⟨T.i_Hidden.cl, _, _, _, T.sh_H, (ok_H_shows T).mono (by decide), T.b_H_shows⟩
theorem ok_number (T : Txt K mg A) : FnOk P w K mg base (L2.CX P w) 1 A.a_number A.d_number ["script", "index"] (spD K mg F_number) := by
  refine okD (N := N_number) (g := m_number) 2 T.F_number sc_number rfl (by decide) fun cdv Ar outer s H Oc E hr => ?_
  have g : Gd (cD K mg H Oc) (cxOf (L2.CX P w) P w K mg base N_number "_law_number" (defScope s_number) A.a_number cdv Ar outer s H E) := ⟨rfl, rfl, rfl⟩
  have tk : Takes (cxOf (L2.CX P w) P w K mg base N_number "_law_number" (defScope s_number) A.a_number cdv Ar outer s H E) (fun cls d _ H' => E cls d H') := takes_of rfl rfl rfl rfl
  have hu := hr.units
  have sc := sc_number
  exact (ds_cons (ds_asg (de_if (dt_cmp g (od_ne g hu) eqR_bl (de_var 0) (de_lst da_nil)) (de_tup (da_cons (de_ix g (de_var 0) (de_bin od_mod (de_var 1) (de_callB (cd_len g) T.n_len PySem.boot_len (da_cons (de_var 0) da_nil)))) (da_cons (de_bin od_fdiv (de_var 1) (de_callB (cd_len g) T.n_len PySem.boot_len (da_cons (de_var 0) da_nil))) da_nil))) (de_tup (da_cons de_int (da_cons de_int da_nil)))) (dg_tup g (dgs_cons (dg_name 2 sc.nd (.inr rfl)) (dgs_cons (dg_name 3 sc.nd (.inr rfl)) dgs_nil))))
    (ds_cons (ds_set 4 sc.nd (.inr rfl) (de_if (dt_cmp g od_lt ordI_bl (de_var 3) de_int) (de_bin od_sub (de_var 2) (de_bin od_pow de_int de_int)) de_int))
    (ds_cons (ds_for g (passes_of rfl) (di_range1 T.n_range (da_cons (de_bin od_mod (de_callT (cd_int) T.n_int PyProof.Rows.boot_int (da_cons (de_var 3) da_nil)) de_int) da_nil)) (dg_name 5 sc.nd (.inr rfl)) (ds_one (ds_set 4 sc.nd (.inr rfl) (de_bin od_fdiv (de_var 4) de_int))))
    (ds_cons (ds_if (dt_cmp g od_gt ordI_bl (de_var 4) de_int) (ds_one (ds_ret (de_bin od_mod (de_callT (cd_int) T.n_int PyProof.Rows.boot_int (da_cons (de_var 4) da_nil)) de_int))) ds_nil)
    (ds_cons (ds_set 6 sc.nd (.inr rfl) (de_bin od_mod (de_bin (od_add g) (de_bin od_mul (de_callT (cd_int) T.n_int PyProof.Rows.boot_int (da_cons (de_bin (od_add g) (de_var 2) (de_bin od_mul de_int (de_var 1))) da_nil)) de_int) (de_bin od_mul de_int (de_callB (cd_len g) T.n_len PySem.boot_len (da_cons (de_var 0) da_nil)))) de_int))
    (ds_cons (ds_set 6 sc.nd (.inr rfl) (de_bin od_mod (de_bin (od_add g) (de_bin od_mul (de_var 6) (de_var 6)) (de_bin od_mul de_int (de_var 1))) de_int))
    (ds_one (ds_ret (de_callT (cd_int) T.n_int PyProof.Rows.boot_int (da_cons (de_bin od_mod (de_bin (od_add g) (de_bin od_mul (de_var 6) de_int) (de_bin od_fdiv (de_var 6) de_int)) de_int) da_nil))))))))))
theorem sc_take : FnScope N_take ["draw", "many"] (defScope s_take) := ⟨rfl, rfl, rfl, by decide +kernel, rfl, by decide +kernel, by decide +kernel⟩
theorem ok_take (T : Txt K mg A) : FnOk P w K mg base (L2.CX P w) 3 A.a_take A.d_take ["draw", "many"] (spI K mg F_take) := by
  refine okI (N := N_take) (g := m_take) 2 T.F_take sc_take rfl (by decide) fun cdv Ar outer s H Oc a E hr => ?_
  have g : Gd (cI K mg H Oc a) (cxOf (L2.CX P w) P w K mg base N_take "_law_take" (defScope s_take) A.a_take cdv Ar outer s H E) := ⟨rfl, rfl, rfl⟩
  have tk : Takes (cxOf (L2.CX P w) P w K mg base N_take "_law_take" (defScope s_take) A.a_take cdv Ar outer s H E) (fun cls d _ H' => E cls d H') := takes_of rfl rfl rfl rfl
  have hu := hr.units
  have sc := sc_take
  exact (ds_cons (ds_augI 0 de_int de_int)
    (ds_one (ds_ret (de_bin od_mod (de_callT (cd_int) T.n_int PyProof.Rows.boot_int (da_cons (de_call g (ok_number T) (hr.mono (by decide)) T.m_number T.F_number.kp T.b_number tk (da_cons (de_oix 0 g de_int) (da_cons (de_callT (cd_int) T.n_int PyProof.Rows.boot_int (da_cons (de_oix 0 g de_int) da_nil)) da_nil))) da_nil)) (de_var 1)))))
theorem sc_lblock : FnScope N_lblock ["words"] (defScope s_lblock) := ⟨rfl, rfl, rfl, by decide +kernel, rfl, by decide +kernel, by decide +kernel⟩
theorem ok_lblock (T : Txt K mg A) : FnOk P w K mg base (L2.CX P w) 1 A.a_lblock A.d_lblock ["words"] (spD K mg F_lblock) := by
  refine okD (N := N_lblock) (g := m_lblock) 1 T.F_lblock sc_lblock rfl (by decide) fun cdv Ar outer s H Oc E hr => ?_
  have g : Gd (cD K mg H Oc) (cxOf (L2.CX P w) P w K mg base N_lblock "_law_block" (defScope s_lblock) A.a_lblock cdv Ar outer s H E) := ⟨rfl, rfl, rfl⟩
  have tk : Takes (cxOf (L2.CX P w) P w K mg base N_lblock "_law_block" (defScope s_lblock) A.a_lblock cdv Ar outer s H E) (fun cls d _ H' => E cls d H') := takes_of rfl rfl rfl rfl
  have hu := hr.units
  have sc := sc_lblock
  exact (ds_cons (ds_set 1 sc.nd (.inr rfl) (de_bin (od_add g) (de_callB (cd_sum g) T.n_sum PyProof.Rows.boot_sum (da_cons (de_var 0) da_nil)) (de_callB (cd_len g) T.n_len PySem.boot_len (da_cons (de_var 0) da_nil))))
    (ds_cons (ds_set 2 sc.nd (.inr rfl) (de_bin (od_add g) (de_callB (cd_sum g) T.n_sum PyProof.Rows.boot_sum (da_cons (de_lc [("at", 3), ("word", 4)] (fun _ _ => .inr rfl) (by decide) g sc.nd (show BlkOk N_lblock (defScope s_lblock) _ [("at", 3), ("word", 4)] from blkOk_by (by decide +kernel)) (di_enum g T.n_enumerate (da_cons (de_var 0) da_nil)) (fun _ _ _ _ _ => (dg_tup g (dgs_cons (dg_name 3 sc.nd (.inr rfl)) (dgs_cons (dg_name 4 sc.nd (.inr rfl)) dgs_nil)))) (fun _ _ _ _ _ => dts_nil) (fun _ _ _ _ _ => (de_bin od_mul (de_bin (od_add g) (de_var 3) de_int) (de_var 4)))) da_nil)) (de_callB (cd_len g) T.n_len PySem.boot_len (da_cons (de_var 0) da_nil))))
    (ds_one (ds_ret (de_bin (od_add g) (de_callT (cd_tuple g) T.n_tuple PyProof.Rows.boot_tuple (da_cons (de_var 0) da_nil)) (de_tup (da_cons (de_bin od_mod (de_var 1) de_int) (da_cons (de_bin od_mod (de_var 2) de_int) da_nil))))))))
theorem lam_ok_0 (T : Txt K mg A) : LamOk P w K mg base 11 0 lamR_0 := by
  refine lamOk_of (m := m_lam_0) (k := 10) ⟨rfl, rfl, rfl, by decide +kernel⟩ (fun _ _ _ => rfl) fun Ar outer s H E f c' Oc hr => ?_
  have g : Gd (cD K mg H Oc) (lamCx0 P w K mg base (lamTab 0) Ar outer s H E f c') := ⟨rfl, rfl, rfl⟩
  have tk : Takes (lamCx0 P w K mg base (lamTab 0) Ar outer s H E f c') (fun cls d _ H' => E cls d H') := takes_of rfl rfl rfl rfl
  have hu := hr.units
  exact (de_call g (ok_block_of T) (hr.mono (by decide)) T.m_block_of T.F_block_of.kp T.b_block_of tk (da_cons de_non da_nil))
theorem lam_ok_1 (T : Txt K mg A) : LamOk P w K mg base 11 1 lamR_1 := by
  refine lamOk_of (m := m_lam_1) (k := 10) ⟨rfl, rfl, rfl, by decide +kernel⟩ (fun _ _ _ => rfl) fun Ar outer s H E f c' Oc hr => ?_
  have g : Gd (cD K mg H Oc) (lamCx0 P w K mg base (lamTab 1) Ar outer s H E f c') := ⟨rfl, rfl, rfl⟩
  have tk : Takes (lamCx0 P w K mg base (lamTab 1) Ar outer s H E f c') (fun cls d _ H' => E cls d H') := takes_of rfl rfl rfl rfl
  have hu := hr.units
  exact (de_call g (ok_block_of T) (hr.mono (by decide)) T.m_block_of T.F_block_of.kp T.b_block_of tk (da_cons (de_lst (da_cons (de_un ud_neg de_int) da_nil)) da_nil))
theorem lam_ok_2 (T : Txt K mg A) : LamOk P w K mg base 11 2 lamR_2 := by
  refine lamOk_of (m := m_lam_2) (k := 10) ⟨rfl, rfl, rfl, by decide +kernel⟩ (fun _ _ _ => rfl) fun Ar outer s H E f c' Oc hr => ?_
  have g : Gd (cD K mg H Oc) (lamCx0 P w K mg base (lamTab 2) Ar outer s H E f c') := ⟨rfl, rfl, rfl⟩
  have tk : Takes (lamCx0 P w K mg base (lamTab 2) Ar outer s H E f c') (fun cls d _ H' => E cls d H') := takes_of rfl rfl rfl rfl
  have hu := hr.units
  exact (de_call g (ok_block_of T) (hr.mono (by decide)) T.m_block_of T.F_block_of.kp T.b_block_of tk (da_cons (de_lst (da_cons de_int da_nil)) da_nil))
theorem lam_ok_3 (T : Txt K mg A) : LamOk P w K mg base 11 3 lamR_3 := by
  refine lamOk_of (m := m_lam_3) (k := 10) ⟨rfl, rfl, rfl, by decide +kernel⟩ (fun _ _ _ => rfl) fun Ar outer s H E f c' Oc hr => ?_
  have g : Gd (cD K mg H Oc) (lamCx0 P w K mg base (lamTab 3) Ar outer s H E f c') := ⟨rfl, rfl, rfl⟩
  have tk : Takes (lamCx0 P w K mg base (lamTab 3) Ar outer s H E f c') (fun cls d _ H' => E cls d H') := takes_of rfl rfl rfl rfl
  have hu := hr.units
  exact (de_call g (ok_block_of T) (hr.mono (by decide)) T.m_block_of T.F_block_of.kp T.b_block_of tk (da_cons (de_lst (da_cons de_bl da_nil)) da_nil))
theorem lam_ok_4 (T : Txt K mg A) : LamOk P w K mg base 11 4 lamR_4 := by
  refine lamOk_of (m := m_lam_4) (k := 10) ⟨rfl, rfl, rfl, by decide +kernel⟩ (fun _ _ _ => rfl) fun Ar outer s H E f c' Oc hr => ?_
  have g : Gd (cD K mg H Oc) (lamCx0 P w K mg base (lamTab 4) Ar outer s H E f c') := ⟨rfl, rfl, rfl⟩
  have tk : Takes (lamCx0 P w K mg base (lamTab 4) Ar outer s H E f c') (fun cls d _ H' => E cls d H') := takes_of rfl rfl rfl rfl
  have hu := hr.units
  exact (de_call g (ok_block_of T) (hr.mono (by decide)) T.m_block_of T.F_block_of.kp T.b_block_of tk (da_cons (de_bin od_mul (de_lst (da_cons de_int da_nil)) de_int) da_nil))
theorem lam_ok_5 (T : Txt K mg A) : LamOk P w K mg base 11 5 lamR_5 := by
  refine lamOk_of (m := m_lam_5) (k := 10) ⟨rfl, rfl, rfl, by decide +kernel⟩ (fun _ _ _ => rfl) fun Ar outer s H E f c' Oc hr => ?_
  have g : Gd (cD K mg H Oc) (lamCx0 P w K mg base (lamTab 5) Ar outer s H E f c') := ⟨rfl, rfl, rfl⟩
  have tk : Takes (lamCx0 P w K mg base (lamTab 5) Ar outer s H E f c') (fun cls d _ H' => E cls d H') := takes_of rfl rfl rfl rfl
  have hu := hr.units
  exact (de_call g (ok_judge_noticed T) (hr.mono (by decide)) T.m_judge_noticed T.F_judge_noticed.kp T.b_judge_noticed tk (da_cons de_int (da_cons (de_lst da_nil) da_nil)))
theorem lam_ok_6 (T : Txt K mg A) : LamOk P w K mg base 11 6 lamR_6 := by
  refine lamOk_of (m := m_lam_6) (k := 10) ⟨rfl, rfl, rfl, by decide +kernel⟩ (fun _ _ _ => rfl) fun Ar outer s H E f c' Oc hr => ?_
  have g : Gd (cD K mg H Oc) (lamCx0 P w K mg base (lamTab 6) Ar outer s H E f c') := ⟨rfl, rfl, rfl⟩
  have tk : Takes (lamCx0 P w K mg base (lamTab 6) Ar outer s H E f c') (fun cls d _ H' => E cls d H') := takes_of rfl rfl rfl rfl
  have hu := hr.units
  exact (de_call g (ok_judge_noticed T) (hr.mono (by decide)) T.m_judge_noticed T.F_judge_noticed.kp T.b_judge_noticed tk (da_cons de_int (da_cons (de_lst da_nil) da_nil)))
theorem lam_ok_7 (T : Txt K mg A) : LamOk P w K mg base 11 7 lamR_7 := by
  refine lamOk_of (m := m_lam_7) (k := 10) ⟨rfl, rfl, rfl, by decide +kernel⟩ (fun _ _ _ => rfl) fun Ar outer s H E f c' Oc hr => ?_
  have g : Gd (cD K mg H Oc) (lamCx0 P w K mg base (lamTab 7) Ar outer s H E f c') := ⟨rfl, rfl, rfl⟩
  have tk : Takes (lamCx0 P w K mg base (lamTab 7) Ar outer s H E f c') (fun cls d _ H' => E cls d H') := takes_of rfl rfl rfl rfl
  have hu := hr.units
  exact (de_call g (ok_judge_noticed T) (hr.mono (by decide)) T.m_judge_noticed T.F_judge_noticed.kp T.b_judge_noticed tk (da_cons de_int (da_cons de_non da_nil)))
theorem lam_ok_8 (T : Txt K mg A) : LamOk P w K mg base 11 8 lamR_8 := by
  refine lamOk_of (m := m_lam_8) (k := 10) ⟨rfl, rfl, rfl, by decide +kernel⟩ (fun _ _ _ => rfl) fun Ar outer s H E f c' Oc hr => ?_
  have g : Gd (cD K mg H Oc) (lamCx0 P w K mg base (lamTab 8) Ar outer s H E f c') := ⟨rfl, rfl, rfl⟩
  have tk : Takes (lamCx0 P w K mg base (lamTab 8) Ar outer s H E f c') (fun cls d _ H' => E cls d H') := takes_of rfl rfl rfl rfl
  have hu := hr.units
  exact (de_call g (ok_judge_noticed T) (hr.mono (by decide)) T.m_judge_noticed T.F_judge_noticed.kp T.b_judge_noticed tk (da_cons de_int (da_cons (de_lst (da_cons de_int da_nil)) da_nil)))
theorem lam_ok_9 (T : Txt K mg A) : LamOk P w K mg base 11 9 lamR_9 := by
  refine lamOk_of (m := m_lam_9) (k := 10) ⟨rfl, rfl, rfl, by decide +kernel⟩ (fun _ _ _ => rfl) fun Ar outer s H E f c' Oc hr => ?_
  have g : Gd (cD K mg H Oc) (lamCx0 P w K mg base (lamTab 9) Ar outer s H E f c') := ⟨rfl, rfl, rfl⟩
  have tk : Takes (lamCx0 P w K mg base (lamTab 9) Ar outer s H E f c') (fun cls d _ H' => E cls d H') := takes_of rfl rfl rfl rfl
  have hu := hr.units
  exact (de_call g (ok_judge_noticed T) (hr.mono (by decide)) T.m_judge_noticed T.F_judge_noticed.kp T.b_judge_noticed tk (da_cons de_int (da_cons (de_lst (da_cons (de_un ud_neg de_int) da_nil)) da_nil)))
theorem lam_ok_10 (T : Txt K mg A) : LamOk P w K mg base 11 10 lamR_10 := by
  refine lamOk_of (m := m_lam_10) (k := 10) ⟨rfl, rfl, rfl, by decide +kernel⟩ (fun _ _ _ => rfl) fun Ar outer s H E f c' Oc hr => ?_
  have g : Gd (cD K mg H Oc) (lamCx0 P w K mg base (lamTab 10) Ar outer s H E f c') := ⟨rfl, rfl, rfl⟩
  have tk : Takes (lamCx0 P w K mg base (lamTab 10) Ar outer s H E f c') (fun cls d _ H' => E cls d H') := takes_of rfl rfl rfl rfl
  have hu := hr.units
  exact (de_call g (ok_judge_noticed T) (hr.mono (by decide)) T.m_judge_noticed T.F_judge_noticed.kp T.b_judge_noticed tk (da_cons de_int (da_cons (de_lst (da_cons de_int (da_cons de_int da_nil))) da_nil)))
theorem lam_ok_11 (T : Txt K mg A) : LamOk P w K mg base 11 11 lamR_11 := by
  refine lamOk_of (m := m_lam_11) (k := 10) ⟨rfl, rfl, rfl, by decide +kernel⟩ (fun _ _ _ => rfl) fun Ar outer s H E f c' Oc hr => ?_
  have g : Gd (cD K mg H Oc) (lamCx0 P w K mg base (lamTab 11) Ar outer s H E f c') := ⟨rfl, rfl, rfl⟩
  have tk : Takes (lamCx0 P w K mg base (lamTab 11) Ar outer s H E f c') (fun cls d _ H' => E cls d H') := takes_of rfl rfl rfl rfl
  have hu := hr.units
  exact (de_call g (ok_judge_noticed T) (hr.mono (by decide)) T.m_judge_noticed T.F_judge_noticed.kp T.b_judge_noticed tk (da_cons de_bl (da_cons (de_lst da_nil) da_nil)))
theorem lam_ok_12 (T : Txt K mg A) : LamOk P w K mg base 11 12 lamR_12 := by
  refine lamOk_of (m := m_lam_12) (k := 10) ⟨rfl, rfl, rfl, by decide +kernel⟩ (fun _ _ _ => rfl) fun Ar outer s H E f c' Oc hr => ?_
  have g : Gd (cD K mg H Oc) (lamCx0 P w K mg base (lamTab 12) Ar outer s H E f c') := ⟨rfl, rfl, rfl⟩
  have tk : Takes (lamCx0 P w K mg base (lamTab 12) Ar outer s H E f c') (fun cls d _ H' => E cls d H') := takes_of rfl rfl rfl rfl
  have hu := hr.units
  exact (de_meth methL_shows g (meth_shows T) (hr.mono (by decide)) tk (de_make g T.mk_Hidden (ok_H_init T) (hr.mono (by decide)) T.m_Hidden T.b_H_init tk (da_cons (de_tup da_nil) (da_cons (de_tup da_nil) da_nil))) (da_cons de_int (da_cons (de_lst (da_cons de_bl da_nil)) da_nil)))
theorem lam_ok_13 (T : Txt K mg A) : LamOk P w K mg base 11 13 lamR_13 := by
  refine lamOk_of (m := m_lam_13) (k := 10) ⟨rfl, rfl, rfl, by decide +kernel⟩ (fun _ _ _ => rfl) fun Ar outer s H E f c' Oc hr => ?_
  have g : Gd (cD K mg H Oc) (lamCx0 P w K mg base (lamTab 13) Ar outer s H E f c') := ⟨rfl, rfl, rfl⟩
  have tk : Takes (lamCx0 P w K mg base (lamTab 13) Ar outer s H E f c') (fun cls d _ H' => E cls d H') := takes_of rfl rfl rfl rfl
  have hu := hr.units
  exact (de_call g (ok_block_of T) (hr.mono (by decide)) T.m_block_of T.F_block_of.kp T.b_block_of tk (da_cons (de_bin od_mul (de_lst (da_cons de_int da_nil)) de_int) da_nil))
theorem lams_ok (T : Txt K mg A) : LamsOk P w K mg base 11 0 lamRs := .cons (lam_ok_0 T) (.cons (lam_ok_1 T) (.cons (lam_ok_2 T) (.cons (lam_ok_3 T) (.cons (lam_ok_4 T) (.cons (lam_ok_5 T) (.cons (lam_ok_6 T) (.cons (lam_ok_7 T) (.cons (lam_ok_8 T) (.cons (lam_ok_9 T) (.cons (lam_ok_10 T) (.cons (lam_ok_11 T) (.cons (lam_ok_12 T) (.cons (lam_ok_13 T) .nil)))))))))))))
theorem lamF_ok {X : Cx} (T : Txt X.K X.mg A) (n : Nat) (h : lamF n ≠ .no) : LamOk X.prog X.w X.K X.mg X.base 11 n (lamF n) := by
  unfold lamF at h ⊢
  cases e : lamRs[n]? with
  | none => rw [e] at h; exact absurd rfl h
  | some r =>
    have z := (lams_ok (P := X.prog) (w := X.w) (base := X.base) T).get e
    rw [Nat.zero_add] at z
    exact z
theorem sc_refused : FnScope N_refused ["deed"] (defScope s_refused) := ⟨rfl, rfl, rfl, by decide +kernel, rfl, by decide +kernel, by decide +kernel⟩
theorem ok_refused (T : Txt K mg A) : FnOk P w K mg base (L2.CX P w) 12 A.a_refused A.d_refused ["deed"] (spD K mg F_refused) := by
  refine okD (N := N_refused) (g := m_refused) 1 T.F_refused sc_refused rfl (by decide) fun cdv Ar outer s H Oc E hr => ?_
  have g : Gd (cD K mg H Oc) (cxOf (L2.CX P w) P w K mg base N_refused "_law_refused" (defScope s_refused) A.a_refused cdv Ar outer s H E) := ⟨rfl, rfl, rfl⟩
  have tk : Takes (cxOf (L2.CX P w) P w K mg base N_refused "_law_refused" (defScope s_refused) A.a_refused cdv Ar outer s H E) (fun cls d _ H' => E cls d H') := takes_of rfl rfl rfl rfl
  have hu := hr.units
  have sc := sc_refused
  exact (ds_cons (ds_tryO tryL g rfl rfl ⟨rfl, by decide, .inl T.m_BadBlock⟩ tk (tryF T) (fun W1 pn xe tk1 _ => (ds_one (ds_expr (de_act 0 g (lamF_ok T) (hr.mono (by decide)) tk1)))) (fun _ _ _ _ _ => (ds_one (ds_ret de_bl))))
    (ds_one (ds_ret de_bl)))
theorem sc_law : FnScope N_law ["script"] (defScope s_law) := ⟨rfl, rfl, rfl, by decide +kernel, rfl, by decide +kernel, by decide +kernel⟩
theorem ok_law {cc Pt : Addr} (T : Txt K mg A) (hcode : A.d_law.code = .ref cc) (TB : LamX.TabB base mg cc Pt) (hlaw : ∀ ns : List Int, ns.length ≤ 63 → ∃ ρ, m_law (env0 N_law.length [.sh (.fls (ns.map .int))]) = .rt (.bl true) ρ) : FnOk P w K mg base (L2.CX P w) 14 A.a_law A.d_law ["script"] (spLaw K [Pt]) := by
  refine okLaw (N := N_law) (g := m_law) (T := [Pt]) (q := "law.<locals>.<lambda>") T.F_law sc_law (by decide) hlaw fun cdv Ar outer s H E hr hcd => ?_
  have g : Gd (cL K mg H [Pt] "law.<locals>.<lambda>") (cxOf (L2.CX P w) P w K mg base N_law "law" (defScope s_law) A.a_law cdv Ar outer s H E) := ⟨rfl, rfl, rfl⟩
  have tk : Takes (cxOf (L2.CX P w) P w K mg base N_law "law" (defScope s_law) A.a_law cdv Ar outer s H E) (fun cls d _ H' => E cls d H') := takes_of rfl rfl rfl rfl
  have hu := hr.units
  have sc := sc_law
  subst hcd
  have L : LamF (cL K mg H [Pt] "law.<locals>.<lambda>") (cxOf (L2.CX P w) P w K mg base N_law "law" (defScope s_law) A.a_law A.d_law.code Ar outer s H E) := ⟨⟨cc, Pt, rfl, TB, hcode⟩, rfl⟩
  exact (ds_cons (ds_own 1 sc.nd (.inr rfl) (df_lst (da_cons (de_var 0) (da_cons de_int da_nil))))
    (ds_cons (ds_set 2 sc.nd (.inr rfl) (de_bin (od_add g) de_int (de_callI 1 g (ok_take T) (hr.mono (by decide)) T.m_take T.F_take.kp T.b_take tk (da_cons de_int da_nil))))
    (ds_cons (ds_setLc (i := 4) [("turn", 3)] (.inr rfl) (fun _ _ => .inr rfl) (by decide) g sc.nd rfl rfl (by rfl) (show BlkOk N_law (defScope s_law) _ [("turn", 3)] from blkOk_by (by decide +kernel)) (di_range1 T.n_range (da_cons (de_var 2) da_nil)) (fun _ _ _ _ _ => (dg_name 3 sc.nd (.inr rfl))) (fun _ _ _ _ _ => dts_nil) (fun _ _ _ _ _ => (de_bin od_mod (de_callT (cd_int) T.n_int PyProof.Rows.boot_int (da_cons (de_bin (od_add g) (de_bin od_mul (de_callI 1 g (ok_take T) (hr.mono (by decide)) T.m_take T.F_take.kp T.b_take L2.takes0 (da_cons de_int da_nil)) de_int) (de_callI 1 g (ok_take T) (hr.mono (by decide)) T.m_take T.F_take.kp T.b_take L2.takes0 (da_cons de_int da_nil))) da_nil)) de_int)))
    (ds_cons (ds_set 5 sc.nd (.inr rfl) (de_call g (ok_block_of T) (hr.mono (by decide)) T.m_block_of T.F_block_of.kp T.b_block_of tk (da_cons (de_callT (cd_tuple g) T.n_tuple PyProof.Rows.boot_tuple (da_cons (de_var 4) da_nil)) da_nil)))
    (ds_cons (ds_if (dt_bool (dw_or (dt_cmp g (od_ne g hu) eqR_bl (de_var 5) (de_call g (ok_lblock T) (hr.mono (by decide)) T.m_lblock T.F_lblock.kp T.b_lblock tk (da_cons (de_var 4) da_nil))) (dw_or (dt_cmp g (od_ne g hu) eqR_bl (de_call g (ok_words_in T) (hr.mono (by decide)) T.m_words_in T.F_words_in.kp T.b_words_in tk (da_cons (de_callT (cd_list g) T.n_list PyProof.Rows.boot_list (da_cons (de_var 5) da_nil)) da_nil)) (de_callT (cd_tuple g) T.n_tuple PyProof.Rows.boot_tuple (da_cons (de_var 4) da_nil))) (dw_or (dt_cmp g (od_ne g hu) eqR_bl (de_call g (ok_block_of T) (hr.mono (by decide)) T.m_block_of T.F_block_of.kp T.b_block_of tk (da_cons (de_lst da_nil) da_nil)) (de_tup (da_cons de_int (da_cons de_int da_nil)))) (dw_or1 (dt_cmp g (od_ne g hu) eqR_bl (de_call g (ok_words_in T) (hr.mono (by decide)) T.m_words_in T.F_words_in.kp T.b_words_in tk (da_cons (de_tup (da_cons de_int (da_cons de_int da_nil))) da_nil)) (de_tup da_nil))))))) (ds_one (ds_ret de_bl)) ds_nil)
    (ds_cons (ds_for g (passes_of rfl) (di_range1 T.n_range (da_cons de_int da_nil)) (dg_name 3 sc.nd (.inr rfl)) (ds_cons (ds_own 6 sc.nd (.inr rfl) (df_list g T.n_list (da_cons (de_var 5) da_nil)))
    (ds_cons (ds_for g (passes_of rfl) (di_range1 T.n_range (da_cons (de_bin (od_add g) de_int (de_callI 1 g (ok_take T) (hr.mono (by decide)) T.m_take T.F_take.kp T.b_take tk (da_cons de_int da_nil))) da_nil)) (dg_name 7 sc.nd (.inr rfl)) (ds_cons (ds_set 8 sc.nd (.inr rfl) (de_callI 1 g (ok_take T) (hr.mono (by decide)) T.m_take T.F_take.kp T.b_take tk (da_cons (de_bin (od_add g) (de_var 2) de_int) da_nil)))
    (ds_one (ds_putI 6 (de_bin od_mod (de_callT (cd_int) T.n_int PyProof.Rows.boot_int (da_cons (de_bin (od_add g) (de_bin (od_add g) (de_oix 6 g (de_var 8)) de_int) (de_bin od_mul (de_callI 1 g (ok_take T) (hr.mono (by decide)) T.m_take T.F_take.kp T.b_take tk (da_cons de_int da_nil)) de_int)) da_nil)) de_int) (de_var 8) (hp := pg_sub (pv 6) (de_var 8) set_list)))))
    (ds_one (ds_share 6 rfl (ds_if (dt_cmp g (od_ne g hu) eqR_bl (de_call g (ok_words_in T) (hr.mono (by decide)) T.m_words_in T.F_words_in.kp T.b_words_in tk (da_cons (de_var 6) da_nil)) (de_if (dt_cmp g (od_eq g hu) eqR_bl (de_callT (cd_tuple g) T.n_tuple PyProof.Rows.boot_tuple (da_cons (de_var 6) da_nil)) (de_var 5)) (de_callT (cd_tuple g) T.n_tuple PyProof.Rows.boot_tuple (da_cons (de_var 4) da_nil)) de_non)) (ds_one (ds_ret de_bl)) ds_nil))))))
    (ds_cons (ds_if (dt_bool (dw_or (dt_bool (dw_and (dt_cmp g od_isnot isOp_bl (de_call g (ok_words_in T) (hr.mono (by decide)) T.m_words_in T.F_words_in.kp T.b_words_in tk (da_cons (de_slice g (de_var 5) do_none (do_some (de_un ud_neg de_int))) da_nil)) de_non) (dw_and1 (dt_cmp g (od_ne g hu) eqR_bl (de_call g (ok_lblock T) (hr.mono (by decide)) T.m_lblock T.F_lblock.kp T.b_lblock tk (da_cons (de_slice g (de_var 5) do_none (do_some (de_un ud_neg de_int))) da_nil)) (de_slice g (de_var 5) do_none (do_some (de_un ud_neg de_int))))))) (dw_or1 (dt_bool (dw_and (dt_cmp g od_isnot isOp_bl (de_call g (ok_words_in T) (hr.mono (by decide)) T.m_words_in T.F_words_in.kp T.b_words_in tk (da_cons (de_bin (od_add g) (de_var 5) (de_tup (da_cons de_int da_nil))) da_nil)) de_non) (dw_and1 (dt_cmp g (od_ne g hu) eqR_bl (de_call g (ok_lblock T) (hr.mono (by decide)) T.m_lblock T.F_lblock.kp T.b_lblock tk (da_cons (de_slice g (de_var 5) do_none (do_some (de_un ud_neg de_int))) da_nil)) (de_bin (od_add g) (de_var 5) (de_tup (da_cons de_int da_nil)))))))))) (ds_one (ds_ret de_bl)) ds_nil)
    (ds_cons (ds_set 9 sc.nd (.inr rfl) (de_sortedSet g T.n_sorted T.n_set (de_lc [("turn", 3)] (fun _ _ => .inr rfl) (by decide) g sc.nd (show BlkOk N_law (defScope s_law) _ [("turn", 3)] from blkOk_by (by decide +kernel)) (di_range1 T.n_range (da_cons (de_callI 1 g (ok_take T) (hr.mono (by decide)) T.m_take T.F_take.kp T.b_take tk (da_cons de_int da_nil)) da_nil)) (fun _ _ _ _ _ => (dg_name 3 sc.nd (.inr rfl))) (fun _ _ _ _ _ => dts_nil) (fun _ _ _ _ _ => (de_callI 1 g (ok_take T) (hr.mono (by decide)) T.m_take T.F_take.kp T.b_take L2.takes0 (da_cons (de_bin (od_add g) (de_var 2) de_int) da_nil))))))
    (ds_cons (ds_set 10 sc.nd (.inr rfl) (de_call g (ok_judge_noticed T) (hr.mono (by decide)) T.m_judge_noticed T.F_judge_noticed.kp T.b_judge_noticed tk (da_cons (de_var 2) (da_cons (de_rev g (de_var 9)) da_nil))))
    (ds_cons (ds_setLc (i := 11) [("place", 13)] (.inr rfl) (fun _ _ => .inr rfl) (by decide) g sc.nd rfl rfl (by rfl) (show BlkOk N_law (defScope s_law) _ [("place", 13)] from blkOk_by (by decide +kernel)) (di_seq g (de_var 9)) (fun _ _ _ _ _ => (dg_name 13 sc.nd (.inr rfl))) (fun _ _ _ _ _ => (dts_one (dt_cmp g od_lt ordI_bl (de_var 13) (de_var 2)))) (fun _ _ _ _ _ => (de_var 13)))
    (ds_cons (ds_if (dt_bool (dw_or (dt_cmp g (od_ne g hu) eqR_bl (de_callT (cd_bool g (hr.mono (by decide)) (truF_all T)) T.n_bool PyProof.Rows.boot_bool (da_cons (de_var 10) da_nil)) (de_or g (de_cmp (od_eq g hu) (de_var 11) (de_lst da_nil)) (de_one (de_cmp od_lt (de_callB (cd_len g) T.n_len PySem.boot_len (da_cons (de_var 9) da_nil)) de_int)))) (dw_or (dt_not (dt_val g (de_meth methL_shows g (meth_shows T) (hr.mono (by decide)) tk (de_var 10) (da_cons (de_var 2) (da_cons (de_var 9) da_nil))))) (dw_or1 (dt_cmp g (od_ne g hu) eqR_bl (de_meth methL_shows g (meth_shows T) (hr.mono (by decide)) tk (de_mk0 g T.mk_Noticed T.m_Noticed) (da_cons (de_var 2) (da_cons (de_callT (cd_tuple g) T.n_tuple PyProof.Rows.boot_tuple (da_cons (de_var 9) da_nil)) da_nil))) (de_callT (cd_bool g (hr.mono (by decide)) (truF_all T)) T.n_bool PyProof.Rows.boot_bool (da_cons (de_var 10) da_nil))))))) (ds_one (ds_ret de_bl)) ds_nil)
    (ds_cons (ds_if (dt_not (dt_valO g (hr.mono (by decide)) (truF_all T) (de_var 10))) (ds_cons (ds_if (dt_bool (dw_or (dt_cmp g od_is isOp_bl (de_call g (ok_words_in T) (hr.mono (by decide)) T.m_words_in T.F_words_in.kp T.b_words_in tk (da_cons (de_fld ["Hidden"] g (fld_one T) (de_var 10)) da_nil)) de_non) (dw_or (dt_cmp g od_is isOp_bl (de_call g (ok_words_in T) (hr.mono (by decide)) T.m_words_in T.F_words_in.kp T.b_words_in tk (da_cons (de_fld ["Hidden"] g (fld_other T) (de_var 10)) da_nil)) de_non) (dw_or (dt_cmp g (od_ne g hu) eqR_bl (de_call g (ok_lblock T) (hr.mono (by decide)) T.m_lblock T.F_lblock.kp T.b_lblock tk (da_cons (de_slice g (de_fld ["Hidden"] g (fld_one T) (de_var 10)) do_none (do_some (de_un ud_neg de_int))) da_nil)) (de_fld ["Hidden"] g (fld_one T) (de_var 10))) (dw_or1 (dt_cmp g (od_ne g hu) eqR_bl (de_call g (ok_lblock T) (hr.mono (by decide)) T.m_lblock T.F_lblock.kp T.b_lblock tk (da_cons (de_slice g (de_fld ["Hidden"] g (fld_other T) (de_var 10)) do_none (do_some (de_un ud_neg de_int))) da_nil)) (de_fld ["Hidden"] g (fld_other T) (de_var 10)))))))) (ds_one (ds_ret de_bl)) ds_nil)
    (ds_cons (ds_if (dt_bool (dw_or (dt_cmp g (od_ne g hu) eqR_bl (de_lc [("at", 8)] (fun _ _ => .inr rfl) (by decide) g sc.nd (show BlkOk N_law (defScope s_law) _ [("at", 8)] from blkOk_by (by decide +kernel)) (di_range1 T.n_range (da_cons (de_bin (od_add g) (de_var 2) de_int) da_nil)) (fun _ _ _ _ _ => (dg_name 8 sc.nd (.inr rfl))) (fun _ _ _ _ _ => (dts_one (dt_cmp g (od_ne g hu) eqR_bl (de_ix g (de_fld ["Hidden"] g (fld_one T) (de_var 10)) (de_var 8)) (de_ix g (de_fld ["Hidden"] g (fld_other T) (de_var 10)) (de_var 8))))) (fun _ _ _ _ _ => (de_var 8))) (de_var 9)) (dw_or1 (dt_cmp g (od_ne g hu) eqR_bl (de_callB (cd_len g) T.n_len PySem.boot_len (da_cons (de_fld ["Hidden"] g (fld_one T) (de_var 10)) da_nil)) (de_bin (od_add g) (de_var 2) de_int))))) (ds_one (ds_ret de_bl)) ds_nil)
    (ds_one (ds_if (dt_bool (dw_or (dt_val g (de_meth methL_shows g (meth_shows T) (hr.mono (by decide)) tk (de_make g T.mk_Hidden (ok_H_init T) (hr.mono (by decide)) T.m_Hidden T.b_H_init tk (da_cons (de_fld ["Hidden"] g (fld_one T) (de_var 10)) (da_cons (de_fld ["Hidden"] g (fld_one T) (de_var 10)) da_nil))) (da_cons (de_var 2) (da_cons (de_var 9) da_nil)))) (dw_or (dt_val g (de_meth methL_shows g (meth_shows T) (hr.mono (by decide)) tk (de_make g T.mk_Hidden (ok_H_init T) (hr.mono (by decide)) T.m_Hidden T.b_H_init tk (da_cons (de_fld ["Hidden"] g (fld_one T) (de_var 10)) (da_cons (de_bin (od_add g) (de_slice g (de_fld ["Hidden"] g (fld_other T) (de_var 10)) do_none (do_some (de_un ud_neg de_int))) (de_tup (da_cons de_non da_nil))) da_nil))) (da_cons (de_var 2) (da_cons (de_var 9) da_nil)))) (dw_or (dt_val g (de_meth methL_shows g (meth_shows T) (hr.mono (by decide)) tk (de_make g T.mk_Hidden (ok_H_init T) (hr.mono (by decide)) T.m_Hidden T.b_H_init tk (da_cons (de_fld ["Hidden"] g (fld_one T) (de_var 10)) (da_cons (de_fld ["Hidden"] g (fld_other T) (de_var 10)) da_nil))) (da_cons (de_var 2) (da_cons (de_slice g (de_var 9) (do_some de_int) do_none) da_nil)))) (dw_or1 (dt_cmp g (od_eqO g hu (hr.mono (by decide)) (eqF_all T)) eqO_bl (de_make g T.mk_Hidden (ok_H_init T) (hr.mono (by decide)) T.m_Hidden T.b_H_init tk (da_cons (de_fld ["Hidden"] g (fld_other T) (de_var 10)) (da_cons (de_fld ["Hidden"] g (fld_one T) (de_var 10)) da_nil))) (de_var 10))))))) (ds_one (ds_ret de_bl)) ds_nil)))) ds_nil)
    (ds_cons (ds_set 12 sc.nd (.inr rfl) (de_lst (da_cons (de_lam 0 g L rfl (hfree := by decide)) (da_cons (de_lam 1 g L rfl (hfree := by decide)) (da_cons (de_lam 2 g L rfl (hfree := by decide)) (da_cons (de_lam 3 g L rfl (hfree := by decide)) (da_cons (de_lam 4 g L rfl (hfree := by decide)) (da_cons (de_lam 5 g L rfl (hfree := by decide)) (da_cons (de_lam 6 g L rfl (hfree := by decide)) (da_cons (de_lam 7 g L rfl (hfree := by decide)) da_nil))))))))))
    (ds_cons (ds_set 12 sc.nd (.inr rfl) (de_bin (od_add g) (de_var 12) (de_lst (da_cons (de_lam 8 g L rfl (hfree := by decide)) (da_cons (de_lam 9 g L rfl (hfree := by decide)) (da_cons (de_lam 10 g L rfl (hfree := by decide)) (da_cons (de_lam 11 g L rfl (hfree := by decide)) (da_cons (de_lam 12 g L rfl (hfree := by decide)) da_nil))))))))
    (ds_cons (ds_if (dt_bool (dw_or (dt_not (dt_val g (de_callB (cd_all g) T.n_all PyProof.Rows.boot_all (da_cons (de_lc [("deed", 14)] (fun _ _ => .inr rfl) (by decide) g sc.nd (show BlkOk N_law (defScope s_law) _ [("deed", 14)] from blkOk_by (by decide +kernel)) (di_seq g (de_var 12)) (fun _ _ _ _ _ => (dg_name 14 sc.nd (.inr rfl))) (fun _ _ _ _ _ => dts_nil) (fun _ _ _ _ _ => (de_call g (ok_refused T) (hr.mono (by decide)) T.m_refused T.F_refused.kp T.b_refused L2.takes0 (da_cons (de_var 14) da_nil)))) da_nil)))) (dw_or1 (dt_val g (de_call g (ok_refused T) (hr.mono (by decide)) T.m_refused T.F_refused.kp T.b_refused tk (da_cons (de_lam 13 g L rfl (hfree := by decide)) da_nil)))))) (ds_one (ds_ret de_bl)) ds_nil)
    (ds_one (ds_ret (de_and g (de_cmp (od_eq g hu) (de_lc [("late", 6)] (fun _ _ => .inr rfl) (by decide) g sc.nd (show BlkOk N_law (defScope s_law) _ [("late", 6)] from blkOk_by (by decide +kernel)) (di_seq g (de_tup (da_cons de_non (da_cons de_int (da_cons (de_tup da_nil) (da_cons (de_tup (da_cons de_int da_nil)) (da_cons (de_tup (da_cons de_bl (da_cons de_int (da_cons de_int da_nil)))) (da_cons (de_tup (da_cons de_str (da_cons de_int (da_cons de_int da_nil)))) (da_cons (de_tup (da_cons (de_un ud_neg de_int) (da_cons de_int (da_cons de_int da_nil)))) (da_cons (de_bin od_mul (de_lst (da_cons de_int da_nil)) de_int) da_nil)))))))))) (fun _ _ _ _ _ => (dg_name 6 sc.nd (.inr rfl))) (fun _ _ _ _ _ => dts_nil) (fun _ _ _ _ _ => (de_call g (ok_words_in T) (hr.mono (by decide)) T.m_words_in T.F_words_in.kp T.b_words_in L2.takes0 (da_cons (de_var 6) da_nil)))) (de_bin od_mul (de_lst (da_cons de_non da_nil)) de_int)) (de_and g (de_cmp (od_eqO g hu (hr.mono (by decide)) (eqF_all T)) (de_mk0 g T.mk_Noticed T.m_Noticed) (de_mk0 g T.mk_Noticed T.m_Noticed)) (de_one (de_cmp (od_neO g hu (hr.mono (by decide)) (eqF_all T)) (de_mk0 g T.mk_Noticed T.m_Noticed) (de_make g T.mk_Hidden (ok_H_init T) (hr.mono (by decide)) T.m_Hidden T.b_H_init tk (da_cons (de_tup da_nil) (da_cons (de_tup da_nil) da_nil))))))))))))))))))))))))
end
end DL

namespace DL
open PySem L2 LamX
theorem all_mk {l : PySem.W.OpenLaw} {w : World} {K : PySem.W.Frag} {h : Heap} {mg : Str → Option Value} {fa cc Pt : Addr} (hlaw : ∀ ns : List Int, ns.length ≤ 63 → ∃ ρ, m_law (env0 N_law.length [.sh (.fls (ns.map .int))]) = .rt (.bl true) ρ)
    (X : K.In h) (G : h.Ns mainGlobals mg) (hfa : mg "law" = some (.ref fa)) (tP : h.get? Pt = some { cls := .none, data := .fields #[] })
    {C_Noticed : Addr}
    {C_Hidden : Addr}
    {C_BadBlock : Addr}
    {f_is_integer : Addr} {od_is_integer an_is_integer : Option Addr} {sl_is_integer : Array (Option Value)} {oc_is_integer kV_is_integer dc_is_integer pm_is_integer cd_is_integer ct_is_integer : Value}
    {f_is_row : Addr} {od_is_row an_is_row : Option Addr} {sl_is_row : Array (Option Value)} {oc_is_row kV_is_row dc_is_row pm_is_row cd_is_row ct_is_row : Value}
    {f_check_words : Addr} {od_check_words an_check_words : Option Addr} {sl_check_words : Array (Option Value)} {oc_check_words kV_check_words dc_check_words pm_check_words cd_check_words ct_check_words : Value}
    {f_sums_of : Addr} {od_sums_of an_sums_of : Option Addr} {sl_sums_of : Array (Option Value)} {oc_sums_of kV_sums_of dc_sums_of pm_sums_of cd_sums_of ct_sums_of : Value}
    {f_block_of : Addr} {od_block_of an_block_of : Option Addr} {sl_block_of : Array (Option Value)} {oc_block_of kV_block_of dc_block_of pm_block_of cd_block_of ct_block_of : Value}
    {f_words_in : Addr} {od_words_in an_words_in : Option Addr} {sl_words_in : Array (Option Value)} {oc_words_in kV_words_in dc_words_in pm_words_in cd_words_in ct_words_in : Value}
    {f_check_places : Addr} {od_check_places an_check_places : Option Addr} {sl_check_places : Array (Option Value)} {oc_check_places kV_check_places dc_check_places pm_check_places cd_check_places ct_check_places : Value}
    {f_inverse : Addr} {od_inverse an_inverse : Option Addr} {sl_inverse : Array (Option Value)} {oc_inverse kV_inverse dc_inverse pm_inverse cd_inverse ct_inverse : Value}
    {f_is_just : Addr} {od_is_just an_is_just : Option Addr} {sl_is_just : Array (Option Value)} {oc_is_just kV_is_just dc_is_just pm_is_just cd_is_just ct_is_just : Value}
    {f_closed_row : Addr} {od_closed_row an_closed_row : Option Addr} {sl_closed_row : Array (Option Value)} {oc_closed_row kV_closed_row dc_closed_row pm_closed_row cd_closed_row ct_closed_row : Value}
    {f_rows_of_changes : Addr} {od_rows_of_changes an_rows_of_changes : Option Addr} {sl_rows_of_changes : Array (Option Value)} {oc_rows_of_changes kV_rows_of_changes dc_rows_of_changes pm_rows_of_changes cd_rows_of_changes ct_rows_of_changes : Value}
    {f_changes_of : Addr} {od_changes_of an_changes_of : Option Addr} {sl_changes_of : Array (Option Value)} {oc_changes_of kV_changes_of dc_changes_of pm_changes_of cd_changes_of ct_changes_of : Value}
    {f_H_init : Addr} {od_H_init an_H_init : Option Addr} {sl_H_init : Array (Option Value)} {oc_H_init kV_H_init dc_H_init pm_H_init cd_H_init ct_H_init : Value}
    {f_judge_noticed : Addr} {od_judge_noticed an_judge_noticed : Option Addr} {sl_judge_noticed : Array (Option Value)} {oc_judge_noticed kV_judge_noticed dc_judge_noticed pm_judge_noticed cd_judge_noticed ct_judge_noticed : Value}
    {f_N_bool : Addr} {od_N_bool an_N_bool : Option Addr} {sl_N_bool : Array (Option Value)} {oc_N_bool kV_N_bool dc_N_bool pm_N_bool cd_N_bool ct_N_bool : Value}
    {f_N_eq : Addr} {od_N_eq an_N_eq : Option Addr} {sl_N_eq : Array (Option Value)} {oc_N_eq kV_N_eq dc_N_eq pm_N_eq cd_N_eq ct_N_eq : Value}
    {f_H_bool : Addr} {od_H_bool an_H_bool : Option Addr} {sl_H_bool : Array (Option Value)} {oc_H_bool kV_H_bool dc_H_bool pm_H_bool cd_H_bool ct_H_bool : Value}
    {f_H_eq : Addr} {od_H_eq an_H_eq : Option Addr} {sl_H_eq : Array (Option Value)} {oc_H_eq kV_H_eq dc_H_eq pm_H_eq cd_H_eq ct_H_eq : Value}
    {f_N_shows : Addr} {od_N_shows an_N_shows : Option Addr} {sl_N_shows : Array (Option Value)} {oc_N_shows kV_N_shows dc_N_shows pm_N_shows cd_N_shows ct_N_shows : Value}
    {f_H_shows : Addr} {od_H_shows an_H_shows : Option Addr} {sl_H_shows : Array (Option Value)} {oc_H_shows kV_H_shows dc_H_shows pm_H_shows cd_H_shows ct_H_shows : Value}
    {f_number : Addr} {od_number an_number : Option Addr} {sl_number : Array (Option Value)} {oc_number kV_number dc_number pm_number cd_number ct_number : Value}
    {f_take : Addr} {od_take an_take : Option Addr} {sl_take : Array (Option Value)} {oc_take kV_take dc_take pm_take cd_take ct_take : Value}
    {f_lblock : Addr} {od_lblock an_lblock : Option Addr} {sl_lblock : Array (Option Value)} {oc_lblock kV_lblock dc_lblock pm_lblock cd_lblock ct_lblock : Value}
    {f_refused : Addr} {od_refused an_refused : Option Addr} {sl_refused : Array (Option Value)} {oc_refused kV_refused dc_refused pm_refused cd_refused ct_refused : Value}
    {f_law : Addr} {od_law an_law : Option Addr} {sl_law : Array (Option Value)} {oc_law kV_law dc_law pm_law ct_law : Value}
    {t_MOST_WORDS : Tok}
    {t_PRIME : Tok}
    (g_Noticed : PySem.W.nsIn K mainGlobals "Noticed" = some (some (.ref C_Noticed)))
    (g_Hidden : PySem.W.nsIn K mainGlobals "Hidden" = some (some (.ref C_Hidden)))
    (g_BadBlock : PySem.W.nsIn K mainGlobals "BadBlock" = some (some (.ref C_BadBlock)))
    (at_is_integer : PySem.W.nsIn K mainGlobals "is_integer" = some (some (.ref f_is_integer)))
    (l_is_integer : K.lookup f_is_integer = some ⟨oc_is_integer, od_is_integer, .func (PySem.W.fnOf "is_integer" "is_integer" (defArgs s_is_integer) (defBody s_is_integer) (defScope s_is_integer) .none kV_is_integer dc_is_integer pm_is_integer an_is_integer cd_is_integer ct_is_integer), sl_is_integer⟩)
    (co_is_integer : PySem.W.codeIn K cd_is_integer "is_integer" = true)
    (k_is_integer : PySem.W.keepIn K (.ref f_is_integer) = true)
    (at_is_row : PySem.W.nsIn K mainGlobals "is_row" = some (some (.ref f_is_row)))
    (l_is_row : K.lookup f_is_row = some ⟨oc_is_row, od_is_row, .func (PySem.W.fnOf "is_row" "is_row" (defArgs s_is_row) (defBody s_is_row) (defScope s_is_row) .none kV_is_row dc_is_row pm_is_row an_is_row cd_is_row ct_is_row), sl_is_row⟩)
    (co_is_row : PySem.W.codeIn K cd_is_row "is_row" = true)
    (k_is_row : PySem.W.keepIn K (.ref f_is_row) = true)
    (at_check_words : PySem.W.nsIn K mainGlobals "check_words" = some (some (.ref f_check_words)))
    (l_check_words : K.lookup f_check_words = some ⟨oc_check_words, od_check_words, .func (PySem.W.fnOf "check_words" "check_words" (defArgs s_check_words) (defBody s_check_words) (defScope s_check_words) .none kV_check_words dc_check_words pm_check_words an_check_words cd_check_words ct_check_words), sl_check_words⟩)
    (co_check_words : PySem.W.codeIn K cd_check_words "check_words" = true)
    (k_check_words : PySem.W.keepIn K (.ref f_check_words) = true)
    (at_sums_of : PySem.W.nsIn K mainGlobals "sums_of" = some (some (.ref f_sums_of)))
    (l_sums_of : K.lookup f_sums_of = some ⟨oc_sums_of, od_sums_of, .func (PySem.W.fnOf "sums_of" "sums_of" (defArgs s_sums_of) (defBody s_sums_of) (defScope s_sums_of) .none kV_sums_of dc_sums_of pm_sums_of an_sums_of cd_sums_of ct_sums_of), sl_sums_of⟩)
    (co_sums_of : PySem.W.codeIn K cd_sums_of "sums_of" = true)
    (k_sums_of : PySem.W.keepIn K (.ref f_sums_of) = true)
    (at_block_of : PySem.W.nsIn K mainGlobals "block_of" = some (some (.ref f_block_of)))
    (l_block_of : K.lookup f_block_of = some ⟨oc_block_of, od_block_of, .func (PySem.W.fnOf "block_of" "block_of" (defArgs s_block_of) (defBody s_block_of) (defScope s_block_of) .none kV_block_of dc_block_of pm_block_of an_block_of cd_block_of ct_block_of), sl_block_of⟩)
    (co_block_of : PySem.W.codeIn K cd_block_of "block_of" = true)
    (k_block_of : PySem.W.keepIn K (.ref f_block_of) = true)
    (at_words_in : PySem.W.nsIn K mainGlobals "words_in" = some (some (.ref f_words_in)))
    (l_words_in : K.lookup f_words_in = some ⟨oc_words_in, od_words_in, .func (PySem.W.fnOf "words_in" "words_in" (defArgs s_words_in) (defBody s_words_in) (defScope s_words_in) .none kV_words_in dc_words_in pm_words_in an_words_in cd_words_in ct_words_in), sl_words_in⟩)
    (co_words_in : PySem.W.codeIn K cd_words_in "words_in" = true)
    (k_words_in : PySem.W.keepIn K (.ref f_words_in) = true)
    (at_check_places : PySem.W.nsIn K mainGlobals "check_places" = some (some (.ref f_check_places)))
    (l_check_places : K.lookup f_check_places = some ⟨oc_check_places, od_check_places, .func (PySem.W.fnOf "check_places" "check_places" (defArgs s_check_places) (defBody s_check_places) (defScope s_check_places) .none kV_check_places dc_check_places pm_check_places an_check_places cd_check_places ct_check_places), sl_check_places⟩)
    (co_check_places : PySem.W.codeIn K cd_check_places "check_places" = true)
    (k_check_places : PySem.W.keepIn K (.ref f_check_places) = true)
    (at_inverse : PySem.W.nsIn K mainGlobals "inverse" = some (some (.ref f_inverse)))
    (l_inverse : K.lookup f_inverse = some ⟨oc_inverse, od_inverse, .func (PySem.W.fnOf "inverse" "inverse" (defArgs s_inverse) (defBody s_inverse) (defScope s_inverse) .none kV_inverse dc_inverse pm_inverse an_inverse cd_inverse ct_inverse), sl_inverse⟩)
    (co_inverse : PySem.W.codeIn K cd_inverse "inverse" = true)
    (k_inverse : PySem.W.keepIn K (.ref f_inverse) = true)
    (at_is_just : PySem.W.nsIn K mainGlobals "is_just" = some (some (.ref f_is_just)))
    (l_is_just : K.lookup f_is_just = some ⟨oc_is_just, od_is_just, .func (PySem.W.fnOf "is_just" "is_just" (defArgs s_is_just) (defBody s_is_just) (defScope s_is_just) .none kV_is_just dc_is_just pm_is_just an_is_just cd_is_just ct_is_just), sl_is_just⟩)
    (co_is_just : PySem.W.codeIn K cd_is_just "is_just" = true)
    (k_is_just : PySem.W.keepIn K (.ref f_is_just) = true)
    (at_closed_row : PySem.W.nsIn K mainGlobals "closed_row" = some (some (.ref f_closed_row)))
    (l_closed_row : K.lookup f_closed_row = some ⟨oc_closed_row, od_closed_row, .func (PySem.W.fnOf "closed_row" "closed_row" (defArgs s_closed_row) (defBody s_closed_row) (defScope s_closed_row) .none kV_closed_row dc_closed_row pm_closed_row an_closed_row cd_closed_row ct_closed_row), sl_closed_row⟩)
    (co_closed_row : PySem.W.codeIn K cd_closed_row "closed_row" = true)
    (k_closed_row : PySem.W.keepIn K (.ref f_closed_row) = true)
    (at_rows_of_changes : PySem.W.nsIn K mainGlobals "rows_of_changes" = some (some (.ref f_rows_of_changes)))
    (l_rows_of_changes : K.lookup f_rows_of_changes = some ⟨oc_rows_of_changes, od_rows_of_changes, .func (PySem.W.fnOf "rows_of_changes" "rows_of_changes" (defArgs s_rows_of_changes) (defBody s_rows_of_changes) (defScope s_rows_of_changes) .none kV_rows_of_changes dc_rows_of_changes pm_rows_of_changes an_rows_of_changes cd_rows_of_changes ct_rows_of_changes), sl_rows_of_changes⟩)
    (co_rows_of_changes : PySem.W.codeIn K cd_rows_of_changes "rows_of_changes" = true)
    (k_rows_of_changes : PySem.W.keepIn K (.ref f_rows_of_changes) = true)
    (at_changes_of : PySem.W.nsIn K mainGlobals "changes_of" = some (some (.ref f_changes_of)))
    (l_changes_of : K.lookup f_changes_of = some ⟨oc_changes_of, od_changes_of, .func (PySem.W.fnOf "changes_of" "changes_of" (defArgs s_changes_of) (defBody s_changes_of) (defScope s_changes_of) .none kV_changes_of dc_changes_of pm_changes_of an_changes_of cd_changes_of ct_changes_of), sl_changes_of⟩)
    (co_changes_of : PySem.W.codeIn K cd_changes_of "changes_of" = true)
    (k_changes_of : PySem.W.keepIn K (.ref f_changes_of) = true)
    (at_H_init : PySem.W.findIn K (.ref C_Hidden) "__init__" = some (some (.ref f_H_init)))
    (fn_H_init : PySem.W.isFn K (.ref f_H_init) = true)
    (l_H_init : K.lookup f_H_init = some ⟨oc_H_init, od_H_init, .func (PySem.W.fnOf "__init__" "Hidden.__init__" (defArgs s_H_init) (defBody s_H_init) (defScope s_H_init) .none kV_H_init dc_H_init pm_H_init an_H_init cd_H_init ct_H_init), sl_H_init⟩)
    (co_H_init : PySem.W.codeIn K cd_H_init "Hidden.__init__" = true)
    (k_H_init : PySem.W.keepIn K (.ref f_H_init) = true)
    (at_judge_noticed : PySem.W.nsIn K mainGlobals "judge_noticed" = some (some (.ref f_judge_noticed)))
    (l_judge_noticed : K.lookup f_judge_noticed = some ⟨oc_judge_noticed, od_judge_noticed, .func (PySem.W.fnOf "judge_noticed" "judge_noticed" (defArgs s_judge_noticed) (defBody s_judge_noticed) (defScope s_judge_noticed) .none kV_judge_noticed dc_judge_noticed pm_judge_noticed an_judge_noticed cd_judge_noticed ct_judge_noticed), sl_judge_noticed⟩)
    (co_judge_noticed : PySem.W.codeIn K cd_judge_noticed "judge_noticed" = true)
    (k_judge_noticed : PySem.W.keepIn K (.ref f_judge_noticed) = true)
    (at_N_bool : PySem.W.findIn K (.ref C_Noticed) "__bool__" = some (some (.ref f_N_bool)))
    (fn_N_bool : PySem.W.isFn K (.ref f_N_bool) = true)
    (l_N_bool : K.lookup f_N_bool = some ⟨oc_N_bool, od_N_bool, .func (PySem.W.fnOf "__bool__" "Noticed.__bool__" (defArgs s_N_bool) (defBody s_N_bool) (defScope s_N_bool) .none kV_N_bool dc_N_bool pm_N_bool an_N_bool cd_N_bool ct_N_bool), sl_N_bool⟩)
    (co_N_bool : PySem.W.codeIn K cd_N_bool "Noticed.__bool__" = true)
    (k_N_bool : PySem.W.keepIn K (.ref f_N_bool) = true)
    (at_N_eq : PySem.W.findIn K (.ref C_Noticed) "__eq__" = some (some (.ref f_N_eq)))
    (fn_N_eq : PySem.W.isFn K (.ref f_N_eq) = true)
    (l_N_eq : K.lookup f_N_eq = some ⟨oc_N_eq, od_N_eq, .func (PySem.W.fnOf "__eq__" "Noticed.__eq__" (defArgs s_N_eq) (defBody s_N_eq) (defScope s_N_eq) .none kV_N_eq dc_N_eq pm_N_eq an_N_eq cd_N_eq ct_N_eq), sl_N_eq⟩)
    (co_N_eq : PySem.W.codeIn K cd_N_eq "Noticed.__eq__" = true)
    (k_N_eq : PySem.W.keepIn K (.ref f_N_eq) = true)
    (at_H_bool : PySem.W.findIn K (.ref C_Hidden) "__bool__" = some (some (.ref f_H_bool)))
    (fn_H_bool : PySem.W.isFn K (.ref f_H_bool) = true)
    (l_H_bool : K.lookup f_H_bool = some ⟨oc_H_bool, od_H_bool, .func (PySem.W.fnOf "__bool__" "Hidden.__bool__" (defArgs s_H_bool) (defBody s_H_bool) (defScope s_H_bool) .none kV_H_bool dc_H_bool pm_H_bool an_H_bool cd_H_bool ct_H_bool), sl_H_bool⟩)
    (co_H_bool : PySem.W.codeIn K cd_H_bool "Hidden.__bool__" = true)
    (k_H_bool : PySem.W.keepIn K (.ref f_H_bool) = true)
    (at_H_eq : PySem.W.findIn K (.ref C_Hidden) "__eq__" = some (some (.ref f_H_eq)))
    (fn_H_eq : PySem.W.isFn K (.ref f_H_eq) = true)
    (l_H_eq : K.lookup f_H_eq = some ⟨oc_H_eq, od_H_eq, .func (PySem.W.fnOf "__eq__" "Hidden.__eq__" (defArgs s_H_eq) (defBody s_H_eq) (defScope s_H_eq) .none kV_H_eq dc_H_eq pm_H_eq an_H_eq cd_H_eq ct_H_eq), sl_H_eq⟩)
    (co_H_eq : PySem.W.codeIn K cd_H_eq "Hidden.__eq__" = true)
    (k_H_eq : PySem.W.keepIn K (.ref f_H_eq) = true)
    (at_N_shows : PySem.W.findIn K (.ref C_Noticed) "shows" = some (some (.ref f_N_shows)))
    (fn_N_shows : PySem.W.isFn K (.ref f_N_shows) = true)
    (l_N_shows : K.lookup f_N_shows = some ⟨oc_N_shows, od_N_shows, .func (PySem.W.fnOf "shows" "Noticed.shows" (defArgs s_N_shows) (defBody s_N_shows) (defScope s_N_shows) .none kV_N_shows dc_N_shows pm_N_shows an_N_shows cd_N_shows ct_N_shows), sl_N_shows⟩)
    (co_N_shows : PySem.W.codeIn K cd_N_shows "Noticed.shows" = true)
    (k_N_shows : PySem.W.keepIn K (.ref f_N_shows) = true)
    (at_H_shows : PySem.W.findIn K (.ref C_Hidden) "shows" = some (some (.ref f_H_shows)))
    (fn_H_shows : PySem.W.isFn K (.ref f_H_shows) = true)
    (l_H_shows : K.lookup f_H_shows = some ⟨oc_H_shows, od_H_shows, .func (PySem.W.fnOf "shows" "Hidden.shows" (defArgs s_H_shows) (defBody s_H_shows) (defScope s_H_shows) .none kV_H_shows dc_H_shows pm_H_shows an_H_shows cd_H_shows ct_H_shows), sl_H_shows⟩)
    (co_H_shows : PySem.W.codeIn K cd_H_shows "Hidden.shows" = true)
    (k_H_shows : PySem.W.keepIn K (.ref f_H_shows) = true)
    (at_number : PySem.W.nsIn K mainGlobals "_law_number" = some (some (.ref f_number)))
    (l_number : K.lookup f_number = some ⟨oc_number, od_number, .func (PySem.W.fnOf "_law_number" "_law_number" (defArgs s_number) (defBody s_number) (defScope s_number) .none kV_number dc_number pm_number an_number cd_number ct_number), sl_number⟩)
    (co_number : PySem.W.codeIn K cd_number "_law_number" = true)
    (k_number : PySem.W.keepIn K (.ref f_number) = true)
    (at_take : PySem.W.nsIn K mainGlobals "_law_take" = some (some (.ref f_take)))
    (l_take : K.lookup f_take = some ⟨oc_take, od_take, .func (PySem.W.fnOf "_law_take" "_law_take" (defArgs s_take) (defBody s_take) (defScope s_take) .none kV_take dc_take pm_take an_take cd_take ct_take), sl_take⟩)
    (co_take : PySem.W.codeIn K cd_take "_law_take" = true)
    (k_take : PySem.W.keepIn K (.ref f_take) = true)
    (at_lblock : PySem.W.nsIn K mainGlobals "_law_block" = some (some (.ref f_lblock)))
    (l_lblock : K.lookup f_lblock = some ⟨oc_lblock, od_lblock, .func (PySem.W.fnOf "_law_block" "_law_block" (defArgs s_lblock) (defBody s_lblock) (defScope s_lblock) .none kV_lblock dc_lblock pm_lblock an_lblock cd_lblock ct_lblock), sl_lblock⟩)
    (co_lblock : PySem.W.codeIn K cd_lblock "_law_block" = true)
    (k_lblock : PySem.W.keepIn K (.ref f_lblock) = true)
    (at_refused : PySem.W.nsIn K mainGlobals "_law_refused" = some (some (.ref f_refused)))
    (l_refused : K.lookup f_refused = some ⟨oc_refused, od_refused, .func (PySem.W.fnOf "_law_refused" "_law_refused" (defArgs s_refused) (defBody s_refused) (defScope s_refused) .none kV_refused dc_refused pm_refused an_refused cd_refused ct_refused), sl_refused⟩)
    (co_refused : PySem.W.codeIn K cd_refused "_law_refused" = true)
    (k_refused : PySem.W.keepIn K (.ref f_refused) = true)
    (at_law : PySem.W.nsIn K mainGlobals "law" = some (some (.ref f_law)))
    (l_law : K.lookup f_law = some ⟨oc_law, od_law, .func (PySem.W.fnOf "law" "law" (defArgs s_law) (defBody s_law) (defScope s_law) .none kV_law dc_law pm_law an_law (.ref cc) ct_law), sl_law⟩)
    (co_law : PySem.W.codeIn K (.ref cc) "law" = true)
    (k_law : PySem.W.keepIn K (.ref f_law) = true)
    (z_all : PySem.W.nsIn K mainGlobals "all" = some none)
    (z_bool : PySem.W.nsIn K mainGlobals "bool" = some none)
    (z_enumerate : PySem.W.nsIn K mainGlobals "enumerate" = some none)
    (z_int : PySem.W.nsIn K mainGlobals "int" = some none)
    (z_isinstance : PySem.W.nsIn K mainGlobals "isinstance" = some none)
    (z_len : PySem.W.nsIn K mainGlobals "len" = some none)
    (z_list : PySem.W.nsIn K mainGlobals "list" = some none)
    (z_range : PySem.W.nsIn K mainGlobals "range" = some none)
    (z_set : PySem.W.nsIn K mainGlobals "set" = some none)
    (z_sorted : PySem.W.nsIn K mainGlobals "sorted" = some none)
    (z_sum : PySem.W.nsIn K mainGlobals "sum" = some none)
    (z_tuple : PySem.W.nsIn K mainGlobals "tuple" = some none)
    (z_zip : PySem.W.nsIn K mainGlobals "zip" = some none)
    (y_MOST_WORDS : PySem.W.nsIn K mainGlobals "MOST_WORDS" = some (some (.int 40 t_MOST_WORDS)))
    (y_PRIME : PySem.W.nsIn K mainGlobals "PRIME" = some (some (.int 9973 t_PRIME)))
    (mk_Noticed : PySem.W.makesIn K C_Noticed = true)
    (kc_Noticed : PySem.W.keepIn K (.ref C_Noticed) = true)
    (in_Noticed : PySem.W.findIn K (.ref C_Noticed) "__init__" = some (some (.builtin "object.__init__")))
    (pg_Noticed : PySem.W.plainGet K C_Noticed Str.empty = true)
    (hd_Noticed : PySem.W.hasDictIn K C_Noticed = true)
    (po_Noticed : PySem.W.plainOver K C_Noticed = true)
    (sa_Noticed : PySem.W.findIn K (.ref C_Noticed) "__setattr__" = some (some (.builtin "object.__setattr__")))
    (ca_Noticed : PySem.W.findIn K (.ref C_Noticed) "__class__" = some (some (.builtin "object.__class__")))
    (cs_Noticed : PySem.W.specialIn K (.builtin "object.__class__") "__get__" = some (some (.builtin "getset_descriptor.__get__")))
    (ct_Noticed : PySem.W.takesIn K (.builtin "object.__class__") = some true)
    (cm_Noticed : PySem.W.mroIn K C_Noticed (.type "object") = some true)
    (mk_Hidden : PySem.W.makesIn K C_Hidden = true)
    (kc_Hidden : PySem.W.keepIn K (.ref C_Hidden) = true)
    (pg_Hidden : PySem.W.plainGet K C_Hidden Str.empty = true)
    (hd_Hidden : PySem.W.hasDictIn K C_Hidden = true)
    (po_Hidden : PySem.W.plainOver K C_Hidden = true)
    (sa_Hidden : PySem.W.findIn K (.ref C_Hidden) "__setattr__" = some (some (.builtin "object.__setattr__")))
    (ca_Hidden : PySem.W.findIn K (.ref C_Hidden) "__class__" = some (some (.builtin "object.__class__")))
    (cs_Hidden : PySem.W.specialIn K (.builtin "object.__class__") "__get__" = some (some (.builtin "getset_descriptor.__get__")))
    (ct_Hidden : PySem.W.takesIn K (.builtin "object.__class__") = some true)
    (cm_Hidden : PySem.W.mroIn K C_Hidden (.type "object") = some true)
    (xx_BadBlock : PySem.W.excIn K C_BadBlock [.type "ValueError", .type "Exception", .type "BaseException", .type "object"] "ValueError.__new__" = true)
    (xk_BadBlock : PySem.W.keepIn K (.ref C_BadBlock) = true)
    (xs_BadBlock : PySem.W.subIn K (.ref C_BadBlock) (.type "BaseException") = some true)
    (xt_BadBlock : PySem.W.typeIn K (.ref C_BadBlock) = some (.type "type"))
    (w_exm : PySem.W.exmOne K (.ref C_BadBlock) (.ref C_BadBlock) = some true)
    (w_kHN : PySem.W.kitOne K (.ref C_Hidden) (.ref C_Noticed) = some false)
    (w_kNH : PySem.W.kitOne K (.ref C_Noticed) (.ref C_Hidden) = some false)
    (w_na_one : PySem.W.findIn K (.ref C_Hidden) "one" = some none)
    (w_na_other : PySem.W.findIn K (.ref C_Hidden) "other" = some none)
    (w_ne_N : PySem.W.findIn K (.ref C_Noticed) "__ne__" = some (some (.builtin "object.__ne__")))
    (w_nf_NN : PySem.W.notFirst K C_Noticed (.ref C_Noticed) = true)
    (w_nf_NH : PySem.W.notFirst K C_Noticed (.ref C_Hidden) = true)
    (w_ne_H : PySem.W.findIn K (.ref C_Hidden) "__ne__" = some (some (.builtin "object.__ne__")))
    (w_nf_HN : PySem.W.notFirst K C_Hidden (.ref C_Noticed) = true)
    (w_nf_HH : PySem.W.notFirst K C_Hidden (.ref C_Hidden) = true)
    (tH : PySem.W.codeHdIn K cc Pt = true) (tK : K.lookup Pt = none) : LamX.LawAtS l w K (L2.CX l.prog w) 14 63 "script" mg fa h := by
  have e := hfa.symm.trans (PySem.W.mg_of X G at_law)
  cases e
  have T : Txt K mg ⟨f_is_integer, (PySem.W.fnOf "is_integer" "is_integer" (defArgs s_is_integer) (defBody s_is_integer) (defScope s_is_integer) .none kV_is_integer dc_is_integer pm_is_integer an_is_integer cd_is_integer ct_is_integer), f_is_row, (PySem.W.fnOf "is_row" "is_row" (defArgs s_is_row) (defBody s_is_row) (defScope s_is_row) .none kV_is_row dc_is_row pm_is_row an_is_row cd_is_row ct_is_row), f_check_words, (PySem.W.fnOf "check_words" "check_words" (defArgs s_check_words) (defBody s_check_words) (defScope s_check_words) .none kV_check_words dc_check_words pm_check_words an_check_words cd_check_words ct_check_words), f_sums_of, (PySem.W.fnOf "sums_of" "sums_of" (defArgs s_sums_of) (defBody s_sums_of) (defScope s_sums_of) .none kV_sums_of dc_sums_of pm_sums_of an_sums_of cd_sums_of ct_sums_of), f_block_of, (PySem.W.fnOf "block_of" "block_of" (defArgs s_block_of) (defBody s_block_of) (defScope s_block_of) .none kV_block_of dc_block_of pm_block_of an_block_of cd_block_of ct_block_of), f_words_in, (PySem.W.fnOf "words_in" "words_in" (defArgs s_words_in) (defBody s_words_in) (defScope s_words_in) .none kV_words_in dc_words_in pm_words_in an_words_in cd_words_in ct_words_in), f_check_places, (PySem.W.fnOf "check_places" "check_places" (defArgs s_check_places) (defBody s_check_places) (defScope s_check_places) .none kV_check_places dc_check_places pm_check_places an_check_places cd_check_places ct_check_places), f_inverse, (PySem.W.fnOf "inverse" "inverse" (defArgs s_inverse) (defBody s_inverse) (defScope s_inverse) .none kV_inverse dc_inverse pm_inverse an_inverse cd_inverse ct_inverse), f_is_just, (PySem.W.fnOf "is_just" "is_just" (defArgs s_is_just) (defBody s_is_just) (defScope s_is_just) .none kV_is_just dc_is_just pm_is_just an_is_just cd_is_just ct_is_just), f_closed_row, (PySem.W.fnOf "closed_row" "closed_row" (defArgs s_closed_row) (defBody s_closed_row) (defScope s_closed_row) .none kV_closed_row dc_closed_row pm_closed_row an_closed_row cd_closed_row ct_closed_row), f_rows_of_changes, (PySem.W.fnOf "rows_of_changes" "rows_of_changes" (defArgs s_rows_of_changes) (defBody s_rows_of_changes) (defScope s_rows_of_changes) .none kV_rows_of_changes dc_rows_of_changes pm_rows_of_changes an_rows_of_changes cd_rows_of_changes ct_rows_of_changes), f_changes_of, (PySem.W.fnOf "changes_of" "changes_of" (defArgs s_changes_of) (defBody s_changes_of) (defScope s_changes_of) .none kV_changes_of dc_changes_of pm_changes_of an_changes_of cd_changes_of ct_changes_of), f_H_init, (PySem.W.fnOf "__init__" "Hidden.__init__" (defArgs s_H_init) (defBody s_H_init) (defScope s_H_init) .none kV_H_init dc_H_init pm_H_init an_H_init cd_H_init ct_H_init), f_judge_noticed, (PySem.W.fnOf "judge_noticed" "judge_noticed" (defArgs s_judge_noticed) (defBody s_judge_noticed) (defScope s_judge_noticed) .none kV_judge_noticed dc_judge_noticed pm_judge_noticed an_judge_noticed cd_judge_noticed ct_judge_noticed), f_N_bool, (PySem.W.fnOf "__bool__" "Noticed.__bool__" (defArgs s_N_bool) (defBody s_N_bool) (defScope s_N_bool) .none kV_N_bool dc_N_bool pm_N_bool an_N_bool cd_N_bool ct_N_bool), f_N_eq, (PySem.W.fnOf "__eq__" "Noticed.__eq__" (defArgs s_N_eq) (defBody s_N_eq) (defScope s_N_eq) .none kV_N_eq dc_N_eq pm_N_eq an_N_eq cd_N_eq ct_N_eq), f_H_bool, (PySem.W.fnOf "__bool__" "Hidden.__bool__" (defArgs s_H_bool) (defBody s_H_bool) (defScope s_H_bool) .none kV_H_bool dc_H_bool pm_H_bool an_H_bool cd_H_bool ct_H_bool), f_H_eq, (PySem.W.fnOf "__eq__" "Hidden.__eq__" (defArgs s_H_eq) (defBody s_H_eq) (defScope s_H_eq) .none kV_H_eq dc_H_eq pm_H_eq an_H_eq cd_H_eq ct_H_eq), f_N_shows, (PySem.W.fnOf "shows" "Noticed.shows" (defArgs s_N_shows) (defBody s_N_shows) (defScope s_N_shows) .none kV_N_shows dc_N_shows pm_N_shows an_N_shows cd_N_shows ct_N_shows), f_H_shows, (PySem.W.fnOf "shows" "Hidden.shows" (defArgs s_H_shows) (defBody s_H_shows) (defScope s_H_shows) .none kV_H_shows dc_H_shows pm_H_shows an_H_shows cd_H_shows ct_H_shows), f_number, (PySem.W.fnOf "_law_number" "_law_number" (defArgs s_number) (defBody s_number) (defScope s_number) .none kV_number dc_number pm_number an_number cd_number ct_number), f_take, (PySem.W.fnOf "_law_take" "_law_take" (defArgs s_take) (defBody s_take) (defScope s_take) .none kV_take dc_take pm_take an_take cd_take ct_take), f_lblock, (PySem.W.fnOf "_law_block" "_law_block" (defArgs s_lblock) (defBody s_lblock) (defScope s_lblock) .none kV_lblock dc_lblock pm_lblock an_lblock cd_lblock ct_lblock), f_refused, (PySem.W.fnOf "_law_refused" "_law_refused" (defArgs s_refused) (defBody s_refused) (defScope s_refused) .none kV_refused dc_refused pm_refused an_refused cd_refused ct_refused), fa, (PySem.W.fnOf "law" "law" (defArgs s_law) (defBody s_law) (defScope s_law) .none kV_law dc_law pm_law an_law (.ref cc) ct_law), C_Noticed, C_Hidden, C_BadBlock⟩ := ⟨fun_mk (st := s_is_integer) l_is_integer co_is_integer k_is_integer, PySem.W.mg_of X G at_is_integer, (fun_mk (st := s_is_integer) l_is_integer co_is_integer k_is_integer).binds (ps := ["thing"]) fun _ _ _ _ _ _ us hl => match us, hl with | [_], _ => rfl, fun_mk (st := s_is_row) l_is_row co_is_row k_is_row, PySem.W.mg_of X G at_is_row, (fun_mk (st := s_is_row) l_is_row co_is_row k_is_row).binds (ps := ["thing"]) fun _ _ _ _ _ _ us hl => match us, hl with | [_], _ => rfl, fun_mk (st := s_check_words) l_check_words co_check_words k_check_words, PySem.W.mg_of X G at_check_words, (fun_mk (st := s_check_words) l_check_words co_check_words k_check_words).binds (ps := ["words"]) fun _ _ _ _ _ _ us hl => match us, hl with | [_], _ => rfl, fun_mk (st := s_sums_of) l_sums_of co_sums_of k_sums_of, PySem.W.mg_of X G at_sums_of, (fun_mk (st := s_sums_of) l_sums_of co_sums_of k_sums_of).binds (ps := ["words"]) fun _ _ _ _ _ _ us hl => match us, hl with | [_], _ => rfl, fun_mk (st := s_block_of) l_block_of co_block_of k_block_of, PySem.W.mg_of X G at_block_of, (fun_mk (st := s_block_of) l_block_of co_block_of k_block_of).binds (ps := ["words"]) fun _ _ _ _ _ _ us hl => match us, hl with | [_], _ => rfl, fun_mk (st := s_words_in) l_words_in co_words_in k_words_in, PySem.W.mg_of X G at_words_in, (fun_mk (st := s_words_in) l_words_in co_words_in k_words_in).binds (ps := ["block"]) fun _ _ _ _ _ _ us hl => match us, hl with | [_], _ => rfl, fun_mk (st := s_check_places) l_check_places co_check_places k_check_places, PySem.W.mg_of X G at_check_places, (fun_mk (st := s_check_places) l_check_places co_check_places k_check_places).binds (ps := ["many", "places"]) fun _ _ _ _ _ _ us hl => match us, hl with | [_, _], _ => rfl, fun_mk (st := s_inverse) l_inverse co_inverse k_inverse, PySem.W.mg_of X G at_inverse, (fun_mk (st := s_inverse) l_inverse co_inverse k_inverse).binds (ps := ["number"]) fun _ _ _ _ _ _ us hl => match us, hl with | [_], _ => rfl, fun_mk (st := s_is_just) l_is_just co_is_just k_is_just, PySem.W.mg_of X G at_is_just, (fun_mk (st := s_is_just) l_is_just co_is_just k_is_just).binds (ps := ["inner", "row", "free"]) fun _ _ _ _ _ _ us hl => match us, hl with | [_, _, _], _ => rfl, fun_mk (st := s_closed_row) l_closed_row co_closed_row k_closed_row, PySem.W.mg_of X G at_closed_row, (fun_mk (st := s_closed_row) l_closed_row co_closed_row k_closed_row).binds (ps := ["inner", "front", "free"]) fun _ _ _ _ _ _ us hl => match us, hl with | [_, _, _], _ => rfl, fun_mk (st := s_rows_of_changes) l_rows_of_changes co_rows_of_changes k_rows_of_changes, PySem.W.mg_of X G at_rows_of_changes, (fun_mk (st := s_rows_of_changes) l_rows_of_changes co_rows_of_changes k_rows_of_changes).binds (ps := ["many"]) fun _ _ _ _ _ _ us hl => match us, hl with | [_], _ => rfl, fun_mk (st := s_changes_of) l_changes_of co_changes_of k_changes_of, PySem.W.mg_of X G at_changes_of, (fun_mk (st := s_changes_of) l_changes_of co_changes_of k_changes_of).binds (ps := ["inner", "free"]) fun _ _ _ _ _ _ us hl => match us, hl with | [_, _], _ => rfl, fun_mk (st := s_H_init) l_H_init co_H_init k_H_init, (fun_mk (st := s_H_init) l_H_init co_H_init k_H_init).binds (ps := ["self", "one", "other"]) fun _ _ _ _ _ _ us hl => match us, hl with | [_, _, _], _ => rfl, fun_mk (st := s_judge_noticed) l_judge_noticed co_judge_noticed k_judge_noticed, PySem.W.mg_of X G at_judge_noticed, (fun_mk (st := s_judge_noticed) l_judge_noticed co_judge_noticed k_judge_noticed).binds (ps := ["many", "places"]) fun _ _ _ _ _ _ us hl => match us, hl with | [_, _], _ => rfl, fun_mk (st := s_N_bool) l_N_bool co_N_bool k_N_bool, (fun_mk (st := s_N_bool) l_N_bool co_N_bool k_N_bool).binds (ps := ["self"]) fun _ _ _ _ _ _ us hl => match us, hl with | [_], _ => rfl, fun_mk (st := s_N_eq) l_N_eq co_N_eq k_N_eq, (fun_mk (st := s_N_eq) l_N_eq co_N_eq k_N_eq).binds (ps := ["self", "other"]) fun _ _ _ _ _ _ us hl => match us, hl with | [_, _], _ => rfl, fun_mk (st := s_H_bool) l_H_bool co_H_bool k_H_bool, (fun_mk (st := s_H_bool) l_H_bool co_H_bool k_H_bool).binds (ps := ["self"]) fun _ _ _ _ _ _ us hl => match us, hl with | [_], _ => rfl, fun_mk (st := s_H_eq) l_H_eq co_H_eq k_H_eq, (fun_mk (st := s_H_eq) l_H_eq co_H_eq k_H_eq).binds (ps := ["self", "other"]) fun _ _ _ _ _ _ us hl => match us, hl with | [_, _], _ => rfl, fun_mk (st := s_N_shows) l_N_shows co_N_shows k_N_shows, (fun_mk (st := s_N_shows) l_N_shows co_N_shows k_N_shows).binds (ps := ["self", "many", "places"]) fun _ _ _ _ _ _ us hl => match us, hl with | [_, _, _], _ => rfl, fun_mk (st := s_H_shows) l_H_shows co_H_shows k_H_shows, (fun_mk (st := s_H_shows) l_H_shows co_H_shows k_H_shows).binds (ps := ["self", "many", "places"]) fun _ _ _ _ _ _ us hl => match us, hl with | [_, _, _], _ => rfl, fun_mk (st := s_number) l_number co_number k_number, PySem.W.mg_of X G at_number, (fun_mk (st := s_number) l_number co_number k_number).binds (ps := ["script", "index"]) fun _ _ _ _ _ _ us hl => match us, hl with | [_, _], _ => rfl, fun_mk (st := s_take) l_take co_take k_take, PySem.W.mg_of X G at_take, (fun_mk (st := s_take) l_take co_take k_take).binds (ps := ["draw", "many"]) fun _ _ _ _ _ _ us hl => match us, hl with | [_, _], _ => rfl, fun_mk (st := s_lblock) l_lblock co_lblock k_lblock, PySem.W.mg_of X G at_lblock, (fun_mk (st := s_lblock) l_lblock co_lblock k_lblock).binds (ps := ["words"]) fun _ _ _ _ _ _ us hl => match us, hl with | [_], _ => rfl, fun_mk (st := s_refused) l_refused co_refused k_refused, PySem.W.mg_of X G at_refused, (fun_mk (st := s_refused) l_refused co_refused k_refused).binds (ps := ["deed"]) fun _ _ _ _ _ _ us hl => match us, hl with | [_], _ => rfl, fun_mk (st := s_law) l_law co_law k_law, PySem.W.mg_of X G at_law, (fun_mk (st := s_law) l_law co_law k_law).binds (ps := ["script"]) fun _ _ _ _ _ _ us hl => match us, hl with | [_], _ => rfl, PySem.W.mg_none_of X G z_all, PySem.W.mg_none_of X G z_bool, PySem.W.mg_none_of X G z_enumerate, PySem.W.mg_none_of X G z_int, PySem.W.mg_none_of X G z_isinstance, PySem.W.mg_none_of X G z_len, PySem.W.mg_none_of X G z_list, PySem.W.mg_none_of X G z_range, PySem.W.mg_none_of X G z_set, PySem.W.mg_none_of X G z_sorted, PySem.W.mg_none_of X G z_sum, PySem.W.mg_none_of X G z_tuple, PySem.W.mg_none_of X G z_zip, ⟨t_MOST_WORDS, PySem.W.mg_of X G y_MOST_WORDS⟩, ⟨t_PRIME, PySem.W.mg_of X G y_PRIME⟩, PySem.W.mg_of X G g_Noticed, ⟨mk_Noticed, in_Noticed, kc_Noticed⟩, ⟨⟨pg_Noticed, hd_Noticed, po_Noticed, sa_Noticed⟩, ca_Noticed, cs_Noticed, ct_Noticed, cm_Noticed⟩, PySem.W.mg_of X G g_Hidden, ⟨mk_Hidden, at_H_init, fn_H_init, kc_Hidden⟩, ⟨⟨pg_Hidden, hd_Hidden, po_Hidden, sa_Hidden⟩, ca_Hidden, cs_Hidden, ct_Hidden, cm_Hidden⟩, PySem.W.mg_of X G g_BadBlock, xx_BadBlock, xk_BadBlock, xs_BadBlock, xt_BadBlock, w_exm, w_kHN, w_kNH, w_na_one, w_na_other, ⟨at_N_shows, fn_N_shows, k_N_shows⟩, at_N_eq, fn_N_eq, at_N_bool, fn_N_bool, w_ne_N, w_nf_NN, w_nf_NH, ⟨at_H_shows, fn_H_shows, k_H_shows⟩, at_H_eq, fn_H_eq, at_H_bool, fn_H_bool, w_ne_H, w_nf_HN, w_nf_HH⟩
  refine ⟨_, [(cc, Pt)], spLaw K [Pt], fun p hp => ?_, fun p hp => ?_, fun p hp => ?_, fun s u => .of_eq rfl, fun H a ns hl _ hH hS => ?_, fun base hb hns hT => ok_law T rfl (hT _ List.mem_cons_self) hlaw⟩
  · rw [List.mem_singleton.mp hp]; exact tP
  · rw [List.mem_singleton.mp hp]; exact tK
  · rw [List.mem_singleton.mp hp]; exact PySem.W.codeHd_of_K X tH
  · exact ⟨a, ns, rfl, hl, fun P hP => by rw [List.mem_singleton.mp hP]; exact hH (cc, Pt) List.mem_cons_self, hS, fun _ => rfl⟩
end DL
open PySem PySem.W PyProof.Rows
set_option maxRecDepth 100000 in
set_option maxHeartbeats 0 in
theorem PySem.Challenge.cw_storepages_k13_whole_images_holds : PySem.Challenge.rw_storepages_k13_whole_images.Holds := by
  w_on; o_law; k_head; (case hw => w_witness2)
  k_fill
  refine LamX.walk_ofTs (l := PySem.Challenge.rw_storepages_k13_whole_images) (n := 63) (k := 14) (x := "script") (CX := fun w => L2.CX (PySem.Challenge.rw_storepages_k13_whole_images).prog w) rfl (by decide) rfl ⟨rfl, by decide, by decide⟩ (fun w h Y => PySem.W.km_in_of Y) ?F (fun _ _ _ _ _ ⟨_, _, _, _, _, _, _, _, _, _, _, _, z⟩ => z)
  case F =>
    intro w mg fa h Y KX G hmg
    refine' DL.all_mk DL.hlaw KX G hmg ?tP ?g_Noticed ?g_Hidden ?g_BadBlock ?at_is_integer ?l_is_integer ?co_is_integer ?k_is_integer ?at_is_row ?l_is_row ?co_is_row ?k_is_row ?at_check_words ?l_check_words ?co_check_words ?k_check_words ?at_sums_of ?l_sums_of ?co_sums_of ?k_sums_of ?at_block_of ?l_block_of ?co_block_of ?k_block_of ?at_words_in ?l_words_in ?co_words_in ?k_words_in ?at_check_places ?l_check_places ?co_check_places ?k_check_places ?at_inverse ?l_inverse ?co_inverse ?k_inverse ?at_is_just ?l_is_just ?co_is_just ?k_is_just ?at_closed_row ?l_closed_row ?co_closed_row ?k_closed_row ?at_rows_of_changes ?l_rows_of_changes ?co_rows_of_changes ?k_rows_of_changes ?at_changes_of ?l_changes_of ?co_changes_of ?k_changes_of ?at_H_init ?fn_H_init ?l_H_init ?co_H_init ?k_H_init ?at_judge_noticed ?l_judge_noticed ?co_judge_noticed ?k_judge_noticed ?at_N_bool ?fn_N_bool ?l_N_bool ?co_N_bool ?k_N_bool ?at_N_eq ?fn_N_eq ?l_N_eq ?co_N_eq ?k_N_eq ?at_H_bool ?fn_H_bool ?l_H_bool ?co_H_bool ?k_H_bool ?at_H_eq ?fn_H_eq ?l_H_eq ?co_H_eq ?k_H_eq ?at_N_shows ?fn_N_shows ?l_N_shows ?co_N_shows ?k_N_shows ?at_H_shows ?fn_H_shows ?l_H_shows ?co_H_shows ?k_H_shows ?at_number ?l_number ?co_number ?k_number ?at_take ?l_take ?co_take ?k_take ?at_lblock ?l_lblock ?co_lblock ?k_lblock ?at_refused ?l_refused ?co_refused ?k_refused ?at_law ?l_law ?co_law ?k_law ?z_all ?z_bool ?z_enumerate ?z_int ?z_isinstance ?z_len ?z_list ?z_range ?z_set ?z_sorted ?z_sum ?z_tuple ?z_zip ?y_MOST_WORDS ?y_PRIME ?mk_Noticed ?kc_Noticed ?in_Noticed ?pg_Noticed ?hd_Noticed ?po_Noticed ?sa_Noticed ?ca_Noticed ?cs_Noticed ?ct_Noticed ?cm_Noticed ?mk_Hidden ?kc_Hidden ?pg_Hidden ?hd_Hidden ?po_Hidden ?sa_Hidden ?ca_Hidden ?cs_Hidden ?ct_Hidden ?cm_Hidden ?xx_BadBlock ?xk_BadBlock ?xs_BadBlock ?xt_BadBlock ?w_exm ?w_kHN ?w_kNH ?w_na_one ?w_na_other ?w_ne_N ?w_nf_NN ?w_nf_NH ?w_ne_H ?w_nf_HN ?w_nf_HH ?tH ?tK
    (case tP => exact PySem.W.km_tabs_of Y _ List.mem_cons_self)
    (case g_Noticed => k_is)
    (case g_Hidden => k_is)
    (case g_BadBlock => k_is)
    (case at_is_integer => k_is)
    (case l_is_integer => k_is)
    (case co_is_integer => k_is)
    (case k_is_integer => k_is)
    (case at_is_row => k_is)
    (case l_is_row => k_is)
    (case co_is_row => k_is)
    (case k_is_row => k_is)
    (case at_check_words => k_is)
    (case l_check_words => k_is)
    (case co_check_words => k_is)
    (case k_check_words => k_is)
    (case at_sums_of => k_is)
    (case l_sums_of => k_is)
    (case co_sums_of => k_is)
    (case k_sums_of => k_is)
    (case at_block_of => k_is)
    (case l_block_of => k_is)
    (case co_block_of => k_is)
    (case k_block_of => k_is)
    (case at_words_in => k_is)
    (case l_words_in => k_is)
    (case co_words_in => k_is)
    (case k_words_in => k_is)
    (case at_check_places => k_is)
    (case l_check_places => k_is)
    (case co_check_places => k_is)
    (case k_check_places => k_is)
    (case at_inverse => k_is)
    (case l_inverse => k_is)
    (case co_inverse => k_is)
    (case k_inverse => k_is)
    (case at_is_just => k_is)
    (case l_is_just => k_is)
    (case co_is_just => k_is)
    (case k_is_just => k_is)
    (case at_closed_row => k_is)
    (case l_closed_row => k_is)
    (case co_closed_row => k_is)
    (case k_closed_row => k_is)
    (case at_rows_of_changes => k_is)
    (case l_rows_of_changes => k_is)
    (case co_rows_of_changes => k_is)
    (case k_rows_of_changes => k_is)
    (case at_changes_of => k_is)
    (case l_changes_of => k_is)
    (case co_changes_of => k_is)
    (case k_changes_of => k_is)
    (case at_H_init => k_is)
    (case fn_H_init => k_is)
    (case l_H_init => k_is)
    (case co_H_init => k_is)
    (case k_H_init => k_is)
    (case at_judge_noticed => k_is)
    (case l_judge_noticed => k_is)
    (case co_judge_noticed => k_is)
    (case k_judge_noticed => k_is)
    (case at_N_bool => k_is)
    (case fn_N_bool => k_is)
    (case l_N_bool => k_is)
    (case co_N_bool => k_is)
    (case k_N_bool => k_is)
    (case at_N_eq => k_is)
    (case fn_N_eq => k_is)
    (case l_N_eq => k_is)
    (case co_N_eq => k_is)
    (case k_N_eq => k_is)
    (case at_H_bool => k_is)
    (case fn_H_bool => k_is)
    (case l_H_bool => k_is)
    (case co_H_bool => k_is)
    (case k_H_bool => k_is)
    (case at_H_eq => k_is)
    (case fn_H_eq => k_is)
    (case l_H_eq => k_is)
    (case co_H_eq => k_is)
    (case k_H_eq => k_is)
    (case at_N_shows => k_is)
    (case fn_N_shows => k_is)
    (case l_N_shows => k_is)
    (case co_N_shows => k_is)
    (case k_N_shows => k_is)
    (case at_H_shows => k_is)
    (case fn_H_shows => k_is)
    (case l_H_shows => k_is)
    (case co_H_shows => k_is)
    (case k_H_shows => k_is)
    (case at_number => k_is)
    (case l_number => k_is)
    (case co_number => k_is)
    (case k_number => k_is)
    (case at_take => k_is)
    (case l_take => k_is)
    (case co_take => k_is)
    (case k_take => k_is)
    (case at_lblock => k_is)
    (case l_lblock => k_is)
    (case co_lblock => k_is)
    (case k_lblock => k_is)
    (case at_refused => k_is)
    (case l_refused => k_is)
    (case co_refused => k_is)
    (case k_refused => k_is)
    (case at_law => k_is)
    (case l_law => k_is)
    (case co_law => k_is)
    (case k_law => k_is)
    (case z_all => k_is)
    (case z_bool => k_is)
    (case z_enumerate => k_is)
    (case z_int => k_is)
    (case z_isinstance => k_is)
    (case z_len => k_is)
    (case z_list => k_is)
    (case z_range => k_is)
    (case z_set => k_is)
    (case z_sorted => k_is)
    (case z_sum => k_is)
    (case z_tuple => k_is)
    (case z_zip => k_is)
    (case y_MOST_WORDS => k_is)
    (case y_PRIME => k_is)
    (case mk_Noticed => k_is)
    (case kc_Noticed => k_is)
    (case in_Noticed => k_is)
    (case pg_Noticed => k_is)
    (case hd_Noticed => k_is)
    (case po_Noticed => k_is)
    (case sa_Noticed => k_is)
    (case ca_Noticed => k_is)
    (case cs_Noticed => k_is)
    (case ct_Noticed => k_is)
    (case cm_Noticed => k_is)
    (case mk_Hidden => k_is)
    (case kc_Hidden => k_is)
    (case pg_Hidden => k_is)
    (case hd_Hidden => k_is)
    (case po_Hidden => k_is)
    (case sa_Hidden => k_is)
    (case ca_Hidden => k_is)
    (case cs_Hidden => k_is)
    (case ct_Hidden => k_is)
    (case cm_Hidden => k_is)
    (case xx_BadBlock => k_exc)
    (case xk_BadBlock => k_is)
    (case xs_BadBlock => k_is)
    (case xt_BadBlock => k_is)
    (case w_exm => first | k_is | kernel_rfl)
    (case w_kHN => first | k_is | kernel_rfl)
    (case w_kNH => first | k_is | kernel_rfl)
    (case w_na_one => k_is)
    (case w_na_other => k_is)
    (case w_ne_N => first | k_is | kernel_rfl)
    (case w_nf_NN => first | k_is | kernel_rfl)
    (case w_nf_NH => first | k_is | kernel_rfl)
    (case w_ne_H => first | k_is | kernel_rfl)
    (case w_nf_HN => first | k_is | kernel_rfl)
    (case w_nf_HH => first | k_is | kernel_rfl)
    (case tH => kernel_rfl)
    (case tK => kernel_rfl)
#print axioms PySem.Challenge.cw_storepages_k13_whole_images_holds

