import PyProof.Rows.All
import Wide.All
import OpenK.AllK
import Wide.FinOn
import HandS.Lambda
import HandS.EndTab
import HandS.Words
import HandS.ForMost
import HandS.ForExc
import HandS.Walk
import HandS.IsInst
import HandS.Wide
import HandS.TupAny
import HandS.Style
import HandS.Deep
import HandS.Sort
import HandS.SortInts
import HandS.More
import HandS.Zip
import HandS.Small
import HandS.SetFor
import KE.DataFind
import HandS.TupSets
import HandS.EndBits
import HandS.ExcIs
import HandS.TryOnly
import HandS.Dict
import KE.KNest
import HandS.Nested
import HandS.Conv
import KE.Datum
import KE.IntBitsLaws
import PySem.Challenge.RW_swapalbum_k12_whole_handed
set_option Elab.async false
set_option linter.all false
set_option maxRecDepth 100000
set_option maxHeartbeats 4000000
/-! VE0: lambdas as values. -/
namespace L2.VE
open PySem PySem.Spec PyProof.Rows
/-- a lambda's words -/
structure LamI where
  params : Arguments
  body : Expr
  scope : Scope
  qual : Str
/-- the object at f is that lambda's function, its code object at c; nothing is captured -/
def LamO (f c : Addr) (L : LamI) : HO := .ext fun h => ∃ (pm ctv : Value), h.get? f = some (PySem.W.kla_obj "<lambda>" L.qual L.params L.body L.scope [] pm c ctv)
end L2.VE
/-! VEL: the lambdas of k12. -/
namespace L2.VE
open PySem PySem.Spec PyProof.Rows
def lamOf (q : Str) : Stmt → LamI
  | .Expr (.Call _ [.Tuple (.Lambda ps b sc _ :: _) _ _] _ _) _ => ⟨ps, b, sc, q⟩
  | st => ⟨defArgs st, .Constant .none 0 ⟨0, 0, 0, 0⟩, defScope st, q⟩

def lamI (i : Nat) : LamI := lamOf "_law_rows_one.<locals>.<lambda>" ((defBody (PySem.Challenge.pw_swapalbum_k12_whole_handed.main.body.getD 59 (.Pass ⟨0, 0, 0, 0⟩))).getD (i + 1) (.Pass ⟨0, 0, 0, 0⟩))
def lamT (i : Nat) : Option LamI := if i < 11 then some (lamI i) else none
end L2.VE
/-! VE1: values with cells, the relation to the abstract heap, what it means that a function tells an expression's worth. -/
namespace L2.VE
open PySem PySem.Spec PyProof.Rows

/-- what a value is: data as a tree, or a mutable thing by its number -/
inductive D where
  | non | bl (b : Bool) | int (i : Int) | str (s : Str)
  | lst (xs : List D) | tup (xs : List D) | ref (n : Nat)
  /-- the exception that an except suite holds -/
  | exn (a : Addr)
  /-- a lambda of the text -/
  | fn (id : Nat)
/-- a mutable thing: a list, an instance of the c-th class, a dict with int keys -/
inductive Cell where
  | lst (xs : List D) | ins (c : Nat) (fs : List (Str × D)) | dic (kvs : List (Int × D)) | lok (ks : List Int)
  /-- the j-th table of code objects, all of the name q -/
  | tab (j : Nat) (q : Str)
abbrev Store := List Cell
/-- an expression's end: a value, an exception of the c-th class, nothing told -/
inductive ER where
  | ok (d : D) (S : Store) | xc (c : Nat) (S : Store) | stuck
abbrev Gm := List (Option D)
abbrev Ev := Gm → Store → ER
def ER.bind : ER → (D → Store → ER) → ER
  | .ok d S, k => k d S
  | .xc c S, _ => .xc c S
  | .stuck, _ => .stuck
@[simp] theorem ER.bind_ok {d : D} {S : Store} {k : D → Store → ER} : (ER.ok d S).bind k = k d S := rfl
@[simp] theorem ER.bind_xc {c : Nat} {S : Store} {k : D → Store → ER} : (ER.xc c S).bind k = .xc c S := rfl
@[simp] theorem ER.bind_stuck {k : D → Store → ER} : ER.stuck.bind k = .stuck := rfl

/-- where the cells stand; fl: places that are being filled, no data stands there yet -/
structure Mp where
  at_ : Nat → Addr
  fl : List Addr
instance : CoeFun Mp (fun _ => Nat → Addr) := ⟨Mp.at_⟩
/-- a is no cell -/
def No1 (m : Mp) (N : Nat) (a : Addr) : Prop := ∀ n, n < N → m n ≠ a
def NoC (m : Mp) (N : Nat) (a : Addr) : Prop := No1 m N a ∧ a ∉ m.fl
mutual
inductive Rp (H : Hp) (m : Mp) (N : Nat) : V → D → Prop
  | non : Rp H m N .non .non
  | bl (b : Bool) : Rp H m N (.bl b) (.bl b)
  | int (i : Int) : Rp H m N (.int i) (.int i)
  | str (s : Str) : Rp H m N (.str s) (.str s)
  | lst {a : Addr} {vs : List V} {ds : List D} : H a = some (.lst vs) → NoC m N a → RpL H m N vs ds → Rp H m N (.ref a) (.lst ds)
  | tup {a : Addr} {vs : List V} {ds : List D} : H a = some (.tup vs) → NoC m N a → RpL H m N vs ds → Rp H m N (.ref a) (.tup ds)
  | ref {n : Nat} : n < N → Rp H m N (.ref (m n)) (.ref n)
  | exn (a : Addr) : Rp H m N (.ref a) (.exn a)
  | fn {f c : Addr} {id : Nat} {L : LamI} : lamT id = some L → H f = some (LamO f c L) → NoC m N f → H c = some (LamX.CodeO c L.qual) → NoC m N c → Rp H m N (.ref f) (.fn id)
inductive RpL (H : Hp) (m : Mp) (N : Nat) : List V → List D → Prop
  | nil : RpL H m N [] []
  | cons {v : V} {vs : List V} {d : D} {ds : List D} : Rp H m N v d → RpL H m N vs ds → RpL H m N (v :: vs) (d :: ds)
end

/-- from one state to a later one -/
structure Step (m : Mp) (N : Nat) (H : Hp) (m' : Mp) (N' : Nat) (H' : Hp) : Prop where
  le : N ≤ N'
  ag : ∀ n, n < N → m' n = m n
  fq1 : ∀ p, p ∈ m.fl → p ∈ m'.fl
  fq2 : ∀ p, p ∈ m'.fl → p ∈ m.fl ∨ H p = none
  fr : ∀ n, N ≤ n → n < N' → H (m' n) = none
  kp : ∀ a o, H a = some o → No1 m N a → H' a = some o
  th : ∀ a o, H a = some o → ∃ o', H' a = some o'
  fz : ∀ a od u, H a = some (.frz od u) → H' a = some (.frz od u)

section
variable {H H' H2 : Hp} {m m' m2 : Mp} {N N' N2 : Nat}
theorem Step.refl : Step m N H m N H := ⟨Nat.le_refl _, fun _ _ => rfl, fun _ h => h, fun _ h => .inl h, fun n h1 h2 => absurd (Nat.lt_of_lt_of_le h2 h1) (Nat.lt_irrefl _), fun _ _ h _ => h, fun _ o h => ⟨o, h⟩, fun _ _ _ h => h⟩
theorem Step.no1 (s : Step m N H m' N' H') {a : Addr} {o : HO} (h : H a = some o) (q : No1 m N a) : No1 m' N' a := fun n hn e => by
  by_cases hl : n < N
  · exact q n hl (by rw [← s.ag n hl]; exact e)
  · have := s.fr n (Nat.le_of_not_lt hl) hn
    rw [e, h] at this
    cases this
theorem Step.noC (s : Step m N H m' N' H') {a : Addr} {o : HO} (h : H a = some o) (q : NoC m N a) : NoC m' N' a := ⟨s.no1 h q.1, fun z => (s.fq2 _ z).elim q.2 fun e => by rw [h] at e; cases e⟩
theorem Step.trans (s : Step m N H m' N' H') (t : Step m' N' H' m2 N2 H2) : Step m N H m2 N2 H2 where
  le := Nat.le_trans s.le t.le
  ag := fun n hn => (t.ag n (Nat.lt_of_lt_of_le hn s.le)).trans (s.ag n hn)
  fq1 := fun p h => t.fq1 p (s.fq1 p h)
  fq2 := fun p h => (t.fq2 p h).elim (s.fq2 p) fun e => .inr (by
    cases q : H p with
    | none => rfl
    | some o =>
      obtain ⟨o', e'⟩ := s.th p o q
      rw [e] at e'
      cases e')
  fr := fun n h1 h2 => by
    by_cases hl : n < N'
    · rw [t.ag n hl]
      exact s.fr n h1 hl
    · have q := t.fr n (Nat.le_of_not_lt hl) h2
      cases e : H (m2 n) with
      | none => rfl
      | some o =>
        obtain ⟨o', e'⟩ := s.th _ _ e
        rw [q] at e'
        cases e'
  kp := fun a o h q => t.kp a o (s.kp a o h q) (s.no1 h q)
  th := fun a o h => let ⟨o', h'⟩ := s.th a o h; t.th a o' h'
  fz := fun a od u h => t.fz a od u (s.fz a od u h)
mutual
theorem Rp.mono (s : Step m N H m' N' H') : ∀ (d : D) (v : V), Rp H m N v d → Rp H' m' N' v d
  | .non, _, .non => .non
  | .bl _, _, .bl _ => .bl _
  | .int _, _, .int _ => .int _
  | .str _, _, .str _ => .str _
  | .lst ds, _, .lst h q r => .lst (s.kp _ _ h q.1) (s.noC h q) (RpL.mono s ds _ r)
  | .tup ds, _, .tup h q r => .tup (s.kp _ _ h q.1) (s.noC h q) (RpL.mono s ds _ r)
  | .exn a, _, .exn _ => .exn a
  | .fn _, _, .fn e h1 q1 h2 q2 => .fn e (s.kp _ _ h1 q1.1) (s.noC h1 q1) (s.kp _ _ h2 q2.1) (s.noC h2 q2)
  | .ref n, _, .ref h => by
    rw [← s.ag n h]
    exact .ref (Nat.lt_of_lt_of_le h s.le)
theorem RpL.mono (s : Step m N H m' N' H') : ∀ (ds : List D) (vs : List V), RpL H m N vs ds → RpL H' m' N' vs ds
  | [], _, .nil => .nil
  | d :: ds, _, .cons h r => .cons (Rp.mono s d _ h) (RpL.mono s ds _ r)
end
theorem RpL.length : ∀ {vs : List V} {ds : List D}, RpL H m N vs ds → vs.length = ds.length
  | _, _, .nil => rfl
  | _, _, .cons _ r => congrArg Nat.succ r.length
theorem RpL.get : ∀ {vs : List V} {ds : List D} {i : Nat} {d : D}, RpL H m N vs ds → ds[i]? = some d → ∃ v, vs[i]? = some v ∧ Rp H m N v d
  | _, _, _, _, .nil, e => by simp at e
  | _, _, 0, _, .cons h _, e => by
    simp at e
    subst e
    exact ⟨_, rfl, h⟩
  | _, _, i + 1, d, .cons _ r, e => by
    obtain ⟨v, h1, h2⟩ := RpL.get (i := i) (d := d) r (by simpa using e)
    exact ⟨v, by simpa using h1, h2⟩
theorem RpL.getV : ∀ {vs : List V} {ds : List D} {i : Nat} {v : V}, RpL H m N vs ds → vs[i]? = some v → ∃ d, ds[i]? = some d ∧ Rp H m N v d
  | _, _, _, _, .nil, e => by simp at e
  | _, _, 0, _, .cons h _, e => by
    simp at e
    subst e
    exact ⟨_, rfl, h⟩
  | _, _, i + 1, d, .cons _ r, e => by
    obtain ⟨v, h1, h2⟩ := RpL.getV (i := i) (v := d) r (by simpa using e)
    exact ⟨v, by simpa using h1, h2⟩
theorem RpL.append : ∀ {vs ws : List V} {ds es : List D}, RpL H m N vs ds → RpL H m N ws es → RpL H m N (vs ++ ws) (ds ++ es)
  | _, _, _, _, .nil, s => s
  | _, _, _, _, .cons h r, s => .cons h (RpL.append r s)
theorem RpL.take : ∀ {vs : List V} {ds : List D} (n : Nat), RpL H m N vs ds → RpL H m N (vs.take n) (ds.take n)
  | _, _, 0, _ => .nil
  | _, _, _ + 1, .nil => .nil
  | _, _, n + 1, .cons h r => .cons h (RpL.take n r)
theorem RpL.drop : ∀ {vs : List V} {ds : List D} (n : Nat), RpL H m N vs ds → RpL H m N (vs.drop n) (ds.drop n)
  | _, _, 0, h => h
  | _, _, _ + 1, .nil => .nil
  | _, _, n + 1, .cons _ r => RpL.drop n r
theorem RpL.set {v : V} {d : D} (h : Rp H m N v d) : ∀ {vs : List V} {ds : List D} (i : Nat), RpL H m N vs ds → RpL H m N (vs.set i v) (ds.set i d)
  | _, _, _, .nil => .nil
  | _, _, 0, .cons _ r => .cons h r
  | _, _, i + 1, .cons q r => .cons q (RpL.set h i r)
theorem RpL.ints : ∀ {vs : List V} {ns : List Int}, RpL H m N vs (ns.map D.int) → vs = ns.map V.int
  | _, [], h => by cases h; rfl
  | _, n :: ns, h => by
    cases h with
    | cons h r =>
      cases h
      rw [RpL.ints r]
      rfl
theorem RpL.of_ints : ∀ {ns : List Int}, RpL H m N (ns.map V.int) (ns.map D.int)
  | [] => .nil
  | _ :: _ => .cons (.int _) RpL.of_ints
theorem RpL.bls : ∀ {vs : List V} {ns : List Bool}, RpL H m N vs (ns.map D.bl) → vs = ns.map V.bl
  | _, [], h => by cases h; rfl
  | _, n :: ns, h => by
    cases h with
    | cons h r =>
      cases h
      rw [RpL.bls r]
      rfl
end

/-- the fields -/
inductive RpF (H : Hp) (m : Mp) (N : Nat) : List (Str × V) → List (Str × D) → Prop
  | nil : RpF H m N [] []
  | cons {x : Str} {v : V} {d : D} {vs : List (Str × V)} {ds : List (Str × D)} : Rp H m N v d → RpF H m N vs ds → RpF H m N ((x, v) :: vs) ((x, d) :: ds)
inductive RpK (H : Hp) (m : Mp) (N : Nat) : List (Key × V) → List (Int × D) → Prop
  | nil : RpK H m N [] []
  | cons {k : Int} {v : V} {d : D} {vs : List (Key × V)} {ds : List (Int × D)} : Rp H m N v d → RpK H m N vs ds → RpK H m N ((Sum.inl k, v) :: vs) ((k, d) :: ds)
def CellOk (ct : Nat → Addr) (H : Hp) (m : Mp) (N : Nat) (a : Addr) : Cell → Prop
  | .lst ds => ∃ vs, H a = some (.lst vs) ∧ RpL H m N vs ds
  | .ins c fs => ∃ dx vs, H a = some (.ins (ct c) dx vs) ∧ RpF H m N vs fs
  | .dic kvs => ∃ vs, H a = some (.dK vs) ∧ RpK H m N vs kvs
  | .lok ks => ∃ od vs, H a = some (.frz od (.dK vs)) ∧ vs.map (·.1) = ks.map Sum.inl
  | .tab j q => a = ct (100 + j) ∧ ∃ ps : Array Value, H a = some (.tbl ps) ∧ TriplesOk ps.toList ∧ ∀ (pos : Pos) (cv : Value), codeAmong pos ps.toList = some cv → ∃ c, cv = .ref c ∧ H c = some (LamX.CodeO c q) ∧ NoC m N c
structure Rel (ct : Nat → Addr) (m : Mp) (S : Store) (H : Hp) : Prop where
  inj : ∀ i j, i < S.length → j < S.length → m i = m j → i = j
  cell : ∀ n c, S[n]? = some c → CellOk ct H m S.length (m n) c
  flo : ∀ a, a ∈ m.fl → (∃ o, H a = some o) ∧ No1 m S.length a

section
variable {ct : Nat → Addr} {H H' H2 : Hp} {m m' m2 : Mp} {N N' N2 : Nat} {S S' : Store}
theorem RpF.mono (s : Step m N H m' N' H') : ∀ {vs : List (Str × V)} {ds : List (Str × D)}, RpF H m N vs ds → RpF H' m' N' vs ds
  | _, _, .nil => .nil
  | _, _, .cons h r => .cons (Rp.mono s _ _ h) (RpF.mono s r)
theorem RpK.mono (s : Step m N H m' N' H') : ∀ {vs : List (Key × V)} {ds : List (Int × D)}, RpK H m N vs ds → RpK H' m' N' vs ds
  | _, _, .nil => .nil
  | _, _, .cons h r => .cons (Rp.mono s _ _ h) (RpK.mono s r)
theorem RpF.lookup {f : Str} : ∀ {vs : List (Str × V)} {ds : List (Str × D)} {d : D}, RpF H m N vs ds → ds.lookup f = some d → ∃ v, vs.lookup f = some v ∧ Rp H m N v d
  | _, _, _, .nil, e => by cases e
  | _, _, d, .cons (x := x) h r, e => by
    rw [List.lookup_cons] at e ⊢
    cases q : f == x with
    | true =>
      rw [q] at e
      cases e
      exact ⟨_, rfl, h⟩
    | false =>
      rw [q] at e
      exact RpF.lookup r e
theorem RpF.lookup_none {f : Str} : ∀ {vs : List (Str × V)} {ds : List (Str × D)}, RpF H m N vs ds → ds.lookup f = none → vs.lookup f = none
  | _, _, .nil, e => rfl
  | _, _, .cons (x := x) h r, e => by
    rw [List.lookup_cons] at e ⊢
    cases q : f == x with
    | true =>
      rw [q] at e
      cases e
    | false =>
      rw [q] at e
      exact RpF.lookup_none r e
theorem Rel.there (r : Rel ct m S H) {n : Nat} (h : n < S.length) : ∃ o, H (m n) = some o := by
  have q := r.cell n S[n] (List.getElem?_eq_getElem h)
  cases e : S[n] with
  | lst ds =>
    rw [e] at q
    obtain ⟨vs, q, _⟩ := q
    exact ⟨_, q⟩
  | ins c fs =>
    rw [e] at q
    obtain ⟨_, _, q, _⟩ := q
    exact ⟨_, q⟩
  | dic kvs =>
    rw [e] at q
    obtain ⟨vs, q, _⟩ := q
    exact ⟨_, q⟩
  | lok ks =>
    rw [e] at q
    obtain ⟨_, _, q, _⟩ := q
    exact ⟨_, q⟩
  | tab j t =>
    rw [e] at q
    obtain ⟨_, _, q, _⟩ := q
    exact ⟨_, q⟩
theorem Rel.no1 (r : Rel ct m S H) {p : Addr} (h : H p = none) : No1 m S.length p := fun n hn e => by
  obtain ⟨o, q⟩ := r.there hn
  rw [e, h] at q
  cases q
theorem Rel.noC (r : Rel ct m S H) {p : Addr} (h : H p = none) : NoC m S.length p := ⟨r.no1 h, fun hp => by
  obtain ⟨⟨o, e⟩, _⟩ := r.flo p hp
  rw [h] at e
  cases e⟩
/-- an untracked place is laid -/
theorem Step.new {p : Addr} {o : HO} (h : H p = none) : Step m N H m N (upd H p o) :=
  ⟨Nat.le_refl _, fun _ _ => rfl, fun _ h => h, fun _ h => .inl h, fun n h1 h2 => absurd (Nat.lt_of_lt_of_le h2 h1) (Nat.lt_irrefl _), fun a u e _ => by rw [upd_ne (ne_of_none e h)]; exact e, fun a u e => ⟨u, by rw [upd_ne (ne_of_none e h)]; exact e⟩, fun a od u e => by rw [upd_ne (ne_of_none e h)]; exact e⟩
theorem CellOk.mono (s : Step m N H m' N' H') {a : Addr} {c : Cell} (h : CellOk ct H m N a c) (k : ∀ o, H a = some o → H' a = some o) : CellOk ct H' m' N' a c := by
  cases c with
  | lst ds =>
    obtain ⟨vs, q, r⟩ := h
    exact ⟨vs, k _ q, RpL.mono s _ _ r⟩
  | ins c fs =>
    obtain ⟨dx, vs, q, r⟩ := h
    exact ⟨dx, vs, k _ q, r.mono s⟩
  | dic kvs =>
    obtain ⟨vs, q, r⟩ := h
    exact ⟨vs, k _ q, r.mono s⟩
  | lok ks =>
    obtain ⟨od, vs, q, r⟩ := h
    exact ⟨od, vs, k _ q, r⟩
  | tab j t =>
    obtain ⟨e, ps, q, r, f⟩ := h
    exact ⟨e, ps, k _ q, r, fun pos cv hc => let ⟨c, e1, e2, e3⟩ := f pos cv hc; ⟨c, e1, s.kp _ _ e2 e3.1, s.noC e2 e3⟩⟩
theorem Rel.new (r : Rel ct m S H) {p : Addr} {o : HO} (h : H p = none) : Rel ct m S (upd H p o) :=
  ⟨r.inj, fun n c e => (r.cell n c e).mono (Step.new h) fun u q => by rw [upd_ne (ne_of_none q h)]; exact q, fun a ha => let ⟨⟨u, e⟩, q⟩ := r.flo a ha; ⟨⟨u, by rw [upd_ne (ne_of_none e h)]; exact e⟩, q⟩⟩
/-- a new list, a new tuple, as data -/
theorem rp_newL (r : Rel ct m S H) {p : Addr} {vs : List V} {ds : List D} (h : H p = none) (q : RpL H m S.length vs ds) : Rp (upd H p (.lst vs)) m S.length (.ref p) (.lst ds) :=
  .lst upd_same (r.noC h) (RpL.mono (Step.new h) _ _ q)
theorem rp_newT (r : Rel ct m S H) {p : Addr} {vs : List V} {ds : List D} (h : H p = none) (q : RpL H m S.length vs ds) : Rp (upd H p (.tup vs)) m S.length (.ref p) (.tup ds) :=
  .tup upd_same (r.noC h) (RpL.mono (Step.new h) _ _ q)
/-- a new cell -/
def ext (m : Mp) (N : Nat) (p : Addr) : Mp := ⟨fun n => if n = N then p else m n, m.fl⟩
theorem ext_lt {m : Mp} {N : Nat} {p : Addr} {n : Nat} (h : n < N) : ext m N p n = m n := if_neg (Nat.ne_of_lt h)
theorem ext_eq {m : Mp} {N : Nat} {p : Addr} : ext m N p N = p := if_pos rfl
theorem Step.cell {p : Addr} {H' : Hp} (h : H p = none) (k : ∀ a o, H a = some o → H' a = some o) : Step m N H (ext m N p) (N + 1) H' :=
  ⟨Nat.le_succ _, fun _ hn => ext_lt hn, fun _ h => h, fun _ h => .inl h, fun n h1 h2 => by
    have e : n = N := Nat.le_antisymm (Nat.le_of_lt_succ h2) h1
    subst e
    rw [ext_eq]
    exact h, fun a o e _ => k a o e, fun a o e => ⟨o, k a o e⟩, fun a od u e => k a _ e⟩
theorem Rel.cellNew (r : Rel ct m S H) {p : Addr} {H' : Hp} {c : Cell} (h : H p = none) (k : ∀ a o, H a = some o → H' a = some o) (hc : CellOk ct H' (ext m S.length p) (S.length + 1) p c) : Rel ct (ext m S.length p) (S ++ [c]) H' := by
  have len : (S ++ [c]).length = S.length + 1 := by simp
  refine ⟨fun i j hi hj e => ?_, fun n c' e => ?_, fun a ha => ?_⟩
  · rw [len] at hi hj
    by_cases h1 : i < S.length
    · by_cases h2 : j < S.length
      · rw [ext_lt h1, ext_lt h2] at e
        exact r.inj i j h1 h2 e
      · have e2 : j = S.length := by omega
        subst e2
        rw [ext_lt h1, ext_eq] at e
        exact absurd e (r.no1 h i h1)
    · have e1 : i = S.length := by omega
      subst e1
      by_cases h2 : j < S.length
      · rw [ext_lt h2, ext_eq] at e
        exact absurd e.symm (r.no1 h j h2)
      · omega
  · rw [len]
    by_cases h1 : n < S.length
    · rw [List.getElem?_append_left h1] at e
      rw [ext_lt h1]
      exact (r.cell n c' e).mono (Step.cell h k) fun o q => k _ _ q
    · have hn : n < (S ++ [c]).length := (List.getElem?_eq_some_iff.mp e).1
      have e1 : n = S.length := by rw [len] at hn; omega
      subst e1
      rw [List.getElem?_append_right (Nat.le_refl _)] at e
      simp at e
      subst e
      rw [ext_eq]
      exact hc
  · obtain ⟨⟨u, e⟩, q⟩ := r.flo a ha
    refine ⟨⟨u, k _ _ e⟩, fun n hn => ?_⟩
    rw [len] at hn
    by_cases h1 : n < S.length
    · rw [ext_lt h1]
      exact q n h1
    · have e1 : n = S.length := by omega
      subst e1
      rw [ext_eq]
      exact fun z => by rw [z, e] at h; cases h
/-- a cell is changed -/
theorem Step.write {n : Nat} {o u0 : HO} (hn : n < N) (hu : H (m n) = some u0) (nf : ∀ od u, u0 ≠ .frz od u := by intro _ _ z; cases z) : Step m N H m N (upd H (m n) o) :=
  ⟨Nat.le_refl _, fun _ _ => rfl, fun _ h => h, fun _ h => .inl h, fun n h1 h2 => absurd (Nat.lt_of_lt_of_le h2 h1) (Nat.lt_irrefl _), fun a u e q => by rw [upd_ne (fun z => q n hn z.symm)]; exact e, fun a u e => by
    by_cases z : a = m n
    · subst z
      exact ⟨o, upd_same⟩
    · exact ⟨u, by rw [upd_ne z]; exact e⟩, fun a od u e => by
    by_cases z : a = m n
    · subst z
      rw [hu] at e
      cases e
      exact absurd rfl (nf od u)
    · rw [upd_ne z]; exact e⟩
theorem Rel.write (r : Rel ct m S H) {n : Nat} {o u0 : HO} {c : Cell} (hn : n < S.length) (hu : H (m n) = some u0) (nf : ∀ od u, u0 ≠ .frz od u) (hc : CellOk ct (upd H (m n) o) m S.length (m n) c) : Rel ct m (S.set n c) (upd H (m n) o) := by
  refine ⟨fun i j hi hj e => r.inj i j (by simpa using hi) (by simpa using hj) e, fun k c' e => ?_, fun a ha => ?_⟩
  rw [List.length_set]
  by_cases h : k = n
  · subst h
    rw [List.getElem?_set_self hn] at e
    cases e
    exact hc
  · rw [List.getElem?_set_ne (Ne.symm h)] at e
    have hk : k < S.length := (List.getElem?_eq_some_iff.mp e).1
    exact (r.cell k c' e).mono (Step.write hn hu nf) fun u q => by
      rw [upd_ne (fun z => h (r.inj k n hk hn z))]
      exact q
  · obtain ⟨⟨u, e⟩, q⟩ := r.flo a ha
    rw [List.length_set]
    exact ⟨⟨u, by rw [upd_ne (fun z => q n hn z.symm)]; exact e⟩, q⟩
/-! ### a place that is being filled -/
def Mp.float (m : Mp) (p : Addr) : Mp := ⟨m.at_, p :: m.fl⟩
def Mp.reset (m : Mp) (L : List Addr) : Mp := ⟨m.at_, L⟩
theorem float_ne {a p : Addr} (q : NoC (m.float p) N a) : a ≠ p := fun z => q.2 (by rw [z]; exact List.mem_cons_self)
mutual
theorem Rp.float {p : Addr} {o : HO} (h : H p = none) : ∀ (d : D) (v : V), Rp H m N v d → Rp (upd H p o) (m.float p) N v d
  | .non, _, .non => .non
  | .bl _, _, .bl _ => .bl _
  | .int _, _, .int _ => .int _
  | .str _, _, .str _ => .str _
  | .lst ds, _, .lst e q r => .lst (by rw [upd_ne (ne_of_none e h)]; exact e) ⟨q.1, fun z => (List.mem_cons.mp z).elim (ne_of_none e h) q.2⟩ (RpL.float h ds _ r)
  | .tup ds, _, .tup e q r => .tup (by rw [upd_ne (ne_of_none e h)]; exact e) ⟨q.1, fun z => (List.mem_cons.mp z).elim (ne_of_none e h) q.2⟩ (RpL.float h ds _ r)
  | .exn a, _, .exn _ => .exn a
  | .fn _, _, .fn e h1 q1 h2 q2 => .fn e (by rw [upd_ne (ne_of_none h1 h)]; exact h1) ⟨q1.1, fun z => (List.mem_cons.mp z).elim (ne_of_none h1 h) q1.2⟩ (by rw [upd_ne (ne_of_none h2 h)]; exact h2) ⟨q2.1, fun z => (List.mem_cons.mp z).elim (ne_of_none h2 h) q2.2⟩
  | .ref n, _, .ref h => .ref (m := m.float p) h
theorem RpL.float {p : Addr} {o : HO} (h : H p = none) : ∀ (ds : List D) (vs : List V), RpL H m N vs ds → RpL (upd H p o) (m.float p) N vs ds
  | [], _, .nil => .nil
  | d :: ds, _, .cons q r => .cons (Rp.float h d _ q) (RpL.float h ds _ r)
end
mutual
theorem Rp.fill {p : Addr} {o : HO} (hp : p ∈ m.fl) : ∀ (d : D) (v : V), Rp H m N v d → Rp (upd H p o) m N v d
  | .non, _, .non => .non
  | .bl _, _, .bl _ => .bl _
  | .int _, _, .int _ => .int _
  | .str _, _, .str _ => .str _
  | .lst ds, _, .lst e q r => .lst (by rw [upd_ne (fun z => q.2 (by rw [z]; exact hp))]; exact e) q (RpL.fill hp ds _ r)
  | .tup ds, _, .tup e q r => .tup (by rw [upd_ne (fun z => q.2 (by rw [z]; exact hp))]; exact e) q (RpL.fill hp ds _ r)
  | .exn a, _, .exn _ => .exn a
  | .fn _, _, .fn e h1 q1 h2 q2 => .fn e (by rw [upd_ne (fun z => q1.2 (by rw [z]; exact hp))]; exact h1) q1 (by rw [upd_ne (fun z => q2.2 (by rw [z]; exact hp))]; exact h2) q2
  | .ref n, _, .ref h => .ref h
theorem RpL.fill {p : Addr} {o : HO} (hp : p ∈ m.fl) : ∀ (ds : List D) (vs : List V), RpL H m N vs ds → RpL (upd H p o) m N vs ds
  | [], _, .nil => .nil
  | d :: ds, _, .cons q r => .cons (Rp.fill hp d _ q) (RpL.fill hp ds _ r)
end
mutual
theorem Rp.reset {L : List Addr} (hL : ∀ p, p ∈ L → p ∈ m.fl) : ∀ (d : D) (v : V), Rp H m N v d → Rp H (m.reset L) N v d
  | .non, _, .non => .non
  | .bl _, _, .bl _ => .bl _
  | .int _, _, .int _ => .int _
  | .str _, _, .str _ => .str _
  | .lst ds, _, .lst e q r => .lst e ⟨q.1, fun z => q.2 (hL _ z)⟩ (RpL.reset hL ds _ r)
  | .tup ds, _, .tup e q r => .tup e ⟨q.1, fun z => q.2 (hL _ z)⟩ (RpL.reset hL ds _ r)
  | .exn a, _, .exn _ => .exn a
  | .fn _, _, .fn e h1 q1 h2 q2 => .fn e h1 ⟨q1.1, fun z => q1.2 (hL _ z)⟩ h2 ⟨q2.1, fun z => q2.2 (hL _ z)⟩
  | .ref n, _, .ref h => .ref (m := m.reset L) h
theorem RpL.reset {L : List Addr} (hL : ∀ p, p ∈ L → p ∈ m.fl) : ∀ (ds : List D) (vs : List V), RpL H m N vs ds → RpL H (m.reset L) N vs ds
  | [], _, .nil => .nil
  | d :: ds, _, .cons q r => .cons (Rp.reset hL d _ q) (RpL.reset hL ds _ r)
end
theorem RpF.map (f : ∀ d v, Rp H m N v d → Rp H' m' N' v d) : ∀ {vs : List (Str × V)} {ds : List (Str × D)}, RpF H m N vs ds → RpF H' m' N' vs ds
  | _, _, .nil => .nil
  | _, _, .cons h r => .cons (f _ _ h) (RpF.map f r)
theorem RpK.map (f : ∀ d v, Rp H m N v d → Rp H' m' N' v d) : ∀ {vs : List (Key × V)} {ds : List (Int × D)}, RpK H m N vs ds → RpK H' m' N' vs ds
  | _, _, .nil => .nil
  | _, _, .cons h r => .cons (f _ _ h) (RpK.map f r)
theorem CellOk.map (f : ∀ d v, Rp H m N v d → Rp H' m' N' v d) (g : ∀ ds vs, RpL H m N vs ds → RpL H' m' N' vs ds) (z : ∀ (c : Addr) (o : HO), H c = some o → NoC m N c → H' c = some o ∧ NoC m' N' c) {a : Addr} {c : Cell} (h : CellOk ct H m N a c) (k : ∀ o, H a = some o → H' a = some o) : CellOk ct H' m' N' a c := by
  cases c with
  | lst ds =>
    obtain ⟨vs, q, r⟩ := h
    exact ⟨vs, k _ q, g _ _ r⟩
  | ins c fs =>
    obtain ⟨dx, vs, q, r⟩ := h
    exact ⟨dx, vs, k _ q, r.map f⟩
  | dic kvs =>
    obtain ⟨vs, q, r⟩ := h
    exact ⟨vs, k _ q, r.map f⟩
  | lok ks =>
    obtain ⟨od, vs, q, r⟩ := h
    exact ⟨od, vs, k _ q, r⟩
  | tab j t =>
    obtain ⟨e, ps, q, r, f⟩ := h
    exact ⟨e, ps, k _ q, r, fun pos cv hc => let ⟨c, e1, e2, e3⟩ := f pos cv hc; let ⟨y1, y2⟩ := z _ _ e2 e3; ⟨c, e1, y1, y2⟩⟩
theorem Rel.float (r : Rel ct m S H) {p : Addr} {o : HO} (h : H p = none) : Rel ct (m.float p) S (upd H p o) := by
  refine ⟨r.inj, fun n c e => (r.cell n c e).map (fun d v => Rp.float h d v) (fun d v => RpL.float h d v) (fun c u e q => ⟨by rw [upd_ne (ne_of_none e h)]; exact e, ⟨q.1, fun z => (List.mem_cons.mp z).elim (ne_of_none e h) q.2⟩⟩) fun u q => by rw [upd_ne (ne_of_none q h)]; exact q, fun a ha => ?_⟩
  rcases List.mem_cons.mp ha with e | ha
  · subst e
    exact ⟨⟨o, upd_same⟩, r.no1 h⟩
  · obtain ⟨⟨u, e⟩, q⟩ := r.flo a ha
    exact ⟨⟨u, by rw [upd_ne (ne_of_none e h)]; exact e⟩, q⟩
theorem Rel.fill (r : Rel ct m S H) {p : Addr} {o : HO} (hp : p ∈ m.fl) : Rel ct m S (upd H p o) := by
  refine ⟨r.inj, fun n c e => (r.cell n c e).map (fun d v => Rp.fill hp d v) (fun d v => RpL.fill hp d v) (fun c u e q => ⟨by rw [upd_ne (fun z => q.2 (by rw [z]; exact hp))]; exact e, q⟩) fun u q => ?_, fun a ha => ?_⟩
  · rw [upd_ne ((r.flo p hp).2 n (List.getElem?_eq_some_iff.mp e).1)]
    exact q
  · obtain ⟨⟨u, e⟩, q⟩ := r.flo a ha
    by_cases z : a = p
    · subst z
      exact ⟨⟨o, upd_same⟩, q⟩
    · exact ⟨⟨u, by rw [upd_ne z]; exact e⟩, q⟩
theorem Rel.reset (r : Rel ct m S H) {L : List Addr} (hL : ∀ p, p ∈ L → p ∈ m.fl) : Rel ct (m.reset L) S H :=
  ⟨r.inj, fun n c e => (r.cell n c e).map (fun d v => Rp.reset hL d v) (fun d v => RpL.reset hL d v) (fun c u e q => ⟨e, ⟨q.1, fun z => q.2 (hL _ z)⟩⟩) fun u q => q, fun a ha => r.flo a (hL _ ha)⟩
/-- the whole loop, seen from ahead of it -/
theorem Step.reset (s : Step m N H m' N' H') : Step m N H (m'.reset m.fl) N' H' := ⟨s.le, s.ag, fun _ h => h, fun _ h => .inl h, s.fr, s.kp, s.th, s.fz⟩
theorem Step.float {p : Addr} {o : HO} (h : H p = none) : Step m N H (m.float p) N (upd H p o) :=
  ⟨Nat.le_refl _, fun _ _ => rfl, fun _ h => List.mem_cons_of_mem _ h, fun q hq => (List.mem_cons.mp hq).elim (fun e => .inr (by rw [e]; exact h)) .inl, fun n h1 h2 => absurd (Nat.lt_of_lt_of_le h2 h1) (Nat.lt_irrefl _),
    fun a u e _ => by rw [upd_ne (ne_of_none e h)]; exact e, fun a u e => ⟨u, by rw [upd_ne (ne_of_none e h)]; exact e⟩, fun a od u e => by rw [upd_ne (ne_of_none e h)]; exact e⟩
theorem Step.fill {p : Addr} {o : HO} (s : Step m N H m' N' H') (h : H p = none) : Step m N H m' N' (upd H' p o) :=
  ⟨s.le, s.ag, s.fq1, s.fq2, s.fr, fun a u e q => by rw [upd_ne (ne_of_none e h)]; exact s.kp a u e q, fun a u e => by
    obtain ⟨u', e'⟩ := s.th a u e
    exact ⟨u', by rw [upd_ne (ne_of_none e h)]; exact e'⟩, fun a od u e => by rw [upd_ne (ne_of_none e h)]; exact s.fz a od u e⟩
end

/-- the slots -/
structure EnvR (H : Hp) (m : Mp) (N : Nat) (σ : St) (G : Gm) : Prop where
  len : σ.length = G.length
  at_ : ∀ (i : Nat) (d : D), G[i]? = some (some d) → ∃ v, σ[i]? = some (some v) ∧ Rp H m N v d
section
variable {H H' : Hp} {m m' : Mp} {N N' : Nat} {σ : St} {G : Gm}
theorem EnvR.mono (s : Step m N H m' N' H') (e : EnvR H m N σ G) : EnvR H' m' N' σ G := ⟨e.len, fun i d h => let ⟨v, a, b⟩ := e.at_ i d h; ⟨v, a, Rp.mono s _ _ b⟩⟩
theorem EnvR.set (e : EnvR H m N σ G) {v : V} {d : D} (h : Rp H m N v d) (i : Nat) : EnvR H m N (σ.set i (some v)) (G.set i (some d)) := by
  refine ⟨by rw [List.length_set, List.length_set]; exact e.len, fun j d' hj => ?_⟩
  by_cases hi : i = j
  · subst hi
    have hl : i < (G.set i (some d)).length := (List.getElem?_eq_some_iff.mp hj).1
    rw [List.length_set] at hl
    rw [List.getElem?_set_self hl] at hj
    cases hj
    exact ⟨v, by rw [List.getElem?_set_self (by rw [e.len]; exact hl)], h⟩
  · rw [List.getElem?_set_ne hi] at hj ⊢
    exact e.at_ j d' hj
/-- slots forgotten -/
theorem EnvR.weak {G' : Gm} (e : EnvR H m N σ G) (hl : G'.length = G.length) (h : ∀ (i : Nat) (d : D), G'[i]? = some (some d) → G[i]? = some (some d)) : EnvR H m N σ G' :=
  ⟨e.len.trans hl.symm, fun i d q => e.at_ i d (h i d q)⟩
end
def wipeG (G : Gm) : List Nat → Gm
  | [] => G
  | v :: vs => (wipeG G vs).set v none
section
variable {H H' : Hp} {m m' : Mp} {N N' : Nat} {σ : St} {G : Gm}
theorem wipeG_length (G : Gm) : ∀ vs, (wipeG G vs).length = G.length
  | [] => rfl
  | v :: vs => by rw [wipeG, List.length_set, wipeG_length G vs]
theorem EnvR.wipes (e : EnvR H m N σ G) : ∀ vs, EnvR H m N (wipe σ vs) (wipeG G vs)
  | [] => e
  | v :: vs => by
    have ih := EnvR.wipes e vs
    refine ⟨by rw [wipe, wipeG, List.length_set, List.length_set]; exact ih.len, fun i d h => ?_⟩
    rw [wipeG] at h
    rw [wipe]
    by_cases hi : v = i
    · subst hi
      have hl : v < ((wipeG G vs).set v none).length := (List.getElem?_eq_some_iff.mp h).1
      rw [List.length_set] at hl
      rw [List.getElem?_set_self hl] at h
      cases h
    · rw [List.getElem?_set_ne hi] at h ⊢
      exact ih.at_ i d h
theorem EnvR.wipeW (e : EnvR H m N σ G) : ∀ vs, EnvR H m N σ (wipeG G vs)
  | [] => e
  | v :: vs => by
    have ih := EnvR.wipeW e vs
    refine ⟨by rw [wipeG, List.length_set]; exact ih.len, fun i d h => ?_⟩
    rw [wipeG] at h
    by_cases hi : v = i
    · subst hi
      have hl : v < ((wipeG G vs).set v none).length := (List.getElem?_eq_some_iff.mp h).1
      rw [List.length_set] at hl
      rw [List.getElem?_set_self hl] at h
      cases h
    · rw [List.getElem?_set_ne hi] at h
      exact ih.at_ i d h
end

/-! ### what it means that f tells the worth of e -/
def EvW (X : Cx) (e : Expr) (σ : St) (H : Hp) (Q : VK) : Prop := ∀ pins s, Inv X pins σ H s → wpAny (model X.prog X.w) X.A (eval e X.env) (EP X pins σ Q) X.xe s
section
variable {X : Cx} {e : Expr} {σ : St} {H : Hp} {Q Q' : VK}
theorem pe_w : PE X e (EvW X e) := ⟨fun pins s _ _ _ I h => h pins s I⟩
theorem EvW.of {t : TE} (h : PE X e t) (q : t σ H Q) : EvW X e σ H Q := fun pins s I => h.run pins s σ H Q I q
theorem EvW.mono (h : EvW X e σ H Q) (k : ∀ v H', Q v H' → Q' v H') : EvW X e σ H Q' := fun pins s I =>
  thn (h pins s I) fun u s' ⟨v, H', I', r, q⟩ => ⟨v, H', I', r, k v H' q⟩
end
/-- what is wanted behind a value-like end -/
def PostE (ct : Nat → Addr) (W : WX) (σ : St) (m : Mp) (N : Nat) (H : Hp) (Q : VK) : ER → Prop
  | .ok d S' => ∀ v m' H', Rel ct m' S' H' → Step m N H m' S'.length H' → Rp H' m' S'.length v d → Q v H'
  | .xc c S' => ∀ m' H', Rel ct m' S' H' → Step m N H m' S'.length H' → W (.ref (ct c)) none σ H'
  | .stuck => False
structure SndE (ct : Nat → Addr) (X : Cx) (W : WX) (e : Expr) (f : Ev) : Prop where
  mk ::
  run : ∀ (σ : St) (H : Hp) (m : Mp) (S : Store) (G : Gm) (Q : VK), Rel ct m S H → EnvR H m S.length σ G → PostE ct W σ m S.length H Q (f G S) → EvW X e σ H Q
instance {ct : Nat → Addr} {X : Cx} {W : WX} {e : Expr} {f : Ev} : CoeFun (SndE ct X W e f) (fun _ => ∀ (σ : St) (H : Hp) (m : Mp) (S : Store) (G : Gm) (Q : VK), Rel ct m S H → EnvR H m S.length σ G → PostE ct W σ m S.length H Q (f G S) → EvW X e σ H Q) := ⟨SndE.run⟩

section
variable {ct : Nat → Addr} {X : Cx} {W : WX} {e a b : Expr} {f fa fb : Ev} {σ : St} {H H' : Hp} {m m' : Mp} {S S' : Store} {G : Gm} {Q : VK} {N N' : Nat}
theorem PostE.step (s : Step m N H m' N' H') {r : ER} (h : PostE ct W σ m N H Q r) : PostE ct W σ m' N' H' Q r := by
  cases r with
  | ok d S2 => exact fun v m2 H2 r2 t p => h v m2 H2 r2 (s.trans t) p
  | xc c S2 => exact fun m2 H2 r2 t => h m2 H2 r2 (s.trans t)
  | stuck => exact h
/-- first this, then what k says -/
theorem SndE.bind (ha : SndE ct X W a fa) (r : Rel ct m S H) (en : EnvR H m S.length σ G) {k : D → Store → ER} (h : PostE ct W σ m S.length H Q ((fa G S).bind k)) :
    EvW X a σ H fun v H1 => ∃ d m1 S1, Rel ct m1 S1 H1 ∧ Step m S.length H m1 S1.length H1 ∧ Rp H1 m1 S1.length v d ∧ EnvR H1 m1 S1.length σ G ∧ PostE ct W σ m1 S1.length H1 Q (k d S1) := by
  refine ha σ H m S G _ r en ?_
  cases e : fa G S with
  | ok d S1 =>
    rw [e] at h
    intro v m1 H1 r1 st p
    exact ⟨d, m1, S1, r1, st, p, en.mono st, PostE.step st h⟩
  | xc c S1 =>
    rw [e] at h
    exact h
  | stuck =>
    rw [e] at h
    exact h
theorem PostE.now {v : V} {d : D} (h : PostE ct W σ m S.length H Q (.ok d S)) (r : Rel ct m S H) (p : Rp H m S.length v d) : Q v H := h v m H r Step.refl p
/-- a place in a state of ours: a new list, tuple -/
theorem PostE.newL {ds : List D} {vs : List V} {p : Addr} (h : PostE ct W σ m S.length H Q (.ok (.lst ds) S)) (r : Rel ct m S H) (hp : H p = none) (q : RpL H m S.length vs ds) : Q (.ref p) (upd H p (.lst vs)) :=
  h _ m _ (r.new hp) (Step.new hp) (rp_newL r hp q)
theorem PostE.newT {ds : List D} {vs : List V} {p : Addr} (h : PostE ct W σ m S.length H Q (.ok (.tup ds) S)) (r : Rel ct m S H) (hp : H p = none) (q : RpL H m S.length vs ds) : Q (.ref p) (upd H p (.tup vs)) :=
  h _ m _ (r.new hp) (Step.new hp) (rp_newT r hp q)
theorem PostE.newC {ds : List D} {vs : List V} {p : Addr} (h : PostE ct W σ m S.length H Q (.ok (.ref S.length) (S ++ [.lst ds]))) (r : Rel ct m S H) (hp : H p = none) (q : RpL H m S.length vs ds) : Q (.ref p) (upd H p (.lst vs)) := by
  have k : ∀ a o, H a = some o → upd H p (.lst vs) a = some o := fun a u e => by rw [upd_ne (ne_of_none e hp)]; exact e
  have st : Step m S.length H (ext m S.length p) (S.length + 1) (upd H p (.lst vs)) := Step.cell hp k
  have len : (S ++ [Cell.lst ds]).length = S.length + 1 := by simp
  have h2 : ∀ (v : V) (m' : Mp) (H' : Hp), Rel ct m' (S ++ [Cell.lst ds]) H' → Step m S.length H m' (S ++ [Cell.lst ds]).length H' → Rp H' m' (S ++ [Cell.lst ds]).length v (.ref S.length) → Q v H' := h
  rw [len] at h2
  refine h2 _ (ext m S.length p) _ (r.cellNew hp k ⟨vs, upd_same, RpL.mono st _ _ q⟩) st ?_
  have e : V.ref p = V.ref (ext m S.length p S.length) := by rw [ext_eq]
  rw [e]
  exact .ref (Nat.lt_succ_self _)

/-! ### names and constants -/
def eC (d : D) : Ev := fun _ S => .ok d S
def eVar (i : Nat) : Ev := fun G S => match G[i]? with
  | some (some d) => .ok d S
  | _ => .stuck
theorem snd_int {i j pos} : SndE ct X W (.Constant (.int i) j pos) (eC (.int i)) := by
  refine ⟨?_⟩
  exact fun _ _ _ _ _ _ r _ h => .of pe_int (h.now r (.int i))
theorem snd_bl {i j pos} : SndE ct X W (.Constant (.bool i) j pos) (eC (.bl i)) := by
  refine ⟨?_⟩
  exact fun _ _ _ _ _ _ r _ h => .of pe_bl (h.now r (.bl i))
theorem snd_non {j pos} : SndE ct X W (.Constant .none j pos) (eC .non) := by
  refine ⟨?_⟩
  exact fun _ _ _ _ _ _ r _ h => .of pe_non (h.now r .non)
theorem snd_str {i j pos} : SndE ct X W (.Constant (.str i) j pos) (eC (.str i)) := by
  refine ⟨?_⟩
  exact fun _ _ _ _ _ _ r _ h => .of pe_str (h.now r (.str i))
theorem snd_var (i : Nat) {x : Str} {pos : Pos} (hN : X.N[i]? = some x) (hv : Vis X.env.scope x) (hd : (x == ("__debug__" : Str)) = false := by decide) (hcd : (x == ("__classdict__" : Str)) = false := by decide) : SndE ct X W (.Name x pos) (eVar i) := by
  refine ⟨?_⟩
  intro σ H m S G Q r en h
  refine .of (pe_var hN hv hd hcd) ?_
  unfold eVar at h
  split at h
  · rename_i d e
    obtain ⟨v, hv, p⟩ := en.at_ i d e
    exact ⟨v, hv, h.now r p⟩
  · exact h.elim
/-- a module's int -/
theorem snd_gint {x : Str} {i : Int} {pos : Pos} (hg : Gl X x) (hm : ∃ t, X.mg x = some (.int i t)) (hd : (x == ("__debug__" : Str)) = false := by decide) : SndE ct X W (.Name x pos) (eC (.int i)) := by
  refine ⟨?_⟩
  intro σ H m S G Q r en h
  obtain ⟨t, hm⟩ := hm
  exact .of (pe_glob (v := V.int i) hg hm ⟨t, rfl⟩ hd) (h.now r (.int i))

/-! ### operators by values -/
abbrev Op2 := D → D → Store → ER
abbrev Op1 := D → Store → ER
/-- g on values is what o tells -/
structure SndO (ct : Nat → Addr) (X : Cx) (W : WX) (g : Value → Value → Sem Value) (o : Op2) : Prop where
  mk ::
  run : ∀ (σ : St) (H : Hp) (m : Mp) (S : Store) (x y : V) (d e : D) (Q : VK), Rel ct m S H → Rp H m S.length x d → Rp H m S.length y e → PostE ct W σ m S.length H Q (o d e S) →
    ∀ pins s v u, Inv X pins σ H s → RelV x v → RelV y u → wpAny (model X.prog X.w) X.A (g v u) (EP X pins σ Q) X.xe s
instance {ct : Nat → Addr} {X : Cx} {W : WX} {g : Value → Value → Sem Value} {o : Op2} : CoeFun (SndO ct X W g o) (fun _ => ∀ (σ : St) (H : Hp) (m : Mp) (S : Store) (x y : V) (d e : D) (Q : VK), Rel ct m S H → Rp H m S.length x d → Rp H m S.length y e → PostE ct W σ m S.length H Q (o d e S) →     ∀ pins s v u, Inv X pins σ H s → RelV x v → RelV y u → wpAny (model X.prog X.w) X.A (g v u) (EP X pins σ Q) X.xe s) := ⟨SndO.run⟩
def eOp (o : Op2) (fa fb : Ev) : Ev := fun G S => (fa G S).bind fun x S1 => (fb G S1).bind fun y S2 => o x y S2
theorem two {R : V → V → Hp → Prop} {o : Op2} (ha : SndE ct X W a fa) (hb : SndE ct X W b fb) (r : Rel ct m S H) (en : EnvR H m S.length σ G) (h : PostE ct W σ m S.length H Q (eOp o fa fb G S))
    (k : ∀ x y d e H2 m2 S2, Rel ct m2 S2 H2 → Rp H2 m2 S2.length x d → Rp H2 m2 S2.length y e → PostE ct W σ m2 S2.length H2 Q (o d e S2) → R x y H2) :
    EvW X a σ H fun x H1 => EvW X b σ H1 fun y H2 => R x y H2 := by
  refine (ha.bind r en h).mono fun x H1 ⟨d, m1, S1, r1, st1, p1, en1, h1⟩ => ?_
  refine (hb.bind r1 en1 h1).mono fun y H2 ⟨e, m2, S2, r2, st2, p2, en2, h2⟩ => ?_
  exact k x y d e H2 m2 S2 r2 (Rp.mono st2 _ _ p1) p2 h2
theorem snd_bin {op : Operator} {o : Op2} {pos : Pos} (ho : SndO ct X W (binaryOp op) o) (ha : SndE ct X W a fa) (hb : SndE ct X W b fb) : SndE ct X W (.BinOp a op b pos) (eOp o fa fb) := by
  refine ⟨?_⟩
  intro σ H m S G Q r en h pins s I
  refine wpAny_BinOp (bin pe_w pe_w I (two ha hb r en h fun x y d e H2 m2 S2 r2 p q h2 => (fun pins s v u I rx ry => ho σ H2 m2 S2 x y d e Q r2 p q h2 pins s v u I rx ry : ∀ pins s v u, Inv X pins σ H2 s → RelV x v → RelV y u → wpAny (model X.prog X.w) X.A (binaryOp op v u) (EP X pins σ Q) X.xe s)) fun v u s2 x y H2 I2 rx ry q => ?_)
  exact q pins s2 v u I2 rx ry
theorem snd_cmp {op : CmpOp} {o : Op2} {pos : Pos} (ho : SndO ct X W (compareOp op) o) (ha : SndE ct X W a fa) (hb : SndE ct X W b fb) (hm : behindInMarks op b = false) : SndE ct X W (.Compare a [op] [b] pos) (eOp o fa fb) := by
  refine ⟨?_⟩
  intro σ H m S G Q r en h pins s I
  refine wpAny_Compare1 (bin pe_w pe_w I (two ha hb r en h fun x y d e H2 m2 S2 r2 p q h2 => (fun pins s v u I rx ry => ho σ H2 m2 S2 x y d e Q r2 p q h2 pins s v u I rx ry : ∀ pins s v u, Inv X pins σ H2 s → RelV x v → RelV y u → wpAny (model X.prog X.w) X.A (compareOp op v u) (EP X pins σ Q) X.xe s)) fun v u s2 x y H2 I2 rx ry q => ?_) hm
  exact q pins s2 v u I2 rx ry
theorem SndO.of {g : Value → Value → Sem Value} {o : Op2} {r : R2} (h : OpR X g r)
    (k : ∀ (σ : St) (H : Hp) (m : Mp) (S : Store) (x y : V) (d e : D) (Q : VK), Rel ct m S H → Rp H m S.length x d → Rp H m S.length y e → PostE ct W σ m S.length H Q (o d e S) → r x y H Q) : SndO ct X W g o := by
  refine ⟨?_⟩
  exact fun σ H m S x y d e Q rl p q ho pins s v u I rx ry => h pins s σ H x y v u Q I rx ry (k σ H m S x y d e Q rl p q ho)
end
end L2.VE
/-! VE2: operators, comparisons, subscripts, slices, displays, tests. -/
namespace L2.VE
open PySem PySem.Spec PyProof.Rows

def lsOf (S : Store) : D → Option (List D)
  | .lst xs => some xs
  | .ref n => match S[n]? with
    | some (.lst xs) => some xs
    | _ => none
  | _ => none
def seqOf (S : Store) : D → Option (List D)
  | .lst xs => some xs
  | .tup xs => some xs
  | .ref n => match S[n]? with
    | some (.lst xs) => some xs
    | _ => none
  | _ => none
section
variable {ct : Nat → Addr} {X : Cx} {W : WX} {e a b c : Expr} {f fa fb fc : Ev} {σ : St} {H H' : Hp} {m m' : Mp} {S S' : Store} {G : Gm} {Q : VK} {N N' : Nat}
theorem lsOf_rp {v : V} {d : D} {ds : List D} (r : Rel ct m S H) (p : Rp H m S.length v d) (h : lsOf S d = some ds) : ∃ a vs, v = .ref a ∧ H a = some (.lst vs) ∧ RpL H m S.length vs ds := by
  unfold lsOf at h
  split at h
  · cases h
    cases p with
    | lst h1 _ h2 => exact ⟨_, _, rfl, h1, h2⟩
  · rename_i n
    split at h
    · rename_i xs e
      cases h
      cases p
      obtain ⟨vs, h1, h2⟩ := r.cell n _ e
      exact ⟨_, vs, rfl, h1, h2⟩
    · cases h
  · cases h
theorem seqOf_rp {v : V} {d : D} {ds : List D} (r : Rel ct m S H) (p : Rp H m S.length v d) (h : seqOf S d = some ds) : ∃ a vs, v = .ref a ∧ (H a = some (.lst vs) ∨ H a = some (.tup vs)) ∧ RpL H m S.length vs ds := by
  unfold seqOf at h
  split at h
  · cases h
    cases p with
    | lst h1 _ h2 => exact ⟨_, _, rfl, .inl h1, h2⟩
  · cases h
    cases p with
    | tup h1 _ h2 => exact ⟨_, _, rfl, .inr h1, h2⟩
  · rename_i n
    split at h
    · rename_i xs e
      cases h
      cases p
      obtain ⟨vs, h1, h2⟩ := r.cell n _ e
      exact ⟨_, vs, rfl, .inl h1, h2⟩
    · cases h
  · cases h
theorem size_le {n : Nat} (h : n ≤ 100000) : n ≤ sizeLine := Nat.le_trans h (by decide)
theorem size_lt {n : Nat} (h : n ≤ 100000) : n < sizeLine := Nat.lt_of_le_of_lt h (by decide)

/-! ### sums, products -/
def opAdd : Op2 := fun d e S =>
  match d, e with
  | .int i, .int j => .ok (.int (i + j)) S
  | .str s, .str t => if s.length + t.length ≤ 100000 then .ok (.str (s ++ t)) S else .stuck
  | .tup xs, .tup ys => if xs.length + ys.length ≤ 100000 then .ok (.tup (xs ++ ys)) S else .stuck
  | d, e => match lsOf S d, lsOf S e with
    | some xs, some ys => if xs.length + ys.length ≤ 100000 then .ok (.lst (xs ++ ys)) S else .stuck
    | _, _ => .stuck
theorem so_add : SndO ct X W (binaryOp .Add) opAdd := by
  refine ⟨?_⟩
  intro σ H m S x y d e Q r p q h pins s v u I rx ry
  unfold opAdd at h
  split at h
  · cases p
    cases q
    exact op_add pins s σ H _ _ v u Q I rx ry ⟨_, _, rfl, rfl, h.now r (.int _)⟩
  · cases p
    cases q
    split at h
    · rename_i hz
      exact op_add_str pins s σ H _ _ v u Q I rx ry ⟨_, _, rfl, rfl, size_le hz, h.now r (.str _)⟩
    · exact h.elim
  · cases p with
    | tup h1 c1 l1 =>
      cases q with
      | tup h2 c2 l2 =>
        split at h
        · rename_i hz
          refine op_catA pins s σ H _ _ v u Q I rx ry ⟨_, _, _, _, rfl, rfl, SqT.of h1, SqT.of h2, by rw [l1.length, l2.length]; exact size_le hz, fun e0 => ?_, fun _ e0 => ?_, fun _ _ p hp => ?_⟩
          · subst e0
            cases l1
            exact h.now r (.tup h2 c2 l2)
          · subst e0
            cases l2
            rw [List.append_nil] at h
            exact h.now r (.tup h1 c1 l1)
          · exact h.newT r hp (l1.append l2)
        · exact h.elim
  · split at h
    · rename_i e1 e2
      split at h
      · rename_i hz
        obtain ⟨a1, v1, rfl, h1, l1⟩ := lsOf_rp r p e1
        obtain ⟨a2, v2, rfl, h2, l2⟩ := lsOf_rp r q e2
        exact op_cat pins s σ H _ _ v u Q I rx ry ⟨_, _, _, _, rfl, rfl, h1, h2, by rw [l1.length, l2.length]; exact size_le hz, fun p hp => h.newL r hp (l1.append l2)⟩
      · exact h.elim
    · exact h.elim
def opSub : Op2 := fun d e S => match d, e with
  | .int i, .int j => .ok (.int (i - j)) S
  | _, _ => .stuck
theorem so_sub : SndO ct X W (binaryOp .Sub) opSub := by
  refine ⟨?_⟩
  intro σ H m S x y d e Q r p q h pins s v u I rx ry
  unfold opSub at h
  split at h
  · cases p
    cases q
    exact op_sub pins s σ H _ _ v u Q I rx ry ⟨_, _, rfl, rfl, h.now r (.int _)⟩
  · exact h.elim
theorem mul_fits {i j : Int} (h : i.natAbs.log2 + j.natAbs.log2 < 100000000) : IntMulOk i j := by
  have b : ∀ x : Int, Builtin.Int.intBits x ≤ x.natAbs.log2 + 1 := fun x => by
    unfold Builtin.Int.intBits
    split <;> omega
  have h1 := b i
  have h2 := b j
  have e : bitsLine = 134217728 := by decide
  unfold IntMulOk
  intro z
  rw [Bool.and_eq_true] at z
  have z2 := z.2
  unfold Builtin.Int.intTooBig at z2
  have z3 := of_decide_eq_true z2
  rw [e] at z3
  omega
theorem op_mulX : OpR X (binaryOp .Mult) (rI (fun i j => i.natAbs.log2 + j.natAbs.log2 < 100000000) fun i j => .int (i * j)) := opI fun _ _ _ _ _ _ _ hc q => mul_int q (mul_fits hc)
def repD (n : Nat) (xs : List D) : List D := (List.replicate n xs).flatten
theorem RpL.rep {vs : List V} {ds : List D} (h : RpL H m N vs ds) : ∀ n, RpL H m N (List.replicate n vs).flatten (repD n ds)
  | 0 => .nil
  | n + 1 => by
    rw [repD, List.replicate_succ, List.replicate_succ, List.flatten_cons, List.flatten_cons]
    exact h.append (RpL.rep h n)
def opMul : Op2 := fun d e S => match d, e with
  | .int i, .int j => if i.natAbs.log2 + j.natAbs.log2 < 100000000 then .ok (.int (i * j)) S else .stuck
  | d, .int k => match lsOf S d with
    | some xs => if 0 ≤ k ∧ k ≤ 1000 ∧ xs.length ≤ 100 then .ok (.lst (repD k.toNat xs)) S else .stuck
    | none => .stuck
  | _, _ => .stuck
theorem so_mul : SndO ct X W (binaryOp .Mult) opMul := by
  refine ⟨?_⟩
  intro σ H m S x y d e Q r p q h pins s v u I rx ry
  unfold opMul at h
  split at h
  · cases p
    cases q
    split at h
    · rename_i hz
      exact op_mulX pins s σ H _ _ v u Q I rx ry ⟨_, _, rfl, rfl, hz, h.now r (.int _)⟩
    · exact h.elim
  · rename_i k _
    split at h
    · rename_i xs e1
      split at h
      · rename_i hz
        obtain ⟨a1, v1, rfl, h1, l1⟩ := lsOf_rp r p e1
        cases q
        obtain ⟨z1, z2, z3⟩ := hz
        refine op_rep pins s σ H _ _ v u Q I rx ry ⟨_, k, _, rfl, rfl, h1, by omega, by omega, ?_, fun p hp => h.newL r hp (l1.rep _)⟩
        rw [l1.length]
        have : xs.length * k.toNat ≤ 100 * 1000 := Nat.mul_le_mul z3 (by omega)
        exact size_le (Nat.le_trans this (by decide))
      · exact h.elim
    · exact h.elim
  · exact h.elim
def opMod : Op2 := fun d e S => match d, e with
  | .int i, .int j => if 0 < j then .ok (.int (i % j)) S else .stuck
  | _, _ => .stuck
theorem so_mod : SndO ct X W (binaryOp .Mod) opMod := by
  refine ⟨?_⟩
  intro σ H m S x y d e Q r p q h pins s v u I rx ry
  unfold opMod at h
  split at h
  · cases p
    cases q
    split at h
    · rename_i hz
      exact op_mod pins s σ H _ _ v u Q I rx ry ⟨_, _, rfl, rfl, hz, h.now r (.int _)⟩
    · exact h.elim
  · exact h.elim
def opFdiv : Op2 := fun d e S => match d, e with
  | .int i, .int j => if 0 < j ∧ j.natAbs.log2 < 9000 then .ok (.int (i / j)) S else .stuck
  | _, _ => .stuck
theorem so_fdiv : SndO ct X W (binaryOp .FloorDiv) opFdiv := by
  refine ⟨?_⟩
  intro σ H m S x y d e Q r p q h pins s v u I rx ry
  unfold opFdiv at h
  split at h
  · cases p
    cases q
    split at h
    · rename_i hz
      exact op_fdivW pins s σ H _ _ v u Q I rx ry ⟨_, _, rfl, rfl, hz, h.now r (.int _)⟩
    · exact h.elim
  · exact h.elim
def opShr : Op2 := fun d e S => match d, e with
  | .int i, .int j => if 0 ≤ j then .ok (.int (i / 2 ^ j.toNat)) S else .stuck
  | _, _ => .stuck
theorem so_shr : SndO ct X W (binaryOp .RShift) opShr := by
  refine ⟨?_⟩
  intro σ H m S x y d e Q r p q h pins s v u I rx ry
  unfold opShr at h
  split at h
  · cases p
    cases q
    split at h
    · rename_i hz
      exact op_shr pins s σ H _ _ v u Q I rx ry ⟨_, _, rfl, rfl, hz, h.now r (.int _)⟩
    · exact h.elim
  · exact h.elim
def opPow : Op2 := fun d e S => match d, e with
  | .int i, .int j => if 0 ≤ j ∧ j ≤ 1000 ∧ i.natAbs < 2 ^ 64 then .ok (.int (i ^ j.toNat)) S else .stuck
  | _, _ => .stuck
theorem so_pow : SndO ct X W (binaryOp .Pow) opPow := by
  refine ⟨?_⟩
  intro σ H m S x y d e Q r p q h pins s v u I rx ry
  unfold opPow at h
  split at h
  · cases p
    cases q
    split at h
    · rename_i hz
      exact op_pow pins s σ H _ _ v u Q I rx ry ⟨_, _, rfl, rfl, ⟨hz.1, by omega, hz.2.2⟩, h.now r (.int _)⟩
    · exact h.elim
  · exact h.elim

/-! ### comparisons -/
def opCmp (g : Int → Int → Bool) : Op2 := fun d e S => match d, e with
  | .int i, .int j => .ok (.bl (g i j)) S
  | _, _ => .stuck
theorem so_cmp {op : CmpOp} {g : Int → Int → Bool} (ho : OpR X (compareOp op) (rI0 fun i j => .bl (g i j))) : SndO ct X W (compareOp op) (opCmp g) := by
  refine ⟨?_⟩
  intro σ H m S x y d e Q r p q h pins s v u I rx ry
  unfold opCmp at h
  split at h
  · cases p
    cases q
    exact ho pins s σ H _ _ v u Q I rx ry ⟨_, _, rfl, rfl, h.now r (.bl _)⟩
  · exact h.elim
def opLt : Op2 := opCmp fun i j => decide (i < j)
def opLe : Op2 := opCmp fun i j => decide (i ≤ j)
def opGt : Op2 := opCmp fun i j => decide (j < i)
def opGe : Op2 := opCmp fun i j => decide (j ≤ i)
theorem so_lt : SndO ct X W (compareOp .Lt) opLt := so_cmp op_lt
theorem so_le : SndO ct X W (compareOp .LtE) opLe := so_cmp op_le
theorem so_gt : SndO ct X W (compareOp .Gt) opGt := so_cmp op_gt
theorem so_ge : SndO ct X W (compareOp .GtE) opGe := so_cmp op_ge

/-! ### == -/
def pyL (g : D → Option PyData) : List D → Option (List PyData)
  | [] => some []
  | d :: ds => match g d, pyL g ds with
    | some p, some ps => some (p :: ps)
    | _, _ => none
def pyD (S : Store) : Nat → D → Option PyData
  | _, .non => some .none
  | _, .bl b => some (.bool b)
  | _, .int i => some (.int i)
  | _, .str s => if PyData.strOk s = true then some (.str s) else none
  | n + 1, .lst xs => match pyL (pyD S n) xs with
    | some ps => some (.list ps)
    | none => none
  | n + 1, .tup xs => match pyL (pyD S n) xs with
    | some ps => some (.tuple ps)
    | none => none
  | n + 1, .ref k => match S[k]? with
    | some (.lst xs) => match pyL (pyD S n) xs with
      | some ps => some (.list ps)
      | none => none
    | _ => none
  | 0, .lst _ => none
  | 0, .tup _ => none
  | 0, .ref _ => none
  | _, .exn _ => none
  | _, .fn _ => none
theorem pyL_dp {K : PySem.W.Frag} {g : D → Option PyData} (hg : ∀ d v p, Rp H m N v d → g d = some p → Dp K H v p) : ∀ {ds : List D} {vs : List V} {ps : List PyData}, RpL H m N vs ds → pyL g ds = some ps → DpAll K H vs ps
  | [], _, _, .nil, h => by
    cases h
    exact .nil
  | d :: ds, _, _, .cons q r, h => by
    rw [pyL] at h
    split at h
    · rename_i p ps e1 e2
      cases h
      exact .cons (hg d _ p q e1) (pyL_dp hg r e2)
    · cases h
theorem pyD_dp {K : PySem.W.Frag} (r : Rel ct m S H) : ∀ (n : Nat) (d : D) (v : V) (p : PyData), Rp H m S.length v d → pyD S n d = some p → Dp K H v p := by
  intro n
  induction n with
  | zero =>
    intro d v p q h
    cases q <;> simp only [pyD] at h <;> try cases h
    · exact .non
    · exact .bl _
    · exact .int _
    · split at h
      · cases h
        exact .str _
      · cases h
  | succ n ih =>
    intro d v p q h
    cases q with
    | non => cases h; exact .non
    | bl => cases h; exact .bl _
    | int => cases h; exact .int _
    | str =>
      simp only [pyD] at h
      split at h
      · cases h
        exact .str _
      · cases h
    | lst h1 _ h2 =>
      simp only [pyD] at h
      split at h
      · rename_i ps e
        cases h
        exact .lst (SqL.of h1) (pyL_dp ih h2 e)
      · cases h
    | tup h1 _ h2 =>
      simp only [pyD] at h
      split at h
      · rename_i ps e
        cases h
        exact .tup (SqT.of h1) (pyL_dp ih h2 e)
      · cases h
    | @ref k hk =>
      simp only [pyD] at h
      split at h
      · rename_i xs e0
        split at h
        · rename_i ps e
          cases h
          obtain ⟨vs, h1, h2⟩ := r.cell k _ e0
          exact .lst (SqL.of h1) (pyL_dp ih h2 e)
        · cases h
      · cases h
    | exn =>
      simp only [pyD] at h
      cases h
    | fn =>
      simp only [pyD] at h
      cases h
theorem pyL_lay {g : D → Option PyData} {k : Nat} (hg : ∀ d p, g d = some p → p.canLay0 = true ∧ p.depth ≤ k) : ∀ {ds : List D} {ps : List PyData}, pyL g ds = some ps → PyData.canLayAll0 ps = true ∧ PyData.depthAll ps ≤ k
  | [], _, h => by
    cases h
    exact ⟨rfl, by simp [PyData.depthAll]⟩
  | d :: ds, _, h => by
    rw [pyL] at h
    split at h
    · rename_i p ps e1 e2
      cases h
      have h1 := hg d p e1
      have h2 := pyL_lay hg e2
      refine ⟨?_, ?_⟩
      · rw [PyData.canLayAll0, h1.1, h2.1]
        rfl
      · simp only [PyData.depthAll]
        omega
    · cases h
theorem pyD_lay : ∀ (n : Nat) (d : D) (p : PyData), pyD S n d = some p → p.canLay0 = true ∧ p.depth ≤ n + 1 := by
  intro n
  induction n with
  | zero =>
    intro d p h
    cases d <;> simp only [pyD] at h <;> try cases h
    · exact ⟨rfl, by simp [PyData.depth]⟩
    · exact ⟨rfl, by simp [PyData.depth]⟩
    · exact ⟨rfl, by simp [PyData.depth]⟩
    · split at h
      · cases h
        exact ⟨by rw [PyData.canLay0]; assumption, by simp [PyData.depth]⟩
      · cases h
  | succ n ih =>
    intro d p h
    cases d <;> simp only [pyD] at h <;> try cases h
    · exact ⟨rfl, by simp [PyData.depth]⟩
    · exact ⟨rfl, by simp [PyData.depth]⟩
    · exact ⟨rfl, by simp [PyData.depth]⟩
    · split at h
      · cases h
        exact ⟨by rw [PyData.canLay0]; assumption, by simp [PyData.depth]⟩
      · cases h
    · split at h
      · rename_i ps e
        cases h
        have q := pyL_lay ih e
        exact ⟨by rw [PyData.canLay0]; exact q.1, by simp only [PyData.depth]; omega⟩
      · cases h
    · split at h
      · rename_i ps e
        cases h
        have q := pyL_lay ih e
        exact ⟨by rw [PyData.canLay0]; exact q.1, by simp only [PyData.depth]; omega⟩
      · cases h
    · split at h
      · split at h
        · rename_i ps e
          cases h
          have q := pyL_lay ih e
          exact ⟨by rw [PyData.canLay0]; exact q.1, by simp only [PyData.depth]; omega⟩
        · cases h
      · cases h
theorem pyD_shaped {n : Nat} {d : D} {p : PyData} (h : pyD S n d = some p) (hn : n ≤ 60) : SeqAt.shaped p = true := by
  have q := pyD_lay n d p h
  unfold SeqAt.shaped
  rw [q.1, decide_eq_true (show p.depth ≤ 64 by omega)]
  rfl
def opEq (neg : Bool) : Op2 := fun d e S => match pyD S 8 d, pyD S 8 e with
  | some p, some q => .ok (.bl (if neg then !PyData.eqv p q else PyData.eqv p q)) S
  | _, _ => .stuck
theorem so_eq (hu : X.A.units + 64 < cLine) : SndO ct X W (compareOp .Eq) (opEq false) := by
  refine ⟨?_⟩
  intro σ H m S x y d e Q r p q h pins s v u I rx ry
  unfold opEq at h
  split at h
  · rename_i p1 p2 e1 e2
    exact op_eqD hu pins s σ H _ _ v u Q I rx ry ⟨_, _, pyD_dp r _ _ _ _ p e1, pyD_dp r _ _ _ _ q e2, pyD_shaped e1 (by decide), pyD_shaped e2 (by decide), h.now r (.bl _)⟩
  · exact h.elim
theorem so_ne (hu : X.A.units + 64 < cLine) : SndO ct X W (compareOp .NotEq) (opEq true) := by
  refine ⟨?_⟩
  intro σ H m S x y d e Q r p q h pins s v u I rx ry
  unfold opEq at h
  split at h
  · rename_i p1 p2 e1 e2
    exact op_neD hu pins s σ H _ _ v u Q I rx ry ⟨_, _, pyD_dp r _ _ _ _ p e1, pyD_dp r _ _ _ _ q e2, pyD_shaped e1 (by decide), pyD_shaped e2 (by decide), h.now r (.bl _)⟩
  · exact h.elim

/-! ### in -/
def opIn (neg : Bool) : Op2 := fun d e S => match e with
  | .ref n => match S[n]? with
    | some (.dic kvs) => match d with
      | .int i => .ok (.bl (if neg then !(kvs.lookup i).isSome else (kvs.lookup i).isSome)) S
      | _ => .stuck
    | some (.lst xs) => match pyD S 8 d, pyL (pyD S 8) xs with
      | some p, some ps => .ok (.bl (if neg then !(ps.any fun z => PyData.eqv z p) else ps.any fun z => PyData.eqv z p)) S
      | _, _ => .stuck
    | _ => .stuck
  | .lst xs => match pyD S 8 d, pyL (pyD S 8) xs with
    | some p, some ps => .ok (.bl (if neg then !(ps.any fun z => PyData.eqv z p) else ps.any fun z => PyData.eqv z p)) S
    | _, _ => .stuck
  | .tup xs => match pyD S 8 d, pyL (pyD S 8) xs with
    | some p, some ps => .ok (.bl (if neg then !(ps.any fun z => PyData.eqv z p) else ps.any fun z => PyData.eqv z p)) S
    | _, _ => .stuck
  | _ => .stuck
theorem RpK.val {i : Int} : ∀ {vs : List (Key × V)} {ds : List (Int × D)}, RpK H m N vs ds → (∀ d, ds.lookup i = some d → ∃ v, valV vs (Sum.inl i) = some v ∧ Rp H m N v d) ∧ (ds.lookup i = none → valV vs (Sum.inl i) = none)
  | _, _, .nil => ⟨fun _ e => (nomatch e), fun _ => rfl⟩
  | _, _, .cons (k := k) (v := v) (d := d) h r => by
    have ih := RpK.val (i := i) r
    by_cases e : k = i
    · subst e
      refine ⟨fun d' q => ?_, fun q => ?_⟩
      · rw [List.lookup_cons, beq_self_eq_true] at q
        cases q
        exact ⟨v, by simp [valV], h⟩
      · rw [List.lookup_cons, beq_self_eq_true] at q
        cases q
    · have e1 : (i == k) = false := by simp [Ne.symm e]
      have e2 : ¬ ((Sum.inl k : Key) = Sum.inl i) := fun z => e (Sum.inl.inj z)
      have e3 : ∀ rest : List (Key × V), valV ((Sum.inl k, v) :: rest) (Sum.inl i) = valV rest (Sum.inl i) := fun rest => by
        simp [valV, e2]
      refine ⟨fun d' q => ?_, fun q => ?_⟩
      · rw [List.lookup_cons, e1] at q
        rw [e3]
        exact ih.1 d' q
      · rw [List.lookup_cons, e1] at q
        rw [e3]
        exact ih.2 q
theorem in_tup {neg : Bool} {op : CmpOp} (ho : op = (if neg then .NotIn else .In)) (hu : X.A.units + 65 < cLine) {pins : List (Addr × Obj)} {s : Shared} {x y : V} {v u : Value} {p : PyData} {ps : List PyData} (I : Inv X pins σ H s) (rx : RelV x v) (ry : RelV y u)
    (hd : Dp X.K H x p) (he : Dp X.K H y (.tuple ps)) (sd : SeqAt.shaped p = true) (se : PyData.canLayAll0 ps = true) (q : Q (.bl (if neg then !(ps.any fun z => PyData.eqv z p) else ps.any fun z => PyData.eqv z p)) H) : wpAny (model X.prog X.w) X.A (compareOp op v u) (EP X pins σ Q) X.xe s := by
  obtain ⟨as, r1⟩ := Dp.reads I p x v hd rx
  obtain ⟨bs, r2⟩ := Dp.reads I (.tuple ps) y u he ry
  subst ho
  cases neg with
  | false => exact SeqAt.in_tuple_reads r2 r1 se (SeqAt.canLay_of_shaped sd) (room_in_shaped sd hu) ⟨.bl _, H, I, rfl, q⟩
  | true => exact SeqAt.notIn_tuple_reads r2 r1 se (SeqAt.canLay_of_shaped sd) (room_in_shaped sd hu) ⟨.bl _, H, I, rfl, q⟩
theorem in_lst {neg : Bool} {op : CmpOp} (ho : op = (if neg then .NotIn else .In)) (hu : X.A.units + 65 < cLine) {pins : List (Addr × Obj)} {s : Shared} {x y : V} {v u : Value} {p : PyData} {ps : List PyData} (I : Inv X pins σ H s) (rx : RelV x v) (ry : RelV y u)
    (hd : Dp X.K H x p) (he : Dp X.K H y (.list ps)) (sd : SeqAt.shaped p = true) (se : PyData.canLayAll0 ps = true) (q : Q (.bl (if neg then !(ps.any fun z => PyData.eqv z p) else ps.any fun z => PyData.eqv z p)) H) : wpAny (model X.prog X.w) X.A (compareOp op v u) (EP X pins σ Q) X.xe s := by
  obtain ⟨as, r1⟩ := Dp.reads I p x v hd rx
  obtain ⟨bs, r2⟩ := Dp.reads I (.list ps) y u he ry
  subst ho
  cases neg with
  | false => exact SeqAt.in_list_reads r2 r1 se (SeqAt.canLay_of_shaped sd) (room_in_shaped sd hu) ⟨.bl _, H, I, rfl, q⟩
  | true => exact SeqAt.notIn_list_reads r2 r1 se (SeqAt.canLay_of_shaped sd) (room_in_shaped sd hu) ⟨.bl _, H, I, rfl, q⟩
end
end L2.VE
/-! VE3: in, subscripts, slices, displays, and, or, not, chains, tests. -/
namespace L2.VE
open PySem PySem.Spec PyProof.Rows
section
variable {ct : Nat → Addr} {X : Cx} {W : WX} {e a b c : Expr} {f fa fb fc : Ev} {σ : St} {H H' : Hp} {m m' : Mp} {S S' : Store} {G : Gm} {Q : VK} {N N' : Nat}

theorem so_inG {neg : Bool} {op : CmpOp} (ho : op = (if neg then .NotIn else .In)) (hu : X.A.units + 65 < cLine) : SndO ct X W (compareOp op) (opIn neg) := by
  refine ⟨?_⟩
  intro σ H m S x y d e Q r p q h pins s v u I rx ry
  unfold opIn at h
  split at h
  · rename_i n
    split at h
    · rename_i kvs e1
      split at h
      · rename_i i
        cases p
        cases q
        obtain ⟨dvs, h1, h2⟩ := r.cell n _ e1
        obtain rfl : u = Value.ref (m n) := ry
        have hg : ∀ o, valV dvs (Sum.inl i) = o → DGet H (m n) (.int i) o := fun o e => by
          rw [← e]
          exact DGet.k (k := Sum.inl i) h1
        have hs : ∃ o, valV dvs (Sum.inl i) = o ∧ o.isSome = (kvs.lookup i).isSome := by
          cases e2 : kvs.lookup i with
          | none => exact ⟨none, (RpK.val h2).2 e2, rfl⟩
          | some d' =>
            obtain ⟨v', a1, _⟩ := (RpK.val h2).1 d' e2
            exact ⟨some v', a1, rfl⟩
        obtain ⟨o, e2, e3⟩ := hs
        subst ho
        cases neg with
        | false => exact d_in (by omega) I (hg o e2) rx fun s3 I3 => ⟨.bl o.isSome, H, I3, rfl, by rw [e3]; exact h.now r (.bl _)⟩
        | true => exact d_notIn (by omega) I (hg o e2) rx fun s3 I3 => ⟨.bl (!o.isSome), H, I3, rfl, by rw [e3]; exact h.now r (.bl _)⟩
      · exact h.elim
    · rename_i xs e1
      split at h
      · rename_i p1 ps e2 e3
        cases q
        obtain ⟨vs, h1, h2⟩ := r.cell n _ e1
        have z := pyL_lay (fun d p => pyD_lay (S := S) 8 d p) e3
        exact in_lst ho hu I rx ry (pyD_dp r _ _ _ _ p e2) (.lst (SqL.of h1) (pyL_dp (pyD_dp r 8) h2 e3)) (pyD_shaped e2 (by decide)) z.1 (h.now r (.bl _))
      · exact h.elim
    · exact h.elim
  · split at h
    · rename_i p1 ps e2 e3
      cases q with
      | lst h1 c1 h2 =>
        have z := pyL_lay (fun d p => pyD_lay (S := S) 8 d p) e3
        exact in_lst ho hu I rx ry (pyD_dp r _ _ _ _ p e2) (.lst (SqL.of h1) (pyL_dp (pyD_dp r 8) h2 e3)) (pyD_shaped e2 (by decide)) z.1 (h.now r (.bl _))
    · exact h.elim
  · split at h
    · rename_i p1 ps e2 e3
      cases q with
      | tup h1 c1 h2 =>
        have z := pyL_lay (fun d p => pyD_lay (S := S) 8 d p) e3
        exact in_tup ho hu I rx ry (pyD_dp r _ _ _ _ p e2) (.tup (SqT.of h1) (pyL_dp (pyD_dp r 8) h2 e3)) (pyD_shaped e2 (by decide)) z.1 (h.now r (.bl _))
    · exact h.elim
  · exact h.elim
theorem so_in (hu : X.A.units + 65 < cLine) : SndO ct X W (compareOp .In) (opIn false) := so_inG rfl hu
theorem so_notIn (hu : X.A.units + 65 < cLine) : SndO ct X W (compareOp .NotIn) (opIn true) := so_inG rfl hu

/-! ### is None, is True -/
def opIs (neg : Bool) : Op2 := fun d e S => match e with
  | .non => .ok (.bl (match d with | .non => !neg | _ => neg)) S
  | .bl b => match d with
    | .bl c => .ok (.bl (if neg then !decide (c = b) else decide (c = b))) S
    | _ => .stuck
  | _ => .stuck
theorem so_is : SndO ct X W (compareOp .Is) (opIs false) := by
  refine ⟨?_⟩
  intro σ H m S x y d e Q r p q h pins s v u I rx ry
  unfold opIs at h
  split at h
  · cases q
    refine op_isN pins s σ H _ _ v u Q I rx ry ⟨rfl, ?_⟩
    cases p <;> exact h.now r (.bl _)
  · split at h
    · cases p
      cases q
      exact op_isBl pins s σ H _ _ v u Q I rx ry ⟨_, _, rfl, rfl, h.now r (.bl _)⟩
    · exact h.elim
  · exact h.elim
theorem so_isNot : SndO ct X W (compareOp .IsNot) (opIs true) := by
  refine ⟨?_⟩
  intro σ H m S x y d e Q r p q h pins s v u I rx ry
  unfold opIs at h
  split at h
  · cases q
    refine op_notN pins s σ H _ _ v u Q I rx ry ⟨rfl, ?_⟩
    cases p <;> exact h.now r (.bl _)
  · split at h
    · cases p
      cases q
      exact op_notBl pins s σ H _ _ v u Q I rx ry ⟨_, _, rfl, rfl, h.now r (.bl _)⟩
    · exact h.elim
  · exact h.elim

/-! ### subscripts -/
theorem ix_len {i : Int} {j : Nat} {n : Nat} (h : ixN n i = some j) : j < n := by
  unfold ixN at h
  split at h
  · split at h
    · cases h
      omega
    · cases h
  · split at h
    · cases h
      omega
    · cases h
theorem RpL.atI {vs : List V} {ds : List D} {i : Int} {d : D} (r : RpL H m N vs ds) (h : atI ds i = some d) : ∃ v, L2.atI vs i = some v ∧ Rp H m N v d := by
  unfold L2.atI at h ⊢
  rw [r.length]
  cases e : ixN ds.length i with
  | none =>
    rw [e] at h
    cases h
  | some j =>
    rw [e] at h
    exact r.get h
def opIx : Op2 := fun d e S => match e with
  | .int i => match d with
    | .ref n => match S[n]? with
      | some (.lst xs) => match atI xs i with
        | some x => .ok x S
        | none => .stuck
      | some (.dic kvs) => match kvs.lookup i with
        | some x => .ok x S
        | none => .stuck
      | _ => .stuck
    | .lst xs => match atI xs i with
      | some x => .ok x S
      | none => .stuck
    | .tup xs => match atI xs i with
      | some x => .ok x S
      | none => .stuck
    | _ => .stuck
  | _ => .stuck
def eIx (fa fb : Ev) : Ev := eOp opIx fa fb
theorem ix_any (hu : X.A.units + 1 < cLine) {x y : V} {d e : D} (r : Rel ct m S H) (p : Rp H m S.length x d) (q : Rp H m S.length y e) (h : PostE ct W σ m S.length H Q (opIx d e S)) (value slice : Expr) :
    ∀ pins s v u, Inv X pins σ H s → RelV x v → RelV y u → subscripted slice false v u = operate [v, u] (getItem v u) → wpAny (model X.prog X.w) X.A (subscriptTail value slice v u) (EP X pins σ Q) X.xe s := by
  intro pins s v u I rx ry hs
  unfold opIx at h
  split at h
  · rename_i i
    cases q
    split at h
    · rename_i n
      split at h
      · rename_i xs e1
        split at h
        · rename_i z e2
          cases p
          obtain ⟨vs, h1, h2⟩ := r.cell n _ e1
          obtain ⟨w, a1, a2⟩ := h2.atI e2
          exact ix_list value slice pins s σ H _ _ v u Q I rx ry ⟨_, _, _, _, rfl, rfl, SqL.of h1, a1, h.now r a2⟩ hs
        · exact h.elim
      · rename_i kvs e1
        split at h
        · rename_i z e2
          cases p
          obtain ⟨dvs, h1, h2⟩ := r.cell n _ e1
          obtain ⟨w, a1, a2⟩ := (RpK.val h2).1 z e2
          obtain rfl : v = Value.ref (m n) := rx
          have g : DGet H (m n) (.int i) (some w) := by
            rw [← a1]
            exact DGet.k (k := Sum.inl i) h1
          exact tail_any (dict_typeIs I g) PySem.F.slot_dict_getitem.lookup (d_getItem hu I g ry fun w' s3 I3 rw' => ⟨w, H, I3, rw', h.now r a2⟩) hs
        · exact h.elim
      · exact h.elim
    · split at h
      · rename_i z e2
        cases p with
        | lst h1 c1 h2 =>
          obtain ⟨w, a1, a2⟩ := h2.atI e2
          exact ix_list value slice pins s σ H _ _ v u Q I rx ry ⟨_, _, _, _, rfl, rfl, SqL.of h1, a1, h.now r a2⟩ hs
      · exact h.elim
    · split at h
      · rename_i z e2
        cases p with
        | tup h1 c1 h2 =>
          obtain ⟨w, a1, a2⟩ := h2.atI e2
          exact ix_tup value slice pins s σ H _ _ v u Q I rx ry ⟨_, _, _, _, rfl, rfl, SqT.of h1, a1, h.now r a2⟩ hs
      · exact h.elim
    · exact h.elim
  · exact h.elim
theorem snd_ix {pos : Pos} (hu : X.A.units + 1 < cLine) (ha : SndE ct X W a fa) (hb : SndE ct X W b fb) (hs : PlainIx b) : SndE ct X W (.Subscript a b pos) (eIx fa fb) := by
  refine ⟨?_⟩
  intro σ H m S G Q r en h pins s I
  refine Subscript_ (bin pe_w pe_w I (two (R := fun x y H2 => ∀ value slice pins s v u, Inv X pins σ H2 s → RelV x v → RelV y u → subscripted slice false v u = operate [v, u] (getItem v u) → wpAny (model X.prog X.w) X.A (subscriptTail value slice v u) (EP X pins σ Q) X.xe s)
    ha hb r en h fun x y d e H2 m2 S2 r2 p q h2 value slice => ix_any hu r2 p q h2 value slice) fun v u s2 x y H2 I2 rx ry q => ?_)
  exact q a b pins s2 v u I2 rx ry (hs _ _)

/-! ### slices -/
def cutD (xs : List D) (lo hi : Option Int) : List D := (xs.drop (HT.sIx xs.length 0 lo)).take (HT.sIx xs.length xs.length hi - HT.sIx xs.length 0 lo)
def opSl (d : D) (lo hi : Option Int) (S : Store) : ER := match d with
  | .tup xs => .ok (.tup (cutD xs lo hi)) S
  | d => match lsOf S d with
    | some xs => .ok (.lst (cutD xs lo hi)) S
    | none => .stuck
def ePart : Option Ev → Gm → Store → (Option Int → Store → ER) → ER
  | none, _, S, k => k none S
  | some f, G, S, k => (f G S).bind fun d S1 => match d with
    | .int i => k (some i) S1
    | _ => .stuck
def eSl (fe : Ev) (fl fh : Option Ev) : Ev := fun G S => (fe G S).bind fun d S1 => ePart fl G S1 fun lo S2 => ePart fh G S2 fun hi S3 => opSl d lo hi S3
def PartW (X : Cx) (o : Option Expr) (σ : St) (H : Hp) (Q : Option Int → Hp → Prop) : Prop := ∀ pins s, Inv X pins σ H s → wpAny (model X.prog X.w) X.A (evalPart o X.env) (fun u s' => ∃ o H', Inv X pins σ H' s' ∧ IsPart u o ∧ Q o H') X.xe s
theorem po_w {o : Option Expr} : PO X o (PartW X o) := ⟨fun pins s _ _ _ I h => h pins s I⟩
structure SndP (ct : Nat → Addr) (X : Cx) (W : WX) (o : Option Expr) (f : Option Ev) : Prop where
  mk ::
  run : ∀ (σ : St) (H : Hp) (m : Mp) (S : Store) (G : Gm) (Q : VK) (k : Option Int → Store → ER), Rel ct m S H → EnvR H m S.length σ G → PostE ct W σ m S.length H Q (ePart f G S k) →
    PartW X o σ H fun i H1 => ∃ m1 S1, Rel ct m1 S1 H1 ∧ Step m S.length H m1 S1.length H1 ∧ EnvR H1 m1 S1.length σ G ∧ PostE ct W σ m1 S1.length H1 Q (k i S1)
instance {ct : Nat → Addr} {X : Cx} {W : WX} {o : Option Expr} {f : Option Ev} : CoeFun (SndP ct X W o f) (fun _ => ∀ (σ : St) (H : Hp) (m : Mp) (S : Store) (G : Gm) (Q : VK) (k : Option Int → Store → ER), Rel ct m S H → EnvR H m S.length σ G → PostE ct W σ m S.length H Q (ePart f G S k) →     PartW X o σ H fun i H1 => ∃ m1 S1, Rel ct m1 S1 H1 ∧ Step m S.length H m1 S1.length H1 ∧ EnvR H1 m1 S1.length σ G ∧ PostE ct W σ m1 S1.length H1 Q (k i S1)) := ⟨SndP.run⟩
theorem sp_none : SndP ct X W none none := by
  refine ⟨?_⟩
  exact fun σ H m S G Q k r en h pins s I => po_none.run pins s σ H _ I ⟨m, S, r, Step.refl, en, h⟩
theorem sp_some (h : SndE ct X W e f) : SndP ct X W (some e) (some f) := by
  refine ⟨?_⟩
  intro σ H m S G Q k r en hp pins s I
  refine (po_some pe_w).run pins s σ H _ I ((h.bind r en hp).mono fun x H1 ⟨d, m1, S1, r1, st1, p1, en1, h1⟩ => ?_)
  split at h1
  · cases p1
    exact ⟨_, rfl, m1, S1, r1, st1, en1, h1⟩
  · exact h1.elim
theorem RpL.cut {vs : List V} {ds : List D} (r : RpL H m N vs ds) (lo hi : Option Int) : RpL H m N (cutV vs lo hi) (cutD ds lo hi) := by
  unfold cutV cutD
  rw [r.length]
  exact (r.drop _).take _
theorem snd_sl {lo hi : Option Expr} {fl fh : Option Ev} {pos p2 : Pos} (he : SndE ct X W e f) (hl : SndP ct X W lo fl) (hh : SndP ct X W hi fh) : SndE ct X W (.Subscript e (.Slice lo hi none p2) pos) (eSl f fl fh) := by
  refine ⟨?_⟩
  intro σ H m S G Q r en h
  refine .of (pe_slice (SlR.or sl_list sl_tupA) pe_w po_w po_w) ?_
  refine (he.bind r en h).mono fun x H1 ⟨d, m1, S1, r1, st1, p1, en1, h1⟩ => ?_
  intro pins s I
  refine thn (hl σ H1 m1 S1 G Q _ r1 en1 h1 pins s I) fun u s1 ⟨o, H2, I2, pu, m2, S2, r2, st2, en2, h2⟩ => ⟨o, H2, I2, pu, ?_⟩
  intro pins s I
  refine thn (hh σ H2 m2 S2 G Q _ r2 en2 h2 pins s I) fun u s1 ⟨o', H3, I3, pu3, m3, S3, r3, st3, en3, h3⟩ => ⟨o', H3, I3, pu3, ?_⟩
  have p3 := Rp.mono (st2.trans st3) _ _ p1
  unfold opSl at h3
  split at h3
  · rename_i d0 dsx h0
    cases p3 with
    | @tup a vs _ h1 c1 l1 =>
      refine .inr ⟨a, vs, rfl, SqT.of h1, fun hw => ?_, fun _ p hp => h3.newT r3 hp (l1.cut _ _)⟩
      refine h3.now r3 ?_
      have e1 : cutD d0 o o' = d0 := by
        unfold cutD
        rw [← l1.length, hw.1, hw.2, List.drop_zero, Nat.sub_zero, l1.length, List.take_length]
      rw [e1]
      exact .tup h1 c1 l1
  · split at h3
    · rename_i xs e1
      obtain ⟨a, vs, rfl, q1, l1⟩ := lsOf_rp r3 p3 e1
      exact .inl ⟨a, vs, rfl, SqL.of q1, fun p hp => h3.newL r3 hp (l1.cut _ _)⟩
    · exact h3.elim
/-- xs[::-1] -/
def opRev : Op1 := fun d S => match lsOf S d with
  | some xs => .ok (.lst xs.reverse) S
  | none => .stuck
def eOp1 (o : Op1) (f : Ev) : Ev := fun G S => (f G S).bind o
theorem RpL.reverse : ∀ {vs : List V} {ds : List D}, RpL H m N vs ds → RpL H m N vs.reverse ds.reverse
  | _, _, .nil => .nil
  | _, _, .cons h r => by
    rw [List.reverse_cons, List.reverse_cons]
    exact (RpL.reverse r).append (.cons h .nil)
theorem snd_rev {k : Nat} {p1 p2 p3 pos : Pos} (he : SndE ct X W e f) : SndE ct X W (.Subscript e (.Slice none none (some (.UnaryOp .USub (.Constant (.int 1) k p1) p2)) p3) pos) (eOp1 opRev f) := by
  refine ⟨?_⟩
  intro σ H m S G Q r en h
  refine .of (pe_revL pe_w) ((he.bind r en h).mono fun x H1 ⟨d, m1, S1, r1, st1, q1, en1, h1⟩ => ?_)
  unfold opRev at h1
  split at h1
  · rename_i xs e1
    obtain ⟨a, vs, rfl, q2, l1⟩ := lsOf_rp r1 q1 e1
    exact ⟨a, vs, rfl, SqL.of q2, fun p hp => h1.newL r1 hp l1.reverse⟩
  · exact h1.elim

/-! ### argument lists, displays -/
inductive AR where
  | ok (ds : List D) (S : Store) | xc (c : Nat) (S : Store) | stuck
abbrev Av := Gm → Store → AR
def AR.bind : AR → (List D → Store → ER) → ER
  | .ok d S, k => k d S
  | .xc c S, _ => .xc c S
  | .stuck, _ => .stuck
@[simp] theorem AR.bind_ok {d : List D} {S : Store} {k : List D → Store → ER} : (AR.ok d S).bind k = k d S := rfl
@[simp] theorem AR.bind_xc {c : Nat} {S : Store} {k : List D → Store → ER} : (AR.xc c S).bind k = .xc c S := rfl
@[simp] theorem AR.bind_stuck {k : List D → Store → ER} : AR.stuck.bind k = .stuck := rfl
def eaNil : Av := fun _ S => .ok [] S
def eaCons (f : Ev) (g : Av) : Av := fun G S => match f G S with
  | .ok d S1 => match g G S1 with
    | .ok ds S2 => .ok (d :: ds) S2
    | .xc c S2 => .xc c S2
    | .stuck => .stuck
  | .xc c S1 => .xc c S1
  | .stuck => .stuck
def ArgW (X : Cx) (es : List Expr) (σ : St) (H : Hp) (Q : List V → Hp → Prop) : Prop := ∀ pos pins s, Inv X pins σ H s → wpAny (model X.prog X.w) X.A (spliced (backTo pos (starEach es X.env))) (AP X pins σ Q) X.xe s
theorem pa_w {es : List Expr} : PA X es (ArgW X es) := ⟨fun pos pins s _ _ _ I h => h pos pins s I⟩
structure SndA (ct : Nat → Addr) (X : Cx) (W : WX) (es : List Expr) (f : Av) : Prop where
  mk ::
  run : ∀ (σ : St) (H : Hp) (m : Mp) (S : Store) (G : Gm) (Q : VK) (k : List D → Store → ER), Rel ct m S H → EnvR H m S.length σ G → PostE ct W σ m S.length H Q ((f G S).bind k) →
    ArgW X es σ H fun vs H1 => ∃ ds m1 S1, Rel ct m1 S1 H1 ∧ Step m S.length H m1 S1.length H1 ∧ RpL H1 m1 S1.length vs ds ∧ EnvR H1 m1 S1.length σ G ∧ PostE ct W σ m1 S1.length H1 Q (k ds S1) ∧ ds.length = es.length
instance {ct : Nat → Addr} {X : Cx} {W : WX} {es : List Expr} {f : Av} : CoeFun (SndA ct X W es f) (fun _ => ∀ (σ : St) (H : Hp) (m : Mp) (S : Store) (G : Gm) (Q : VK) (k : List D → Store → ER), Rel ct m S H → EnvR H m S.length σ G → PostE ct W σ m S.length H Q ((f G S).bind k) →     ArgW X es σ H fun vs H1 => ∃ ds m1 S1, Rel ct m1 S1 H1 ∧ Step m S.length H m1 S1.length H1 ∧ RpL H1 m1 S1.length vs ds ∧ EnvR H1 m1 S1.length σ G ∧ PostE ct W σ m1 S1.length H1 Q (k ds S1) ∧ ds.length = es.length) := ⟨SndA.run⟩
theorem sa_nil : SndA ct X W [] eaNil := by
  refine ⟨?_⟩
  exact fun σ H m S G Q k r en h pos pins s I => pa_nil.run pos pins s σ H _ I ⟨[], m, S, r, Step.refl, .nil, en, h, rfl⟩
theorem sa_cons {es : List Expr} {g : Av} (h1 : SndE ct X W e f) (h2 : SndA ct X W es g) (hs : starEach (e :: es) X.env = (false, eval e X.env) :: starEach es X.env := by rfl) : SndA ct X W (e :: es) (eaCons f g) := by
  refine ⟨?_⟩
  intro σ H m S G Q k r en h pos pins s I
  have e0 : (eaCons f g G S).bind k = (f G S).bind fun d S1 => (g G S1).bind fun ds S2 => k (d :: ds) S2 := by
    unfold eaCons
    cases f G S with
    | ok d S1 =>
      show AR.bind (match g G S1 with | .ok ds S2 => AR.ok (d :: ds) S2 | .xc c S2 => AR.xc c S2 | .stuck => AR.stuck) k = (g G S1).bind _
      cases g G S1 <;> rfl
    | xc c S1 => rfl
    | stuck => rfl
  rw [e0] at h
  refine (pa_cons (te := EvW X e) pe_w pa_w hs).run pos pins s σ H _ I ((h1.bind r en h).mono fun x H1 ⟨d, m1, S1, r1, st1, p1, en1, h1'⟩ => ?_)
  intro pos pins s I
  refine thn (h2 σ H1 m1 S1 G Q _ r1 en1 h1' pos pins s I) fun us s2 ⟨vs, H2, I2, rv, ds, m2, S2, r2, st2, p2, en2, h2', z2⟩ => ⟨vs, H2, I2, rv, ?_⟩
  exact ⟨d :: ds, m2, S2, r2, st1.trans st2, .cons (Rp.mono st2 _ _ p1) p2, en2, h2', by rw [List.length_cons, List.length_cons, z2]⟩
def eTup (g : Av) : Ev := fun G S => (g G S).bind fun ds S1 => if ds.length ≤ 100000 then .ok (.tup ds) S1 else .stuck
def eLst (g : Av) : Ev := fun G S => (g G S).bind fun ds S1 => if ds.length ≤ 100000 then .ok (.lst ds) S1 else .stuck
/-- a list that will be changed -/
def eLstM (g : Av) : Ev := fun G S => (g G S).bind fun ds S1 => if ds.length ≤ 100000 then .ok (.ref S1.length) (S1 ++ [.lst ds]) else .stuck
theorem snd_tup {es : List Expr} {g : Av} {x1} {pos : Pos} (h : SndA ct X W es g) : SndE ct X W (.Tuple es x1 pos) (eTup g) := by
  refine ⟨?_⟩
  intro σ H m S G Q r en hp
  refine .of (pe_tup pa_w) fun pos pins s I => thn (h σ H m S G Q _ r en hp pos pins s I) fun us s2 ⟨vs, H2, I2, rv, ds, m2, S2, r2, st2, p2, en2, h2, z2⟩ => ⟨vs, H2, I2, rv, ?_⟩
  split at h2
  · rename_i hz
    exact ⟨by rw [p2.length]; exact size_le hz, fun p hp => h2.newT r2 hp p2⟩
  · exact h2.elim
theorem snd_lst {es : List Expr} {g : Av} {pos : Pos} (h : SndA ct X W es g) : SndE ct X W (.List es pos) (eLst g) := by
  refine ⟨?_⟩
  intro σ H m S G Q r en hp
  refine .of (pe_lst pa_w) fun pos pins s I => thn (h σ H m S G Q _ r en hp pos pins s I) fun us s2 ⟨vs, H2, I2, rv, ds, m2, S2, r2, st2, p2, en2, h2, z2⟩ => ⟨vs, H2, I2, rv, ?_⟩
  split at h2
  · rename_i hz
    exact ⟨by rw [p2.length]; exact size_le hz, fun p hp => h2.newL r2 hp p2⟩
  · exact h2.elim
theorem snd_lstM {es : List Expr} {g : Av} {pos : Pos} (h : SndA ct X W es g) : SndE ct X W (.List es pos) (eLstM g) := by
  refine ⟨?_⟩
  intro σ H m S G Q r en hp
  refine .of (pe_lst pa_w) fun pos pins s I => thn (h σ H m S G Q _ r en hp pos pins s I) fun us s2 ⟨vs, H2, I2, rv, ds, m2, S2, r2, st2, p2, en2, h2, z2⟩ => ⟨vs, H2, I2, rv, ?_⟩
  split at h2
  · rename_i hz
    exact ⟨by rw [p2.length]; exact size_le hz, fun p hp => h2.newC r2 hp p2⟩
  · exact h2.elim

/-! ### and, or, not as values -/
def eAnd (fa fb : Ev) : Ev := fun G S => (fa G S).bind fun d S1 => match d with
  | .bl true => fb G S1
  | .bl false => .ok (.bl false) S1
  | _ => .stuck
def eOr (fa fb : Ev) : Ev := fun G S => (fa G S).bind fun d S1 => match d with
  | .bl true => .ok (.bl true) S1
  | .bl false => fb G S1
  | _ => .stuck
def opNot : Op1 := fun d S => match d with
  | .bl b => .ok (.bl (!b)) S
  | _ => .stuck
def opNeg : Op1 := fun d S => match d with
  | .int i => .ok (.int (-i)) S
  | _ => .stuck
theorem snd_one {op} {pos : Pos} (ha : SndE ct X W a fa) : SndE ct X W (.BoolOp op [a] pos) fa := by
  refine ⟨?_⟩
  exact fun σ H m S G Q r en h => .of (pe_one pe_w) (ha σ H m S G Q r en h)
theorem snd_and {rest : List Expr} {pos : Pos} (ha : SndE ct X W a fa) (hb : SndE ct X W (.BoolOp .And (b :: rest) pos) fb) : SndE ct X W (.BoolOp .And (a :: b :: rest) pos) (eAnd fa fb) := by
  refine ⟨?_⟩
  intro σ H m S G Q r en h
  refine .of (pe_and pe_w pe_w) ((ha.bind r en h).mono fun x H1 ⟨d, m1, S1, r1, st1, p1, en1, h1⟩ => ?_)
  split at h1
  · cases p1
    exact ⟨true, rfl, iteT (hb σ H1 m1 S1 G Q r1 en1 h1)⟩
  · cases p1
    exact ⟨false, rfl, iteF (h1.now r1 (.bl _))⟩
  · exact h1.elim
theorem snd_or {rest : List Expr} {pos : Pos} (ha : SndE ct X W a fa) (hb : SndE ct X W (.BoolOp .Or (b :: rest) pos) fb) : SndE ct X W (.BoolOp .Or (a :: b :: rest) pos) (eOr fa fb) := by
  refine ⟨?_⟩
  intro σ H m S G Q r en h
  refine .of (pe_or pe_w pe_w) ((ha.bind r en h).mono fun x H1 ⟨d, m1, S1, r1, st1, p1, en1, h1⟩ => ?_)
  split at h1
  · cases p1
    exact ⟨true, rfl, iteT (h1.now r1 (.bl _))⟩
  · cases p1
    exact ⟨false, rfl, iteF (hb σ H1 m1 S1 G Q r1 en1 h1)⟩
  · exact h1.elim
theorem snd_not {pos : Pos} (ha : SndE ct X W a fa) : SndE ct X W (.UnaryOp .Not a pos) (eOp1 opNot fa) := by
  refine ⟨?_⟩
  intro σ H m S G Q r en h
  refine .of (pe_not pe_w) ((ha.bind r en h).mono fun x H1 ⟨d, m1, S1, r1, st1, p1, en1, h1⟩ => ?_)
  unfold opNot at h1
  split at h1
  · cases p1
    exact ⟨_, rfl, h1.now r1 (.bl _)⟩
  · exact h1.elim
theorem snd_neg {pos : Pos} (ha : SndE ct X W a fa) : SndE ct X W (.UnaryOp .USub a pos) (eOp1 opNeg fa) := by
  refine ⟨?_⟩
  intro σ H m S G Q r en h
  refine .of (pe_un un_neg pe_w) ((ha.bind r en h).mono fun x H1 ⟨d, m1, S1, r1, st1, p1, en1, h1⟩ => ?_)
  unfold opNeg at h1
  split at h1
  · cases p1
    exact ⟨_, rfl, h1.now r1 (.int _)⟩
  · exact h1.elim
/-- a chain of two comparisons -/
def eChain (o o' : Op2) (fa fb fc : Ev) : Ev := fun G S => (fa G S).bind fun x S1 => (fb G S1).bind fun y S2 => (o x y S2).bind fun z S3 => match z with
  | .bl true => (fc G S3).bind fun w S4 => o' y w S4
  | .bl false => .ok (.bl false) S3
  | _ => .stuck
def rW (X : Cx) (g : Value → Value → Sem Value) : R2 := fun x y H Q => ∀ pins s σ v u, Inv X pins σ H s → RelV x v → RelV y u → wpAny (model X.prog X.w) X.A (g v u) (EP X pins σ Q) X.xe s
def rWs (X : Cx) (σ : St) (g : Value → Value → Sem Value) : R2 := fun x y H Q => ∀ pins s v u, Inv X pins σ H s → RelV x v → RelV y u → wpAny (model X.prog X.w) X.A (g v u) (EP X pins σ Q) X.xe s
theorem SndO.bind {g : Value → Value → Sem Value} {o : Op2} (ho : SndO ct X W g o) {x y : V} {d e : D} {k : D → Store → ER} (r : Rel ct m S H) (p : Rp H m S.length x d) (q : Rp H m S.length y e) (en : EnvR H m S.length σ G) (h : PostE ct W σ m S.length H Q ((o d e S).bind k)) :
    rWs X σ g x y H fun v H1 => ∃ d m1 S1, Rel ct m1 S1 H1 ∧ Step m S.length H m1 S1.length H1 ∧ Rp H1 m1 S1.length v d ∧ EnvR H1 m1 S1.length σ G ∧ PostE ct W σ m1 S1.length H1 Q (k d S1) := by
  refine ho σ H m S x y d e _ r p q ?_
  cases e0 : o d e S with
  | ok d S1 =>
    rw [e0] at h
    intro v m1 H1 r1 st p
    exact ⟨d, m1, S1, r1, st, p, en.mono st, PostE.step st h⟩
  | xc c S1 =>
    rw [e0] at h
    exact h
  | stuck =>
    rw [e0] at h
    exact h
theorem rWs.mono {g : Value → Value → Sem Value} {x y : V} {Q Q' : VK} (h : rWs X σ g x y H Q) (k : ∀ v H', Q v H' → Q' v H') : rWs X σ g x y H Q' := fun pins s v u I rx ry =>
  thn (h pins s v u I rx ry) fun z s' ⟨w, H', I', rz, q⟩ => ⟨w, H', I', rz, k w H' q⟩
theorem snd_chain {op op' : CmpOp} {o o' : Op2} {pos : Pos} (ho : SndO ct X W (compareOp op) o) (ho' : SndO ct X W (compareOp op') o') (ha : SndE ct X W a fa) (hb : SndE ct X W b fb) (hc : SndE ct X W c fc)
    (hm : lastMarks [op, op'] [b, c] = false := by with_unfolding_all rfl) : SndE ct X W (.Compare a [op, op'] [b, c] pos) (eChain o o' fa fb fc) := by
  refine ⟨?_⟩
  intro σ H m S G Q r en h pins s I
  refine Compare_chain ((thn ((ha.bind r en h) pins s I)) fun v s1 ⟨x, H1, I1, rx, d1, m1, S1, r1, st1, p1, en1, h1⟩ => chain_link (thn ((hb.bind r1 en1 h1) pins s1 I1) fun u s2 ⟨y, H2, I2, ry, d2, m2, S2, r2, st2, p2, en2, h2⟩ => ?_)) hm
  refine thn ((ho.bind r2 (Rp.mono st2 _ _ p1) p2 en2 h2) pins s2 v u I2 rx ry) fun z s3 ⟨zv, H3, I3, rz, d3, m3, S3, r3, st3, p3, en3, h3⟩ => ?_
  split at h3
  · cases p3
    cases rz
    exact wpAny_truthy_bool (ite_tt (chain_last (thn ((hc.bind r3 en3 h3) pins s3 I3) fun w' s4 ⟨z', H4, I4, r4, d4, m4, S4, rl4, st4, p4, en4, h4⟩ =>
      ho' σ H4 m4 S4 y z' d2 d4 Q rl4 (Rp.mono (st3.trans st4) _ _ p2) p4 h4 pins s4 u w' I4 ry r4)))
  · cases p3
    cases rz
    exact wpAny_truthy_bool (ite_ff ⟨.bl false, H3, I3, rfl, h3.now r3 (.bl _)⟩)
  · exact h3.elim

/-! ### tests -/
def TsW (X : Cx) (e : Expr) (σ : St) (H : Hp) (Q : Bool → Hp → Prop) : Prop := ∀ pins s, Inv X pins σ H s → wpAny (model X.prog X.w) X.A (isTrue e X.env (eval e X.env)) (TP X pins σ Q) X.xe s
theorem pt_w : PT X e (TsW X e) := ⟨fun pins s _ _ _ I h => h pins s I⟩
theorem TsW.of {t : TT} {Q : Bool → Hp → Prop} (h : PT X e t) (q : t σ H Q) : TsW X e σ H Q := fun pins s I => h.run pins s σ H Q I q
def BlQ (Q : Bool → Hp → Prop) : VK := fun v H' => ∃ b, v = .bl b ∧ Q b H'
structure SndT (ct : Nat → Addr) (X : Cx) (W : WX) (e : Expr) (f : Ev) : Prop where
  mk ::
  run : ∀ (σ : St) (H : Hp) (m : Mp) (S : Store) (G : Gm) (Q : Bool → Hp → Prop), Rel ct m S H → EnvR H m S.length σ G → PostE ct W σ m S.length H (BlQ Q) (f G S) → TsW X e σ H Q
instance {ct : Nat → Addr} {X : Cx} {W : WX} {e : Expr} {f : Ev} : CoeFun (SndT ct X W e f) (fun _ => ∀ (σ : St) (H : Hp) (m : Mp) (S : Store) (G : Gm) (Q : Bool → Hp → Prop), Rel ct m S H → EnvR H m S.length σ G → PostE ct W σ m S.length H (BlQ Q) (f G S) → TsW X e σ H Q) := ⟨SndT.run⟩
/-- whatever its whole -/
def TwW (X : Cx) (e : Expr) (σ : St) (H : Hp) (Q : Bool → Hp → Prop) : Prop := ∀ whole pins s, Inv X pins σ H s → wpAny (model X.prog X.w) X.A (isTrue e X.env whole) (TP X pins σ Q) X.xe s
theorem pw_w : PW X e (TwW X e) := ⟨fun whole pins s _ _ _ I h => h whole pins s I⟩
structure SndW (ct : Nat → Addr) (X : Cx) (W : WX) (e : Expr) (f : Ev) : Prop where
  mk ::
  run : ∀ (σ : St) (H : Hp) (m : Mp) (S : Store) (G : Gm) (Q : Bool → Hp → Prop), Rel ct m S H → EnvR H m S.length σ G → PostE ct W σ m S.length H (BlQ Q) (f G S) → TwW X e σ H Q
instance {ct : Nat → Addr} {X : Cx} {W : WX} {e : Expr} {f : Ev} : CoeFun (SndW ct X W e f) (fun _ => ∀ (σ : St) (H : Hp) (m : Mp) (S : Store) (G : Gm) (Q : Bool → Hp → Prop), Rel ct m S H → EnvR H m S.length σ G → PostE ct W σ m S.length H (BlQ Q) (f G S) → TwW X e σ H Q) := ⟨SndW.run⟩
theorem SndW.t (h : SndW ct X W e f) : SndT ct X W e f := by
  refine ⟨?_⟩
  exact fun σ H m S G Q r en hp pins s I => h σ H m S G Q r en hp _ pins s I
theorem st_val (h : SndE ct X W e f) (he : ∀ whole, isTrue e X.env whole = (do let v ← whole; standAt e.pos; holding [v] (truthy v)) := by intro _; rfl) : SndT ct X W e f := by
  refine ⟨?_⟩
  exact fun σ H m S G Q r en hp => .of (pt_val pe_w he) (h σ H m S G _ r en hp)
/-- first the test, then what k says -/
theorem SndT.bind (ha : SndT ct X W a fa) (r : Rel ct m S H) (en : EnvR H m S.length σ G) {Q : VK} {k : D → Store → ER} (h : PostE ct W σ m S.length H Q ((fa G S).bind k)) (hk : ∀ d S1, (∀ b, d ≠ .bl b) → k d S1 = .stuck) :
    TsW X a σ H fun b H1 => ∃ m1 S1, Rel ct m1 S1 H1 ∧ Step m S.length H m1 S1.length H1 ∧ EnvR H1 m1 S1.length σ G ∧ PostE ct W σ m1 S1.length H1 Q (k (.bl b) S1) := by
  refine ha σ H m S G _ r en ?_
  cases e : fa G S with
  | ok d S1 =>
    rw [e] at h
    intro v m1 H1 r1 st p
    have h2 : PostE ct W σ m S.length H Q (k d S1) := h
    cases p with
    | bl b => exact ⟨b, rfl, m1, S1, r1, st, en.mono st, PostE.step st h2⟩
    | non => rw [hk _ _ (fun b z => by cases z)] at h2; exact h2.elim
    | int => rw [hk _ _ (fun b z => by cases z)] at h2; exact h2.elim
    | str => rw [hk _ _ (fun b z => by cases z)] at h2; exact h2.elim
    | lst => rw [hk _ _ (fun b z => by cases z)] at h2; exact h2.elim
    | tup => rw [hk _ _ (fun b z => by cases z)] at h2; exact h2.elim
    | ref => rw [hk _ _ (fun b z => by cases z)] at h2; exact h2.elim
    | exn => rw [hk _ _ (fun b z => by cases z)] at h2; exact h2.elim
    | fn => rw [hk _ _ (fun b z => by cases z)] at h2; exact h2.elim
  | xc c S1 =>
    rw [e] at h
    exact h
  | stuck =>
    rw [e] at h
    exact h
theorem TsW.mono {Q Q' : Bool → Hp → Prop} (h : TsW X e σ H Q) (k : ∀ b H', Q b H' → Q' b H') : TsW X e σ H Q' := fun pins s I => thn (h pins s I) fun b s' ⟨H', I', q⟩ => ⟨H', I', k b H' q⟩
theorem PostE.bl {Q : Bool → Hp → Prop} {b : Bool} (h : PostE ct W σ m S.length H (BlQ Q) (.ok (.bl b) S)) (r : Rel ct m S H) : Q b H := by
  obtain ⟨b', e, q⟩ := h.now r (.bl b)
  cases e
  exact q
theorem opNot_stuck : ∀ d S1, (∀ b, d ≠ D.bl b) → opNot d S1 = .stuck := fun d S1 h => by
  cases d <;> first | rfl | exact absurd rfl (h _)
theorem st_not {pos : Pos} (ha : SndT ct X W a fa) : SndT ct X W (.UnaryOp .Not a pos) (eOp1 opNot fa) := by
  refine ⟨?_⟩
  intro σ H m S G Q r en h
  exact .of (pt_not pt_w) ((ha.bind r en h opNot_stuck).mono fun b H1 ⟨m1, S1, r1, st1, en1, h1⟩ => h1.bl r1)
theorem sw_and1 {pos : Pos} (ha : SndT ct X W a fa) : SndW ct X W (.BoolOp .And [a] pos) fa := by
  refine ⟨?_⟩
  exact fun σ H m S G Q r en h whole pins s I => (pw_and1 pt_w).run whole pins s σ H Q I (ha σ H m S G Q r en h)
theorem sw_or1 {pos : Pos} (ha : SndT ct X W a fa) : SndW ct X W (.BoolOp .Or [a] pos) fa := by
  refine ⟨?_⟩
  exact fun σ H m S G Q r en h whole pins s I => (pw_or1 pt_w).run whole pins s σ H Q I (ha σ H m S G Q r en h)
theorem sw_and {rest : List Expr} {pos : Pos} (ha : SndT ct X W a fa) (hb : SndW ct X W (.BoolOp .And (b :: rest) pos) fb) : SndW ct X W (.BoolOp .And (a :: b :: rest) pos) (eAnd fa fb) := by
  refine ⟨?_⟩
  intro σ H m S G Q r en h whole pins s I
  refine (pw_and pt_w pw_w).run whole pins s σ H Q I ((ha.bind r en h fun d S1 hd => ?_).mono fun b H1 ⟨m1, S1, r1, st1, en1, h1⟩ => ?_)
  · cases d <;> first | rfl | exact absurd rfl (hd _)
  · cases b with
    | true => exact iteT (hb σ H1 m1 S1 G Q r1 en1 h1)
    | false => exact iteF (h1.bl r1)
theorem sw_or {rest : List Expr} {pos : Pos} (ha : SndT ct X W a fa) (hb : SndW ct X W (.BoolOp .Or (b :: rest) pos) fb) : SndW ct X W (.BoolOp .Or (a :: b :: rest) pos) (eOr fa fb) := by
  refine ⟨?_⟩
  intro σ H m S G Q r en h whole pins s I
  refine (pw_or pt_w pw_w).run whole pins s σ H Q I ((ha.bind r en h fun d S1 hd => ?_).mono fun b H1 ⟨m1, S1, r1, st1, en1, h1⟩ => ?_)
  · cases d <;> first | rfl | exact absurd rfl (hd _)
  · cases b with
    | true => exact iteT (h1.bl r1)
    | false => exact iteF (hb σ H1 m1 S1 G Q r1 en1 h1)
theorem st_cmp {op : CmpOp} {o : Op2} {pos : Pos} (ho : SndO ct X W (compareOp op) o) (ha : SndE ct X W a fa) (hb : SndE ct X W b fb) (hm : behindInMarks op b = false) : SndT ct X W (.Compare a [op] [b] pos) (eOp o fa fb) := by
  refine ⟨?_⟩
  intro σ H m S G Q r en h pins s I
  refine wpAny_isTrue_Compare1 ((thn ((ha.bind r en h) pins s I)) fun v s1 ⟨x, H1, I1, rx, d1, m1, S1, r1, st1, p1, en1, h1⟩ => (thn ((hb.bind r1 en1 h1) pins s1 I1) fun u s2 ⟨y, H2, I2, ry, d2, m2, S2, r2, st2, p2, en2, h2⟩ => ?_)) hm
  refine thn (ho σ H2 m2 S2 x y d1 d2 _ r2 (Rp.mono st2 _ _ p1) p2 h2 pins s2 v u I2 rx ry) fun z s3 ⟨zv, H3, I3, rz, k, e, q3⟩ => ?_
  subst e
  cases rz
  exact wpAny_truthy_bool ⟨H3, I3, q3⟩
theorem st_chain {op op' : CmpOp} {o o' : Op2} {pos : Pos} (ho : SndO ct X W (compareOp op) o) (ho' : SndO ct X W (compareOp op') o') (ha : SndE ct X W a fa) (hb : SndE ct X W b fb) (hc : SndE ct X W c fc)
    (hm : lastMarks [op, op'] [b, c] = false := by with_unfolding_all rfl) : SndT ct X W (.Compare a [op, op'] [b, c] pos) (eChain o o' fa fb fc) := by
  refine ⟨?_⟩
  intro σ H m S G Q r en h pins s I
  refine isTrue_chain ((thn ((ha.bind r en h) pins s I)) fun v s1 ⟨x, H1, I1, rx, d1, m1, S1, r1, st1, p1, en1, h1⟩ => test_link (thn ((hb.bind r1 en1 h1) pins s1 I1) fun u s2 ⟨y, H2, I2, ry, d2, m2, S2, r2, st2, p2, en2, h2⟩ => ?_)) hm
  refine thn ((ho.bind r2 (Rp.mono st2 _ _ p1) p2 en2 h2) pins s2 v u I2 rx ry) fun z s3 ⟨zv, H3, I3, rz, d3, m3, S3, r3, st3, p3, en3, h3⟩ => ?_
  split at h3
  · cases p3
    cases rz
    refine wpAny_truthy_bool (ite_tt (test_last (thn ((hc.bind r3 en3 h3) pins s3 I3) fun w' s4 ⟨z', H4, I4, r4, d4, m4, S4, rl4, st4, p4, en4, h4⟩ =>
      thn (ho' σ H4 m4 S4 y z' d2 d4 _ rl4 (Rp.mono (st3.trans st4) _ _ p2) p4 h4 pins s4 u w' I4 ry r4) fun d' s5 ⟨z2, H5, I5, r5, k2, e2, q5⟩ => ?_)))
    subst e2
    cases r5
    exact wpAny_truthy_bool ⟨H5, I5, q5⟩
  · cases p3
    cases rz
    exact wpAny_truthy_bool (ite_ff ⟨H3, I3, h3.bl r3⟩)
  · exact h3.elim
def eIf (ft fa fb : Ev) : Ev := fun G S => (ft G S).bind fun d S1 => match d with
  | .bl true => fa G S1
  | .bl false => fb G S1
  | _ => .stuck
theorem snd_ifExp {ft : Ev} {pos : Pos} (ht : SndT ct X W c ft) (ha : SndE ct X W a fa) (hb : SndE ct X W b fb) : SndE ct X W (.IfExp c a b pos) (eIf ft fa fb) := by
  refine ⟨?_⟩
  intro σ H m S G Q r en h
  refine .of (pe_ifExp pt_w pe_w pe_w) ((ht.bind r en h fun d S1 hd => ?_).mono fun b H1 ⟨m1, S1, r1, st1, en1, h1⟩ => ?_)
  · cases d <;> first | rfl | exact absurd rfl (hd _)
  · cases b with
    | true => exact iteT (ha σ H1 m1 S1 G Q r1 en1 h1)
    | false => exact iteF (hb σ H1 m1 S1 G Q r1 en1 h1)
end
end L2.VE
/-! VE4: calls of built-ins and of defs, methods, instances. -/
namespace L2.VE
open PySem PySem.Spec PyProof.Rows
section
variable {ct : Nat → Addr} {X : Cx} {W : WX} {e a b c : Expr} {f fa fb fc : Ev} {σ : St} {H H' : Hp} {m m' : Mp} {S S' : Store} {G : Gm} {Q : VK} {N N' : Nat} {es : List Expr} {g : Av} {x : Str} {p pos apos : Pos}
abbrev OpN := List D → Store → ER
def eCall (o : OpN) (g : Av) : Ev := fun G S => (g G S).bind o
/-- a built-in's call by values -/
structure SndC (ct : Nat → Addr) (X : Cx) (W : WX) (fv : Value) (o : OpN) : Prop where
  mk ::
  run : ∀ (σ : St) (H : Hp) (m : Mp) (S : Store) (vs : List V) (ds : List D) (Q : VK), Rel ct m S H → RpL H m S.length vs ds → PostE ct W σ m S.length H Q (o ds S) →
    ∀ pins s us, Inv X pins σ H s → Vals vs us → wpAny (model X.prog X.w) X.A (call fv us) (EP X pins σ Q) X.xe s
instance {ct : Nat → Addr} {X : Cx} {W : WX} {fv : Value} {o : OpN} : CoeFun (SndC ct X W fv o) (fun _ => ∀ (σ : St) (H : Hp) (m : Mp) (S : Store) (vs : List V) (ds : List D) (Q : VK), Rel ct m S H → RpL H m S.length vs ds → PostE ct W σ m S.length H Q (o ds S) →     ∀ pins s us, Inv X pins σ H s → Vals vs us → wpAny (model X.prog X.w) X.A (call fv us) (EP X pins σ Q) X.xe s) := ⟨SndC.run⟩
theorem SndC.of {fv : Value} {o : OpN} {r : List V → Hp → VK → Prop} (h : CallR X fv r)
    (k : ∀ (σ : St) (H : Hp) (m : Mp) (S : Store) (vs : List V) (ds : List D) (Q : VK), Rel ct m S H → RpL H m S.length vs ds → PostE ct W σ m S.length H Q (o ds S) → r vs H Q) : SndC ct X W fv o := by
  refine ⟨?_⟩
  exact fun σ H m S vs ds Q r p hp pins s us I rv => h pins s σ H vs us Q I rv (k σ H m S vs ds Q r p hp)
theorem snd_callB {id : String} {o : OpN} (hc : SndC ct X W (.builtin id) o) (hg : Gl X x) (hm : X.mg x = none) (hv : bootBuiltins x = some (.builtin id)) (ha : SndA ct X W (e :: es) g) (hn : x ≠ "__name__" := by decide) (hdb : (x == ("__debug__" : Str)) = false := by decide)
    (he : starEach (e :: es) X.env = (false, eval e X.env) :: starEach es X.env := by rfl) (hpl : (backTo pos (starEach es X.env)).any (·.1) = false := by rfl) : SndE ct X W (.Call (.Name x p) (e :: es) [] pos) (eCall o g) := by
  refine ⟨?_⟩
  intro σ H m S G Q r en h pins s I
  refine wpAny_Call_Name_kw (ld_blt I hg hm hv ?_ hn hdb)
  exact PyProof.Rows.callWith_builtin1 (thn (ha σ H m S G Q _ r en h pos pins s I) fun us s1 ⟨vs, H1, I1, rv, ds, m1, S1, r1, st1, p1, en1, h1, z1⟩ => hc σ H1 m1 S1 vs ds Q r1 p1 h1 pins s1 us I1 rv) he hpl
theorem snd_callTy {T : String} {o : OpN} (hc : SndC ct X W (.type T) o) (hg : Gl X x) (hm : X.mg x = none) (hv : bootBuiltins x = some (.type T)) (ha : SndA ct X W (e :: es) g) (hn : x ≠ "__name__" := by decide) (hdb : (x == ("__debug__" : Str)) = false := by decide)
    (he : starEach (e :: es) X.env = (false, eval e X.env) :: starEach es X.env := by rfl) (hpl : (backTo pos (starEach es X.env)).any (·.1) = false := by rfl) : SndE ct X W (.Call (.Name x p) (e :: es) [] pos) (eCall o g) := by
  refine ⟨?_⟩
  intro σ H m S G Q r en h pins s I
  refine wpAny_Call_Name_kw (ld_blt I hg hm hv ?_ hn hdb)
  exact PyProof.Rows.callWith_type1 (thn (ha σ H m S G Q _ r en h pos pins s I) fun us s1 ⟨vs, H1, I1, rv, ds, m1, S1, r1, st1, p1, en1, h1, z1⟩ => hc σ H1 m1 S1 vs ds Q r1 p1 h1 pins s1 us I1 rv) he hpl

/-! ### the built-ins -/
theorem rpl1 {d : D} {vs : List V} (h : RpL H m N vs [d]) : ∃ v, vs = [v] ∧ Rp H m N v d := by
  cases h with
  | cons h r =>
    cases r
    exact ⟨_, rfl, h⟩
theorem rpl2 {d e : D} {vs : List V} (h : RpL H m N vs [d, e]) : ∃ v w, vs = [v, w] ∧ Rp H m N v d ∧ Rp H m N w e := by
  cases h with
  | cons h r =>
    obtain ⟨w, rfl, q⟩ := rpl1 r
    exact ⟨_, _, rfl, h, q⟩
def bLen : OpN := fun ds S => match ds with
  | [d] => match seqOf S d with
    | some xs => .ok (.int xs.length) S
    | none => .stuck
  | _ => .stuck
theorem sc_len : SndC ct X W (.builtin "len") bLen := .of call_len_seq fun σ H m S vs ds Q r p h => by
  unfold bLen at h
  split at h
  · obtain ⟨v, rfl, q⟩ := rpl1 p
    split at h
    · rename_i xs e
      obtain ⟨a, ws, rfl, h1, l1⟩ := seqOf_rp r q e
      rw [← l1.length] at h
      rcases h1 with h1 | h1
      · exact ⟨a, ws, rfl, .inl (SqL.of h1), h.now r (.int _)⟩
      · exact ⟨a, ws, rfl, .inr (SqT.of h1), h.now r (.int _)⟩
    · exact h.elim
  · exact h.elim
def bList : OpN := fun ds S => match ds with
  | [d] => match seqOf S d with
    | some xs => .ok (.lst xs) S
    | none => .stuck
  | _ => .stuck
theorem sc_list : SndC ct X W (.type "list") bList := .of call_list_of fun σ H m S vs ds Q r p h => by
  unfold bList at h
  split at h
  · obtain ⟨v, rfl, q⟩ := rpl1 p
    split at h
    · rename_i xs e
      obtain ⟨a, ws, rfl, h1, l1⟩ := seqOf_rp r q e
      rcases h1 with h1 | h1
      · exact ⟨a, ws, rfl, .inl (SqL.of h1), fun p hp => h.newL r hp l1⟩
      · exact ⟨a, ws, rfl, .inr (SqT.of h1), fun p hp => h.newL r hp l1⟩
    · exact h.elim
  · exact h.elim
def bListM : OpN := fun ds S => match ds with
  | [d] => match seqOf S d with
    | some xs => .ok (.ref S.length) (S ++ [.lst xs])
    | none => .stuck
  | _ => .stuck
theorem sc_listM : SndC ct X W (.type "list") bListM := .of call_list_of fun σ H m S vs ds Q r p h => by
  unfold bListM at h
  split at h
  · obtain ⟨v, rfl, q⟩ := rpl1 p
    split at h
    · rename_i xs e
      obtain ⟨a, ws, rfl, h1, l1⟩ := seqOf_rp r q e
      rcases h1 with h1 | h1
      · exact ⟨a, ws, rfl, .inl (SqL.of h1), fun p hp => h.newC r hp l1⟩
      · exact ⟨a, ws, rfl, .inr (SqT.of h1), fun p hp => h.newC r hp l1⟩
    · exact h.elim
  · exact h.elim
/-- the ints of a list -/
def intsOf : List D → Option (List Int)
  | [] => some []
  | .int i :: ds => match intsOf ds with
    | some is => some (i :: is)
    | none => none
  | _ :: _ => none
def blsOf : List D → Option (List Bool)
  | [] => some []
  | .bl i :: ds => match blsOf ds with
    | some is => some (i :: is)
    | none => none
  | _ :: _ => none
theorem intsOf_eq : ∀ {ds : List D} {ns : List Int}, intsOf ds = some ns → ds = ns.map D.int
  | [], _, h => by cases h; rfl
  | d :: ds, ns, h => by
    unfold intsOf at h
    split at h
    · rename_i e
      cases e
    · rename_i i ds' e
      cases e
      split at h
      · rename_i is e2
        cases h
        rw [intsOf_eq e2]
        rfl
      · cases h
    · cases h
theorem blsOf_eq : ∀ {ds : List D} {ns : List Bool}, blsOf ds = some ns → ds = ns.map D.bl
  | [], _, h => by cases h; rfl
  | d :: ds, ns, h => by
    unfold blsOf at h
    split at h
    · rename_i e
      cases e
    · rename_i i ds' e
      cases e
      split at h
      · rename_i is e2
        cases h
        rw [blsOf_eq e2]
        rfl
      · cases h
    · cases h
@[simp] theorem intsOf_map (ns : List Int) : intsOf (ns.map D.int) = some ns := by
  induction ns with
  | nil => rfl
  | cons n ns ih => rw [List.map_cons, intsOf, ih]
@[simp] theorem blsOf_map (ns : List Bool) : blsOf (ns.map D.bl) = some ns := by
  induction ns with
  | nil => rfl
  | cons n ns ih => rw [List.map_cons, blsOf, ih]
/-- a call of one list of ints -/
def bInts (k : List Int → Store → ER) : OpN := fun ds S => match ds with
  | [d] => match lsOf S d with
    | some xs => match intsOf xs with
      | some ns => k ns S
      | none => .stuck
    | none => .stuck
  | _ => .stuck
theorem bInts_rp {k : List Int → Store → ER} {vs : List V} {ds : List D} (r : Rel ct m S H) (p : RpL H m S.length vs ds) (h : PostE ct W σ m S.length H Q (bInts k ds S)) :
    ∃ a ns, vs = [.ref a] ∧ H a = some (.lst (ns.map V.int)) ∧ PostE ct W σ m S.length H Q (k ns S) := by
  unfold bInts at h
  split at h
  · obtain ⟨v, rfl, q⟩ := rpl1 p
    split at h
    · rename_i xs e
      split at h
      · rename_i ns e2
        obtain ⟨a, ws, rfl, h1, l1⟩ := lsOf_rp r q e
        rw [intsOf_eq e2] at l1
        rw [l1.ints] at h1
        exact ⟨a, ns, rfl, h1, h⟩
      · exact h.elim
    · exact h.elim
  · exact h.elim
def bSum : OpN := bInts fun ns S => .ok (.int ns.sum) S
theorem sc_sum (hc : X.calm = true) : SndC ct X W (.builtin "sum") bSum := .of (cr_sum hc) fun σ H m S vs ds Q r p h => by
  obtain ⟨a, ns, rfl, h1, h⟩ := bInts_rp r p h
  exact ⟨a, ns, rfl, SqL.of h1, h.now r (.int _)⟩
def minL : Int → List Int → Int
  | z, [] => z
  | z, n :: ns => minL (if n < z then n else z) ns
def maxL : Int → List Int → Int
  | z, [] => z
  | z, n :: ns => maxL (if z < n then n else z) ns
theorem minL_mem : ∀ (z : Int) (ns : List Int), minL z ns ∈ z :: ns ∧ ∀ y ∈ z :: ns, minL z ns ≤ y
  | z, [] => ⟨by simp [minL], fun y hy => by simp at hy; simp [minL, hy]⟩
  | z, n :: ns => by
    have ih := minL_mem (if n < z then n else z) ns
    rw [minL]
    refine ⟨?_, fun y hy => ?_⟩
    · rcases List.mem_cons.mp ih.1 with e | e
      · rw [e]
        split <;> simp
      · exact List.mem_cons_of_mem _ (List.mem_cons_of_mem _ e)
    · have h0 := ih.2 _ List.mem_cons_self
      generalize minL (if n < z then n else z) ns = w at h0 ih ⊢
      rcases List.mem_cons.mp hy with e | hy
      · subst e
        split at h0 <;> omega
      · rcases List.mem_cons.mp hy with e | hy
        · subst e
          split at h0 <;> omega
        · exact ih.2 _ (List.mem_cons_of_mem _ hy)
theorem maxL_mem : ∀ (z : Int) (ns : List Int), maxL z ns ∈ z :: ns ∧ ∀ y ∈ z :: ns, y ≤ maxL z ns
  | z, [] => ⟨by simp [maxL], fun y hy => by simp at hy; simp [maxL, hy]⟩
  | z, n :: ns => by
    have ih := maxL_mem (if z < n then n else z) ns
    rw [maxL]
    refine ⟨?_, fun y hy => ?_⟩
    · rcases List.mem_cons.mp ih.1 with e | e
      · rw [e]
        split <;> simp
      · exact List.mem_cons_of_mem _ (List.mem_cons_of_mem _ e)
    · have h0 := ih.2 _ List.mem_cons_self
      generalize maxL (if z < n then n else z) ns = w at h0 ih ⊢
      rcases List.mem_cons.mp hy with e | hy
      · subst e
        split at h0 <;> omega
      · rcases List.mem_cons.mp hy with e | hy
        · subst e
          split at h0 <;> omega
        · exact ih.2 _ (List.mem_cons_of_mem _ hy)
def bMin : OpN := bInts fun ns S => match ns with
  | [] => .stuck
  | z :: ns => .ok (.int (minL z ns)) S
def bMax : OpN := bInts fun ns S => match ns with
  | [] => .stuck
  | z :: ns => .ok (.int (maxL z ns)) S
theorem sc_min (hc : X.calm = true) : SndC ct X W (.builtin "min") bMin := .of (cr_min hc) fun σ H m S vs ds Q r p h => by
  obtain ⟨a, ns, rfl, h1, h⟩ := bInts_rp r p h
  cases ns with
  | nil => exact h.elim
  | cons z ns =>
    refine ⟨a, z :: ns, rfl, SqL.of h1, Nat.succ_pos _, fun k hk hl => ?_⟩
    have e : k = minL z ns := Int.le_antisymm (hl _ (minL_mem z ns).1) ((minL_mem z ns).2 _ hk)
    rw [e]
    exact h.now r (.int _)
theorem sc_max (hc : X.calm = true) : SndC ct X W (.builtin "max") bMax := .of (cr_max hc) fun σ H m S vs ds Q r p h => by
  obtain ⟨a, ns, rfl, h1, h⟩ := bInts_rp r p h
  cases ns with
  | nil => exact h.elim
  | cons z ns =>
    refine ⟨a, z :: ns, rfl, SqL.of h1, Nat.succ_pos _, fun k hk hl => ?_⟩
    have e : k = maxL z ns := Int.le_antisymm ((maxL_mem z ns).2 _ hk) (hl _ (maxL_mem z ns).1)
    rw [e]
    exact h.now r (.int _)
def bMin2 : OpN := fun ds S => match ds with
  | [.int i, .int j] => .ok (.int (if j < i then j else i)) S
  | _ => .stuck
def bMax2 : OpN := fun ds S => match ds with
  | [.int i, .int j] => .ok (.int (if i < j then j else i)) S
  | _ => .stuck
theorem sc_min2 (hc : X.calm = true) : SndC ct X W (.builtin "min") bMin2 := .of (call_min2 hc) fun σ H m S vs ds Q r p h => by
  unfold bMin2 at h
  split at h
  · obtain ⟨v, w, rfl, q1, q2⟩ := rpl2 p
    cases q1
    cases q2
    exact ⟨_, _, rfl, h.now r (.int _)⟩
  · exact h.elim
theorem sc_max2 (hc : X.calm = true) : SndC ct X W (.builtin "max") bMax2 := .of (call_max2 hc) fun σ H m S vs ds Q r p h => by
  unfold bMax2 at h
  split at h
  · obtain ⟨v, w, rfl, q1, q2⟩ := rpl2 p
    cases q1
    cases q2
    exact ⟨_, _, rfl, h.now r (.int _)⟩
  · exact h.elim
def bAbs : OpN := fun ds S => match ds with
  | [.int i] => .ok (.int (if i < 0 then -i else i)) S
  | _ => .stuck
theorem sc_abs : SndC ct X W (.builtin "abs") bAbs := .of call_abs fun σ H m S vs ds Q r p h => by
  unfold bAbs at h
  split at h
  · obtain ⟨v, rfl, q⟩ := rpl1 p
    cases q
    exact ⟨_, rfl, h.now r (.int _)⟩
  · exact h.elim
def bBls (k : List Bool → Bool) : OpN := fun ds S => match ds with
  | [d] => match lsOf S d with
    | some xs => match blsOf xs with
      | some ns => .ok (.bl (k ns)) S
      | none => .stuck
    | none => .stuck
  | _ => .stuck
theorem bBls_rp {k : List Bool → Bool} {vs : List V} {ds : List D} (r : Rel ct m S H) (p : RpL H m S.length vs ds) (h : PostE ct W σ m S.length H Q (bBls k ds S)) :
    ∃ a ns, vs = [.ref a] ∧ H a = some (.lst (ns.map V.bl)) ∧ PostE ct W σ m S.length H Q (.ok (.bl (k ns)) S) := by
  unfold bBls at h
  split at h
  · obtain ⟨v, rfl, q⟩ := rpl1 p
    split at h
    · rename_i xs e
      split at h
      · rename_i ns e2
        obtain ⟨a, ws, rfl, h1, l1⟩ := lsOf_rp r q e
        rw [blsOf_eq e2] at l1
        rw [l1.bls] at h1
        exact ⟨a, ns, rfl, h1, h⟩
      · exact h.elim
    · exact h.elim
  · exact h.elim
def bAll : OpN := bBls fun bs => bs.all id
def bAny : OpN := bBls fun bs => bs.any id
theorem sc_all (hc : X.calm = true) : SndC ct X W (.builtin "all") bAll := .of (cr_all hc) fun σ H m S vs ds Q r p h => by
  obtain ⟨a, ns, rfl, h1, h⟩ := bBls_rp r p h
  exact ⟨a, ns, rfl, SqL.of h1, h.now r (.bl _)⟩
theorem sc_any (hc : X.calm = true) : SndC ct X W (.builtin "any") bAny := .of (cr_any hc) fun σ H m S vs ds Q r p h => by
  obtain ⟨a, ns, rfl, h1, h⟩ := bBls_rp r p h
  exact ⟨a, ns, rfl, SqL.of h1, h.now r (.bl _)⟩
/-- insertion -/
def insI (k : Int) : List Int → List Int
  | [] => [k]
  | n :: ns => if k ≤ n then k :: n :: ns else n :: insI k ns
def sortI : List Int → List Int
  | [] => []
  | n :: ns => insI n (sortI ns)
theorem insI_perm (k : Int) : ∀ ns, (insI k ns).Perm (k :: ns)
  | [] => .refl _
  | n :: ns => by
    rw [insI]
    split
    · exact .refl _
    · exact ((insI_perm k ns).cons n).trans (.swap _ _ _)
theorem sortI_perm : ∀ ns, (sortI ns).Perm ns
  | [] => .refl _
  | n :: ns => (insI_perm n _).trans ((sortI_perm ns).cons n)
theorem insI_sorted (k : Int) : ∀ ns : List Int, ns.Pairwise (· ≤ ·) → (insI k ns).Pairwise (· ≤ ·)
  | [], _ => by simp [insI]
  | n :: ns, h => by
    rw [insI]
    have h' := List.pairwise_cons.mp h
    split
    · rename_i hk
      exact List.pairwise_cons.mpr ⟨fun y hy => by
        rcases List.mem_cons.mp hy with e | hy
        · rw [e]; exact hk
        · exact Int.le_trans hk (h'.1 y hy), h⟩
    · rename_i hk
      refine List.pairwise_cons.mpr ⟨fun y hy => ?_, insI_sorted k ns h'.2⟩
      have := (insI_perm k ns).mem_iff.mp hy
      rcases List.mem_cons.mp this with e | hy
      · rw [e]; omega
      · exact h'.1 y hy
theorem sortI_sorted : ∀ ns, (sortI ns).Pairwise (· ≤ ·)
  | [] => .nil
  | n :: ns => insI_sorted n _ (sortI_sorted ns)
theorem sorted_one : ∀ {xs ys : List Int}, xs.Pairwise (· ≤ ·) → ys.Pairwise (· ≤ ·) → xs.Perm ys → xs = ys
  | [], ys, _, _, h => (List.nil_perm.mp h).symm
  | x :: xs, [], _, _, h => absurd (List.perm_nil.mp h) (by simp)
  | x :: xs, y :: ys, hx, hy, h => by
    have hx' := List.pairwise_cons.mp hx
    have hy' := List.pairwise_cons.mp hy
    have e : x = y := by
      have h1 : x ∈ y :: ys := h.mem_iff.mp List.mem_cons_self
      have h2 : y ∈ x :: xs := h.mem_iff.mpr List.mem_cons_self
      rcases List.mem_cons.mp h1 with e | h1
      · exact e
      · rcases List.mem_cons.mp h2 with e | h2
        · exact e.symm
        · exact Int.le_antisymm (hx'.1 y h2) (hy'.1 x h1)
    subst e
    rw [sorted_one hx'.2 hy'.2 (List.Perm.cons_inv h)]
def bSorted : OpN := bInts fun ns S => .ok (.lst ((sortI ns).map D.int)) S
theorem sc_sorted : SndC ct X W (.builtin "sorted") bSorted := .of cr_sortedI fun σ H m S vs ds Q r p h => by
  obtain ⟨a, ns, rfl, h1, h⟩ := bInts_rp r p h
  refine ⟨a, ns, rfl, SqL.of h1, fun ns' p hp hs hn => ?_⟩
  have e : ns' = sortI ns := sorted_one hs (sortI_sorted ns) (hp.trans (sortI_perm ns).symm)
  rw [e]
  exact h.newL r hn RpL.of_ints
/-- sorted of a dict's keys -/
def bSortedD : OpN := fun ds S => match ds with
  | [.ref n] => match S[n]? with
    | some (.dic kvs) => if kvs.length < 64 then .ok (.lst ((sortI (kvs.map (·.1))).map D.int)) S else .stuck
    | _ => .stuck
  | _ => .stuck
theorem RpK.keys : ∀ {vs : List (Key × V)} {ds : List (Int × D)}, RpK H m N vs ds → vs.map (·.1) = (ds.map (·.1)).map Sum.inl
  | _, _, .nil => rfl
  | _, _, .cons _ r => by
    rw [List.map_cons, List.map_cons, List.map_cons, RpK.keys r]
theorem sc_sortedD (hc : X.calm = true) : SndC ct X W (.builtin "sorted") bSortedD := .of (call_sortedDI hc) fun σ H m S vs ds Q r p h => by
  unfold bSortedD at h
  split at h
  · obtain ⟨v, rfl, q⟩ := rpl1 p
    split at h
    · rename_i kvs e
      split at h
      · rename_i hz
        cases q
        obtain ⟨dvs, h1, h2⟩ := r.cell _ _ e
        refine ⟨_, dvs, kvs.map (·.1), rfl, .inl h1, h2.keys, by rw [List.length_map]; exact hz, fun ys p hp hs hn => ?_⟩
        have e : ys = sortI (kvs.map (·.1)) := sorted_one hs (sortI_sorted _) (hp.trans (sortI_perm _).symm)
        rw [e]
        exact h.newL r hn RpL.of_ints
      · exact h.elim
    · exact h.elim
  · exact h.elim
end
end L2.VE
/-! VE5: calls of the text's own defs and methods, instances, isinstance. -/
namespace L2.VE
open PySem PySem.Spec PyProof.Rows
/-- what a def promises: to be worth what F tells -/
def spOf (ct : Nat → Addr) (n : Nat) (F : OpN) : Sp := fun vs H Q E => vs.length = n ∧ ∃ m S ds, Rel ct m S H ∧ RpL H m S.length vs ds ∧ PostE ct (fun cls d _ H => E cls d H) [] m S.length H Q (F ds S)
/-- the def x of the module, of n parameters, is worth what F tells; k: calls within -/
def FnAt (P : Program) (w : World) (K : PySem.W.Frag) (mg : Str → Option Value) (base : Heap) (ct : Nat → Addr) (x : Str) (k n : Nat) (F : OpN) : Prop :=
  ∃ f fd ps, FnOk P w K mg base (L2.CX P w) k f fd ps (spOf ct n F) ∧ mg x = some (.ref f) ∧ PySem.W.keepIn K (.ref f) = true ∧ Binds K fd ps []
def MethAt (P : Program) (w : World) (K : PySem.W.Frag) (mg : Str → Option Value) (base : Heap) (ct : Nat → Addr) (c : Nat) (x : Str) (k n : Nat) (F : OpN) : Prop :=
  ∃ f fd ps, FnOk P w K mg base (L2.CX P w) k f fd ps (spOf ct n F) ∧ Cls K (ct c) ∧ Meth K (ct c) x f ∧ Binds K fd ps []
/-- the class c is made by its __init__, which F tells -/
def MakeAt (P : Program) (w : World) (K : PySem.W.Frag) (mg : Str → Option Value) (base : Heap) (ct : Nat → Addr) (c : Nat) (x : Str) (k n : Nat) (F : OpN) : Prop :=
  ∃ f fd ps, FnOk P w K mg base (L2.CX P w) k f fd ps (spOf ct n F) ∧ Mk K (ct c) f ∧ mg x = some (.ref (ct c)) ∧ Binds K fd ps []
section
variable {ct : Nat → Addr} {X : Cx} {W : WX} {e a b c : Expr} {f fa fb fc : Ev} {σ : St} {H H' : Hp} {m m' : Mp} {S S' : Store} {G : Gm} {Q : VK} {N N' : Nat} {es : List Expr} {g : Av} {x : Str} {p pos apos : Pos} {k j n : Nat} {F : OpN}
theorem PostE.toF {r : ER} (h : PostE ct W σ m N H Q r) : PostE ct (fun cls d _ H => (WE W σ) cls d H) [] m N H Q r := by
  cases r with
  | ok d S => exact h
  | xc c S => exact h
  | stuck => exact h
theorem snd_call (h : FnAt X.prog X.w X.K X.mg X.base ct x k n F) (tk : Takes X W) (hr : Room j X.A) (hk : k ≤ j) (hg : Gl X x) (ha : SndA ct X W (e :: es) g) (hn : (e :: es).length = n)
    (hdb : (x == ("__debug__" : Str)) = false := by decide) (he : starEach (e :: es) X.env = (false, eval e X.env) :: starEach es X.env := by rfl) (hpl : (backTo pos (starEach es X.env)).any (·.1) = false := by rfl) :
    SndE ct X W (.Call (.Name x p) (e :: es) [] pos) (eCall F g) := by
  refine ⟨?_⟩
  intro σ H m S G Q r en hp
  obtain ⟨f, fd, ps, Fo, hm, kp, hb⟩ := h
  refine .of (pe_callS Fo (hr.mono hk) hg hm kp hb (fun σ => passAt tk σ) (pa_w) hdb he hpl) fun pos pins s I => ?_
  refine thn (ha σ H m S G Q _ r en hp pos pins s I) fun us s2 ⟨vs, H2, I2, rv, ds, m2, S2, r2, st2, p2, en2, h2, z2⟩ => ⟨vs, H2, I2, rv, ?_⟩
  exact ⟨by rw [p2.length, z2]; exact hn, m2, S2, ds, r2, p2, h2.toF⟩
/-- f() -/
theorem snd_call0 (h : FnAt X.prog X.w X.K X.mg X.base ct x k 0 F) (tk : Takes X W) (hr : Room j X.A) (hk : k ≤ j) (hg : Gl X x) (hdb : (x == ("__debug__" : Str)) = false := by decide) :
    SndE ct X W (.Call (.Name x p) [] [] pos) (eCall F eaNil) := by
  refine ⟨?_⟩
  intro σ H m S G Q r en hp
  obtain ⟨f, fd, ps, Fo, hm, kp, hb⟩ := h
  intro pins s I
  refine wpAny_Call_Name_kw (ld_glob I hg hm ?_ hdb)
  exact PySem.W.callWith_K0 I.kIn kp (run_fnS (us := []) (vs := []) (E := WE W) Fo (hr.mono hk) hb (passAt tk σ) I .nil ⟨rfl, m, S, [], r, .nil, PostE.toF (r := F [] S) hp⟩)

/-! ### methods -/
def eMeth (ms : List (Nat × OpN)) (x : Str) (fo : Ev) (g : Av) : Ev := fun G S => (fo G S).bind fun d S1 => match d with
  | .ref n => match S1[n]? with
    | some (.ins c fs) => match ms.lookup c, fs.lookup x with
      | some F, none => (g G S1).bind fun ds S2 => F (d :: ds) S2
      | _, _ => .stuck
    | _ => .stuck
  | _ => .stuck
theorem snd_meth {o : Expr} {fo : Ev} {ms : List (Nat × OpN)} {pl : Sem Bool} (ho : SndE ct X W o fo) (hms : ∀ c F, ms.lookup c = some F → MethAt X.prog X.w X.K X.mg X.base ct c x k n F) (tk : Takes X W) (hr : Room j X.A) (hk : k ≤ j) (ha : SndA ct X W (e :: es) g) (hn : (e :: es).length + 1 = n)
    (hst : starEach (e :: es) X.env = (false, eval e X.env) :: starEach es X.env := by rfl) (hpl : (backTo pos (starEach es X.env)).any (·.1) = false := by rfl)
    (ht : eval (.Call (.Attribute o x apos) (e :: es) [] pos) X.env = (do
      let ov ← eval o X.env
      standAt apos.atName
      let (f, first) ← holding [ov] (getMethod ov x pl)
      callWith pos f first (backTo pos (starEach (e :: es) X.env)) (backToKw pos (keywordEach [] X.env))) := by rfl) :
    SndE ct X W (.Call (.Attribute o x apos) (e :: es) [] pos) (eMeth ms x fo g) := by
  refine ⟨?_⟩
  intro σ H m S G Q r en hp pins s I
  refine PySem.W.methodCall_KW (pl := pl) (thn (ho.bind r en hp pins s I) fun u s1 ⟨v, H1, I1, rx, d, m1, S1, r1, st1, p1, en1, h1⟩ => ?_) ht
  split at h1
  · rename_i i
    split at h1
    · rename_i c fs e1
      split at h1
      · rename_i F e2 e3
        obtain ⟨f, fd, ps, Fo, cl, hm, hb⟩ := hms c F e2
        obtain ⟨dx, fvs, h3, h4⟩ := r1.cell i _ e1
        cases p1 with
        | ref hi =>
          obtain rfl : u = Value.ref (m1 i) := rx
          refine getmeth_ok I1 h3 cl hm (h4.lookup_none e3) ?_
          refine PySem.W.callWith_K (first := [.ref (m1 i)]) (h₀ := X.base) I.ok.mod.kin hm.kp (thn (ha σ H1 m1 S1 G Q _ r1 en1 h1 pos pins s1 I1) fun us s2 ⟨vs, H2, I2, rv, ds, m2, S2, r2, st2, p2, en2, h2, z2⟩ => ⟨I2.kIn, ?_⟩) hst hpl
          refine run_fnS (us := .ref (m1 i) :: us) (vs := .ref (m1 i) :: vs) (E := WE W) Fo (hr.mono hk) hb (passAt tk σ) I2 (.cons rfl rv) ?_
          exact ⟨by rw [List.length_cons, p2.length, z2]; exact hn, m2, S2, _, r2, .cons (Rp.mono st2 _ _ (.ref hi)) p2, h2.toF⟩
      · exact h1.elim
    · exact h1.elim
  · exact h1.elim
theorem snd_meth0 {o : Expr} {fo : Ev} {ms : List (Nat × OpN)} {pl : Sem Bool} (ho : SndE ct X W o fo) (hms : ∀ c F, ms.lookup c = some F → MethAt X.prog X.w X.K X.mg X.base ct c x k 1 F) (tk : Takes X W) (hr : Room j X.A) (hk : k ≤ j)
    (ht : eval (.Call (.Attribute o x apos) [] [] pos) X.env = (do
      let ov ← eval o X.env
      standAt apos.atName
      let (f, first) ← holding [ov] (getMethod ov x pl)
      callWith pos f first (backTo pos (starEach [] X.env)) (backToKw pos (keywordEach [] X.env))) := by rfl) :
    SndE ct X W (.Call (.Attribute o x apos) [] [] pos) (eMeth ms x fo eaNil) := by
  refine ⟨?_⟩
  intro σ H m S G Q r en hp pins s I
  refine PySem.W.methodCall_KW (pl := pl) (thn (ho.bind r en hp pins s I) fun u s1 ⟨v, H1, I1, rx, d, m1, S1, r1, st1, p1, en1, h1⟩ => ?_) ht
  split at h1
  · rename_i i
    split at h1
    · rename_i c fs e1
      split at h1
      · rename_i F e2 e3
        obtain ⟨f, fd, ps, Fo, cl, hm, hb⟩ := hms c F e2
        obtain ⟨dx, fvs, h3, h4⟩ := r1.cell i _ e1
        cases p1 with
        | ref hi =>
          obtain rfl : u = Value.ref (m1 i) := rx
          refine getmeth_ok I1 h3 cl hm (h4.lookup_none e3) ?_
          refine PySem.W.callWith_K0 (first := [.ref (m1 i)]) I1.kIn hm.kp (run_fnS (us := [.ref (m1 i)]) (vs := [.ref (m1 i)]) (E := WE W) Fo (hr.mono hk) hb (passAt tk σ) I1 (.cons rfl .nil) ?_)
          exact ⟨rfl, m1, S1, _, r1, .cons (.ref hi) .nil, PostE.toF (r := F [.ref i] S1) h1⟩
      · exact h1.elim
    · exact h1.elim
  · exact h1.elim

/-! ### instances made -/
def eMake (c : Nat) (F : OpN) (g : Av) : Ev := fun G S => (g G S).bind fun ds S1 => (F (.ref S1.length :: ds) (S1 ++ [.ins c []])).bind fun d S2 => match d with
  | .non => .ok (.ref S1.length) S2
  | _ => .stuck
theorem run_makeS {pins : List (Addr × Obj)} {s : Shared} {CX : CXT} {f C : Addr} {fd : FuncData} {ps : List Str} {sp : Sp} {E : St → XK} {us : List Value} {vs : List V} (M : Mk X.K C f) (F : FnOk X.prog X.w X.K X.mg X.base CX k f fd ps sp) (hr : Room (k + 1) X.A) (hb : Binds X.K fd ps [])
    (hx : PassesAt CX X σ (E σ)) (I : Inv X pins σ H s) (r : Vals vs us)
    (h : ∀ x dx, H x = none → H dx = none → dx ≠ x → sp (.ref x :: vs) (upd (upd H dx (.own x)) x (.ins C dx [])) (fun v H2 => v = .non ∧ Q (.ref x) H2) (E σ)) :
    wpAny (model X.prog X.w) X.A (call (.ref C) us) (EP X pins σ Q) X.xe s := by
  have hq := h (s.heap.objs.size + 1) s.heap.objs.size (I.hok.fresh (Nat.le_succ _)) (I.hok.fresh (Nat.le_refl _)) (Nat.ne_of_lt (Nat.lt_succ_self _))
  have I2 := Inv.made (C := C) I
  have r2 : Vals (V.ref (s.heap.objs.size + 1) :: vs) (Value.ref (s.heap.objs.size + 1) :: us) := .cons rfl r
  have hl : (Value.ref (s.heap.objs.size + 1) :: us ++ []).length = ps.length := by
    have e := r2.length
    rw [F.len _ _ _ _ hq] at e
    rw [List.append_nil]
    exact e.symm
  have hb2 := hb _ (Value.ref (s.heap.objs.size + 1) :: us) I2.kIn hl
  rw [List.append_nil] at hb2
  refine wpAny_call (make_map (f := f) I.kIn M.makes M.init (beq_iff_eq.mp M.fn) (codeAny_mono (F.run _ X.stack _ _ ⟨Value.ref (s.heap.objs.size + 1) :: us, []⟩ (Value.ref (s.heap.objs.size + 1) :: us) _ _ (E σ) (hr.make C us [])
    (I2.env0.make C us []) hb2 r2 hq) fun r s' hq' => ?_))
  cases r with
  | error e => exact hx pins _ _ e s' I2 hq'
  | ok fl =>
    cases fl with
    | ret u =>
      obtain ⟨v, H', I3, rv, ev, q3⟩ := I2.after hq'
      subst ev
      exact ⟨rv, ⟨V.ref (s.heap.objs.size + 1), H', I3, rfl, q3⟩⟩
    | next => exact False.elim hq'
    | brk => exact False.elim hq'
    | cont => exact False.elim hq'
theorem snd_make {cc : Nat} (h : MakeAt X.prog X.w X.K X.mg X.base ct cc x k n F) (tk : Takes X W) (hr : Room j X.A) (hk : k + 1 ≤ j) (hg : Gl X x) (ha : SndA ct X W (e :: es) g) (hn : (e :: es).length + 1 = n)
    (hdb : (x == ("__debug__" : Str)) = false := by decide) (he : starEach (e :: es) X.env = (false, eval e X.env) :: starEach es X.env := by rfl) (hpl : (backTo pos (starEach es X.env)).any (·.1) = false := by rfl) :
    SndE ct X W (.Call (.Name x p) (e :: es) [] pos) (eMake cc F g) := by
  refine ⟨?_⟩
  intro σ H m S G Q r en hp pins s I
  obtain ⟨f, fd, ps, Fo, M, hm, hb⟩ := h
  refine wpAny_Call_Name_kw (ld_glob I hg hm ?_ hdb)
  refine PySem.W.callWith_K (h₀ := X.base) I.ok.mod.kin M.kp (thn (ha σ H m S G Q _ r en hp pos pins s I) fun us s1 ⟨vs, H1, I1, rv, ds, m1, S1, r1, st1, p1, en1, h1, z1⟩ => ⟨I1.kIn, ?_⟩) he hpl
  refine run_makeS (E := WE W) M Fo (hr.mono hk) hb (passAt tk σ) I1 rv fun y dx hy hdx ne => ?_
  have kk : ∀ a o, H1 a = some o → upd (upd H1 dx (.own y)) y (.ins (ct cc) dx []) a = some o := fun a o e => by rw [upd_ne (ne_of_none e hy), upd_ne (ne_of_none e hdx)]; exact e
  have st : Step m1 S1.length H1 (ext m1 S1.length y) (S1.length + 1) (upd (upd H1 dx (.own y)) y (.ins (ct cc) dx [])) := Step.cell hy kk
  have len : (S1 ++ [Cell.ins cc []]).length = S1.length + 1 := by simp
  have r2 : Rel ct (ext m1 S1.length y) (S1 ++ [Cell.ins cc []]) (upd (upd H1 dx (.own y)) y (.ins (ct cc) dx [])) := r1.cellNew hy kk ⟨dx, [], upd_same, .nil⟩
  have ey : V.ref y = V.ref (ext m1 S1.length y S1.length) := by rw [ext_eq]
  refine ⟨by rw [List.length_cons, p1.length, z1]; exact hn, ext m1 S1.length y, S1 ++ [Cell.ins cc []], .ref S1.length :: ds, r2, ?_, ?_⟩
  · rw [len]
    refine .cons ?_ (RpL.mono st _ _ p1)
    rw [ey]
    exact .ref (Nat.lt_succ_self _)
  · have st' : Step m1 S1.length H1 (ext m1 S1.length y) (S1 ++ [Cell.ins cc []]).length (upd (upd H1 dx (.own y)) y (.ins (ct cc) dx [])) := by rw [len]; exact st
    have h1' := PostE.step st' h1
    cases e0 : F (.ref S1.length :: ds) (S1 ++ [Cell.ins cc []]) with
    | ok d S2 =>
      rw [e0] at h1'
      intro v m2 H2 r3 st3 p3
      have hlt : S1.length < (S1 ++ [Cell.ins cc []]).length := by rw [len]; exact Nat.lt_succ_self _
      cases p3 with
      | non =>
        have h2 : PostE ct W σ (ext m1 S1.length y) (S1 ++ [Cell.ins cc []]).length (upd (upd H1 dx (.own y)) y (.ins (ct cc) dx [])) Q (.ok (.ref S1.length) S2) := h1'
        refine ⟨rfl, h2 (.ref y) m2 H2 r3 st3 ?_⟩
        rw [ey, ← st3.ag _ hlt]
        exact .ref (Nat.lt_of_lt_of_le hlt st3.le)
      | bl => exact (show False from h1').elim
      | int => exact (show False from h1').elim
      | str => exact (show False from h1').elim
      | lst => exact (show False from h1').elim
      | tup => exact (show False from h1').elim
      | ref => exact (show False from h1').elim
      | exn => exact (show False from h1').elim
      | fn => exact (show False from h1').elim
    | xc c S2 =>
      rw [e0] at h1'
      exact h1'
    | stuck =>
      rw [e0] at h1'
      exact h1'

/-! ### fields -/
/-- what reading and storing fields wants of a class -/
def FldAt (K : PySem.W.Frag) (ct : Nat → Addr) (c : Nat) (f : Str) : Prop := Cls K (ct c) ∧ NoAttr K (ct c) f
def opFld (cs : List Nat) (f : Str) : Op1 := fun d S => match d with
  | .ref n => match S[n]? with
    | some (.ins c fs) => if c ∈ cs then (match fs.lookup f with
      | some x => .ok x S
      | none => .stuck) else .stuck
    | _ => .stuck
  | _ => .stuck
theorem snd_fld {cs : List Nat} {fd : Str} (he : SndE ct X W e f) (hcs : ∀ c ∈ cs, FldAt X.K ct c fd) (hb : attributeBase e fd X.env (eval e X.env) = eval e X.env) : SndE ct X W (.Attribute e fd pos) (eOp1 (opFld cs fd) f) := by
  refine ⟨?_⟩
  intro σ H m S G Q r en h
  refine .of (pe_fld pe_w hb) ((he.bind r en h).mono fun v H1 ⟨d, m1, S1, r1, st1, p1, en1, h1⟩ => ?_)
  unfold opFld at h1
  split at h1
  · split at h1
    · rename_i c fs e1
      split at h1
      · rename_i hc
        split at h1
        · rename_i z e2
          cases p1
          obtain ⟨dx, fvs, h3, h4⟩ := r1.cell _ _ e1
          obtain ⟨w, a1, a2⟩ := h4.lookup e2
          exact ⟨_, _, dx, fvs, w, rfl, h3, (hcs c hc).1, (hcs c hc).2, a1, h1.now r1 a2⟩
        · exact h1.elim
      · exact h1.elim
    · exact h1.elim
  · exact h1.elim

/-! ### isinstance -/
def isB (t T : String) : Bool := t == T || (t == "bool" && T == "int")
def opIsT (T : String) : Op1 := fun d S => match d with
  | .non => .ok (.bl (isB "NoneType" T)) S
  | .bl _ => .ok (.bl (isB "bool" T)) S
  | .int _ => .ok (.bl (isB "int" T)) S
  | .str _ => .ok (.bl (isB "str" T)) S
  | .lst _ => .ok (.bl (isB "list" T)) S
  | .tup _ => .ok (.bl (isB "tuple" T)) S
  | .ref n => match S[n]? with
    | some (.lst _) => .ok (.bl (isB "list" T)) S
    | some (.dic _) => .ok (.bl (isB "dict" T)) S
    | _ => .stuck
  | .exn _ => .stuck
  | .fn _ => .stuck
/-- the built-in classes that are asked -/
def TyFacts (T : String) : Prop := ∀ t ∈ ["NoneType", "bool", "int", "str", "list", "tuple", "dict"], kitB t T = some (isB t T)
theorem tf_int : TyFacts "int" := by intro t ht; simp only [List.mem_cons, List.not_mem_nil, or_false] at ht; rcases ht with h | h | h | h | h | h | h <;> subst h <;> decide +kernel
theorem tf_bool : TyFacts "bool" := by intro t ht; simp only [List.mem_cons, List.not_mem_nil, or_false] at ht; rcases ht with h | h | h | h | h | h | h <;> subst h <;> decide +kernel
theorem tf_str : TyFacts "str" := by intro t ht; simp only [List.mem_cons, List.not_mem_nil, or_false] at ht; rcases ht with h | h | h | h | h | h | h <;> subst h <;> decide +kernel
theorem tf_list : TyFacts "list" := by intro t ht; simp only [List.mem_cons, List.not_mem_nil, or_false] at ht; rcases ht with h | h | h | h | h | h | h <;> subst h <;> decide +kernel
theorem tf_tuple : TyFacts "tuple" := by intro t ht; simp only [List.mem_cons, List.not_mem_nil, or_false] at ht; rcases ht with h | h | h | h | h | h | h <;> subst h <;> decide +kernel
theorem snd_isT {T : String} {y : Str} {p2 : Pos} (hx : SndE ct X W e f) (hT : TyFacts T) (hg : Gl X "isinstance") (hm : X.mg "isinstance" = none) (hg2 : Gl X y) (hm2 : X.mg y = none) (hv2 : bootBuiltins y = some (.type T)) (hn2 : y ≠ "__name__" := by decide)
    (hd2 : (y == ("__debug__" : Str)) = false := by decide) (he1 : starEach [e, .Name y p2] X.env = (false, eval e X.env) :: starEach [.Name y p2] X.env := by rfl) (he2 : starEach [.Name y p2] X.env = (false, eval (.Name y p2) X.env) :: starEach [] X.env := by rfl) (hpl : (backTo pos (starEach [.Name y p2] X.env)).any (·.1) = false := by rfl) :
    SndE ct X W (.Call (.Name "isinstance" p) [e, .Name y p2] [] pos) (eOp1 (opIsT T) f) := by
  refine ⟨?_⟩
  intro σ H m S G Q r en h
  have pa : PA X [e, .Name y p2] (tCons (EvW X e) (tCons (tC (.ty T)) tNil)) := pa_cons pe_w (pa_cons (pe_bltn (v := .ty T) hg2 hm2 hv2 rfl hn2 hd2) pa_nil he2) he1
  refine .of (pe_callB call_isi hg hm boot_isinstance pa (by decide) (by decide) he1 hpl) ((hx.bind r en h).mono fun v H1 ⟨d, m1, S1, r1, st1, p1, en1, h1⟩ => ?_)
  have go : ∀ t b, TyX X.K H1 v (.type t) → t ∈ ["NoneType", "bool", "int", "str", "list", "tuple", "dict"] → PostE ct W σ m1 S1.length H1 Q (.ok (.bl (isB t T)) S1) → b = isB t T → rIsi X.K [v, .ty T] H1 Q := fun t b ty ht hp eb => by
    exact ⟨v, .ty T, .type t, .type T, isB t T, rfl, .ty T, ty, kit_ty (hT t ht), hp.now r1 (.bl _)⟩
  unfold opIsT at h1
  cases p1 with
  | non => exact go "NoneType" _ (.base .non) (by simp) h1 rfl
  | bl b => exact go "bool" _ (.base (.bl _)) (by simp) h1 rfl
  | int i => exact go "int" _ (.base (.int _)) (by simp) h1 rfl
  | str s => exact go "str" _ (.base (.str _)) (by simp) h1 rfl
  | lst q _ _ => exact go "list" _ (.base (.lst q)) (by simp) h1 rfl
  | tup q _ _ => exact go "tuple" _ (.base (.tup q)) (by simp) h1 rfl
  | exn => exact h1.elim
  | fn => exact h1.elim
  | @ref i hi =>
    split at h1 <;> try (rename_i z; cases z; done)
    rename_i z
    cases z
    split at h1
    · rename_i xs e1
      obtain ⟨vs, q, _⟩ := r1.cell _ _ e1
      exact go "list" _ (.base (.lst q)) (by simp) h1 rfl
    · rename_i xs e1
      obtain ⟨vs, q, _⟩ := r1.cell _ _ e1
      exact go "dict" _ (.base (.dK q)) (by simp) h1 rfl
    · exact h1.elim
/-- what isinstance wants of the class of an object -/
structure InsF (K : PySem.W.Frag) (C : Addr) : Prop where
  cl : Cls K C
  ha : PySem.W.findIn K (.ref C) "__class__" = some (some (.builtin "object.__class__"))
  hn : PySem.W.specialIn K (.builtin "object.__class__") "__get__" = some (some (.builtin "getset_descriptor.__get__"))
  htk : PySem.W.takesIn K (.builtin "object.__class__") = some true
  hm : PySem.W.mroIn K C (.type "object") = some true
/-- isinstance(x, C) of objects of own classes: subs tells for each class -/
def opIsC (subs : List (Nat × Bool)) : Op1 := fun d S => match d with
  | .ref n => match S[n]? with
    | some (.ins c _) => match subs.lookup c with
      | some b => .ok (.bl b) S
      | none => .stuck
    | _ => .stuck
  | _ => .stuck
theorem snd_isC {cc : Nat} {subs : List (Nat × Bool)} {y : Str} {p2 : Pos} (hx : SndE ct X W e f) (hsub : ∀ c b, subs.lookup c = some b → InsF X.K (ct c) ∧ PySem.W.kitOne X.K (.ref (ct c)) (.ref (ct cc)) = some b) (hg : Gl X "isinstance") (hm : X.mg "isinstance" = none)
    (hg2 : Gl X y) (hm2 : X.mg y = some (.ref (ct cc))) (hd2 : (y == ("__debug__" : Str)) = false := by decide) (he1 : starEach [e, .Name y p2] X.env = (false, eval e X.env) :: starEach [.Name y p2] X.env := by rfl)
    (he2 : starEach [.Name y p2] X.env = (false, eval (.Name y p2) X.env) :: starEach [] X.env := by rfl) (hpl : (backTo pos (starEach [.Name y p2] X.env)).any (·.1) = false := by rfl) :
    SndE ct X W (.Call (.Name "isinstance" p) [e, .Name y p2] [] pos) (eOp1 (opIsC subs) f) := by
  refine ⟨?_⟩
  intro σ H m S G Q r en h
  have pa : PA X [e, .Name y p2] (tCons (EvW X e) (tCons (tC (.ref (ct cc))) tNil)) := pa_cons pe_w (pa_cons (pe_glob (v := .ref (ct cc)) hg2 hm2 rfl hd2) pa_nil he2) he1
  refine .of (pe_callB call_isi hg hm boot_isinstance pa (by decide) (by decide) he1 hpl) ((hx.bind r en h).mono fun v H1 ⟨d, m1, S1, r1, st1, p1, en1, h1⟩ => ?_)
  unfold opIsC at h1
  split at h1
  · split at h1
    · rename_i c fs e1
      split at h1
      · rename_i b e2
        cases p1
        obtain ⟨dx, fvs, q, _⟩ := r1.cell _ _ e1
        obtain ⟨i1, i2⟩ := hsub c b e2
        exact ⟨_, .ref (ct cc), .ref (ct c), .ref (ct cc), b, rfl, .own _, .base (.ins q i1.cl i1.ha i1.hn i1.htk i1.hm), i2, h1.now r1 (.bl _)⟩
      · exact h1.elim
    · exact h1.elim
  · exact h1.elim
end
end L2.VE
/-! VE6: statements, targets, loops. -/
namespace L2.VE
open PySem PySem.Spec PyProof.Rows
/-- a statement's end -/
inductive Out where
  | nx (G : Gm) (S : Store) | rt (d : D) (S : Store) | bk (G : Gm) (S : Store) | ct (G : Gm) (S : Store) | xc (c : Nat) (G : Gm) (S : Store) | stuck
abbrev Blk := Gm → Store → Out
def PostS (ct : Nat → Addr) (W : WX) (m : Mp) (N : Nat) (H : Hp) (Z : Ends) : Out → Prop
  | .nx G S' => ∀ σ' m' H', Rel ct m' S' H' → Step m N H m' S'.length H' → EnvR H' m' S'.length σ' G → Z.nx σ' H'
  | .rt d S' => ∀ v m' H', Rel ct m' S' H' → Step m N H m' S'.length H' → Rp H' m' S'.length v d → Z.rt v H'
  | .bk G S' => ∀ σ' m' H', Rel ct m' S' H' → Step m N H m' S'.length H' → EnvR H' m' S'.length σ' G → Z.bk σ' H'
  | .ct G S' => ∀ σ' m' H', Rel ct m' S' H' → Step m N H m' S'.length H' → EnvR H' m' S'.length σ' G → Z.ct σ' H'
  | .xc c G S' => ∀ σ' m' H', Rel ct m' S' H' → Step m N H m' S'.length H' → EnvR H' m' S'.length σ' G → W (.ref (ct c)) none σ' H'
  | .stuck => False
def StW (X : Cx) (st : Stmt) (Z : Ends) (σ : St) (H : Hp) : Prop := ∀ pins s, Inv X pins σ H s → wpAny (model X.prog X.w) X.A (exec st X.env) (SP X pins Z) X.xe s
def StsW (X : Cx) (st : List Stmt) (Z : Ends) (σ : St) (H : Hp) : Prop := ∀ pins s, Inv X pins σ H s → wpAny (model X.prog X.w) X.A (execs st X.env) (SP X pins Z) X.xe s
structure SndS (ct : Nat → Addr) (X : Cx) (W : WX) (st : Stmt) (f : Blk) : Prop where
  mk ::
  run : ∀ (σ : St) (H : Hp) (m : Mp) (S : Store) (G : Gm) (Z : Ends), Rel ct m S H → EnvR H m S.length σ G → PostS ct W m S.length H Z (f G S) → StW X st Z σ H
instance {ct : Nat → Addr} {X : Cx} {W : WX} {st : Stmt} {f : Blk} : CoeFun (SndS ct X W st f) (fun _ => ∀ (σ : St) (H : Hp) (m : Mp) (S : Store) (G : Gm) (Z : Ends), Rel ct m S H → EnvR H m S.length σ G → PostS ct W m S.length H Z (f G S) → StW X st Z σ H) := ⟨SndS.run⟩
structure SndB (ct : Nat → Addr) (X : Cx) (W : WX) (st : List Stmt) (f : Blk) : Prop where
  mk ::
  run : ∀ (σ : St) (H : Hp) (m : Mp) (S : Store) (G : Gm) (Z : Ends), Rel ct m S H → EnvR H m S.length σ G → PostS ct W m S.length H Z (f G S) → StsW X st Z σ H
instance {ct : Nat → Addr} {X : Cx} {W : WX} {st : List Stmt} {f : Blk} : CoeFun (SndB ct X W st f) (fun _ => ∀ (σ : St) (H : Hp) (m : Mp) (S : Store) (G : Gm) (Z : Ends), Rel ct m S H → EnvR H m S.length σ G → PostS ct W m S.length H Z (f G S) → StsW X st Z σ H) := ⟨SndB.run⟩
section
variable {ct : Nat → Addr} {X : Cx} {W : WX} {e a b c : Expr} {f fa fb fc : Ev} {σ : St} {H H' : Hp} {m m' : Mp} {S S' : Store} {G : Gm} {Q : VK} {N N' : Nat} {es : List Expr} {g : Av} {x : Str} {p pos apos : Pos} {Z : Ends} {st : Stmt} {rest body : List Stmt} {u v : Blk}
theorem ps_w : PS X st (StW X st) := ⟨fun pins s _ _ _ I h => h pins s I⟩
theorem pss_w {sts : List Stmt} : PSs X sts (StsW X sts) := ⟨fun pins s _ _ _ I h => h pins s I⟩
theorem StW.of {t : TS} (h : PS X st t) (q : t Z σ H) : StW X st Z σ H := fun pins s I => h.run pins s σ H Z I q
theorem StsW.of {sts : List Stmt} {t : TS} (h : PSs X sts t) (q : t Z σ H) : StsW X sts Z σ H := fun pins s I => h.run pins s σ H Z I q
theorem PostS.step (s : Step m N H m' N' H') {r : Out} (h : PostS ct W m N H Z r) : PostS ct W m' N' H' Z r := by
  cases r with
  | nx G S2 => exact fun σ2 m2 H2 r2 t p => h σ2 m2 H2 r2 (s.trans t) p
  | rt d S2 => exact fun v m2 H2 r2 t p => h v m2 H2 r2 (s.trans t) p
  | bk G S2 => exact fun σ2 m2 H2 r2 t p => h σ2 m2 H2 r2 (s.trans t) p
  | ct G S2 => exact fun σ2 m2 H2 r2 t p => h σ2 m2 H2 r2 (s.trans t) p
  | xc c G S2 => exact fun σ2 m2 H2 r2 t p => h σ2 m2 H2 r2 (s.trans t) p
  | stuck => exact h
def toOut (r : ER) (G : Gm) (k : D → Store → Out) : Out := match r with
  | .ok d S => k d S
  | .xc c S => .xc c G S
  | .stuck => .stuck
@[simp] theorem toOut_ok {d : D} {S : Store} {k : D → Store → Out} : toOut (.ok d S) G k = k d S := rfl
@[simp] theorem toOut_xc {c : Nat} {S : Store} {k : D → Store → Out} : toOut (.xc c S) G k = .xc c G S := rfl
@[simp] theorem toOut_stuck {k : D → Store → Out} : toOut .stuck G k = .stuck := rfl
theorem SndE.bindS (ha : SndE ct X W a fa) (r : Rel ct m S H) (en : EnvR H m S.length σ G) {k : D → Store → Out} (h : PostS ct W m S.length H Z (toOut (fa G S) G k)) :
    EvW X a σ H fun v H1 => ∃ d m1 S1, Rel ct m1 S1 H1 ∧ Step m S.length H m1 S1.length H1 ∧ Rp H1 m1 S1.length v d ∧ EnvR H1 m1 S1.length σ G ∧ PostS ct W m1 S1.length H1 Z (k d S1) := by
  refine ha σ H m S G _ r en ?_
  cases e : fa G S with
  | ok d S1 =>
    rw [e] at h
    intro v m1 H1 r1 st p
    exact ⟨d, m1, S1, r1, st, p, en.mono st, PostS.step st h⟩
  | xc c S1 =>
    rw [e] at h
    exact fun m1 H1 r1 st => h σ m1 H1 r1 st (en.mono st)
  | stuck =>
    rw [e] at h
    exact h
theorem SndT.bindS (ha : SndT ct X W a fa) (r : Rel ct m S H) (en : EnvR H m S.length σ G) {k : D → Store → Out} (h : PostS ct W m S.length H Z (toOut (fa G S) G k)) (hk : ∀ d S1, (∀ b, d ≠ .bl b) → k d S1 = .stuck) :
    TsW X a σ H fun b H1 => ∃ m1 S1, Rel ct m1 S1 H1 ∧ Step m S.length H m1 S1.length H1 ∧ EnvR H1 m1 S1.length σ G ∧ PostS ct W m1 S1.length H1 Z (k (.bl b) S1) := by
  refine ha σ H m S G _ r en ?_
  cases e : fa G S with
  | ok d S1 =>
    rw [e] at h
    intro v m1 H1 r1 st p
    have h2 : PostS ct W m S.length H Z (k d S1) := h
    cases p with
    | bl b => exact ⟨b, rfl, m1, S1, r1, st, en.mono st, PostS.step st h2⟩
    | non => rw [hk _ _ (fun b z => by cases z)] at h2; exact h2.elim
    | int => rw [hk _ _ (fun b z => by cases z)] at h2; exact h2.elim
    | str => rw [hk _ _ (fun b z => by cases z)] at h2; exact h2.elim
    | lst => rw [hk _ _ (fun b z => by cases z)] at h2; exact h2.elim
    | tup => rw [hk _ _ (fun b z => by cases z)] at h2; exact h2.elim
    | ref => rw [hk _ _ (fun b z => by cases z)] at h2; exact h2.elim
    | exn => rw [hk _ _ (fun b z => by cases z)] at h2; exact h2.elim
    | fn => rw [hk _ _ (fun b z => by cases z)] at h2; exact h2.elim
  | xc c S1 =>
    rw [e] at h
    exact fun m1 H1 r1 st => h σ m1 H1 r1 st (en.mono st)
  | stuck =>
    rw [e] at h
    exact h
/-- the same of an argument list -/
def toOutA (r : AR) (G : Gm) (k : List D → Store → Out) : Out := match r with
  | .ok d S => k d S
  | .xc c S => .xc c G S
  | .stuck => .stuck
@[simp] theorem toOutA_ok {d : List D} {S : Store} {k : List D → Store → Out} : toOutA (.ok d S) G k = k d S := rfl
@[simp] theorem toOutA_xc {c : Nat} {S : Store} {k : List D → Store → Out} : toOutA (.xc c S) G k = .xc c G S := rfl
@[simp] theorem toOutA_stuck {k : List D → Store → Out} : toOutA .stuck G k = .stuck := rfl

/-! ### blocks, small statements -/
def bNil : Blk := fun G S => .nx G S
def bCons (u v : Blk) : Blk := fun G S => match u G S with
  | .nx G1 S1 => v G1 S1
  | o => o
theorem PostS.nx_now (h : PostS ct W m S.length H Z (.nx G S)) (r : Rel ct m S H) (en : EnvR H m S.length σ G) : Z.nx σ H := h σ m H r Step.refl en
theorem sb_nil : SndB ct X W [] bNil := by
  refine ⟨?_⟩
  exact fun σ H m S G Z r en h => .of pss_nil (h.nx_now r en)
theorem sb_cons (h1 : SndS ct X W st u) (h2 : SndB ct X W rest v) : SndB ct X W (st :: rest) (bCons u v) := by
  refine ⟨?_⟩
  intro σ H m S G Z r en h
  refine .of (pss_cons ps_w pss_w) (h1 σ H m S G _ r en ?_)
  unfold bCons at h
  cases e : u G S with
  | nx G1 S1 =>
    rw [e] at h
    intro σ1 m1 H1 r1 st1 en1
    exact h2 σ1 H1 m1 S1 G1 Z r1 en1 (PostS.step st1 h)
  | rt d S1 => rw [e] at h; exact h
  | bk G1 S1 => rw [e] at h; exact h
  | ct G1 S1 => rw [e] at h; exact h
  | xc c G1 S1 => rw [e] at h; exact h
  | stuck => rw [e] at h; exact h
theorem sb_one (h1 : SndS ct X W st u) : SndB ct X W [st] u := by
  refine ⟨?_⟩
  exact fun σ H m S G Z r en h => .of (pss_one ps_w) (h1 σ H m S G Z r en h)
theorem ss_pass : SndS ct X W (.Pass pos) bNil := by
  refine ⟨?_⟩
  exact fun σ H m S G Z r en h => .of ps_pass (h.nx_now r en)
def sBreak : Blk := fun G S => .bk G S
def sCont : Blk := fun G S => .ct G S
theorem ss_break : SndS ct X W (.Break pos) sBreak := by
  refine ⟨?_⟩
  exact fun σ H m S G Z r en h => .of ps_break (h σ m H r Step.refl en)
theorem ss_continue : SndS ct X W (.Continue pos) sCont := by
  refine ⟨?_⟩
  exact fun σ H m S G Z r en h => .of ps_continue (h σ m H r Step.refl en)
def sExpr (f : Ev) : Blk := fun G S => toOut (f G S) G fun _ S1 => .nx G S1
theorem ss_expr (he : SndE ct X W e f) (hs : swapsWith e none pos.line X.env = pure false := by rfl) : SndS ct X W (.Expr e pos) (sExpr f) := by
  refine ⟨?_⟩
  exact fun σ H m S G Z r en h =>
  .of (ps_expr pe_w hs) ((he.bindS r en h).mono fun v H1 ⟨d, m1, S1, r1, st1, p1, en1, h1⟩ => h1.nx_now r1 en1)
def sRet (f : Ev) : Blk := fun G S => toOut (f G S) G fun d S1 => .rt d S1
theorem ss_ret (he : SndE ct X W e f) : SndS ct X W (.Return (some e) pos) (sRet f) := by
  refine ⟨?_⟩
  exact fun σ H m S G Z r en h =>
  .of (ps_ret pe_w) ((he.bindS r en h).mono fun v H1 ⟨d, m1, S1, r1, st1, p1, en1, h1⟩ => h1 v m1 H1 r1 Step.refl p1)
def sRetN : Blk := fun _ S => .rt .non S
theorem ss_retN : SndS ct X W (.Return none pos) sRetN := by
  refine ⟨?_⟩
  exact fun σ H m S G Z r en h => .of ps_retN (h .non m H r Step.refl .non)
def sIf (ft : Ev) (u v : Blk) : Blk := fun G S => toOut (ft G S) G fun d S1 => match d with
  | .bl true => u G S1
  | .bl false => v G S1
  | _ => .stuck
theorem ss_if {p q : List Stmt} {ft : Ev} (ht : SndT ct X W c ft) (hp : SndB ct X W p u) (hq : SndB ct X W q v) : SndS ct X W (.If c p q pos) (sIf ft u v) := by
  refine ⟨?_⟩
  intro σ H m S G Z r en h
  refine .of (ps_if pt_w pss_w pss_w) ((ht.bindS r en h fun d S1 hd => ?_).mono fun b H1 ⟨m1, S1, r1, st1, en1, h1⟩ => ?_)
  · cases d <;> first | rfl | exact absurd rfl (hd _)
  · cases b with
    | true => exact iteT (hp σ H1 m1 S1 G Z r1 en1 h1)
    | false => exact iteF (hq σ H1 m1 S1 G Z r1 en1 h1)

/-! ### targets: names and tuples of such -/
inductive Tg where
  | nm (i : Nat) | tup (ts : List Tg)
mutual
def tgD : Tg → D → Gm → Option Gm
  | .nm i, d, G => some (G.set i (some d))
  | .tup ts, .tup ds, G => tgDs ts ds G
  | .tup _, _, _ => none
def tgDs : List Tg → List D → Gm → Option Gm
  | [], [], G => some G
  | t :: ts, d :: ds, G => match tgD t d G with
    | some G1 => tgDs ts ds G1
    | none => none
  | _, _, _ => none
end
mutual
def gT (K : PySem.W.Frag) : Tg → TG
  | .nm i => gName i
  | .tup ts => gTup K ts.length (gTs K ts)
def gTs (K : PySem.W.Frag) : List Tg → TGs
  | [] => gNil
  | t :: ts => gCons (gT K t) (gTs K ts)
end
theorem tgDs_len : ∀ {ts : List Tg} {ds : List D} {G G' : Gm}, tgDs ts ds G = some G' → ds.length = ts.length
  | [], [], _, _, _ => rfl
  | [], _ :: _, _, _, h => by simp [tgDs] at h
  | _ :: _, [], _, _, h => by simp [tgDs] at h
  | t :: ts, d :: ds, G, G', h => by
    rw [tgDs] at h
    split at h
    · rw [List.length_cons, List.length_cons, tgDs_len h]
    · cases h
mutual
theorem gT_ok {K : PySem.W.Frag} {Q : St → Hp → Prop} : ∀ (t : Tg) (d : D) (x : V) (σ : St) (G G' : Gm), tgD t d G = some G' → Rp H m N x d → EnvR H m N σ G → (∀ σ', EnvR H m N σ' G' → Q σ' H) → gT K t x σ H Q
  | .nm i, d, x, σ, G, G', h, p, en, k => by
    rw [tgD] at h
    cases h
    exact k _ (en.set p i)
  | .tup ts, .tup ds, x, σ, G, G', h, p, en, k => by
    rw [tgD] at h
    cases p with
    | tup h1 _ l1 => exact ⟨_, _, rfl, SqT.of h1, by rw [l1.length]; exact tgDs_len h, gTs_ok ts ds _ σ G G' h l1 en k⟩
  | .tup ts, .non, x, σ, G, G', h, p, en, k => by simp [tgD] at h
  | .tup ts, .bl _, x, σ, G, G', h, p, en, k => by simp [tgD] at h
  | .tup ts, .int _, x, σ, G, G', h, p, en, k => by simp [tgD] at h
  | .tup ts, .str _, x, σ, G, G', h, p, en, k => by simp [tgD] at h
  | .tup ts, .lst _, x, σ, G, G', h, p, en, k => by simp [tgD] at h
  | .tup ts, .ref _, x, σ, G, G', h, p, en, k => by simp [tgD] at h
theorem gTs_ok {K : PySem.W.Frag} {Q : St → Hp → Prop} : ∀ (ts : List Tg) (ds : List D) (xs : List V) (σ : St) (G G' : Gm), tgDs ts ds G = some G' → RpL H m N xs ds → EnvR H m N σ G → (∀ σ', EnvR H m N σ' G' → Q σ' H) → gTs K ts xs σ H Q
  | [], [], _, σ, G, G', h, .nil, en, k => by
    rw [tgDs] at h
    cases h
    exact ⟨rfl, k σ en⟩
  | t :: ts, d :: ds, _, σ, G, G', h, .cons p l, en, k => by
    rw [tgDs] at h
    split at h
    · rename_i G1 e
      exact ⟨_, _, rfl, gT_ok t d _ σ G G1 e p en fun σ1 en1 => gTs_ok ts ds _ σ1 G1 G' h l en1 k⟩
    · cases h
  | [], _ :: _, _, _, _, _, h, _, _, _ => by simp [tgDs] at h
  | _ :: _, [], _, _, _, _, h, _, _, _ => by simp [tgDs] at h
end
/-- the target in the text -/
def SndG (X : Cx) (tg : Expr) (t : Tg) : Prop := PG X tg (gT X.K t)
def SndGs (X : Cx) (tg : List Expr) (t : List Tg) : Prop := PGs X tg (gTs X.K t)
theorem sg_name {i : Nat} (hN : X.N.Nodup) (hi : X.N[i]? = some x) (hx : Loc X.env.scope x) (hf : X.fn x = true ∨ X.env.scope.names.lookup x = some .local := by first | exact .inl rfl | exact .inr rfl | assumption) : SndG X (.Name x pos) (.nm i) := by
  show PG X _ (gT X.K (.nm i))
  rw [gT]
  exact pg_name hN hi hx hf
theorem sg_nil : SndGs X [] [] := by
  show PGs X [] (gTs X.K [])
  rw [gTs]
  exact pgs_nil
theorem sg_cons {t : Tg} {ts : List Tg} (h1 : SndG X e t) (h2 : SndGs X es ts) (hs : (assignEach (e :: es) X.env).map (·.2) = assign e X.env :: (assignEach es X.env).map (·.2) := by rfl) : SndGs X (e :: es) (t :: ts) := by
  show PGs X (e :: es) (gTs X.K (t :: ts))
  rw [gTs]
  exact pgs_cons h1 h2 hs
theorem sg_tup {ts : List Tg} {k : Nat} (hc : X.calm = true) (h : SndGs X es ts) (hn : (assignEach es X.env).length = ts.length := by rfl) (hst : (assignEach es X.env).findIdx? (·.1) = none := by rfl) : SndG X (.Tuple es k pos) (.tup ts) := by
  show PG X _ (gT X.K (.tup ts))
  rw [gT]
  exact pg_tup hc h hn hst
def sAsg (t : Tg) (f : Ev) : Blk := fun G S => toOut (f G S) G fun d S1 => match tgD t d G with
  | some G1 => .nx G1 S1
  | none => .stuck
theorem asg_ok {K : PySem.W.Frag} {t : Tg} {v : V} {d : D} (r : Rel ct m S H) (p : Rp H m S.length v d) (en : EnvR H m S.length σ G) (h : PostS ct W m S.length H Z (match tgD t d G with | some G1 => .nx G1 S | none => .stuck)) : gT K t v σ H Z.nx := by
  split at h
  · rename_i G1 e
    exact gT_ok t d v σ G G1 e p en fun σ1 en1 => h.nx_now r en1
  · exact h.elim
theorem ss_asg {tg : Expr} {t : Tg} (he : SndE ct X W e f) (hg : SndG X tg t) (hs : swapsWithSole [tg] e pos.line X.env = pure false := by rfl) (hw : swappedStores [tg] e X.env = pure none := by rfl)
    (h1 : (assignEach [tg] X.env).map (·.2) = [assign tg X.env] := by rfl) : SndS ct X W (.Assign [tg] e pos) (sAsg t f) := by
  refine ⟨?_⟩
  exact fun σ H m S G Z r en h =>
  .of (ps_asg pe_w hg hs hw h1) ((he.bindS r en h).mono fun v H1 ⟨d, m1, S1, r1, st1, p1, en1, h1⟩ => asg_ok r1 p1 en1 h1)
theorem ss_set {i : Nat} {pos' : Pos} (he : SndE ct X W e f) (hN : X.N.Nodup) (hi : X.N[i]? = some x) (hx : Loc X.env.scope x) (hs : swapsWith e (some (.Name x pos')) pos.line X.env = pure false := by rfl) (hf : X.fn x = true ∨ X.env.scope.names.lookup x = some .local := by first | exact .inl rfl | exact .inr rfl | assumption) :
    SndS ct X W (.Assign [.Name x pos'] e pos) (sAsg (.nm i) f) := by
  refine ⟨?_⟩
  intro σ H m S G Z r en h
  refine .of (ps_set hN hi hx pe_w hs hf) ((he.bindS r en h).mono fun v H1 ⟨d, m1, S1, r1, st1, p1, en1, h1⟩ => ?_)
  have q := asg_ok (K := X.K) (t := .nm i) r1 p1 en1 h1
  rw [gT] at q
  exact q
/-- a, b = e1, e2 of plain names -/
def sPar (is : List Nat) (g : Av) : Blk := fun G S => toOutA (g G S) G fun ds S1 => match tgDs (is.map .nm) ds G with
  | some G1 => .nx G1 S1
  | none => .stuck
theorem SndA.bindS {es : List Expr} (ha : SndA ct X W es g) (r : Rel ct m S H) (en : EnvR H m S.length σ G) {k : List D → Store → Out} (h : PostS ct W m S.length H Z (toOutA (g G S) G k)) :
    ArgW X es σ H fun vs H1 => ∃ ds m1 S1, Rel ct m1 S1 H1 ∧ RpL H1 m1 S1.length vs ds ∧ EnvR H1 m1 S1.length σ G ∧ PostS ct W m1 S1.length H1 Z (k ds S1) := by
  intro pos pins s I
  cases e : g G S with
  | ok ds0 S0 =>
    rw [e] at h
    have hp : PostE ct W σ m S.length H (fun _ _ => True) ((g G S).bind fun ds S1 => @ite _ (ds = ds0 ∧ S1 = S0) (Classical.propDecidable _) (.ok .non S1) .stuck) := by
      rw [e]
      show PostE ct W σ m S.length H (fun _ _ => True) (@ite _ (ds0 = ds0 ∧ S0 = S0) (Classical.propDecidable _) (.ok .non S0) .stuck)
      rw [if_pos ⟨rfl, rfl⟩]
      exact fun _ _ _ _ _ _ => trivial
    refine thn (ha σ H m S G _ _ r en hp pos pins s I) fun us s2 ⟨vs, H2, I2, rv, ds, m2, S2, r2, st2, p2, en2, h2, z2⟩ => ⟨vs, H2, I2, rv, ds, m2, S2, r2, p2, en2, ?_⟩
    by_cases q : ds = ds0 ∧ S2 = S0
    · obtain ⟨q1, q2⟩ := q
      subst q1 q2
      exact PostS.step st2 h
    · rw [if_neg q] at h2
      exact h2.elim
  | xc c S0 =>
    rw [e] at h
    have hp : PostE ct W σ m S.length H (fun _ _ => True) ((g G S).bind fun ds S1 => .stuck) := by
      rw [e]
      exact fun m1 H1 r1 st => h σ m1 H1 r1 st (en.mono st)
    exact thn (ha σ H m S G _ _ r en hp pos pins s I) fun us s2 ⟨vs, H2, I2, rv, ds, m2, S2, r2, st2, p2, en2, h2, z2⟩ => h2.elim
  | stuck =>
    rw [e] at h
    exact h.elim
end
end L2.VE
/-! VE7: pairs of targets, stores by place, while, for, comprehensions, raise, a def by its body. -/
namespace L2.VE
open PySem PySem.Spec PyProof.Rows
section
variable {ct : Nat → Addr} {X : Cx} {W : WX} {e a b c : Expr} {f fa fb fc : Ev} {σ : St} {H H' : Hp} {m m' : Mp} {S S' : Store} {G : Gm} {Q : VK} {N N' : Nat} {es : List Expr} {g : Av} {x y z : Str} {p pos apos : Pos} {Z : Ends} {st : Stmt} {rest body : List Stmt} {u v : Blk}
theorem tgDs2 {i j : Nat} {ds : List D} {G1 : Gm} (h : tgDs [.nm i, .nm j] ds G = some G1) : ∃ d e, ds = [d, e] ∧ G1 = (G.set i (some d)).set j (some e) := by
  match ds, h with
  | [], h => simp [tgDs] at h
  | [_], h => simp [tgDs, tgD] at h
  | [d, e], h =>
    simp [tgDs, tgD] at h
    exact ⟨d, e, rfl, h.symm⟩
  | _ :: _ :: _ :: _, h => simp [tgDs, tgD] at h
theorem tgDs3 {i j l : Nat} {ds : List D} {G1 : Gm} (h : tgDs [.nm i, .nm j, .nm l] ds G = some G1) : ∃ d e q, ds = [d, e, q] ∧ G1 = ((G.set i (some d)).set j (some e)).set l (some q) := by
  match ds, h with
  | [], h => simp [tgDs] at h
  | [_], h => simp [tgDs, tgD] at h
  | [_, _], h => simp [tgDs, tgD] at h
  | [d, e, q], h =>
    simp [tgDs, tgD] at h
    exact ⟨d, e, q, rfl, h.symm⟩
  | _ :: _ :: _ :: _ :: _, h => simp [tgDs, tgD] at h
theorem ss_par {i j : Nat} {px py pt : Pos} {kt k2 pt2} (hc : X.calm = true) (hN : X.N.Nodup) (hi : X.N[i]? = some x) (hj : X.N[j]? = some y) (hij : i ≠ j) (hx : X.env.scope.names.lookup x = some .local) (hy : X.env.scope.names.lookup y = some .local) (ha : SndA ct X W [a, b] g)
    (hw : swappedStores [.Tuple [.Name x px, .Name y py] kt pt] (.Tuple [a, b] k2 pt2) X.env = pure (some [x, y])) (hs : swapsWithSole [.Tuple [.Name x px, .Name y py] kt pt] (.Tuple [a, b] k2 pt2) pos.line X.env = pure false := by rfl) :
    SndS ct X W (.Assign [.Tuple [.Name x px, .Name y py] kt pt] (.Tuple [a, b] k2 pt2) pos) (sPar [i, j] g) := by
  refine ⟨?_⟩
  intro σ H m S G Z r en h
  refine .of (ps_par hc hN hi hj hij hx hy pa_w hw hs) fun pos pins s I => thn (ha.bindS r en h pos pins s I) fun us s2 ⟨vs, H2, I2, rv, ds, m2, S2, r2, p2, en2, h2⟩ => ⟨vs, H2, I2, rv, ?_⟩
  split at h2
  · rename_i G1 e1
    obtain ⟨d, q, rfl, rfl⟩ := tgDs2 e1
    obtain ⟨v, w, rfl, q1, q2⟩ := rpl2 p2
    exact ⟨v, w, rfl, h2.nx_now r2 ((en2.set q1 i).set q2 j)⟩
  · exact h2.elim
theorem ss_par3 {i j l : Nat} {px py pz pt : Pos} {kt k2 pt2} (hc : X.calm = true) (hN : X.N.Nodup) (hi : X.N[i]? = some x) (hj : X.N[j]? = some y) (hl : X.N[l]? = some z) (hij : i ≠ j) (hil : i ≠ l) (hjl : j ≠ l)
    (hx : X.env.scope.names.lookup x = some .local) (hy : X.env.scope.names.lookup y = some .local) (hz : X.env.scope.names.lookup z = some .local) (ha : SndA ct X W [a, b, c] g)
    (hw : swappedStores [.Tuple [.Name x px, .Name y py, .Name z pz] kt pt] (.Tuple [a, b, c] k2 pt2) X.env = pure (some [x, y, z])) (hs : swapsWithSole [.Tuple [.Name x px, .Name y py, .Name z pz] kt pt] (.Tuple [a, b, c] k2 pt2) pos.line X.env = pure false := by rfl) :
    SndS ct X W (.Assign [.Tuple [.Name x px, .Name y py, .Name z pz] kt pt] (.Tuple [a, b, c] k2 pt2) pos) (sPar [i, j, l] g) := by
  refine ⟨?_⟩
  intro σ H m S G Z r en h
  refine .of (L2.ps_par3 hc hN hi hj hl hij hil hjl hx hy hz pa_w hw hs) fun pos pins s I => thn (ha.bindS r en h pos pins s I) fun us s2 ⟨vs, H2, I2, rv, ds, m2, S2, r2, p2, en2, h2⟩ => ⟨vs, H2, I2, rv, ?_⟩
  split at h2
  · rename_i G1 e1
    obtain ⟨d, q, t, rfl, rfl⟩ := tgDs3 e1
    cases p2 with
    | cons q1 l2 =>
      obtain ⟨v, w, rfl, q2, q3⟩ := rpl2 l2
      exact ⟨_, v, w, rfl, h2.nx_now r2 (((en2.set q1 i).set q2 j).set q3 l)⟩
  · exact h2.elim

/-! ### stores by place -/
def putI (i : Int) (d : D) (kvs : List (Int × D)) : List (Int × D) := if (kvs.any fun kv => decide (kv.1 = i)) = true then kvs.map (fun kv => if kv.1 = i then (kv.1, d) else kv) else kvs ++ [(i, d)]
def setD (o i d : D) (S : Store) : Option Store := match o, i with
  | .ref n, .int k => match S[n]? with
    | some (.lst xs) => match ixN xs.length k with
      | some j => some (S.set n (.lst (xs.set j d)))
      | none => none
    | some (.dic kvs) => if kvs.length < 1000 then some (S.set n (.dic (putI k d kvs))) else none
    | _ => none
  | _, _ => none
theorem RpK.any {i : Int} : ∀ {vs : List (Key × V)} {ds : List (Int × D)}, RpK H m N vs ds → (vs.any fun kv => decide (kv.1 = Sum.inl i)) = (ds.any fun kv => decide (kv.1 = i))
  | _, _, .nil => rfl
  | _, _, .cons (k := k) h r => by
    rw [List.any_cons, List.any_cons, RpK.any r]
    congr 1
    by_cases e : k = i
    · subst e
      simp
    · rw [decide_eq_false e, decide_eq_false (fun z => e (Sum.inl.inj z))]
theorem RpK.mapPut {i : Int} {w : V} {d : D} (hd : Rp H m N w d) : ∀ {vs : List (Key × V)} {ds : List (Int × D)}, RpK H m N vs ds → RpK H m N (vs.map (fun kv => if kv.1 = Sum.inl i then (kv.1, w) else kv)) (ds.map (fun kv => if kv.1 = i then (kv.1, d) else kv))
  | _, _, .nil => .nil
  | _, _, .cons (k := k) h r => by
    rw [List.map_cons, List.map_cons]
    by_cases e : k = i
    · subst e
      rw [if_pos rfl, if_pos rfl]
      exact .cons hd (RpK.mapPut hd r)
    · rw [if_neg (fun z => e (Sum.inl.inj z)), if_neg e]
      exact .cons h (RpK.mapPut hd r)
theorem RpK.snoc {i : Int} {w : V} {d : D} (hd : Rp H m N w d) : ∀ {vs : List (Key × V)} {ds : List (Int × D)}, RpK H m N vs ds → RpK H m N (vs ++ [(Sum.inl i, w)]) (ds ++ [(i, d)])
  | _, _, .nil => .cons hd .nil
  | _, _, .cons h r => .cons h (RpK.snoc hd r)
theorem RpK.put {i : Int} {w : V} {d : D} (hd : Rp H m N w d) {vs : List (Key × V)} {ds : List (Int × D)} (r : RpK H m N vs ds) : RpK H m N (putK vs (Sum.inl i) w) (putI i d ds) := by
  unfold putK putI
  rw [r.any (i := i)]
  split
  · exact r.mapPut hd
  · exact r.snoc hd
theorem RpK.length : ∀ {vs : List (Key × V)} {ds : List (Int × D)}, RpK H m N vs ds → vs.length = ds.length
  | _, _, .nil => rfl
  | _, _, .cons _ r => congrArg Nat.succ r.length
theorem RpL.write {n : Nat} {o u0 : HO} (hn : n < N) (hu : H (m n) = some u0) (nf : ∀ od u, u0 ≠ .frz od u) {vs : List V} {ds : List D} (h : RpL H m N vs ds) : RpL (upd H (m n) o) m N vs ds := RpL.mono (Step.write hn hu nf) _ _ h
theorem setD_ok (hu : X.A.units + 1 < cLine) {o i w : V} {od id d : D} {S2 : Store} (r : Rel ct m S H) (po : Rp H m S.length o od) (pi : Rp H m S.length i id) (pw : Rp H m S.length w d) (h : setD od id d S = some S2) {Q : Hp → Prop}
    (k : ∀ H2, Rel ct m S2 H2 → Step m S.length H m S2.length H2 → Q H2) : ∀ pins s ov iv u, Inv X pins σ H s → RelV o ov → RelV i iv → RelV w u → wpAny (model X.prog X.w) X.A (setItem ov iv u) (fun _ s' => ∃ H', Inv X pins σ H' s' ∧ Q H') X.xe s := by
  intro pins s ov iv u I ro ri ru
  unfold setD at h
  split at h
  · rename_i n kk
    cases po
    cases pi
    rename_i hn
    split at h
    · rename_i xs e1
      split at h
      · rename_i j e2
        cases h
        obtain ⟨vs, h1, h2⟩ := r.cell n _ e1
        have e3 : ixN vs.length kk = some j := by rw [h2.length]; exact e2
        refine set_list pins s σ H _ _ w ov iv u Q I ro ri ru ⟨_, vs, kk, j, rfl, rfl, h1, e3, ?_⟩
        refine k _ (r.write hn h1 (fun _ _ z => nomatch z) ⟨_, upd_same, ((h2.set pw j).write hn h1 (fun _ _ z => nomatch z))⟩) ?_
        rw [List.length_set]
        exact Step.write hn h1
      · cases h
    · rename_i kvs e1
      split at h
      · rename_i hz
        cases h
        obtain ⟨dvs, h1, h2⟩ := r.cell n _ e1
        refine set_dict hu pins s σ H _ _ w ov iv u Q I ro ri ru ⟨_, _, rfl, DPut.k (k := Sum.inl kk) h1 (by rw [h2.length]; exact size_lt (by omega)), ?_⟩
        refine k _ (r.write hn h1 (fun _ _ z => nomatch z) ⟨_, upd_same, (RpK.put (pw) h2).mono (Step.write hn h1)⟩) ?_
        rw [List.length_set]
        exact Step.write hn h1
      · cases h
    · cases h
  · cases h
def sSub (fo fi fe : Ev) : Blk := fun G S => toOut (fe G S) G fun d S1 => toOut (fo G S1) G fun o S2 => toOut (fi G S2) G fun i S3 => match setD o i d S3 with
  | some S4 => .nx G S4
  | none => .stuck
theorem ss_sub {o i : Expr} {fo fi : Ev} {p2 : Pos} (hu : X.A.units + 1 < cLine) (ho : SndE ct X W o fo) (hi : SndE ct X W i fi) (he : SndE ct X W e f) (hs : swapsWithSole [.Subscript o i p2] e pos.line X.env = pure false := by rfl) (hw : swappedStores [.Subscript o i p2] e X.env = pure none := by rfl)
    (h1 : (assignEach [.Subscript o i p2] X.env).map (·.2) = [assign (.Subscript o i p2) X.env] := by rfl)
    (ha : ∀ v, assign (.Subscript o i p2) X.env v = (do
      let ov ← holding [v] (eval o X.env)
      let iv ← holding [v, ov] (eval i X.env)
      standAt p2
      holding [v, ov, iv] (setItem ov iv v)
      release [v, ov, iv] []) := by intro _; rfl) : SndS ct X W (.Assign [.Subscript o i p2] e pos) (sSub fo fi f) := by
  refine ⟨?_⟩
  intro σ H m S G Z r en h
  have hset : PSet X (fun o i v H Q => ∀ pins s σ ov iv u, Inv X pins σ H s → RelV o ov → RelV i iv → RelV v u → wpAny (model X.prog X.w) X.A (setItem ov iv u) (fun _ s' => ∃ H', Inv X pins σ H' s' ∧ Q H') X.xe s) :=
    fun pins s σ H o i v ov iv u Q I ro ri rv q => q pins s σ ov iv u I ro ri rv
  refine .of (ps_asg pe_w (pg_sub pe_w pe_w hset ha) hs hw h1) ((he.bindS r en h).mono fun v H1 ⟨d, m1, S1, r1, st1, p1, en1, h1⟩ => ?_)
  show EvW X o σ H1 _
  refine (ho.bindS r1 en1 h1).mono fun v2 H2 ⟨d2, m2, S2, r2, st2, p2, en2, h2⟩ => ?_
  refine (hi.bindS r2 en2 h2).mono fun v3 H3 ⟨d3, m3, S3, r3, st3, p3, en3, h3⟩ => ?_
  split at h3
  · rename_i S4 e4
    intro pins s σ' ov iv u I ro ri ru
    refine setD_ok (σ := σ') hu r3 (Rp.mono st3 _ _ p2) p3 (Rp.mono (st2.trans st3) _ _ p1) e4 (fun H4 r4 st4 => ?_) pins s ov iv u I ro ri ru
    exact h3 σ m3 H4 r4 st4 (en3.mono st4)
  · exact h3.elim
/-- o[i] += e -/
def sAugSub (o2 : Op2) (fo fi fe : Ev) : Blk := fun G S => toOut (fo G S) G fun o S1 => toOut (fi G S1) G fun i S2 => toOut (opIx o i S2) G fun x S3 => toOut (fe G S3) G fun y S4 => toOut (o2 x y S4) G fun z S5 => match setD o i z S5 with
  | some S6 => .nx G S6
  | none => .stuck
end
end L2.VE
/-! VE8: augmented stores, while, for, comprehensions, raise, a def by its body. -/
namespace L2.VE
open PySem PySem.Spec PyProof.Rows
section
variable {ct : Nat → Addr} {X : Cx} {W : WX} {e a b c : Expr} {f fa fb fc : Ev} {σ : St} {H H' : Hp} {m m' : Mp} {S S' : Store} {G : Gm} {Q : VK} {N N' : Nat} {es : List Expr} {g : Av} {x y z : Str} {p pos apos : Pos} {Z : Ends} {st : Stmt} {rest body : List Stmt} {u v : Blk}
theorem getI_list {i : Int} {n : Nat} {vs : List V} {w : V} (h1 : H (m n) = some (.lst vs)) (h2 : L2.atI vs i = some w) (q : Q w H) : ∀ pins s iv, Inv X pins σ H s → RelV (.int i) iv → wpAny (model X.prog X.w) X.A (getItem (.ref (m n)) iv) (EP X pins σ Q) X.xe s := by
  intro pins s iv I ry
  obtain ⟨t, rfl⟩ := ry
  obtain ⟨its, r, pl, hz⟩ := I.list (SqL.of h1)
  obtain ⟨j, h1', h2', h3, h4, h5⟩ := atI_get h2
  obtain ⟨w', ew, rw'⟩ := r.get h2'
  have hl := r.length
  have hn := line63
  have fin : EP X pins σ Q w' s := ⟨w, H, I, rw', q⟩
  by_cases h0 : 0 ≤ i
  · have hj : i.toNat = j := by
      rw [seqIndex_of h0 h5] at h1'
      exact Option.some.inj h1'
    exact wpAny_getItem_list pl.isList h0 (by omega) (by rw [hj]; simpa using ew) fin
  · have hj : (i + (its.toArray.size : Int)).toNat = j := by
      rw [seqIndex_neg (by omega) h4] at h1'
      rw [List.size_toArray, ← hl]
      exact Option.some.inj h1'
    exact wpAny_getItem_list_neg pl.isList (by omega) (by rw [List.size_toArray] <;> omega) (by omega) (by rw [hj]; simpa using ew) fin
/-- o[i] of a list that is a cell -/
def opIxC : Op2 := fun d e S => match d, e with
  | .ref n, .int i => match S[n]? with
    | some (.lst xs) => match atI xs i with
      | some x => .ok x S
      | none => .stuck
    | _ => .stuck
  | _, _ => .stuck
theorem opIxC_inv (d e : D) (S : Store) : opIxC d e S = .stuck ∨ ∃ n i xs w, d = .ref n ∧ e = .int i ∧ S[n]? = some (.lst xs) ∧ atI xs i = some w ∧ opIxC d e S = .ok w S := by
  unfold opIxC
  split
  · split
    · split
      · exact .inr ⟨_, _, _, _, rfl, rfl, by assumption, by assumption, rfl⟩
      · exact .inl rfl
    · exact .inl rfl
  · exact .inl rfl
def sAugS (g2 : Int → Int → Int) (fo fi fe : Ev) : Blk := fun G S => toOut (fo G S) G fun o S1 => toOut (fi G S1) G fun i S2 => toOut (opIxC o i S2) G fun x S3 => toOut (fe G S3) G fun y S4 => match x, y with
  | .int k, .int l => match setD o i (.int (g2 k l)) S4 with
    | some S5 => .nx G S5
    | none => .stuck
  | _, _ => .stuck
theorem ss_augS {o i : Expr} {fo fi : Ev} {op : Operator} {g2 : Int → Int → Int} {p2 : Pos} (hu : X.A.units + 1 < cLine) (hop : PIp X op (ipI g2)) (ho : SndE ct X W o fo) (hi : SndE ct X W i fi) (he : SndE ct X W e f)
    (ha : ∀ ov iv new, augStore i ov iv new = (do holding [new, ov, iv] (setItem ov iv new); release [new, ov, iv] []; pure .next) := by intros; rfl) : SndS ct X W (.AugAssign (.Subscript o i p2) op e pos) (sAugS g2 fo fi f) := by
  refine ⟨?_⟩
  intro σ H m S G Z r en h
  have hset : PSet X (fun o i v H Q => ∀ pins s σ ov iv u, Inv X pins σ H s → RelV o ov → RelV i iv → RelV v u → wpAny (model X.prog X.w) X.A (setItem ov iv u) (fun _ s' => ∃ H', Inv X pins σ H' s' ∧ Q H') X.xe s) :=
    fun pins s σ H o i v ov iv u Q I ro ri rv q => q pins s σ ov iv u I ro ri rv
  have hget : PGet X (fun o i H Q => ∀ pins s σ ov iv, Inv X pins σ H s → RelV o ov → RelV i iv → wpAny (model X.prog X.w) X.A (getItem ov iv) (EP X pins σ Q) X.xe s) :=
    fun pins s σ H o i ov iv Q I ro ri q => q pins s σ ov iv I ro ri
  refine .of (ps_augS pe_w pe_w hget pe_w hop hset ha) ?_
  show EvW X o σ H _
  refine (ho.bindS r en h).mono fun v1 H1 ⟨d1, m1, S1, r1, st1, p1, en1, h1⟩ => ?_
  refine (hi.bindS r1 en1 h1).mono fun v2 H2 ⟨d2, m2, S2, r2, st2, p2, en2, h2⟩ => ?_
  have p1' := Rp.mono st2 _ _ p1
  rcases opIxC_inv d1 d2 S2 with ex | ⟨n, k, xs, w, ed1, ed2, e1, e2, ex⟩
  · rw [ex] at h2
    exact h2.elim
  · rw [ex] at h2
    subst ed1 ed2
    cases p1' with
    | ref hn =>
      cases p2
      obtain ⟨vs, q1, q2⟩ := r2.cell n _ e1
      obtain ⟨wv, a1, a2⟩ := q2.atI e2
      intro pins s σ0 ov iv I ro ri
      obtain rfl : ov = Value.ref (m2 n) := ro
      refine getI_list q1 a1 ?_ pins s iv I ri
      refine (he.bindS r2 en2 h2).mono fun v4 H4 ⟨d4, m4, S4, r4, st4, p4, en4, h4⟩ => ?_
      have a4 := Rp.mono st4 _ _ a2
      split at h4
      · cases a4
        cases p4
        split at h4
        · rename_i S5 e5
          refine ⟨_, _, rfl, rfl, ?_⟩
          intro pins s σ' ov iv u I ro ri ru
          refine setD_ok (σ := σ') hu r4 (Rp.mono st4 _ _ (.ref hn)) (.int k) (.int _) e5 (fun H5 r5 st5 => ?_) pins s ov iv u I ro ri ru
          exact h4 σ m4 H5 r5 st5 (en4.mono st5)
        · exact h4.elim
      · exact h4.elim
/-- x += e -/
def sAug (i : Nat) (g2 : Int → Int → Int) (fe : Ev) : Blk := fun G S => match G[i]? with
  | some (some (.int k)) => toOut (fe G S) G fun y S1 => match y with
    | .int l => .nx (G.set i (some (.int (g2 k l)))) S1
    | _ => .stuck
  | _ => .stuck
theorem ss_aug {i : Nat} {op : Operator} {g2 : Int → Int → Int} {p2 : Pos} (hN : X.N.Nodup) (hi : X.N[i]? = some x) (hx : Loc X.env.scope x) (hop : PIp X op (ipI g2)) (he : SndE ct X W e f) (hf : X.fn x = true ∨ X.env.scope.names.lookup x = some .local := by first | exact .inl rfl | exact .inr rfl | assumption) :
    SndS ct X W (.AugAssign (.Name x p2) op e pos) (sAug i g2 f) := by
  refine ⟨?_⟩
  intro σ H m S G Z r en h
  refine .of (ps_aug hN hi hx pe_w hop hf) ?_
  unfold sAug at h
  split at h
  · rename_i k e1
    obtain ⟨w, q1, q2⟩ := en.at_ i _ e1
    cases q2
    refine ⟨.int k, q1, (he.bindS r en h).mono fun v1 H1 ⟨d1, m1, S1, r1, st1, p1, en1, h1⟩ => ?_⟩
    split at h1
    · cases p1
      exact ⟨_, _, rfl, rfl, h1.nx_now r1 (en1.set (.int _) i)⟩
    · exact h1.elim
  · exact h.elim
/-- o.f = e -/
def putD (f : Str) (v : D) : List (Str × D) → List (Str × D)
  | [] => [(f, v)]
  | (g, x) :: r => if g = f then (g, v) :: r else (g, x) :: putD f v r
theorem RpF.put {fd : Str} {w : V} {d : D} (hd : Rp H m N w d) : ∀ {vs : List (Str × V)} {ds : List (Str × D)}, RpF H m N vs ds → RpF H m N (putF fd w vs) (putD fd d ds)
  | _, _, .nil => .cons hd .nil
  | _, _, .cons (x := x) h r => by
    rw [putF, putD]
    by_cases e : x = fd
    · rw [if_pos e, if_pos e]
      exact .cons hd r
    · rw [if_neg e, if_neg e]
      exact .cons h (RpF.put hd r)
theorem RpF.length : ∀ {vs : List (Str × V)} {ds : List (Str × D)}, RpF H m N vs ds → vs.length = ds.length
  | _, _, .nil => rfl
  | _, _, .cons _ r => congrArg Nat.succ r.length
def sFldS (cs : List Nat) (fd : Str) (fo fe : Ev) : Blk := fun G S => toOut (fe G S) G fun d S1 => toOut (fo G S1) G fun o S2 => match o with
  | .ref n => match S2[n]? with
    | some (.ins c fs) => if c ∈ cs ∧ fs.length < 1000 then .nx G (S2.set n (.ins c (putD fd d fs))) else .stuck
    | _ => .stuck
  | _ => .stuck
theorem ss_fld {o : Expr} {fo : Ev} {cs : List Nat} {fd : Str} {p2 : Pos} (ho : SndE ct X W o fo) (he : SndE ct X W e f) (hcs : ∀ c ∈ cs, FldAt X.K ct c fd) (hs : swapsWith e (some (.Attribute o fd p2)) pos.line X.env = pure false := by rfl) :
    SndS ct X W (.Assign [.Attribute o fd p2] e pos) (sFldS cs fd fo f) := by
  refine ⟨?_⟩
  intro σ H m S G Z r en h
  refine .of (ps_fld pe_w pe_w hs) ((he.bindS r en h).mono fun v1 H1 ⟨d1, m1, S1, r1, st1, p1, en1, h1⟩ => ?_)
  refine (ho.bindS r1 en1 h1).mono fun v2 H2 ⟨d2, m2, S2, r2, st2, p2, en2, h2⟩ => ?_
  split at h2
  · rename_i n
    split at h2
    · rename_i c fs e1
      split at h2
      · rename_i hz
        cases p2 with
        | ref hn =>
          obtain ⟨dx, vs, q1, q2⟩ := r2.cell n _ e1
          refine ⟨m2 n, ct c, dx, vs, rfl, q1, (hcs c hz.1).1, (hcs c hz.1).2, by rw [q2.length]; exact hz.2, ?_⟩
          have st' : Step m2 S2.length H2 m2 (S2.set n (.ins c (putD fd d1 fs))).length (upd H2 (m2 n) (.ins (ct c) dx (putF fd v1 vs))) := by
            rw [List.length_set]
            exact Step.write hn q1
          refine h2 σ m2 _ (r2.write hn q1 (fun _ _ z => nomatch z) ⟨dx, _, upd_same, (q2.put (Rp.mono st2 _ _ p1)).mono (Step.write hn q1)⟩) st' (en2.mono st')
      · exact h2.elim
    · exact h2.elim
  · exact h2.elim

/-! ### while -/
def whileD (ft : Ev) (u : Blk) (kill : List Nat) : Nat → Gm → Store → Out
  | 0, _, _ => .stuck
  | n + 1, G, S => toOut (ft G S) G fun d S1 => match d with
    | .bl true => match u G S1 with
      | .nx G2 S2 => whileD ft u kill n (wipeG G2 kill) S2
      | .ct G2 S2 => whileD ft u kill n (wipeG G2 kill) S2
      | .bk G2 S2 => .nx (wipeG G2 kill) S2
      | o => o
    | .bl false => .nx G S1
    | _ => .stuck
def sWhile (ft : Ev) (u : Blk) (kill : List Nat) (n : Nat) : Blk := fun G S => whileD ft u kill n G S
theorem ss_while {ft : Ev} {kill : List Nat} {n : Nat} (hp : PassesOwn (model X.prog X.w) X.A X.env X.xe) (ht : SndT ct X W c ft) (hb : SndB ct X W body u) : SndS ct X W (.While c body [] pos) (sWhile ft u kill n) := by
  refine ⟨?_⟩
  intro σ H m S G Z r en h
  refine .of (ps_while hp pt_w pss_w) ⟨fun k σ' H' => ∃ m' S' G', Rel ct m' S' H' ∧ EnvR H' m' S'.length σ' G' ∧ PostS ct W m' S'.length H' Z (whileD ft u kill k G' S'), ⟨n, m, S, G, r, en, h⟩, ?_⟩
  rintro k σ' H' ⟨m1, S1, G1, r1, en1, h1⟩
  cases k with
  | zero => exact h1.elim
  | succ k =>
    unfold whileD at h1
    refine (ht.bindS r1 en1 h1 fun d S1 hd => ?_).mono fun b H2 ⟨m2, S2, r2, st2, en2, h2⟩ => ?_
    · cases d <;> first | rfl | exact absurd rfl (hd _)
    · cases b with
      | false => exact iteF (h2.nx_now r2 en2)
      | true =>
        refine iteT ⟨fun σ3 H3 => ∃ m3 S3 G3, Rel ct m3 S3 H3 ∧ EnvR H3 m3 S3.length σ3 G3 ∧ PostS ct W m3 S3.length H3 Z (whileD ft u kill k G3 S3), fun σ3 H3 q => ⟨k, Nat.lt_succ_self _, q⟩, ?_⟩
        refine hb σ' H2 m2 S2 G1 _ r2 en2 ?_
        have h3 : PostS ct W m2 S2.length H2 Z (match u G1 S2 with
          | .nx G2 S2 => whileD ft u kill k (wipeG G2 kill) S2
          | .ct G2 S2 => whileD ft u kill k (wipeG G2 kill) S2
          | .bk G2 S2 => .nx (wipeG G2 kill) S2
          | o => o) := h2
        cases e0 : u G1 S2 with
        | nx G4 S4 =>
          rw [e0] at h3
          exact fun σ4 m4 H4 r4 st4 en4 => ⟨m4, S4, _, r4, en4.wipeW kill, PostS.step st4 h3⟩
        | ct G4 S4 =>
          rw [e0] at h3
          exact fun σ4 m4 H4 r4 st4 en4 => ⟨m4, S4, _, r4, en4.wipeW kill, PostS.step st4 h3⟩
        | bk G4 S4 =>
          rw [e0] at h3
          exact fun σ4 m4 H4 r4 st4 en4 => h3 σ4 m4 H4 r4 st4 (en4.wipeW kill)
        | rt d4 S4 =>
          rw [e0] at h3
          exact h3
        | xc c4 G4 S4 =>
          rw [e0] at h3
          exact h3
        | stuck =>
          rw [e0] at h3
          exact h3

/-! ### what is walked -/
inductive IR where
  | ok (n : Nat) (item : Nat → Store → Option D) (fin : Store → Bool) (S : Store) | xc (c : Nat) (S : Store) | stuck
abbrev Iv := Gm → Store → IR
def WalkD (ct : Nat → Addr) (J : It) (n : Nat) (item : Nat → Store → Option D) (fin : Store → Bool) (m0 : Mp) (N0 : Nat) (H0 : Hp) : Prop :=
  ∀ (m : Mp) (S : Store) (H : Hp), Rel ct m S H → Step m0 N0 H0 m S.length H →
    (∀ i d, i < n → item i S = some d → J.go i H ∧ ∀ x H', J.yld i H x H' → Rel ct m S H' ∧ Step m S.length H m S.length H' ∧ Rp H' m S.length x d) ∧ (fin S = true → J.stop n H)
def PostI (ct : Nat → Addr) (W : WX) (σ : St) (m : Mp) (N : Nat) (H : Hp) (R : It → Hp → Prop) : IR → Prop
  | .ok n item fin S' => ∀ J m' H', Rel ct m' S' H' → Step m N H m' S'.length H' → WalkD ct J n item fin m' S'.length H' → R J H'
  | .xc c S' => ∀ m' H', Rel ct m' S' H' → Step m N H m' S'.length H' → W (.ref (ct c)) none σ H'
  | .stuck => False
def SndI (ct : Nat → Addr) (X : Cx) (W : WX) (tg iter : Expr) (f : Iv) : Prop :=
  ∃ wi, PI X tg iter wi ∧ ∀ (σ : St) (H : Hp) (m : Mp) (S : Store) (G : Gm) (R : It → Hp → Prop), Rel ct m S H → EnvR H m S.length σ G → PostI ct W σ m S.length H R (f G S) → wi σ H R
def forD (item : Nat → Store → Option D) (fin : Store → Bool) (t : Tg) (kill : List Nat) (u : Blk) : Nat → Nat → Gm → Store → Out
  | 0, _, G, S => if fin S = true then .nx G S else .stuck
  | r + 1, i, G, S => match item i S with
    | none => .stuck
    | some d => match tgD t d G with
      | none => .stuck
      | some G1 => match u G1 S with
        | .nx G2 S2 => forD item fin t kill u r (i + 1) (wipeG G2 kill) S2
        | .ct G2 S2 => forD item fin t kill u r (i + 1) (wipeG G2 kill) S2
        | .bk G2 S2 => .nx (wipeG G2 kill) S2
        | o => o
def sFor (fi : Iv) (t : Tg) (kill : List Nat) (u : Blk) : Blk := fun G S => match fi G S with
  | .ok n item fin S1 => forD item fin t kill u n 0 G S1
  | .xc c S1 => .xc c G S1
  | .stuck => .stuck
theorem ss_for {tg iter : Expr} {fi : Iv} {t : Tg} {kill : List Nat} (hp : PassesOwn (model X.prog X.w) X.A X.env X.xe) (hc : X.calm = true) (hi : SndI ct X W tg iter fi) (hg : SndG X tg t) (hb : SndB ct X W body u)
    (hs : ∀ x, foldedSetIterable iter X.env x = pure x := by intro _; rfl) : SndS ct X W (.For tg iter body [] pos) (sFor fi t kill u) := by
  refine ⟨?_⟩
  intro σ H m S G Z r en h
  obtain ⟨wi, hpi, hw⟩ := hi
  refine .of (ps_for hp hc hpi hg pss_w hs) ?_
  refine hw σ H m S G _ r en ?_
  unfold sFor at h
  cases e : fi G S with
  | stuck =>
    rw [e] at h
    exact h
  | xc c S1 =>
    rw [e] at h
    exact fun m1 H1 r1 st1 => h σ m1 H1 r1 st1 (en.mono st1)
  | ok n item fin S1 =>
    rw [e] at h
    intro J m1 H1 r1 st1 walk
    have h1 := PostS.step st1 h
    refine ⟨fun i k σ' H' => k = n - i ∧ i ≤ n ∧ ∃ m2 S2 G2, Rel ct m2 S2 H' ∧ Step m1 S1.length H1 m2 S2.length H' ∧ EnvR H' m2 S2.length σ' G2 ∧ PostS ct W m2 S2.length H' Z (forD item fin t kill u (n - i) i G2 S2),
      ⟨n, by omega, Nat.zero_le _, m1, S1, G, r1, Step.refl, en.mono st1, h1⟩, ?_⟩
    rintro i k σ' H' ⟨rfl, hi, m2, S2, G2, r2, st2, en2, h2⟩
    obtain ⟨wk1, wk2⟩ := walk m2 S2 H' r2 st2
    by_cases hlt : i < n
    · have ek : n - i = (n - (i + 1)) + 1 := by omega
      rw [ek] at h2
      unfold forD at h2
      cases e1 : item i S2 with
      | none =>
        rw [e1] at h2
        exact h2.elim
      | some d =>
        rw [e1] at h2
        obtain ⟨go, yl⟩ := wk1 i d hlt e1
        cases e2 : tgD t d G2 with
        | none =>
          simp only [e2] at h2
          exact h2.elim
        | some G3 =>
          simp only [e2] at h2
          refine .inr ⟨go, fun σ3 H3 => (i + 1 ≤ n ∧ ∃ m2 S2 G2, Rel ct m2 S2 H3 ∧ Step m1 S1.length H1 m2 S2.length H3 ∧ EnvR H3 m2 S2.length σ3 G2 ∧ PostS ct W m2 S2.length H3 Z (forD item fin t kill u (n - (i + 1)) (i + 1) G2 S2)),
            fun σ3 H3 q => ⟨n - (i + 1), by omega, rfl, q⟩, fun x H3 yld => ?_⟩
          obtain ⟨r3, st3, p3⟩ := yl x H3 yld
          refine gT_ok t d x σ' G2 G3 e2 p3 (en2.mono st3) fun σ4 en4 => ?_
          have h3 := PostS.step st3 h2
          refine hb σ4 H3 m2 S2 G3 _ r3 en4 ?_
          cases e0 : u G3 S2 with
          | nx G4 S4 =>
            simp only [e0] at h3
            exact fun σ4 m4 H4 r4 st4 en4 => ⟨hlt, m4, S4, _, r4, (st2.trans st3).trans st4, en4.wipeW kill, PostS.step st4 h3⟩
          | ct G4 S4 =>
            simp only [e0] at h3
            exact fun σ4 m4 H4 r4 st4 en4 => ⟨hlt, m4, S4, _, r4, (st2.trans st3).trans st4, en4.wipeW kill, PostS.step st4 h3⟩
          | bk G4 S4 =>
            simp only [e0] at h3
            exact fun σ4 m4 H4 r4 st4 en4 => h3 σ4 m4 H4 r4 st4 (en4.wipeW kill)
          | rt d4 S4 =>
            simp only [e0] at h3
            exact h3
          | xc c4 G4 S4 =>
            simp only [e0] at h3
            exact h3
          | stuck =>
            simp only [e0] at h3
            exact h3
    · have ei : i = n := by omega
      subst ei
      rw [Nat.sub_self] at h2
      unfold forD at h2
      split at h2
      · rename_i hf
        exact .inl ⟨wk2 hf, h2.nx_now r2 en2⟩
      · exact h2.elim
end
end L2.VE
/-! VE9: what for walks, comprehensions, raise, a def by its body. -/
namespace L2.VE
open PySem PySem.Spec PyProof.Rows
section
variable {ct : Nat → Addr} {X : Cx} {W : WX} {e a b c : Expr} {f fa fb fc : Ev} {σ : St} {H H' : Hp} {m m' : Mp} {S S' : Store} {G : Gm} {Q : VK} {N N' : Nat} {es : List Expr} {g : Av} {x y z : Str} {p pos apos : Pos} {Z : Ends} {st : Stmt} {rest body : List Stmt} {u v : Blk}
/-! ### lists and tuples walked -/
def itemC (n len : Nat) (i : Nat) (S : Store) : Option D := match S[n]? with
  | some (.lst xs) => if xs.length = len then xs[i]? else none
  | _ => none
def finC (n len : Nat) (S : Store) : Bool := match S[n]? with
  | some (.lst xs) => decide (xs.length = len)
  | _ => false
def seqI (d : D) (S : Store) (k : Nat → (Nat → Store → Option D) → (Store → Bool) → IR) : IR := match d with
  | .lst ds => k ds.length (fun i _ => ds[i]?) (fun _ => true)
  | .tup ds => k ds.length (fun i _ => ds[i]?) (fun _ => true)
  | .ref n => match S[n]? with
    | some (.lst xs) => k xs.length (itemC n xs.length) (finC n xs.length)
    | _ => .stuck
  | _ => .stuck
def iSeq (f : Ev) : Iv := fun G S => match f G S with
  | .ok d S1 => seqI d S1 fun n it fin => .ok n it fin S1
  | .xc c S1 => .xc c S1
  | .stuck => .stuck
/-- how the items of a sequence stand at a later state -/
structure SeqAt2 (ct : Nat → Addr) (n : Nat) (item : Nat → Store → Option D) (fin : Store → Bool) (a : Addr) (lst : Bool) (m0 : Mp) (N0 : Nat) (H0 : Hp) : Prop where
  it : ∀ (m : Mp) (S : Store) (H : Hp), Rel ct m S H → Step m0 N0 H0 m S.length H → ∀ i d, i < n → item i S = some d → ∃ vs v, H a = some (if lst then HO.lst vs else HO.tup vs) ∧ vs[i]? = some v ∧ Rp H m S.length v d
  fi : ∀ (m : Mp) (S : Store) (H : Hp), Rel ct m S H → Step m0 N0 H0 m S.length H → fin S = true → ∃ vs, H a = some (if lst then HO.lst vs else HO.tup vs) ∧ vs.length = n
theorem seqI_ok {d : D} {w : V} {k : Nat → (Nat → Store → Option D) → (Store → Bool) → IR} (r : Rel ct m S H) (p : Rp H m S.length w d) (h : seqI d S k ≠ .stuck) :
    ∃ n item fin a lst vs, seqI d S k = k n item fin ∧ w = .ref a ∧ H a = some (if lst then HO.lst vs else HO.tup vs) ∧ vs.length = n ∧ SeqAt2 ct n item fin a lst m S.length H := by
  unfold seqI at h ⊢
  cases p with
  | non => exact absurd rfl h
  | bl => exact absurd rfl h
  | int => exact absurd rfl h
  | str => exact absurd rfl h
  | exn => exact absurd rfl h
  | fn => exact absurd rfl h
  | @lst a vs ds h1 c1 l1 =>
    refine ⟨_, _, _, a, true, vs, rfl, rfl, h1, l1.length, ⟨fun m' S' H' r' st i d hi e => ?_, fun m' S' H' r' st _ => ⟨vs, st.kp _ _ h1 c1.1, l1.length⟩⟩⟩
    obtain ⟨v, q1, q2⟩ := l1.get e
    exact ⟨vs, v, st.kp _ _ h1 c1.1, q1, Rp.mono st _ _ q2⟩
  | @tup a vs ds h1 c1 l1 =>
    refine ⟨_, _, _, a, false, vs, rfl, rfl, h1, l1.length, ⟨fun m' S' H' r' st i d hi e => ?_, fun m' S' H' r' st _ => ⟨vs, st.kp _ _ h1 c1.1, l1.length⟩⟩⟩
    obtain ⟨v, q1, q2⟩ := l1.get e
    exact ⟨vs, v, st.kp _ _ h1 c1.1, q1, Rp.mono st _ _ q2⟩
  | @ref n hn =>
    dsimp only at h ⊢
    split at h
    · rename_i xs e1
      obtain ⟨vs, q1, q2⟩ := r.cell n _ e1
      refine ⟨_, _, _, m n, true, vs, rfl, rfl, q1, q2.length, ⟨fun m' S' H' r' st i d hi e => ?_, fun m' S' H' r' st hf => ?_⟩⟩
      · unfold itemC at e
        split at e
        · rename_i ys e2
          split at e
          · obtain ⟨vs', q3, q4⟩ := r'.cell n _ e2
            obtain ⟨v, q5, q6⟩ := q4.get e
            rw [st.ag n hn] at q3
            exact ⟨vs', v, q3, q5, q6⟩
          · cases e
        · cases e
      · unfold finC at hf
        split at hf
        · rename_i ys e2
          obtain ⟨vs', q3, q4⟩ := r'.cell n _ e2
          rw [st.ag n hn] at q3
          exact ⟨vs', q3, q4.length.trans (of_decide_eq_true hf)⟩
        · cases hf
    · exact absurd rfl h
theorem pi_seq {tg : Expr} {l : Expr} {tl : TE} (hl : PE X l tl) : PI X tg l (fun σ H R => tl σ H fun x H1 => (∃ a, x = .ref a ∧ (∃ xs, SqL X.K H1 a xs) ∧ R (Itl X.K a) H1) ∨ (∃ a, x = .ref a ∧ (∃ xs, SqT X.K H1 a xs) ∧ R (Itt X.K a) H1)) := by
  refine ⟨fun pins s σ H R I h => ?_⟩
  refine thn (hl.run pins s σ H _ I h) fun v s1 ⟨x, H1, I1, r1, q1⟩ => ?_
  rcases q1 with ⟨a, e, ⟨xs, hq⟩, q⟩ | ⟨a, e, ⟨xs, hq⟩, q⟩
  · subst e
    cases r1
    obtain ⟨its, rv, p, hz⟩ := I1.list hq
    refine wpAny_pyIter_list p.isList ?_
    refine ⟨s1.heap.objs.size, [s1.heap.objs.size], _, _, H1, rfl, I1.kept (t' := s1.toks) fun b o e => Heap.get?_push_of_some _ e, turn_list a _, ⟨_, Heap.get?_push_size _ rfl, rfl, rfl⟩, fun b hb => ?_, q⟩
    have e : b = s1.heap.objs.size := by simpa using hb
    subst e
    exact I1.fpOk (Nat.le_refl _) (I1.hok.fresh (Nat.le_refl _))
  · subst e
    cases r1
    obtain ⟨its, rv, p, hz⟩ := I1.tuple hq
    refine wpAny_pyIter_tuple (show s1.heap.IsTuple a its.toArray from p) ?_
    refine ⟨s1.heap.objs.size, [s1.heap.objs.size], _, _, H1, rfl, I1.kept (t' := s1.toks) fun b o e => Heap.get?_push_of_some _ e, turn_tuple a _, ⟨_, Heap.get?_push_size _ rfl, rfl, rfl⟩, fun b hb => ?_, q⟩
    have e : b = s1.heap.objs.size := by simpa using hb
    subst e
    exact I1.fpOk (Nat.le_refl _) (I1.hok.fresh (Nat.le_refl _))
theorem walk_seqL {K : PySem.W.Frag} {n : Nat} {item : Nat → Store → Option D} {fin : Store → Bool} {a : Addr} {m0 : Mp} {N0 : Nat} {H0 : Hp} (q : SeqAt2 ct n item fin a true m0 N0 H0) : WalkD ct (Itl K a) n item fin m0 N0 H0 := fun m S H r st => by
  refine ⟨fun i d hi e => ?_, fun hf => ?_⟩
  · obtain ⟨vs, v, h1, h2, h3⟩ := q.it m S H r st i d hi e
    refine ⟨⟨vs, v, SqL.of h1, h2⟩, fun x H' ⟨eH, y⟩ => ?_⟩
    subst eH
    have e := y vs (SqL.of h1)
    rw [h2] at e
    cases e
    exact ⟨r, Step.refl, h3⟩
  · obtain ⟨vs, h1, h2⟩ := q.fi m S H r st hf
    exact ⟨vs, SqL.of h1, by omega⟩
theorem walk_seqT {K : PySem.W.Frag} {n : Nat} {item : Nat → Store → Option D} {fin : Store → Bool} {a : Addr} {m0 : Mp} {N0 : Nat} {H0 : Hp} (q : SeqAt2 ct n item fin a false m0 N0 H0) : WalkD ct (Itt K a) n item fin m0 N0 H0 := fun m S H r st => by
  refine ⟨fun i d hi e => ?_, fun hf => ?_⟩
  · obtain ⟨vs, v, h1, h2, h3⟩ := q.it m S H r st i d hi e
    refine ⟨⟨vs, v, SqT.of h1, h2⟩, fun x H' ⟨eH, y⟩ => ?_⟩
    subst eH
    have e := y vs (SqT.of h1)
    rw [h2] at e
    cases e
    exact ⟨r, Step.refl, h3⟩
  · obtain ⟨vs, h1, h2⟩ := q.fi m S H r st hf
    exact ⟨vs, SqT.of h1, by omega⟩
/-- an expression, then what is made of it -/
theorem SndE.bindI {R : It → Hp → Prop} {k : D → Store → IR} (ha : SndE ct X W a fa) (r : Rel ct m S H) (en : EnvR H m S.length σ G) (h : PostI ct W σ m S.length H R (match fa G S with | .ok d S1 => k d S1 | .xc c S1 => .xc c S1 | .stuck => .stuck)) :
    EvW X a σ H fun v H1 => ∃ d m1 S1, Rel ct m1 S1 H1 ∧ Step m S.length H m1 S1.length H1 ∧ Rp H1 m1 S1.length v d ∧ EnvR H1 m1 S1.length σ G ∧ PostI ct W σ m1 S1.length H1 R (k d S1) := by
  refine ha σ H m S G _ r en ?_
  cases e : fa G S with
  | ok d S1 =>
    rw [e] at h
    intro v m1 H1 r1 st p
    refine ⟨d, m1, S1, r1, st, p, en.mono st, ?_⟩
    have h2 : PostI ct W σ m S.length H R (k d S1) := h
    cases e2 : k d S1 with
    | ok n it fi S2 =>
      rw [e2] at h2
      exact fun J m2 H2 r2 t w => h2 J m2 H2 r2 (st.trans t) w
    | xc c S2 =>
      rw [e2] at h2
      exact fun m2 H2 r2 t => h2 m2 H2 r2 (st.trans t)
    | stuck =>
      rw [e2] at h2
      exact h2
  | xc c S1 =>
    rw [e] at h
    exact h
  | stuck =>
    rw [e] at h
    exact h
theorem si_seq {tg : Expr} (he : SndE ct X W e f) : SndI ct X W tg e (iSeq f) := by
  refine ⟨_, pi_seq pe_w, fun σ H m S G R r en h => ?_⟩
  refine (he.bindI r en h).mono fun x H1 ⟨d, m1, S1, r1, st1, p1, en1, h1⟩ => ?_
  have hne : seqI d S1 (fun n it fin => IR.ok n it fin S1) ≠ .stuck := fun z => by rw [z] at h1; exact h1
  obtain ⟨n, item, fin, a, lst, vs, e1, rfl, q1, _, q2⟩ := seqI_ok r1 p1 hne
  rw [e1] at h1
  cases lst with
  | true => exact .inl ⟨a, rfl, ⟨vs, SqL.of q1⟩, h1 _ m1 H1 r1 Step.refl (walk_seqL q2)⟩
  | false => exact .inr ⟨a, rfl, ⟨vs, SqT.of q1⟩, h1 _ m1 H1 r1 Step.refl (walk_seqT q2)⟩

/-! ### ranges -/
def rangeI (ds : List D) (S1 : Store) : IR := match ds with
  | [.int j] => if -1000000 ≤ j ∧ j ≤ 1000000 then .ok j.toNat (fun i _ => some (.int i)) (fun _ => true) S1 else .stuck
  | [.int i, .int j] => if -1000000 ≤ i ∧ i ≤ 1000000 ∧ -1000000 ≤ j ∧ j ≤ 1000000 then .ok (j - i).toNat (fun k _ => some (.int (i + k))) (fun _ => true) S1 else .stuck
  | [.int i, .int j, .int c] => if 0 < c ∧ c < 1000 ∧ Builtin.Range.small i j c = true ∧ 0 ≤ Builtin.Range.rangeSize i j c then .ok (Builtin.Range.rangeSize i j c).toNat (fun k _ => some (.int (i + k * c))) (fun _ => true) S1 else .stuck
  | _ => .stuck
def iArgs (k : List D → Store → IR) (g : Av) : Iv := fun G S => match g G S with
  | .ok ds S1 => k ds S1
  | .xc c S1 => .xc c S1
  | .stuck => .stuck
theorem walk_fn {J : It} {n : Nat} {item : Nat → D} {m0 : Mp} {N0 : Nat} {H0 : Hp} (go : ∀ i H, i < n → J.go i H) (stop : ∀ H, J.stop n H) (yl : ∀ i H x H', J.yld i H x H' → H' = H ∧ ∃ k, x = V.int k ∧ item i = D.int k) : WalkD ct J n (fun i _ => some (item i)) (fun _ => true) m0 N0 H0 := fun m S H r st => by
  refine ⟨fun i d hi e => ⟨go i H hi, fun x H' y => ?_⟩, fun _ => stop H⟩
  obtain ⟨rfl, k, rfl, e2⟩ := yl i H x H' y
  cases e
  rw [e2]
  exact ⟨r, Step.refl, .int k⟩
/-- the arguments, then what is made of them -/
theorem SndA.bindI {R : It → Hp → Prop} {k : List D → Store → IR} (ha : SndA ct X W es g) (r : Rel ct m S H) (en : EnvR H m S.length σ G) (h : PostI ct W σ m S.length H R (match g G S with | .ok ds S1 => k ds S1 | .xc c S1 => .xc c S1 | .stuck => .stuck)) :
    ArgW X es σ H fun vs H1 => ∃ ds m1 S1, Rel ct m1 S1 H1 ∧ RpL H1 m1 S1.length vs ds ∧ EnvR H1 m1 S1.length σ G ∧ PostI ct W σ m1 S1.length H1 R (k ds S1) ∧ ds.length = es.length := by
  intro pos pins s I
  cases e : g G S with
  | ok ds0 S0 =>
    rw [e] at h
    have hp : PostE ct W σ m S.length H (fun _ _ => True) ((g G S).bind fun ds S1 => @ite _ (ds = ds0 ∧ S1 = S0) (Classical.propDecidable _) (.ok .non S1) .stuck) := by
      rw [e]
      show PostE ct W σ m S.length H (fun _ _ => True) (@ite _ (ds0 = ds0 ∧ S0 = S0) (Classical.propDecidable _) (.ok .non S0) .stuck)
      rw [if_pos ⟨rfl, rfl⟩]
      exact fun _ _ _ _ _ _ => trivial
    refine thn (ha σ H m S G _ _ r en hp pos pins s I) fun us s2 ⟨vs, H2, I2, rv, ds, m2, S2, r2, st2, p2, en2, h2, z2⟩ => ⟨vs, H2, I2, rv, ds, m2, S2, r2, p2, en2, ?_, z2⟩
    by_cases q : ds = ds0 ∧ S2 = S0
    · obtain ⟨q1, q2⟩ := q
      subst q1 q2
      have h3 : PostI ct W σ m S.length H R (k ds S2) := h
      cases e2 : k ds S2 with
      | ok n it fi S3 =>
        rw [e2] at h3
        exact fun J m2 H2 r2 t w => h3 J m2 H2 r2 (st2.trans t) w
      | xc c S3 =>
        rw [e2] at h3
        exact fun m2 H2 r2 t => h3 m2 H2 r2 (st2.trans t)
      | stuck =>
        rw [e2] at h3
        exact h3
    · rw [if_neg q] at h2
      exact h2.elim
  | xc c S0 =>
    rw [e] at h
    have hp : PostE ct W σ m S.length H (fun _ _ => True) ((g G S).bind fun ds S1 => .stuck) := by
      rw [e]
      exact h
    exact thn (ha σ H m S G _ _ r en hp pos pins s I) fun us s2 ⟨vs, H2, I2, rv, ds, m2, S2, r2, st2, p2, en2, h2, z2⟩ => h2.elim
  | stuck =>
    rw [e] at h
    exact h.elim
theorem si_range1 {tg : Expr} (hg : Gl X "range") (hm : X.mg "range" = none) (ha : SndA ct X W [a] g) (hs : starEach [a] X.env = [(false, eval a X.env)] := by rfl) : SndI ct X W tg (.Call (.Name "range" p) [a] [] pos) (iArgs rangeI g) := by
  refine ⟨_, pi_range1 hg hm pa_w hs, fun σ H m S G R r en h => ?_⟩
  intro pos pins s I
  refine thn (ha.bindI (k := rangeI) r en h pos pins s I) fun us s2 ⟨vs, H2, I2, rv, ds, m2, S2, r2, p2, en2, h2, z2⟩ => ⟨vs, H2, I2, rv, ?_⟩
  unfold rangeI at h2
  split at h2
  · obtain ⟨v, rfl, q⟩ := rpl1 p2
    cases q
    split at h2
    · rename_i _ j hz
      refine ⟨j, rfl, by omega, by omega, h2 _ m2 H2 r2 Step.refl (walk_fn (fun i H hi => hi) (fun H => Nat.le_refl _) fun i H x H' y => ⟨y.1, _, y.2, by simp⟩)⟩
    · exact h2.elim
  · simp at z2
  · simp at z2
  · exact h2.elim
theorem si_range2 {tg : Expr} (hg : Gl X "range") (hm : X.mg "range" = none) (ha : SndA ct X W [a, b] g) (hs : starEach [a, b] X.env = [(false, eval a X.env), (false, eval b X.env)] := by rfl) (hs2 : starEach [b] X.env = [(false, eval b X.env)] := by rfl) : SndI ct X W tg (.Call (.Name "range" p) [a, b] [] pos) (iArgs rangeI g) := by
  refine ⟨_, pi_range2 hg hm pa_w hs hs2, fun σ H m S G R r en h => ?_⟩
  intro pos pins s I
  refine thn (ha.bindI (k := rangeI) r en h pos pins s I) fun us s2 ⟨vs, H2, I2, rv, ds, m2, S2, r2, p2, en2, h2, z2⟩ => ⟨vs, H2, I2, rv, ?_⟩
  unfold rangeI at h2
  split at h2
  · simp at z2
  · obtain ⟨v, w, rfl, q1, q2⟩ := rpl2 p2
    cases q1
    cases q2
    split at h2
    · rename_i _ i j hz
      exact ⟨i, j, rfl, by omega, h2 _ m2 H2 r2 Step.refl (walk_fn (fun i H hi => hi) (fun H => Nat.le_refl _) fun i H x H' y => ⟨y.1, _, y.2, by simp⟩)⟩
    · exact h2.elim
  · simp at z2
  · exact h2.elim
theorem rpl3 {d e q : D} {vs : List V} (h : RpL H m N vs [d, e, q]) : ∃ v w x, vs = [v, w, x] ∧ Rp H m N v d ∧ Rp H m N w e ∧ Rp H m N x q := by
  cases h with
  | cons h r =>
    obtain ⟨w, x, rfl, q, q'⟩ := rpl2 r
    exact ⟨_, _, _, rfl, h, q, q'⟩
theorem si_range3 {tg : Expr} (hg : Gl X "range") (hm : X.mg "range" = none) (ha : SndA ct X W [a, b, c] g) (hs : starEach [a, b, c] X.env = (false, eval a X.env) :: starEach [b, c] X.env := by rfl) (hpl : (backTo pos (starEach [b, c] X.env)).any (·.1) = false := by rfl) : SndI ct X W tg (.Call (.Name "range" p) [a, b, c] [] pos) (iArgs rangeI g) := by
  refine ⟨_, pi_range3 hg hm pa_w hs hpl, fun σ H m S G R r en h => ?_⟩
  intro pos pins s I
  refine thn (ha.bindI (k := rangeI) r en h pos pins s I) fun us s2 ⟨vs, H2, I2, rv, ds, m2, S2, r2, p2, en2, h2, z2⟩ => ⟨vs, H2, I2, rv, ?_⟩
  unfold rangeI at h2
  split at h2
  · simp at z2
  · simp at z2
  · obtain ⟨v, w, x, rfl, q1, q2, q3⟩ := rpl3 p2
    cases q1
    cases q2
    cases q3
    split at h2
    · rename_i _ i j c hz
      refine ⟨i, j, c, (Builtin.Range.rangeSize i j c).toNat, rfl, ⟨by omega, by omega, hz.2.2.1, by omega⟩, h2 _ m2 H2 r2 Step.refl (walk_fn (fun i H hi => hi) (fun H => Nat.le_refl _) fun i H x H' y => ⟨y.1, _, y.2, by simp⟩)⟩
    · exact h2.elim
  · exact h2.elim

/-! ### enumerate, zip -/
def enumI (ds : List D) (S1 : Store) : IR := match ds with
  | [.tup _] => .stuck
  | [d] => seqI d S1 fun n it fin => .ok n (fun i S => match it i S with
    | some x => some (.tup [.int i, x])
    | none => none) fin S1
  | _ => .stuck
def zipI (ds : List D) (S1 : Store) : IR := match ds with
  | [.tup _, _] => .stuck
  | [_, .tup _] => .stuck
  | [d, e] => seqI d S1 fun n it fin => seqI e S1 fun n' it' fin' => .ok (min n n') (fun i S => match it i S, it' i S with
    | some x, some y => some (.tup [x, y])
    | _, _ => none) (fun S => fin S && fin' S) S1
  | _ => .stuck
theorem seqI_list {d : D} {w : V} {k : Nat → (Nat → Store → Option D) → (Store → Bool) → IR} (r : Rel ct m S H) (p : Rp H m S.length w d) (h : seqI d S k ≠ .stuck) (hd : ∀ ds, d ≠ .tup ds) :
    ∃ n item fin a vs, seqI d S k = k n item fin ∧ w = .ref a ∧ H a = some (.lst vs) ∧ vs.length = n ∧ SeqAt2 ct n item fin a true m S.length H := by
  obtain ⟨n, item, fin, a, lst, vs, e1, e2, q1, q3, q2⟩ := seqI_ok r p h
  cases lst with
  | true => exact ⟨n, item, fin, a, vs, e1, e2, q1, q3, q2⟩
  | false =>
    exfalso
    subst e2
    cases p with
    | lst h1 _ _ =>
      rw [h1] at q1
      cases q1
    | tup h1 _ _ => exact hd _ rfl
    | exn => exact h rfl
    | fn => exact h rfl
    | ref hn =>
      unfold seqI at h
      dsimp only at h
      split at h
      · rename_i xs e3
        obtain ⟨vs', q4, _⟩ := r.cell _ _ e3
        rw [q4] at q1
        cases q1
      · exact h rfl
theorem newPair {m : Mp} {S : Store} {H : Hp} {T : Addr} {v w : V} {d e : D} (r : Rel ct m S H) (hT : H T = none) (p : Rp H m S.length v d) (q : Rp H m S.length w e) : Rel ct m S (upd H T (.tup [v, w])) ∧ Step m S.length H m S.length (upd H T (.tup [v, w])) ∧ Rp (upd H T (.tup [v, w])) m S.length (.ref T) (.tup [d, e]) :=
  ⟨r.new hT, Step.new hT, rp_newT r hT (.cons p (.cons q .nil))⟩
theorem si_enum {elts : List Expr} {kk : Nat} {tpos : Pos} (hg : Gl X "enumerate") (hm : X.mg "enumerate" = none) (ha : SndA ct X W [e] g) (hs : starEach [e] X.env = [(false, eval e X.env)] := by rfl) :
    SndI ct X W (.Tuple elts kk tpos) (.Call (.Name "enumerate" p) [e] [] pos) (iArgs enumI g) := by
  refine ⟨_, pi_enum hg hm pa_w hs, fun σ H m S G R r en h => ?_⟩
  intro pos pins s I
  refine thn (ha.bindI (k := enumI) r en h pos pins s I) fun us s2 ⟨vs, H2, I2, rv, ds, m2, S2, r2, p2, en2, h2, z2⟩ => ⟨vs, H2, I2, rv, ?_⟩
  unfold enumI at h2
  split at h2
  · exact h2.elim
  · rename_i d hd
    obtain ⟨v, rfl, q⟩ := rpl1 p2
    have hne : seqI d S2 (fun n it fin => IR.ok n (fun i S => match it i S with | some x => some (.tup [.int i, x]) | none => none) fin S2) ≠ .stuck := fun z => by rw [z] at h2; exact h2
    obtain ⟨n, item, fin, a, vs, e1, rfl, q1, _, q2⟩ := seqI_list r2 q hne (fun ds z => hd ds (by rw [z]))
    rw [e1] at h2
    refine ⟨a, vs, rfl, SqL.of q1, h2 _ m2 H2 r2 Step.refl fun m3 S3 H3 r3 st3 => ⟨fun i d' hi e3 => ?_, fun hf => ?_⟩⟩
    · cases e4 : item i S3 with
      | none =>
        simp only [e4] at e3
        cases e3
      | some w =>
        simp only [e4] at e3
        cases e3
        obtain ⟨vs', v', h1, h2', h3⟩ := q2.it m3 S3 H3 r3 st3 i w hi e4
        refine ⟨⟨vs', v', SqL.of h1, h2'⟩, fun x H' ⟨T, y, ex, hT, eH, hy⟩ => ?_⟩
        subst ex eH
        have e5 := hy vs' (SqL.of h1)
        rw [h2'] at e5
        cases e5
        exact newPair r3 hT (.int _) h3
    · obtain ⟨vs', h1, h2'⟩ := q2.fi m3 S3 H3 r3 st3 hf
      exact ⟨vs', SqL.of h1, by omega⟩
  · exact h2.elim
theorem si_zip {elts : List Expr} {kk : Nat} {tpos : Pos} (hg : Gl X "zip") (hm : X.mg "zip" = none) (ha : SndA ct X W [a, b] g) (hs : starEach [a, b] X.env = (false, eval a X.env) :: starEach [b] X.env := by rfl) (hpl : (backTo pos (starEach [b] X.env)).any (·.1) = false := by rfl) :
    SndI ct X W (.Tuple elts kk tpos) (.Call (.Name "zip" p) [a, b] [] pos) (iArgs zipI g) := by
  refine ⟨_, pi_zip hg hm pa_w hs hpl, fun σ H m S G R r en h => ?_⟩
  intro pos pins s I
  refine thn (ha.bindI (k := zipI) r en h pos pins s I) fun us s2 ⟨vs, H2, I2, rv, ds, m2, S2, r2, p2, en2, h2, z2⟩ => ⟨vs, H2, I2, rv, ?_⟩
  unfold zipI at h2
  split at h2
  · exact h2.elim
  · exact h2.elim
  · rename_i d e hd1 hd2
    obtain ⟨v, w, rfl, qa, qb⟩ := rpl2 p2
    have hne : seqI d S2 (fun n it fin => seqI e S2 fun n' it' fin' => .ok (min n n') (fun i S => match it i S, it' i S with | some x, some y => some (.tup [x, y]) | _, _ => none) (fun S => fin S && fin' S) S2) ≠ .stuck := fun z => by rw [z] at h2; exact h2
    obtain ⟨n, item, fin, a, vs, e1, rfl, q1, l1, q2⟩ := seqI_list r2 qa hne (fun ds z => hd1 ds z)
    rw [e1] at h2 hne
    obtain ⟨n', item', fin', a', vs2, e1', rfl, q1', l1', q2'⟩ := seqI_list r2 qb hne (fun ds z => hd2 ds z)
    rw [e1'] at h2
    refine ⟨a, a', vs, vs2, rfl, SqL.of q1, SqL.of q1', h2 _ m2 H2 r2 Step.refl fun m3 S3 H3 r3 st3 => ⟨fun i d' hi e3 => ?_, fun hf => ?_⟩⟩
    · cases e4 : item i S3 with
      | none =>
        simp only [e4] at e3
        cases e3
      | some w1 =>
        cases e4' : item' i S3 with
        | none =>
          simp only [e4, e4'] at e3
          cases e3
        | some w2 =>
          simp only [e4, e4'] at e3
          cases e3
          obtain ⟨va, v1, h1, h2', h3⟩ := q2.it m3 S3 H3 r3 st3 i w1 (by omega) e4
          obtain ⟨vb, v2, h1b, h2b, h3b⟩ := q2'.it m3 S3 H3 r3 st3 i w2 (by omega) e4'
          refine ⟨⟨va, vb, v1, v2, SqL.of h1, SqL.of h1b, h2', h2b⟩, fun x H' ⟨T, y, y', ex, hT, eH, hy, hy'⟩ => ?_⟩
          subst ex eH
          have e5 := hy va (SqL.of h1)
          rw [h2'] at e5
          cases e5
          have e6 := hy' vb (SqL.of h1b)
          rw [h2b] at e6
          cases e6
          exact newPair r3 hT h3 h3b
    · rw [Bool.and_eq_true] at hf
      obtain ⟨va, h1, h2'⟩ := q2.fi m3 S3 H3 r3 st3 hf.1
      obtain ⟨vb, h1b, h2b⟩ := q2'.fi m3 S3 H3 r3 st3 hf.2
      exact ⟨va, vb, SqL.of h1, SqL.of h1b, by omega⟩
  · exact h2.elim
end
end L2.VE
/-! VE10: comprehensions, raise, a def by its body. -/
namespace L2.VE
open PySem PySem.Spec PyProof.Rows
abbrev W0 : WX := fun _ _ _ _ => False
theorem takes_0 {X : Cx} : Takes X W0 := fun u s' x => by
  obtain ⟨a, B, sI, pins, σ, H, cls, d, _, _, _, _, _, _, _, _, h⟩ := x
  exact h.elim
section
variable {ct : Nat → Addr} {X : Cx} {W : WX} {e a b c : Expr} {f fa fb fc : Ev} {σ : St} {H H' : Hp} {m m' : Mp} {S S' : Store} {G : Gm} {Q : VK} {N N' : Nat} {es : List Expr} {g : Av} {x y z : Str} {p pos apos : Pos} {Z : Ends} {st : Stmt} {rest body : List Stmt} {u v : Blk}
/-! ### comprehensions -/
mutual
def tgIn (vs : List Nat) : Tg → Bool
  | .nm i => decide (i ∈ vs)
  | .tup ts => tgsIn vs ts
def tgsIn (vs : List Nat) : List Tg → Bool
  | [] => true
  | t :: ts => tgIn vs t && tgsIn vs ts
end
theorem wipe_get (σ : St) (i : Nat) : ∀ vs : List Nat, (wipe σ vs)[i]? = if i ∈ vs then (if i < σ.length then some none else none) else σ[i]?
  | [] => by simp [wipe]
  | v :: vs => by
    rw [wipe]
    have ih := wipe_get σ i vs
    by_cases e : v = i
    · subst e
      rw [if_pos List.mem_cons_self]
      by_cases hl : v < σ.length
      · rw [List.getElem?_set_self (by rw [wipe_length]; exact hl), if_pos hl]
      · rw [List.getElem?_eq_none (by rw [List.length_set, wipe_length]; omega), if_neg hl]
    · rw [List.getElem?_set_ne e, ih]
      have : (i ∈ v :: vs) = (i ∈ vs) := by simp [Ne.symm e]
      simp only [this]
theorem wipe_same {σ σ' : St} {vs : List Nat} (hl : σ'.length = σ.length) (h : ∀ i, i ∉ vs → σ'[i]? = (wipe σ vs)[i]?) : wipe σ' vs = wipe σ vs := by
  apply List.ext_getElem?
  intro i
  rw [wipe_get, wipe_get]
  by_cases hi : i ∈ vs
  · rw [if_pos hi, if_pos hi, hl]
  · rw [if_neg hi, if_neg hi, h i hi, wipe_get, if_neg hi]
mutual
theorem gT_own {K : PySem.W.Frag} {vs : List Nat} {Q : St → Hp → Prop} {σ0 : St} : ∀ (t : Tg) (d : D) (x : V) (σ : St) (G G' : Gm), tgIn vs t = true → tgD t d G = some G' → Rp H m N x d → EnvR H m N σ G → (σ.length = σ0.length ∧ ∀ i, i ∉ vs → σ[i]? = σ0[i]?) →
    (∀ σ', EnvR H m N σ' G' → (σ'.length = σ0.length ∧ ∀ i, i ∉ vs → σ'[i]? = σ0[i]?) → Q σ' H) → gT K t x σ H Q
  | .nm j, d, x, σ, G, G', hv, h, p, en, ho, k => by
    rw [tgD] at h
    cases h
    refine k _ (en.set p j) ⟨by rw [List.length_set]; exact ho.1, fun i hi => ?_⟩
    have hj : j ∈ vs := of_decide_eq_true hv
    rw [List.getElem?_set_ne (fun z => hi (by rw [← z]; exact hj))]
    exact ho.2 i hi
  | .tup ts, .tup ds, x, σ, G, G', hv, h, p, en, ho, k => by
    rw [tgD] at h
    cases p with
    | tup h1 _ l1 => exact ⟨_, _, rfl, SqT.of h1, by rw [l1.length]; exact tgDs_len h, gTs_own ts ds _ σ G G' hv h l1 en ho k⟩
  | .tup ts, .non, x, σ, G, G', hv, h, p, en, ho, k => by simp [tgD] at h
  | .tup ts, .bl _, x, σ, G, G', hv, h, p, en, ho, k => by simp [tgD] at h
  | .tup ts, .int _, x, σ, G, G', hv, h, p, en, ho, k => by simp [tgD] at h
  | .tup ts, .str _, x, σ, G, G', hv, h, p, en, ho, k => by simp [tgD] at h
  | .tup ts, .lst _, x, σ, G, G', hv, h, p, en, ho, k => by simp [tgD] at h
  | .tup ts, .ref _, x, σ, G, G', hv, h, p, en, ho, k => by simp [tgD] at h
theorem gTs_own {K : PySem.W.Frag} {vs : List Nat} {Q : St → Hp → Prop} {σ0 : St} : ∀ (ts : List Tg) (ds : List D) (xs : List V) (σ : St) (G G' : Gm), tgsIn vs ts = true → tgDs ts ds G = some G' → RpL H m N xs ds → EnvR H m N σ G → (σ.length = σ0.length ∧ ∀ i, i ∉ vs → σ[i]? = σ0[i]?) →
    (∀ σ', EnvR H m N σ' G' → (σ'.length = σ0.length ∧ ∀ i, i ∉ vs → σ'[i]? = σ0[i]?) → Q σ' H) → gTs K ts xs σ H Q
  | [], [], _, σ, G, G', hv, h, .nil, en, ho, k => by
    rw [tgDs] at h
    cases h
    exact ⟨rfl, k σ en ho⟩
  | t :: ts, d :: ds, _, σ, G, G', hv, h, .cons p l, en, ho, k => by
    rw [tgDs] at h
    rw [tgsIn, Bool.and_eq_true] at hv
    split at h
    · rename_i G1 e
      exact ⟨_, _, rfl, gT_own t d _ σ G G1 hv.1 e p en ho fun σ1 en1 ho1 => gTs_own ts ds _ σ1 G1 G' hv.2 h l en1 ho1 k⟩
    · cases h
  | [], _ :: _, _, _, _, _, _, h, _, _, _, _ => by simp [tgDs] at h
  | _ :: _, [], _, _, _, _, _, h, _, _, _, _ => by simp [tgDs] at h
end
/-- the tests of a clause -/
structure SndTs (ct : Nat → Addr) (X : Cx) (W : WX) (ifs : List Expr) (f : Ev) : Prop where
  mk ::
  run : ∀ (σ : St) (H : Hp) (m : Mp) (S : Store) (G : Gm) (Q : Bool → Hp → Prop), Rel ct m S H → EnvR H m S.length σ G → PostE ct W σ m S.length H (BlQ Q) (f G S) → ∃ t, PTs X ifs t ∧ t σ H Q
instance {ct : Nat → Addr} {X : Cx} {W : WX} {ifs : List Expr} {f : Ev} : CoeFun (SndTs ct X W ifs f) (fun _ => ∀ (σ : St) (H : Hp) (m : Mp) (S : Store) (G : Gm) (Q : Bool → Hp → Prop), Rel ct m S H → EnvR H m S.length σ G → PostE ct W σ m S.length H (BlQ Q) (f G S) → ∃ t, PTs X ifs t ∧ t σ H Q) := ⟨SndTs.run⟩
def TssW (X : Cx) (ifs : List Expr) (σ : St) (H : Hp) (Q : Bool → Hp → Prop) : Prop := ∀ pins s, Inv X pins σ H s → wpAny (model X.prog X.w) X.A (forIn ifs true fun c r => if r = true then do let ok ← isTrue c X.env (eval c X.env); pure (ForInStep.yield ok) else pure (ForInStep.yield r)) (TP X pins σ Q) X.xe s
theorem pts_w {ifs : List Expr} : PTs X ifs (TssW X ifs) := ⟨fun pins s _ _ _ I h => h pins s I⟩
theorem sts_nil : SndTs ct X W [] (eC (.bl true)) := by
  refine ⟨?_⟩
  exact fun σ H m S G Q r en h => ⟨tYes, pts_nil, h.bl r⟩
theorem sts_one {ft : Ev} (h : SndT ct X W c ft) : SndTs ct X W [c] ft := by
  refine ⟨?_⟩
  exact fun σ H m S G Q r en hp => ⟨TsW X c, pts_one pt_w, h σ H m S G Q r en hp⟩
theorem SndTs.w {ifs : List Expr} {ft : Ev} (h : SndTs ct X W ifs ft) {Q : Bool → Hp → Prop} (r : Rel ct m S H) (en : EnvR H m S.length σ G) (hp : PostE ct W σ m S.length H (BlQ Q) (ft G S)) : TssW X ifs σ H Q := by
  obtain ⟨t, h1, h2⟩ := h σ H m S G Q r en hp
  exact fun pins s I => h1.run pins s σ H Q I h2
def compD (item : Nat → Store → Option D) (fin : Store → Bool) (t : Tg) (ft fe : Ev) (G : Gm) : Nat → Nat → Store → List D → ER
  | 0, _, S, acc => if fin S = true then .ok (.lst acc) S else .stuck
  | r + 1, i, S, acc => match item i S with
    | none => .stuck
    | some d => match tgD t d G with
      | none => .stuck
      | some G1 => match ft G1 S with
        | .ok (.bl true) S1 => match fe G1 S1 with
          | .ok w S2 => if acc.length < 100000 then compD item fin t ft fe G r (i + 1) S2 (acc ++ [w]) else .stuck
          | _ => .stuck
        | .ok (.bl false) S1 => compD item fin t ft fe G r (i + 1) S1 acc
        | _ => .stuck
def eLc (fi : Iv) (vs : List Nat) (t : Tg) (ft fe : Ev) : Ev := fun G S => match fi G S with
  | .ok n item fin S1 => if tgIn vs t = true then compD item fin t ft fe (wipeG G vs) n 0 S1 [] else .stuck
  | .xc c S1 => .xc c S1
  | .stuck => .stuck
/-- .. made a list that will be changed -/
def toCell : ER → ER
  | .ok (.lst ds) S => .ok (.ref S.length) (S ++ [.lst ds])
  | .xc c S => .xc c S
  | _ => .stuck
def eLcM (fi : Iv) (vs : List Nat) (t : Tg) (ft fe : Ev) : Ev := fun G S => toCell (eLc fi vs t ft fe G S)
theorem NoC.adopt {p a : Addr} {L : List Addr} (hp : p ∈ m.fl) (hL : ∀ q, q ∈ L → q ∈ m.fl) (q : NoC m N a) : NoC (ext (m.reset L) N p) (N + 1) a := ⟨fun n hn => by
    by_cases h1 : n < N
    · rw [ext_lt h1]
      exact q.1 n h1
    · have e1 : n = N := by omega
      subst e1
      rw [ext_eq]
      exact fun z => q.2 (by rw [← z]; exact hp), fun z => q.2 (hL _ z)⟩
mutual
theorem Rp.adopt {p : Addr} {L : List Addr} (hp : p ∈ m.fl) (hL : ∀ q, q ∈ L → q ∈ m.fl) : ∀ (d : D) (v : V), Rp H m N v d → Rp H (ext (m.reset L) N p) (N + 1) v d
  | .non, _, .non => .non
  | .bl _, _, .bl _ => .bl _
  | .int _, _, .int _ => .int _
  | .str _, _, .str _ => .str _
  | .lst ds, _, .lst e q r => .lst e ⟨fun n hn => by
      by_cases h1 : n < N
      · rw [ext_lt h1]
        exact q.1 n h1
      · have e1 : n = N := by omega
        subst e1
        rw [ext_eq]
        exact fun z => q.2 (by rw [← z]; exact hp), fun z => q.2 (hL _ z)⟩ (RpL.adopt hp hL ds _ r)
  | .tup ds, _, .tup e q r => .tup e ⟨fun n hn => by
      by_cases h1 : n < N
      · rw [ext_lt h1]
        exact q.1 n h1
      · have e1 : n = N := by omega
        subst e1
        rw [ext_eq]
        exact fun z => q.2 (by rw [← z]; exact hp), fun z => q.2 (hL _ z)⟩ (RpL.adopt hp hL ds _ r)
  | .exn a, _, .exn _ => .exn a
  | .fn _, _, .fn e h1 q1 h2 q2 => .fn e h1 (q1.adopt hp hL) h2 (q2.adopt hp hL)
  | .ref n, _, .ref h => by
    have ev : V.ref (m n) = V.ref (ext (m.reset L) N p n) := by rw [ext_lt h]; rfl
    rw [ev]
    exact .ref (Nat.lt_succ_of_lt h)
theorem RpL.adopt {p : Addr} {L : List Addr} (hp : p ∈ m.fl) (hL : ∀ q, q ∈ L → q ∈ m.fl) : ∀ (ds : List D) (vs : List V), RpL H m N vs ds → RpL H (ext (m.reset L) N p) (N + 1) vs ds
  | [], _, .nil => .nil
  | d :: ds, _, .cons q r => .cons (Rp.adopt hp hL d _ q) (RpL.adopt hp hL ds _ r)
end
theorem Rel.adopt (r : Rel ct m S H) {p : Addr} {L : List Addr} {c : Cell} (hp : p ∈ m.fl) (hL : ∀ q, q ∈ L → q ∈ m.fl) (hn : p ∉ L) (hc : CellOk ct H (ext (m.reset L) S.length p) (S.length + 1) p c) : Rel ct (ext (m.reset L) S.length p) (S ++ [c]) H := by
  have len : (S ++ [c]).length = S.length + 1 := by simp
  have no := (r.flo p hp).2
  refine ⟨fun i j hi hj e => ?_, fun n c' e => ?_, fun a ha => ?_⟩
  · rw [len] at hi hj
    by_cases h1 : i < S.length
    · by_cases h2 : j < S.length
      · rw [ext_lt h1, ext_lt h2] at e
        exact r.inj i j h1 h2 e
      · have e2 : j = S.length := by omega
        subst e2
        rw [ext_lt h1, ext_eq] at e
        exact absurd e (no i h1)
    · have e1 : i = S.length := by omega
      subst e1
      by_cases h2 : j < S.length
      · rw [ext_lt h2, ext_eq] at e
        exact absurd e.symm (no j h2)
      · omega
  · rw [len]
    by_cases h1 : n < S.length
    · rw [List.getElem?_append_left h1] at e
      rw [ext_lt h1]
      exact (r.cell n c' e).map (fun d v => Rp.adopt hp hL d v) (fun d v => RpL.adopt hp hL d v) (fun c u e q => ⟨e, ⟨fun n hn => by
        by_cases h1 : n < S.length
        · rw [ext_lt h1]
          exact q.1 n h1
        · have e1 : n = S.length := by omega
          subst e1
          rw [ext_eq]
          exact fun z => q.2 (by rw [← z]; exact hp), fun z => q.2 (hL _ z)⟩⟩) fun o q => q
    · have hn : n < (S ++ [c]).length := (List.getElem?_eq_some_iff.mp e).1
      have e1 : n = S.length := by rw [len] at hn; omega
      subst e1
      rw [List.getElem?_append_right (Nat.le_refl _)] at e
      simp at e
      subst e
      rw [ext_eq]
      exact hc
  · obtain ⟨q1, q2⟩ := r.flo a (hL a ha)
    refine ⟨q1, fun n hn' => ?_⟩
    rw [len] at hn'
    by_cases h1 : n < S.length
    · rw [ext_lt h1]
      exact q2 n h1
    · have e1 : n = S.length := by omega
      subst e1
      rw [ext_eq]
      exact fun z => hn (by rw [z]; exact ha)
theorem Step.adopt {p : Addr} (s : Step m N H m' N' H') (h : H p = none) : Step m N H (ext (m'.reset m.fl) N' p) (N' + 1) H' :=
  ⟨Nat.le_succ_of_le s.le, fun n hn => by rw [ext_lt (Nat.lt_of_lt_of_le hn s.le)]; exact s.ag n hn, fun _ h => h, fun _ h => .inl h, fun n h1 h2 => by
    by_cases h3 : n < N'
    · rw [ext_lt h3]
      exact s.fr n h1 h3
    · have e1 : n = N' := by omega
      subst e1
      rw [ext_eq]
      exact h, s.kp, s.th, s.fz⟩
/-- what the loop of a comprehension is worth, Dl the new list -/
theorem lc_ok {n : Nat} {item : Nat → Store → Option D} {fin : Store → Bool} {J : It} {t : Tg} {ft fe : Ev} {vs : List Nat} {Dl : Addr} {K : PySem.W.Frag} {cell : Bool} {m1 : Mp} {S1 : Store} {H1 : Hp} {te : TE} {tt : TT}
    (ht : ∀ (σ : St) (H : Hp) (m : Mp) (S : Store) (G : Gm) (Q : Bool → Hp → Prop), Rel ct m S H → EnvR H m S.length σ G → PostE ct W0 σ m S.length H (BlQ Q) (ft G S) → tt σ H Q)
    (he : ∀ (σ : St) (H : Hp) (m : Mp) (S : Store) (G : Gm) (Q : VK), Rel ct m S H → EnvR H m S.length σ G → PostE ct W0 σ m S.length H Q (fe G S) → te σ H Q)
    (r1 : Rel ct m1 S1 H1) (en1 : EnvR H1 m1 S1.length σ G) (walk : WalkD ct J n item fin m1 S1.length H1) (hD : H1 Dl = none) (hv : tgIn vs t = true)
    (h : PostE ct W σ m1 S1.length H1 Q ((if cell then toCell else id) (compD item fin t ft fe (wipeG G vs) n 0 S1 []))) :
    ∃ Wn : Nat → Nat → Hp → Prop, (∃ k, Wn 0 k (upd H1 Dl (.lst []))) ∧ ∀ i k H, Wn i k H → (J.stop i H ∧ Q (.ref Dl) H) ∨ (J.go i H ∧ ∃ Nx : Hp → Prop, (∀ H', Nx H' → ∃ k', k' < k ∧ Wn (i + 1) k' H') ∧
      ∀ x H', J.yld i H x H' → gT K t x (wipe σ vs) H' fun σ2 H2 => wipe σ2 vs = wipe σ vs ∧ tt σ2 H2 fun b H3 =>
        if b = true then te σ2 H3 fun y H4 => ∃ acc, H4 Dl = some (.lst acc) ∧ acc.length < sizeLine ∧ Nx (upd H4 Dl (.lst (acc ++ [y]))) else Nx H3) := by
  have st0 : Step m1 S1.length H1 (m1.float Dl) S1.length (upd H1 Dl (.lst [])) := Step.float hD
  have enw : EnvR (upd H1 Dl (.lst [])) (m1.float Dl) S1.length (wipe σ vs) (wipeG G vs) := (en1.wipes vs).mono st0
  refine ⟨fun i k H => k = n - i ∧ i ≤ n ∧ ∃ m2 S2 acc ws, Rel ct m2 S2 H ∧ Step m1 S1.length H1 m2 S2.length H ∧ Dl ∈ m2.fl ∧ H Dl = some (.lst ws) ∧ RpL H m2 S2.length ws acc ∧ acc.length ≤ 100000 ∧ EnvR H m2 S2.length (wipe σ vs) (wipeG G vs) ∧
    PostE ct W σ m1 S1.length H1 Q ((if cell then toCell else id) (compD item fin t ft fe (wipeG G vs) (n - i) i S2 acc)),
    ⟨n, by omega, Nat.zero_le _, m1.float Dl, S1, [], [], r1.float hD, st0, List.mem_cons_self, upd_same, .nil, Nat.zero_le _, enw, h⟩, ?_⟩
  rintro i k H' ⟨rfl, hi, m2, S2, acc, ws, r2, st2, fl2, hD2, l2, hz, en2, h2⟩
  obtain ⟨wk1, wk2⟩ := walk m2 S2 H' r2 st2
  have hstuck : PostE ct W σ m1 S1.length H1 Q ((if cell then toCell else id) ER.stuck) → False := fun z => by cases cell <;> exact z
  by_cases hlt : i < n
  · have ek : n - i = (n - (i + 1)) + 1 := by omega
    rw [ek] at h2
    unfold compD at h2
    cases e1 : item i S2 with
    | none =>
      simp only [e1] at h2
      exact (hstuck h2).elim
    | some d =>
      simp only [e1] at h2
      obtain ⟨go, yl⟩ := wk1 i d hlt e1
      cases e2 : tgD t d (wipeG G vs) with
      | none =>
        simp only [e2] at h2
        exact (hstuck h2).elim
      | some G3 =>
        simp only [e2] at h2
        refine .inr ⟨go, fun H3 => (i + 1 ≤ n ∧ ∃ m2 S2 acc ws, Rel ct m2 S2 H3 ∧ Step m1 S1.length H1 m2 S2.length H3 ∧ Dl ∈ m2.fl ∧ H3 Dl = some (.lst ws) ∧ RpL H3 m2 S2.length ws acc ∧ acc.length ≤ 100000 ∧ EnvR H3 m2 S2.length (wipe σ vs) (wipeG G vs) ∧
          PostE ct W σ m1 S1.length H1 Q ((if cell then toCell else id) (compD item fin t ft fe (wipeG G vs) (n - (i + 1)) (i + 1) S2 acc))), fun H3 q => ⟨n - (i + 1), by omega, rfl, q⟩, fun x H3 yld => ?_⟩
        obtain ⟨r3, st3, p3⟩ := yl x H3 yld
        refine gT_own (σ0 := wipe σ vs) t d x (wipe σ vs) (wipeG G vs) G3 hv e2 p3 (en2.mono st3) ⟨rfl, fun _ _ => rfl⟩ fun σ4 en4 ho4 => ⟨wipe_same (by rw [ho4.1, wipe_length]) ho4.2, ?_⟩
        have hD3 : H3 Dl = some (.lst ws) := st3.kp _ _ hD2 (r2.flo _ fl2).2
        cases e3 : ft G3 S2 with
        | stuck =>
          simp only [e3] at h2
          exact (hstuck h2).elim
        | xc c S4 =>
          simp only [e3] at h2
          exact (hstuck h2).elim
        | ok d3 S4 =>
          simp only [e3] at h2
          refine ht σ4 H3 m2 S2 G3 _ r3 en4 ?_
          rw [e3]
          intro v4 m4 H4 r4 st4 p4
          have fl4 : Dl ∈ m4.fl := st4.fq1 _ (st3.fq1 _ fl2)
          have hD4 : H4 Dl = some (.lst ws) := st4.kp _ _ hD3 (r3.flo _ (st3.fq1 _ fl2)).2
          have st14 : Step m1 S1.length H1 m4 S4.length H4 := (st2.trans st3).trans st4
          have l4 : RpL H4 m4 S4.length ws acc := RpL.mono (st3.trans st4) _ _ l2
          have en44 : EnvR H4 m4 S4.length (wipe σ vs) (wipeG G vs) := en2.mono (st3.trans st4)
          cases p4 with
          | non => exact (hstuck h2).elim
          | int => exact (hstuck h2).elim
          | str => exact (hstuck h2).elim
          | lst => exact (hstuck h2).elim
          | tup => exact (hstuck h2).elim
          | ref => exact (hstuck h2).elim
          | exn => exact (hstuck h2).elim
          | fn => exact (hstuck h2).elim
          | bl b =>
            refine ⟨b, rfl, ?_⟩
            cases b with
            | false => exact iteF ⟨hlt, m4, S4, acc, ws, r4, st14, fl4, hD4, l4, hz, en44, h2⟩
            | true =>
              refine iteT ?_
              dsimp only at h2
              cases e5 : fe G3 S4 with
              | stuck =>
                simp only [e5] at h2
                exact (hstuck h2).elim
              | xc c S5 =>
                simp only [e5] at h2
                exact (hstuck h2).elim
              | ok w S5 =>
                simp only [e5] at h2
                refine he σ4 H4 m4 S4 G3 _ r4 (en4.mono st4) ?_
                rw [e5]
                intro v5 m5 H5 r5 st5 p5
                by_cases hz2 : acc.length < 100000
                · rw [if_pos hz2] at h2
                  have fl5 : Dl ∈ m5.fl := st5.fq1 _ fl4
                  have hD5 : H5 Dl = some (.lst ws) := st5.kp _ _ hD4 (r4.flo _ fl4).2
                  have l5 := RpL.mono st5 _ _ l4
                  refine ⟨ws, hD5, by rw [l5.length]; exact size_lt hz, hlt, m5, S5, acc ++ [w], ws ++ [v5], r5.fill fl5, (st14.trans st5).fill hD, fl5, upd_same, RpL.fill fl5 _ _ (l5.append (.cons p5 .nil)), ?_, ?_, h2⟩
                  · rw [List.length_append]
                    show acc.length + 1 ≤ 100000
                    omega
                  · have e6 := en44.mono st5
                    exact ⟨e6.len, fun i d hd => let ⟨v, a, b⟩ := e6.at_ i d hd; ⟨v, a, Rp.fill fl5 _ _ b⟩⟩
                · rw [if_neg hz2] at h2
                  exact (hstuck h2).elim
  · have ei : i = n := by omega
    subst ei
    rw [Nat.sub_self] at h2
    unfold compD at h2
    by_cases hf : fin S2 = true
    · rw [if_pos hf] at h2
      refine .inl ⟨wk2 hf, ?_⟩
      have sub : ∀ p, p ∈ m1.fl → p ∈ m2.fl := st2.fq1
      have nD : Dl ∉ m1.fl := fun z => by
        obtain ⟨⟨o, q⟩, _⟩ := r1.flo _ z
        rw [hD] at q
        cases q
      have noD : No1 m2 S2.length Dl := (r2.flo _ fl2).2
      cases cell with
      | false =>
        have h3 : PostE ct W σ m1 S1.length H1 Q (.ok (.lst acc) S2) := h2
        exact h3 _ (m2.reset m1.fl) H' (r2.reset sub) st2.reset (.lst hD2 ⟨noD, nD⟩ (RpL.reset sub _ _ l2))
      | true =>
        have h3 : ∀ (v : V) (m' : Mp) (H' : Hp), Rel ct m' (S2 ++ [Cell.lst acc]) H' → Step m1 S1.length H1 m' (S2 ++ [Cell.lst acc]).length H' → Rp H' m' (S2 ++ [Cell.lst acc]).length v (.ref S2.length) → Q v H' := h2
        have len : (S2 ++ [Cell.lst acc]).length = S2.length + 1 := by simp
        rw [len] at h3
        refine h3 _ _ H' (Rel.adopt r2 fl2 sub nD ⟨ws, hD2, RpL.adopt fl2 sub _ _ l2⟩) (Step.adopt st2 hD) ?_
        have ev : V.ref Dl = V.ref (ext (m2.reset m1.fl) S2.length Dl S2.length) := by rw [ext_eq]
        rw [ev]
        exact .ref (Nat.lt_succ_self _)
    · rw [if_neg hf] at h2
      exact (hstuck h2).elim
theorem snd_lcG {elt tg iter : Expr} {ifs : List Expr} {scope : Scope} {own : List (Str × Nat)} {fi : Iv} {t : Tg} {ft fe : Ev} (cell : Bool) (hc : X.calm = true) (hN : X.N.Nodup) (hi : SndI ct X W tg iter fi) (ok : BlkOk X.N X.env.scope scope own)
    (hg : ∀ (s : Shared) (H : Hp) (C : Addr) (cl : List (Str × Addr)) (fp : List Addr), SndG (X.blk s H scope (compEnvC scope cl C X.env) fp) tg t)
    (ht : ∀ (s : Shared) (H : Hp) (C : Addr) (cl : List (Str × Addr)) (fp : List Addr), SndTs ct (X.blk s H scope (compEnvC scope cl C X.env) fp) W0 ifs ft)
    (he : ∀ (s : Shared) (H : Hp) (C : Addr) (cl : List (Str × Addr)) (fp : List Addr), SndE ct (X.blk s H scope (compEnvC scope cl C X.env) fp) W0 elt fe) (hs : ∀ x, foldedSetIterable iter X.env x = pure x := by intro _; rfl) :
    SndE ct X W (.ListComp elt [⟨tg, iter, ifs, 0⟩] scope pos) (fun G S => (if cell then toCell else id) (eLc fi (own.map (·.2)) t ft fe G S)) := by
  refine ⟨?_⟩
  intro σ H m S G Q r en h
  obtain ⟨wi, hpi, hw⟩ := hi
  refine .of (pe_lc (g := gT X.K t) (tt := fun σ H Q => ∀ (s : Shared) (H0 : Hp) (C : Addr) (cl : List (Str × Addr)) (fp : List Addr), TssW (X.blk s H0 scope (compEnvC scope cl C X.env) fp) ifs σ H Q)
    (te := fun σ H Q => ∀ (s : Shared) (H0 : Hp) (C : Addr) (cl : List (Str × Addr)) (fp : List Addr), EvW (X.blk s H0 scope (compEnvC scope cl C X.env) fp) elt σ H Q) hc hN hpi ok (fun s H0 C cl fp => hg s H0 C cl fp)
    (fun s H0 C cl fp => ⟨fun pins s' σ H Q I q => q s H0 C cl fp pins s' I⟩) (fun s H0 C cl fp => ⟨fun pins s' σ H Q I q => q s H0 C cl fp pins s' I⟩) hs) ?_
  refine hw σ H m S G _ r en ?_
  unfold eLc at h
  cases e : fi G S with
  | stuck =>
    simp only [e] at h
    cases cell <;> exact h
  | xc c S1 =>
    simp only [e] at h
    cases cell <;> exact h
  | ok n item fin S1 =>
    simp only [e] at h
    by_cases hv : tgIn (own.map (·.2)) t = true
    · rw [if_pos hv] at h
      intro J m1 H1 r1 st1 walk Dl hD
      exact lc_ok (cell := cell) (fun σ H m S G Q r en h s H0 C cl fp => (ht s H0 C cl fp).w r en h) (fun σ H m S G Q r en h s H0 C cl fp => he s H0 C cl fp σ H m S G Q r en h) r1 (en.mono st1) walk hD hv (PostE.step st1 h)
    · rw [if_neg hv] at h
      cases cell <;> exact h.elim
theorem snd_lc {elt tg iter : Expr} {ifs : List Expr} {scope : Scope} {own : List (Str × Nat)} {fi : Iv} {t : Tg} {ft fe : Ev} (hc : X.calm = true) (hN : X.N.Nodup) (hi : SndI ct X W tg iter fi) (ok : BlkOk X.N X.env.scope scope own)
    (hg : ∀ (s : Shared) (H : Hp) (C : Addr) (cl : List (Str × Addr)) (fp : List Addr), SndG (X.blk s H scope (compEnvC scope cl C X.env) fp) tg t)
    (ht : ∀ (s : Shared) (H : Hp) (C : Addr) (cl : List (Str × Addr)) (fp : List Addr), SndTs ct (X.blk s H scope (compEnvC scope cl C X.env) fp) W0 ifs ft)
    (he : ∀ (s : Shared) (H : Hp) (C : Addr) (cl : List (Str × Addr)) (fp : List Addr), SndE ct (X.blk s H scope (compEnvC scope cl C X.env) fp) W0 elt fe) (hs : ∀ x, foldedSetIterable iter X.env x = pure x := by intro _; rfl) :
    SndE ct X W (.ListComp elt [⟨tg, iter, ifs, 0⟩] scope pos) (eLc fi (own.map (·.2)) t ft fe) := snd_lcG false hc hN hi ok hg ht he hs
theorem snd_lcM {elt tg iter : Expr} {ifs : List Expr} {scope : Scope} {own : List (Str × Nat)} {fi : Iv} {t : Tg} {ft fe : Ev} (hc : X.calm = true) (hN : X.N.Nodup) (hi : SndI ct X W tg iter fi) (ok : BlkOk X.N X.env.scope scope own)
    (hg : ∀ (s : Shared) (H : Hp) (C : Addr) (cl : List (Str × Addr)) (fp : List Addr), SndG (X.blk s H scope (compEnvC scope cl C X.env) fp) tg t)
    (ht : ∀ (s : Shared) (H : Hp) (C : Addr) (cl : List (Str × Addr)) (fp : List Addr), SndTs ct (X.blk s H scope (compEnvC scope cl C X.env) fp) W0 ifs ft)
    (he : ∀ (s : Shared) (H : Hp) (C : Addr) (cl : List (Str × Addr)) (fp : List Addr), SndE ct (X.blk s H scope (compEnvC scope cl C X.env) fp) W0 elt fe) (hs : ∀ x, foldedSetIterable iter X.env x = pure x := by intro _; rfl) :
    SndE ct X W (.ListComp elt [⟨tg, iter, ifs, 0⟩] scope pos) (eLcM fi (own.map (·.2)) t ft fe) := snd_lcG true hc hN hi ok hg ht he hs
/-- y = [..] on one line, y a plain name -/
theorem ss_setLcG {elt tg iter : Expr} {ifs : List Expr} {scope : Scope} {own : List (Str × Nat)} {fi : Iv} {t : Tg} {ft fe : Ev} {i : Nat} {py spos : Pos} (cell : Bool) (hc : X.calm = true) (hN : X.N.Nodup) (hy : X.N[i]? = some y) (hyl : X.env.scope.names.lookup y = some .local)
    (hsw : swapsWith (.ListComp elt [⟨tg, iter, ifs, 0⟩] scope pos) (some (.Name y py)) spos.line X.env = pure true) (hi : SndI ct X W tg iter fi) (ok : BlkOk X.N X.env.scope scope own)
    (hg : ∀ (s : Shared) (H : Hp) (C : Addr) (cl : List (Str × Addr)) (fp : List Addr), SndG (X.blk s H scope (compEnvC scope cl C X.env) fp) tg t)
    (ht : ∀ (s : Shared) (H : Hp) (C : Addr) (cl : List (Str × Addr)) (fp : List Addr), SndTs ct (X.blk s H scope (compEnvC scope cl C X.env) fp) W0 ifs ft)
    (he : ∀ (s : Shared) (H : Hp) (C : Addr) (cl : List (Str × Addr)) (fp : List Addr), SndE ct (X.blk s H scope (compEnvC scope cl C X.env) fp) W0 elt fe) (hs : ∀ x, foldedSetIterable iter X.env x = pure x := by intro _; rfl) :
    SndS ct X W (.Assign [.Name y py] (.ListComp elt [⟨tg, iter, ifs, 0⟩] scope pos) spos) (sAsg (.nm i) (fun G S => (if cell then toCell else id) (eLc fi (own.map (·.2)) t ft fe G S))) := by
  refine ⟨?_⟩
  intro σ H m S G Z r en h
  obtain ⟨wi, hpi, hw⟩ := hi
  refine .of (ps_setLc (g := gT X.K t) (tt := fun σ H Q => ∀ (s : Shared) (H0 : Hp) (C : Addr) (cl : List (Str × Addr)) (fp : List Addr), TssW (X.blk s H0 scope (compEnvC scope cl C X.env) fp) ifs σ H Q)
    (te := fun σ H Q => ∀ (s : Shared) (H0 : Hp) (C : Addr) (cl : List (Str × Addr)) (fp : List Addr), EvW (X.blk s H0 scope (compEnvC scope cl C X.env) fp) elt σ H Q) hc hN hy hyl hsw hpi ok (fun s H0 C cl fp => hg s H0 C cl fp)
    (fun s H0 C cl fp => ⟨fun pins s' σ H Q I q => q s H0 C cl fp pins s' I⟩) (fun s H0 C cl fp => ⟨fun pins s' σ H Q I q => q s H0 C cl fp pins s' I⟩) hs) ?_
  have hp : PostE ct W σ m S.length H (fun v H1 => gName i v σ H1 Z.nx) ((if cell then toCell else id) (eLc fi (own.map (·.2)) t ft fe G S)) := by
    unfold sAsg at h
    dsimp only at h
    cases e : (if cell then toCell else id) (eLc fi (own.map (·.2)) t ft fe G S) with
    | ok d S1 =>
      rw [e] at h
      intro v m1 H1 r1 st1 p1
      have h2 : PostS ct W m1 S1.length H1 Z (match tgD (.nm i) d G with | some G1 => .nx G1 S1 | none => .stuck) := PostS.step st1 h
      have q := asg_ok (K := X.K) (t := .nm i) r1 p1 (en.mono st1) h2
      rw [gT] at q
      exact q
    | xc c S1 =>
      rw [e] at h
      exact fun m1 H1 r1 st1 => h σ m1 H1 r1 st1 (en.mono st1)
    | stuck =>
      rw [e] at h
      exact h
  show tLc wi (gT X.K t) _ _ (own.map (·.2)) σ H (fun x H1 => gName i x σ H1 Z.nx)
  refine hw σ H m S G _ r en ?_
  unfold eLc at hp
  cases e : fi G S with
  | stuck =>
    simp only [e] at hp
    cases cell <;> exact hp
  | xc c S1 =>
    simp only [e] at hp
    cases cell <;> exact hp
  | ok n item fin S1 =>
    simp only [e] at hp
    by_cases hv : tgIn (own.map (·.2)) t = true
    · rw [if_pos hv] at hp
      intro J m1 H1 r1 st1 walk Dl hD
      exact lc_ok (cell := cell) (fun σ H m S G Q r en h s H0 C cl fp => (ht s H0 C cl fp).w r en h) (fun σ H m S G Q r en h s H0 C cl fp => he s H0 C cl fp σ H m S G Q r en h) r1 (en.mono st1) walk hD hv (PostE.step st1 hp)
    · rw [if_neg hv] at hp
      cases cell <;> exact hp.elim
theorem ss_setLc {elt tg iter : Expr} {ifs : List Expr} {scope : Scope} {own : List (Str × Nat)} {fi : Iv} {t : Tg} {ft fe : Ev} {i : Nat} {py spos : Pos} (hc : X.calm = true) (hN : X.N.Nodup) (hy : X.N[i]? = some y) (hyl : X.env.scope.names.lookup y = some .local)
    (hsw : swapsWith (.ListComp elt [⟨tg, iter, ifs, 0⟩] scope pos) (some (.Name y py)) spos.line X.env = pure true) (hi : SndI ct X W tg iter fi) (ok : BlkOk X.N X.env.scope scope own)
    (hg : ∀ (s : Shared) (H : Hp) (C : Addr) (cl : List (Str × Addr)) (fp : List Addr), SndG (X.blk s H scope (compEnvC scope cl C X.env) fp) tg t)
    (ht : ∀ (s : Shared) (H : Hp) (C : Addr) (cl : List (Str × Addr)) (fp : List Addr), SndTs ct (X.blk s H scope (compEnvC scope cl C X.env) fp) W0 ifs ft)
    (he : ∀ (s : Shared) (H : Hp) (C : Addr) (cl : List (Str × Addr)) (fp : List Addr), SndE ct (X.blk s H scope (compEnvC scope cl C X.env) fp) W0 elt fe) (hs : ∀ x, foldedSetIterable iter X.env x = pure x := by intro _; rfl) :
    SndS ct X W (.Assign [.Name y py] (.ListComp elt [⟨tg, iter, ifs, 0⟩] scope pos) spos) (sAsg (.nm i) (eLc fi (own.map (·.2)) t ft fe)) := ss_setLcG false hc hN hy hyl hsw hi ok hg ht he hs
theorem ss_setLcM {elt tg iter : Expr} {ifs : List Expr} {scope : Scope} {own : List (Str × Nat)} {fi : Iv} {t : Tg} {ft fe : Ev} {i : Nat} {py spos : Pos} (hc : X.calm = true) (hN : X.N.Nodup) (hy : X.N[i]? = some y) (hyl : X.env.scope.names.lookup y = some .local)
    (hsw : swapsWith (.ListComp elt [⟨tg, iter, ifs, 0⟩] scope pos) (some (.Name y py)) spos.line X.env = pure true) (hi : SndI ct X W tg iter fi) (ok : BlkOk X.N X.env.scope scope own)
    (hg : ∀ (s : Shared) (H : Hp) (C : Addr) (cl : List (Str × Addr)) (fp : List Addr), SndG (X.blk s H scope (compEnvC scope cl C X.env) fp) tg t)
    (ht : ∀ (s : Shared) (H : Hp) (C : Addr) (cl : List (Str × Addr)) (fp : List Addr), SndTs ct (X.blk s H scope (compEnvC scope cl C X.env) fp) W0 ifs ft)
    (he : ∀ (s : Shared) (H : Hp) (C : Addr) (cl : List (Str × Addr)) (fp : List Addr), SndE ct (X.blk s H scope (compEnvC scope cl C X.env) fp) W0 elt fe) (hs : ∀ x, foldedSetIterable iter X.env x = pure x := by intro _; rfl) :
    SndS ct X W (.Assign [.Name y py] (.ListComp elt [⟨tg, iter, ifs, 0⟩] scope pos) spos) (sAsg (.nm i) (eLcM fi (own.map (·.2)) t ft fe)) := ss_setLcG true hc hN hy hyl hsw hi ok hg ht he hs
/-! ### raise -/
/-- the own exception class of the c-th, by its name -/
structure ExcAt (K : PySem.W.Frag) (mg : Str → Option Value) (ct : Nat → Addr) (c : Nat) (x : Str) : Prop where
  g : mg x = some (.ref (ct c))
  q : PySem.W.excIn K (ct c) [.type "ValueError", .type "Exception", .type "BaseException", .type "object"] "ValueError.__new__" = true
  kp : PySem.W.keepIn K (.ref (ct c)) = true
  b : PySem.W.subIn K (.ref (ct c)) (.type "BaseException") = some true
  t : PySem.W.typeIn K (.ref (ct c)) = some (.type "type")
def sRaise (c : Nat) : Blk := fun G S => .xc c G S
theorem ss_raise {c : Nat} {mm : Str} {j : Nat} {p2 p3 : Pos} (hE : ExcAt X.K X.mg ct c x) (hc : X.calm = true) (tk : Takes X W) (hg : Gl X x) (hdb : (x == ("__debug__" : Str)) = false := by decide) :
    SndS ct X W (.Raise (some (.Call (.Name x p) [.Constant (.str mm) j p2] [] p3)) none pos) (sRaise c) := by
  refine ⟨?_⟩
  intro σ H m S G Z r en h
  exact .of (ps_raise hc tk (pmk_own PySem.F.excBase_ValueError hE.q hE.g hE.kp (raises_own hE.b hE.t) hg hdb)) (h σ m H r Step.refl en)
/-- the same, the text an expression -/
def sRaiseE (c : Nat) (f : Ev) : Blk := fun G S => toOut (f G S) G fun _ S1 => .xc c G S1
theorem ss_raiseE {c : Nat} {p3 : Pos} (hE : ExcAt X.K X.mg ct c x) (hc : X.calm = true) (tk : Takes X W) (hg : Gl X x) (he : SndE ct X W e f) (hdb : (x == ("__debug__" : Str)) = false := by decide) (hst : starEach [e] X.env = (false, eval e X.env) :: starEach [] X.env := by rfl) :
    SndS ct X W (.Raise (some (.Call (.Name x p) [e] [] p3)) none pos) (sRaiseE c f) := by
  refine ⟨?_⟩
  intro σ H m S G Z r en h
  refine .of (ps_raise hc tk (pmk_ownA PySem.F.excBase_ValueError hE.q hE.g hE.kp (raises_own hE.b hE.t) hg (pa_cons (te := EvW X e) pe_w pa_nil hst) hdb hst rfl)) ?_
  exact (he.bindS r en h).mono fun v H1 ⟨d, m1, S1, r1, st1, p1, en1, h1⟩ => ⟨by show 1 ≤ sizeLine; decide, h1 σ m1 H1 r1 Step.refl en1⟩

/-! ### a def by its body -/
def fnD (n : Nat) (B : Blk) : OpN := fun ds S => match B (ds.map some ++ List.replicate (n - ds.length) none) S with
  | .nx _ S1 => .ok .non S1
  | .rt d S1 => .ok d S1
  | .xc c _ S1 => .xc c S1
  | _ => .stuck
theorem EnvR.start {vs : List V} {ds : List D} {Ns : List Str} (h : RpL H m N vs ds) : EnvR H m N (start Ns vs) (ds.map some ++ List.replicate (Ns.length - ds.length) none) := by
  have hl := h.length
  refine ⟨?_, fun i d hd => ?_⟩
  · unfold L2.start
    simp [hl]
  · unfold L2.start
    by_cases hi : i < ds.length
    · rw [List.getElem?_append_left (by simpa using hi), List.getElem?_map] at hd
      cases e : ds[i]? with
      | none => rw [e] at hd; cases hd
      | some d' =>
        rw [e] at hd
        cases hd
        obtain ⟨v, q1, q2⟩ := h.get e
        exact ⟨v, by rw [List.getElem?_append_left (by simpa [hl] using hi), List.getElem?_map, q1]; rfl, q2⟩
    · rw [List.getElem?_append_right (by simpa using hi), List.getElem?_replicate] at hd
      split at hd <;> cases hd
end
/-- the context of a def of the text -/
abbrev bodyX (P : Program) (w : World) (K : PySem.W.Frag) (mg : Str → Option Value) (base : Heap) (Ns : List Str) (qual : Str) (st : Stmt) (f : Addr) (cdv : Value) (A : Around) (outer : List Env) (s : Shared) (H : Hp) (E : XK) : Cx :=
  cxOf (L2.CX P w) P w K mg base Ns qual (defScope st) f cdv A outer s H E
theorem def_ok {P : Program} {w : World} {K : PySem.W.Frag} {mg : Str → Option Value} {base : Heap} {ct : Nat → Addr} {x qual : Str} {st : Stmt} {f : Addr} {fd : FuncData} {Ns ps : List Str} {k : Nat} {B : Blk} (F : Fun K x qual st f fd) (Sc : FnScope Ns ps (defScope st))
    (hb : ∀ (cdv : Value) (A : Around) (outer : List Env) (s : Shared) (H : Hp) (E : XK), Room k (A.deeper (envOfC qual (defScope st) s.heap.objs.size f cdv)) →
      SndB ct (bodyX P w K mg base Ns qual st f cdv A outer s H E) (fun cls d _ H => E cls d H) (defBody st) B) : FnOk P w K mg base (L2.CX P w) (k + 1) f fd ps (spOf ct ps.length (fnD Ns.length B)) := by
  refine F.okX Sc (fun vs H Q E h => h.1) fun cdv A outer s H vs Q E hr h => ?_
  obtain ⟨hl, m, S, ds, r, p, hp⟩ := h
  refine ⟨StsW (bodyX P w K mg base Ns qual st f cdv A outer s H E) (defBody st), pss_w, ?_⟩
  refine hb cdv A outer s H E hr (start Ns vs) H m S (ds.map some ++ List.replicate (Ns.length - ds.length) none) _ r (EnvR.start p) ?_
  unfold fnD at hp
  cases e : B (ds.map some ++ List.replicate (Ns.length - ds.length) none) S with
  | nx G1 S1 =>
    rw [e] at hp
    exact fun σ' m' H' r' st' _ => hp .non m' H' r' st' .non
  | rt d S1 =>
    rw [e] at hp
    exact hp
  | xc c G1 S1 =>
    rw [e] at hp
    exact fun σ' m' H' r' st' _ => hp m' H' r' st'
  | bk G1 S1 =>
    rw [e] at hp
    exact hp.elim
  | ct G1 S1 =>
    rw [e] at hp
    exact hp.elim
  | stuck =>
    rw [e] at hp
    exact hp.elim
end L2.VE
/-! VE11: methods of lists, sets of ints, ranges asked, dicts made and walked. -/
namespace L2.VE
open PySem PySem.Spec PyProof.Rows
section
variable {ct : Nat → Addr} {X : Cx} {W : WX} {e a b c : Expr} {f fa fb fc : Ev} {σ : St} {H H' : Hp} {m m' : Mp} {S S' : Store} {G : Gm} {Q : VK} {N N' : Nat} {es : List Expr} {g : Av} {x y z : Str} {p pos apos cpos : Pos} {Z : Ends} {st : Stmt} {rest body : List Stmt} {u v : Blk}
/-! ### methods of lists -/
abbrev OpM := D → List D → Store → ER
structure SndM (ct : Nat → Addr) (X : Cx) (W : WX) (id : String) (o : OpM) : Prop where
  mk ::
  run : ∀ (σ : St) (H : Hp) (m : Mp) (S : Store) (x : V) (vs : List V) (d : D) (ds : List D) (Q : VK), Rel ct m S H → Rp H m S.length x d → RpL H m S.length vs ds → PostE ct W σ m S.length H Q (o d ds S) →
    ∀ pins s v us, Inv X pins σ H s → RelV x v → Vals vs us → wpAny (model X.prog X.w) X.A (call (.builtin id) (v :: us)) (EP X pins σ Q) X.xe s
instance {ct : Nat → Addr} {X : Cx} {W : WX} {id : String} {o : OpM} : CoeFun (SndM ct X W id o) (fun _ => ∀ (σ : St) (H : Hp) (m : Mp) (S : Store) (x : V) (vs : List V) (d : D) (ds : List D) (Q : VK), Rel ct m S H → Rp H m S.length x d → RpL H m S.length vs ds → PostE ct W σ m S.length H Q (o d ds S) →     ∀ pins s v us, Inv X pins σ H s → RelV x v → Vals vs us → wpAny (model X.prog X.w) X.A (call (.builtin id) (v :: us)) (EP X pins σ Q) X.xe s) := ⟨SndM.run⟩
def eMt (o : OpM) (fo : Ev) (g : Av) : Ev := fun G S => (fo G S).bind fun d S1 => if (lsOf S1 d).isSome = true then (g G S1).bind fun ds S2 => o d ds S2 else .stuck
theorem snd_mt {o : Expr} {fo : Ev} {op : OpM} {id : String} {name : Str} (hm : SndM ct X W id op) (slot : Slot "list" name id) (hty : typeOf (.builtin id) = pure (.type "method_descriptor")) (ho : SndE ct X W o fo) (ha : SndA ct X W (e :: es) g)
    (hbase : attributeBase o name X.env (eval o X.env) = eval o X.env := by rfl)
    (hfew : ((backTo cpos (starEach (e :: es) X.env)).all (fun x => !x.1) && (backToKw cpos (keywordEach [] X.env)).all (fun x => x.1.isSome)
      && decide ((e :: es).length + ([] : List Keyword).length + (if ([] : List Keyword).isEmpty then 0 else 1) < 30)) = true := by rfl)
    (hline : (apos.endLine == cpos.line) = true := by rfl) (hs : starEach (e :: es) X.env = (false, eval e X.env) :: starEach es X.env := by rfl) (hplain : (backTo cpos (starEach es X.env)).any (·.1) = false := by rfl) :
    SndE ct X W (.Call (.Attribute o name apos) (e :: es) [] cpos) (eMt op fo g) := by
  refine ⟨?_⟩
  intro σ H m S G Q r en h pins s I
  refine wpAny_Call_method_late hbase hfew hline rfl (thn (ho.bind r en h pins s I) fun v s1 ⟨x, H1, I1, r1, d, m1, S1, rl1, st1, p1, en1, h1⟩ => ?_)
  split at h1
  · rename_i hl
    obtain ⟨xs, e1⟩ := Option.isSome_iff_exists.mp hl
    obtain ⟨l, vs, rfl, q1, q2⟩ := lsOf_rp rl1 p1 e1
    obtain ⟨t1, t2⟩ := tyV_is (T := "list") I1 r1 (.inl ⟨rfl, vs, SqL.of q1⟩)
    refine ⟨"list", id, PySem.F.plainAttrs_list, slot, hty, t1, t2, ?_⟩
    have hA := ha σ H1 m1 S1 G Q _ rl1 en1 h1 cpos pins s1 I1
    rw [hs] at hA ⊢
    refine Calls.callWith_builtin (by show (false || (backTo cpos (starEach es X.env)).any (·.1)) = false; rw [hplain] <;> rfl) (Calls.evalArgs_plain ?_)
    exact thn hA fun us s2 ⟨vs2, H2, I2, rv2, ds, m2, S2, r2, st2, p2, en2, h2, z2⟩ => hm σ H2 m2 S2 _ vs2 d ds Q r2 (Rp.mono st2 _ _ p1) p2 h2 pins s2 v us I2 r1 rv2
  · exact h1.elim
theorem snd_mt0 {o : Expr} {fo : Ev} {op : OpM} {id : String} {name : Str} (hm : SndM ct X W id op) (slot : Slot "list" name id) (hty : typeOf (.builtin id) = pure (.type "method_descriptor")) (ho : SndE ct X W o fo)
    (hbase : attributeBase o name X.env (eval o X.env) = eval o X.env := by rfl) (hline : (apos.endLine == cpos.line) = true := by rfl) :
    SndE ct X W (.Call (.Attribute o name apos) [] [] cpos) (eMt op fo eaNil) := by
  refine ⟨?_⟩
  intro σ H m S G Q r en h pins s I
  refine wpAny_Call_method0_late hbase hline (thn (ho.bind r en h pins s I) fun v s1 ⟨x, H1, I1, r1, d, m1, S1, rl1, st1, p1, en1, h1⟩ => ?_)
  split at h1
  · rename_i hl
    obtain ⟨xs, e1⟩ := Option.isSome_iff_exists.mp hl
    obtain ⟨l, vs, rfl, q1, q2⟩ := lsOf_rp rl1 p1 e1
    obtain ⟨t1, t2⟩ := tyV_is (T := "list") I1 r1 (.inl ⟨rfl, vs, SqL.of q1⟩)
    exact ⟨"list", id, PySem.F.plainAttrs_list, slot, hty, t1, t2, Calls.callWith_builtin rfl (PySem.evalArgs_none (hm σ H1 m1 S1 _ [] d [] Q rl1 p1 .nil h1 pins s1 v [] I1 r1 .nil))⟩
  · exact h1.elim
/-- a list cell gets other items -/
theorem PostE.lset {n : Nat} {d : D} {v : V} {vs ws : List V} {ys : List D} (h : PostE ct W σ m S.length H Q (.ok d (S.set n (.lst ys)))) (r : Rel ct m S H) (hn : n < S.length) (h1 : H (m n) = some (.lst vs)) (q : RpL H m S.length ws ys) (p : Rp H m S.length v d) : Q v (upd H (m n) (.lst ws)) := by
  have st : Step m S.length H m (S.set n (.lst ys)).length (upd H (m n) (.lst ws)) := by
    rw [List.length_set]
    exact Step.write hn h1
  refine h v m _ (r.write hn h1 (fun _ _ z => nomatch z) ⟨ws, upd_same, RpL.mono (Step.write hn h1) _ _ q⟩) st ?_
  exact Rp.mono st _ _ p
/-- a method of a list that is a cell -/
def oCell (k : Nat → List D → List D → Store → ER) : OpM := fun d ds S => match d with
  | .ref n => match S[n]? with
    | some (.lst xs) => k n xs ds S
    | _ => .stuck
  | _ => .stuck
theorem oCell_rp {k : Nat → List D → List D → Store → ER} {xv : V} {d : D} {ds : List D} (r : Rel ct m S H) (pp : Rp H m S.length xv d) (h : PostE ct W σ m S.length H Q (oCell k d ds S)) :
    ∃ n xs vs, xv = .ref (m n) ∧ n < S.length ∧ H (m n) = some (.lst vs) ∧ RpL H m S.length vs xs ∧ PostE ct W σ m S.length H Q (k n xs ds S) := by
  unfold oCell at h
  split at h
  · rename_i n
    split at h
    · rename_i xs e1
      cases pp
      rename_i hn
      obtain ⟨vs, h1, h2⟩ := r.cell n _ e1
      exact ⟨n, xs, vs, rfl, hn, h1, h2, h⟩
    · exact h.elim
  · exact h.elim
def mAppend : OpM := oCell fun n xs ds S => match ds with
  | [w] => if xs.length < 100000 then .ok .non (S.set n (.lst (xs ++ [w]))) else .stuck
  | _ => .stuck
theorem sm_append : SndM ct X W "list.append" mAppend := by
  refine ⟨?_⟩
  intro σ H m S xv vs d ds Q r pp pl h pins s v us I rx rv
  obtain ⟨n, xs, ws, rfl, hn, h1, h2, h⟩ := oCell_rp r pp h
  split at h
  · obtain ⟨w, rfl, q⟩ := rpl1 pl
    split at h
    · rename_i hz
      exact mt_append pins s σ H _ _ v us Q I rx rv ⟨_, ws, w, rfl, rfl, h1, by rw [h2.length]; exact size_lt (by omega), h.lset r hn h1 (h2.append pl) .non⟩
    · exact h.elim
  · exact h.elim
def mExtend : OpM := oCell fun n xs ds S => match ds with
  | [w] => match lsOf S w with
    | some ys => if xs.length + ys.length ≤ 100000 then .ok .non (S.set n (.lst (xs ++ ys))) else .stuck
    | none => .stuck
  | _ => .stuck
theorem sm_extend : SndM ct X W "list.extend" mExtend := by
  refine ⟨?_⟩
  intro σ H m S xv vs d ds Q r pp pl h pins s v us I rx rv
  obtain ⟨n, xs, ws, rfl, hn, h1, h2, h⟩ := oCell_rp r pp h
  split at h
  · obtain ⟨w, rfl, q⟩ := rpl1 pl
    split at h
    · rename_i ys e1
      split at h
      · rename_i hz
        obtain ⟨b, zs, rfl, h3, h4⟩ := lsOf_rp r q e1
        exact mt_extend pins s σ H _ _ v us Q I rx rv ⟨_, b, ws, zs, rfl, rfl, h1, h3, by rw [h2.length, h4.length]; exact size_le hz, h.lset r hn h1 (h2.append h4) .non⟩
      · exact h.elim
    · exact h.elim
  · exact h.elim
def mClear : OpM := oCell fun n xs ds S => match ds with
  | [] => .ok .non (S.set n (.lst []))
  | _ => .stuck
theorem sm_clear : SndM ct X W "list.clear" mClear := by
  refine ⟨?_⟩
  intro σ H m S xv vs d ds Q r pp pl h pins s v us I rx rv
  obtain ⟨n, xs, ws, rfl, hn, h1, h2, h⟩ := oCell_rp r pp h
  split at h
  · cases pl
    exact mt_clear pins s σ H _ _ v us Q I rx rv ⟨_, ws, rfl, rfl, h1, h.lset r hn h1 .nil .non⟩
  · exact h.elim
def mReverse : OpM := oCell fun n xs ds S => match ds with
  | [] => .ok .non (S.set n (.lst xs.reverse))
  | _ => .stuck
theorem sm_reverse : SndM ct X W "list.reverse" mReverse := by
  refine ⟨?_⟩
  intro σ H m S xv vs d ds Q r pp pl h pins s v us I rx rv
  obtain ⟨n, xs, ws, rfl, hn, h1, h2, h⟩ := oCell_rp r pp h
  split at h
  · cases pl
    exact mt_reverse pins s σ H _ _ v us Q I rx rv ⟨_, ws, rfl, rfl, h1, h.lset r hn h1 h2.reverse .non⟩
  · exact h.elim
theorem RpL.eraseIdx : ∀ {vs : List V} {ds : List D} (n : Nat), RpL H m N vs ds → RpL H m N (vs.eraseIdx n) (ds.eraseIdx n)
  | _, _, _, .nil => .nil
  | _, _, 0, .cons _ r => r
  | _, _, n + 1, .cons h r => .cons h (RpL.eraseIdx n r)
theorem RpL.dropLast : ∀ {vs : List V} {ds : List D}, RpL H m N vs ds → RpL H m N vs.dropLast ds.dropLast
  | _, _, .nil => .nil
  | _, _, .cons _ .nil => .nil
  | _, _, .cons h (.cons h2 r) => by
    rw [List.dropLast_cons₂, List.dropLast_cons₂]
    exact .cons h (RpL.dropLast (.cons h2 r))
def mPop : OpM := oCell fun n xs ds S => match ds with
  | [] => match xs[xs.length - 1]? with
    | some w => .ok w (S.set n (.lst xs.dropLast))
    | none => .stuck
  | _ => .stuck
theorem sm_pop : SndM ct X W "list.pop" mPop := by
  refine ⟨?_⟩
  intro σ H m S xv vs d ds Q r pp pl h pins s v us I rx rv
  obtain ⟨n, xs, ws, rfl, hn, h1, h2, h⟩ := oCell_rp r pp h
  split at h
  · cases pl
    split at h
    · rename_i w e1
      obtain ⟨wv, a1, a2⟩ := h2.get e1
      rw [← h2.length] at a1
      exact mt_pop pins s σ H _ _ v us Q I rx rv ⟨_, ws, wv, rfl, rfl, h1, a1, h.lset r hn h1 h2.dropLast a2⟩
    · exact h.elim
  · exact h.elim
def mPopAt : OpM := oCell fun n xs ds S => match ds with
  | [.int i] => if -1000 ≤ i ∧ i ≤ 1000 then (match seqIndex? i xs.length with
    | some k => match xs[k]? with
      | some w => .ok w (S.set n (.lst (xs.eraseIdx k)))
      | none => .stuck
    | none => .stuck) else .stuck
  | _ => .stuck
theorem sm_popAt : SndM ct X W "list.pop" mPopAt := by
  refine ⟨?_⟩
  intro σ H m S xv vs d ds Q r pp pl h pins s v us I rx rv
  obtain ⟨n, xs, ws, rfl, hn, h1, h2, h⟩ := oCell_rp r pp h
  split at h
  · obtain ⟨w, rfl, q⟩ := rpl1 pl
    cases q
    split at h
    · rename_i hz
      split at h
      · rename_i k e0
        split at h
        · rename_i w e1
          obtain ⟨wv, a1, a2⟩ := h2.get e1
          rw [← h2.length] at e0
          exact mt_popAt pins s σ H _ _ v us Q I rx rv ⟨_, ws, _, k, wv, rfl, rfl, h1, by omega, by omega, e0, a1, h.lset r hn h1 (h2.eraseIdx k) a2⟩
        · exact h.elim
      · exact h.elim
    · exact h.elim
  · exact h.elim
def mInsert : OpM := oCell fun n xs ds S => match ds with
  | [.int i, w] => if 0 ≤ i ∧ i ≤ 1000 ∧ xs.length < 100000 then .ok .non (S.set n (.lst (xs.take i.toNat ++ [w] ++ xs.drop i.toNat))) else .stuck
  | _ => .stuck
theorem sm_insert : SndM ct X W "list.insert" mInsert := by
  refine ⟨?_⟩
  intro σ H m S xv vs d ds Q r pp pl h pins s v us I rx rv
  obtain ⟨n, xs, ws, rfl, hn, h1, h2, h⟩ := oCell_rp r pp h
  split at h
  · obtain ⟨w1, w2, rfl, q1, q2⟩ := rpl2 pl
    cases q1
    split at h
    · rename_i hz
      exact mt_insert pins s σ H _ _ v us Q I rx rv ⟨_, ws, _, w2, rfl, rfl, h1, by rw [h2.length]; exact size_lt (by omega), hz.1, by omega, h.lset r hn h1 (((h2.take _).append (.cons q2 .nil)).append (h2.drop _)) .non⟩
    · exact h.elim
  · exact h.elim
/-- the items as data, the asked one, for remove, index, count -/
def oData (k : D → List D → List PyData → PyData → Store → ER) : OpM := fun d ds S => match ds with
  | [w] => match lsOf S d with
    | some xs => match pyL (pyD S 8) xs, pyD S 8 w with
      | some ps, some q => k d xs ps q S
      | _, _ => .stuck
    | none => .stuck
  | _ => .stuck
theorem oData_rp {k : D → List D → List PyData → PyData → Store → ER} {xv : V} {vs : List V} {d : D} {ds : List D} (r : Rel ct m S H) (pp : Rp H m S.length xv d) (pl : RpL H m S.length vs ds) (h : PostE ct W σ m S.length H Q (oData k d ds S)) :
    ∃ l w wd xs ws ps q, xv = .ref l ∧ vs = [w] ∧ Rp H m S.length w wd ∧ lsOf S d = some xs ∧ H l = some (.lst ws) ∧ RpL H m S.length ws xs ∧ pyL (pyD S 8) xs = some ps ∧ pyD S 8 wd = some q ∧ PostE ct W σ m S.length H Q (k d xs ps q S) := by
  unfold oData at h
  split at h
  · obtain ⟨w, rfl, q⟩ := rpl1 pl
    split at h
    · rename_i xs e1
      split at h
      · rename_i ps q0 e2 e3
        obtain ⟨l, ws, rfl, h1, h2⟩ := lsOf_rp r pp e1
        exact ⟨l, w, _, xs, ws, ps, q0, rfl, rfl, q, e1, h1, h2, e2, e3, h⟩
      · exact h.elim
    · exact h.elim
  · exact h.elim
theorem room_data {S : Store} {xs : List D} {ps : List PyData} {wd : D} {q : PyData} {n : Nat} (e2 : pyL (pyD S 8) xs = some ps) (e3 : pyD S 8 wd = some q) (hu : n + 65 < cLine) : PyData.plainAll ps = true ∧ q.plain = true ∧ PyData.canLayAll0 ps = true ∧ q.canLay0 = true ∧ n + 1 + min (PyData.depthAll ps) q.depth < cLine := by
  have h1 := pyL_lay (fun d p => pyD_lay (S := S) 8 d p) e2
  have h2 := pyD_lay 8 wd q e3
  exact ⟨PySem.PyData.plainAll_of_canLay0 _ h1.1, PySem.PyData.plain_of_canLay0 _ h2.1, h1.1, h2.1, by omega⟩
theorem isL_at {l : Addr} {ws : List V} {pins : List (Addr × Obj)} {s : Shared} (I : Inv X pins σ H s) (h : H l = some (.lst ws)) : ∃ its, Vals ws its ∧ s.heap.IsList l its.toArray ∧ ws.length ≤ sizeLine ∧ ∃ n, s.heap.get? l = some { cls := .type "list", data := .seq its.toArray n } := by
  obtain ⟨z, its, n, r, hl, e⟩ := I.lstM h
  exact ⟨its, r, ⟨_, e, rfl, n, rfl⟩, z, n, e⟩
def mCount : OpM := oData fun d xs ps q S => .ok (.int ((ps.countP fun y => PyData.eqv y q : Nat) : Int)) S
theorem sm_count (hu : X.A.units + 65 < cLine) : SndM ct X W "list.count" mCount := by
  refine ⟨?_⟩
  intro σ H m S xv vs d ds Q r pp pl h pins s v us I rx rv
  obtain ⟨l, w, wd, xs, ws, ps, q, rfl, rfl, pw, e1, h1, h2, e2, e3, h⟩ := oData_rp r pp pl h
  obtain ⟨u, rfl, ru⟩ := rv.one
  obtain rfl : v = Value.ref l := rx
  obtain ⟨its, rv2, hL, hz, _⟩ := isL_at I h1
  obtain ⟨as, h4⟩ := Dp.readsAll I ps _ its (pyL_dp (pyD_dp r 8) h2 e2) rv2
  obtain ⟨bs, h5⟩ := Dp.reads I q w u (pyD_dp r 8 _ _ _ pw e3) ru
  obtain ⟨z1, z2, z3, z4, z5⟩ := room_data e2 e3 hu
  exact PySem.SeqAt.count_list_data hL (as := as) (bs := bs) (by simpa using h4) h5 z1 z2 z5 ⟨.int _, H, I.tok _, ⟨_, rfl⟩, h.now r (.int _)⟩
def mIndex : OpM := oData fun d xs ps q S => match PySem.SeqAt.dataPlace ps q with
  | some j => .ok (.int (j : Int)) S
  | none => .stuck
theorem sm_index (hu : X.A.units + 65 < cLine) : SndM ct X W "list.index" mIndex := by
  refine ⟨?_⟩
  intro σ H m S xv vs d ds Q r pp pl h pins s v us I rx rv
  obtain ⟨l, w, wd, xs, ws, ps, q, rfl, rfl, pw, e1, h1, h2, e2, e3, h⟩ := oData_rp r pp pl h
  split at h
  · rename_i j ej
    obtain ⟨hj1, hj2, hj3⟩ := List.findIdx?_eq_some_iff_getElem.mp ej
    have sh : SeqAt.shaped (.list ps) = true := by
      have k1 := pyL_lay (fun d p => pyD_lay (S := S) 8 d p) e2
      unfold SeqAt.shaped
      rw [PyData.canLay0, k1.1]
      have : (PyData.list ps).depth ≤ 64 := by simp only [PyData.depth]; omega
      rw [decide_eq_true this]
      rfl
    refine mt_indexD hu pins s σ H _ _ v us Q I rx rv ⟨l, w, q, ps, j, ps[j], rfl, rfl, .lst (SqL.of h1) (pyL_dp (pyD_dp r 8) h2 e2), pyD_dp r 8 _ _ _ pw e3, sh, pyD_shaped e3 (by decide), List.getElem?_eq_getElem hj1, hj2, fun mm z' hm hz' => ?_, h.now r (.int _)⟩
    obtain ⟨hl, rfl⟩ := List.getElem?_eq_some_iff.mp hz'
    have := hj3 mm hm
    simpa using this
  · exact h.elim
def mRemove : OpM := oData fun d xs ps q S => match d with
  | .ref n => match PySem.SeqAt.dataPlace ps q with
    | some j => .ok .non (S.set n (.lst (xs.eraseIdx j)))
    | none => .stuck
  | _ => .stuck
theorem sm_remove (hu : X.A.units + 65 < cLine) : SndM ct X W "list.remove" mRemove := by
  refine ⟨?_⟩
  intro σ H m S xv vs d ds Q r pp pl h pins s v us I rx rv
  obtain ⟨l, w, wd, xs, ws, ps, q, rfl, rfl, pw, e1, h1, h2, e2, e3, h⟩ := oData_rp r pp pl h
  split at h
  · rename_i n _
    split at h
    · rename_i j ej
      cases pp
      rename_i hn
      obtain ⟨u, rfl, ru⟩ := rv.one
      obtain rfl : v = Value.ref (m n) := rx
      obtain ⟨its, rv2, hL, hz, n0, e0⟩ := isL_at I h1
      obtain ⟨as, h4⟩ := Dp.readsAll I ps _ its (pyL_dp (pyD_dp r 8) h2 e2) rv2
      obtain ⟨bs, h5⟩ := Dp.reads I q w u (pyD_dp r 8 _ _ _ pw e3) ru
      obtain ⟨z1, z2, z3, z4, z5⟩ := room_data e2 e3 hu
      refine PySem.SeqAt.remove_list_data hL (as := as) (bs := bs) (by simpa using h4) h5 z1 z2 z5 ej (by rw [List.size_toArray, ← rv2.length]; exact hz) ⟨.non, _, I.lset (its' := its.eraseIdx j) (t' := s.toks) h1 e0 ?_ (rv2.eraseIdx j) ?_, rfl, h.lset r hn h1 (h2.eraseIdx j) .non⟩
      · show its.toArray.eraseIdxIfInBounds j = (its.eraseIdx j).toArray
        rw [List.eraseIdxIfInBounds_toArray]
      · have := len_erase ws j
        omega
    · exact h.elim
  · exact h.elim

/-! ### x in range(k) -/
theorem so_rng {neg : Bool} {lo hi : Int} {ad : Addr} {op : CmpOp} (ho : op = (if neg then .NotIn else .In)) {pins : List (Addr × Obj)} {s : Shared} {i : Int} {v u : Value} (I : Inv X pins σ H s) (rx : RelV (.int i) v) (ry : RelV (.ref ad) u) (ha : H ad = some (.rng lo hi))
    (q : Q (.bl (if neg then !decide (lo ≤ i ∧ i < hi) else decide (lo ≤ i ∧ i < hi))) H) : wpAny (model X.prog X.w) X.A (compareOp op v u) (EP X pins σ Q) X.xe s := by
  obtain ⟨k, rfl⟩ := rx
  obtain rfl : u = Value.ref ad := ry
  obtain ⟨t1, t2, t3, hob⟩ := I.hok ad _ ha
  have go : ∀ R : Bool → Shared → Prop, R (decide (lo ≤ i ∧ i < hi)) s → wpAny (model X.prog X.w) X.A (contains (Value.ref ad) (Value.int i k)) R X.xe s := fun R hR =>
    wpAny_contains_slot (T := "range") ⟨_, hob, rfl⟩ F.slot_range_contains (call_meets F.slot_range_contains ⟨_, hob, rfl⟩ F.entry_range_contains (F.args_range_contains_2 _ _) (q_contains ad lo hi i t1 t2 t3 k)
      ⟨hob, wpAny_truthy_bool (by rw [place1]; exact hR)⟩)
  subst ho
  cases neg with
  | false => exact wpAny_bind (go _ (wpAny_pure ⟨.bl _, H, I, rfl, q⟩))
  | true => exact wpAny_bind (go _ (wpAny_pure ⟨.bl _, H, I, rfl, q⟩))
def eInR (neg : Bool) (fa : Ev) (g : Av) : Ev := fun G S => (fa G S).bind fun x S1 => (g G S1).bind fun ds S2 => match x, ds with
  | .int i, [.int k] => .ok (.bl (if neg then !decide (0 ≤ i ∧ i < k) else decide (0 ≤ i ∧ i < k))) S2
  | _, _ => .stuck
theorem inR_ok {neg : Bool} {op : CmpOp} (ho : op = (if neg then .NotIn else .In)) (hg : Gl X "range") (hm : X.mg "range" = none) (ha : SndE ct X W a fa) (hb : SndA ct X W [b] g) (r : Rel ct m S H) (en : EnvR H m S.length σ G) (h : PostE ct W σ m S.length H Q (eInR neg fa g G S))
    (hs : starEach [b] X.env = [(false, eval b X.env)]) {pins : List (Addr × Obj)} {s : Shared} (I : Inv X pins σ H s) :
    wpAny (model X.prog X.w) X.A (eval a X.env) (fun v s1 => wpAny (model X.prog X.w) X.A (eval (.Call (.Name "range" p) [b] [] pos) X.env) (fun u s2 => wpAny (model X.prog X.w) X.A (compareOp op v u) (EP X pins σ Q) X.xe s2) X.xe s1) X.xe s := by
  refine (thn ((ha.bind r en h) pins s I)) fun v s1 ⟨x, H1, I1, rx, d1, m1, S1, r1, st1, p1, en1, h1⟩ => ?_
  refine Call_ (ld_blt I1 hg hm PyProof.Rows.boot_range (PyProof.Rows.callWith_type1 (thn (hb σ H1 m1 S1 G Q _ r1 en1 h1 pos pins s1 I1) fun us s2 ⟨vs, H2, I2, rv, ds, m2, S2, r2, st2, p2, en2, h2, z2⟩ => ?_) hs rfl))
  split at h2
  · rename_i i k _
    cases p1
    obtain ⟨w, rfl, q⟩ := rpl1 p2
    cases q
    obtain ⟨u, rfl, ru⟩ := rv.one
    obtain ⟨t, rfl⟩ := ru
    refine call_range_1 ?_
    have I3 : Inv X pins σ (upd H2 s2.heap.objs.size (.rng 0 k)) { s2 with heap := s2.heap.push { cls := .type "range", data := .fields #[.int 0 s2.toks, .int k t, .int 1 (s2.toks + 1)] }, toks := s2.toks + 1 + 1 } :=
      I2.laid (fun b o e => Heap.get?_push_of_some _ e) (Nat.le_refl _) ⟨s2.toks, t, s2.toks + 1, Heap.get?_push_size _ rfl⟩
    have hf := I2.hok.fresh (Nat.le_refl s2.heap.objs.size)
    exact so_rng ho I3 rx rfl upd_same (h2 _ m2 _ (r2.new hf) (Step.new hf) (.bl _))
  · exact h2.elim
theorem snd_inR {neg : Bool} {op : CmpOp} {pos2 : Pos} (ho : op = (if neg then .NotIn else .In)) (hg : Gl X "range") (hm : X.mg "range" = none) (ha : SndE ct X W a fa) (hb : SndA ct X W [b] g)
    (hs : starEach [b] X.env = [(false, eval b X.env)] := by rfl) (hmk : behindInMarks op (.Call (.Name "range" p) [b] [] pos) = false := by rfl) : SndE ct X W (.Compare a [op] [.Call (.Name "range" p) [b] [] pos] pos2) (eInR neg fa g) := by
  refine ⟨?_⟩
  intro σ H m S G Q r en h pins s I
  exact wpAny_Compare1 (inR_ok ho hg hm ha hb r en h hs I) hmk
theorem st_inR {neg : Bool} {op : CmpOp} {pos2 : Pos} (ho : op = (if neg then .NotIn else .In)) (hg : Gl X "range") (hm : X.mg "range" = none) (ha : SndE ct X W a fa) (hb : SndA ct X W [b] g)
    (hs : starEach [b] X.env = [(false, eval b X.env)] := by rfl) (hmk : behindInMarks op (.Call (.Name "range" p) [b] [] pos) = false := by rfl) : SndT ct X W (.Compare a [op] [.Call (.Name "range" p) [b] [] pos] pos2) (eInR neg fa g) := by
  refine ⟨?_⟩
  intro σ H m S G Q r en h pins s I
  refine wpAny_isTrue_Compare1 (thn (inR_ok ho hg hm ha hb r en h hs I) fun v s1 h1 => thn h1 fun u s2 h2 => thn h2 fun z s3 ⟨zv, H3, I3, rz, k, e, q3⟩ => ?_) hmk
  subst e
  cases rz
  exact wpAny_truthy_bool ⟨H3, I3, q3⟩
end
end L2.VE
/-! VE12: sets of ints, dicts made and walked. -/
namespace L2.VE
open PySem PySem.Spec PyProof.Rows
/-! ### each int once -/
def onceI : List Int → List Int
  | [] => []
  | n :: ns => if n ∈ ns then onceI ns else n :: onceI ns
theorem onceI_mem (k : Int) : ∀ ns, k ∈ onceI ns ↔ k ∈ ns
  | [] => .rfl
  | n :: ns => by
    rw [onceI]
    have ih := onceI_mem k ns
    split
    · rename_i h
      rw [ih, List.mem_cons]
      exact ⟨.inr, fun z => z.elim (fun e => e ▸ h) id⟩
    · rw [List.mem_cons, List.mem_cons, ih]
theorem onceI_nodup : ∀ ns, (onceI ns).Nodup
  | [] => List.nodup_nil
  | n :: ns => by
    rw [onceI]
    split
    · exact onceI_nodup ns
    · rename_i h
      exact List.nodup_cons.mpr ⟨fun z => h ((onceI_mem n ns).mp z), onceI_nodup ns⟩
theorem nodup_perm : ∀ {xs ys : List Int}, xs.Nodup → ys.Nodup → (∀ k, k ∈ xs ↔ k ∈ ys) → xs.Perm ys
  | [], ys, _, _, h => by
    cases ys with
    | nil => exact .refl _
    | cons y t => exact absurd ((h y).mpr List.mem_cons_self) (by simp)
  | x :: xs, ys, hx, hy, h => by
    have hx' := List.nodup_cons.mp hx
    have hm : x ∈ ys := (h x).mp List.mem_cons_self
    have p := List.perm_cons_erase hm
    have hy2 := List.nodup_cons.mp (p.nodup_iff.mp hy)
    refine (List.Perm.cons x (nodup_perm hx'.2 hy2.2 fun k => ⟨fun hk => ?_, fun hk => ?_⟩)).trans p.symm
    · have h1 : k ∈ x :: ys.erase x := p.mem_iff.mp ((h k).mp (List.mem_cons_of_mem _ hk))
      rcases List.mem_cons.mp h1 with e | h1
      · exact absurd (e ▸ hk) hx'.1
      · exact h1
    · have h1 : k ∈ x :: xs := (h k).mpr (p.mem_iff.mpr (List.mem_cons_of_mem _ hk))
      rcases List.mem_cons.mp h1 with e | h1
      · exact absurd (e ▸ hk) hy2.1
      · exact h1
section
variable {P : Program} {w : World} {A : Around} {E : Value → Shared → Prop} {s : Shared}
set_option maxRecDepth 100000 in
set_option maxHeartbeats 3200000 in
/-- set(xs) of a list of ints, with what sorted wants of it -/
theorem set_of_list {l : Addr} {items : Array Value} (ns : List Int) {Q : Value → Shared → Prop} (hh : A.handled = none) (hl : s.heap.IsList l items) (hit : IntsAre items.toList ns) (hb : ns.length + 1 < scanBound)
    (h : ∀ (h' : Heap) (tk c : Nat), SetR w h' s.heap.objs.size (fun j => decide (j ∈ ns)) c → (∀ b o, s.heap.get? b = some o → h'.get? b = some o) → Q (.ref s.heap.objs.size) { s with heap := h', toks := tk }) :
    wpAny (model P w) A (call (.type "set") [.ref l]) Q E s := by
  have hisz : items.size = ns.length := by
    have q := IntsAre.length hit
    rwa [Array.length_toList] at q
  obtain ⟨_, _, hmro⟩ := F.called_set.mro
  have f1 := F.called_set.made
  have f2 := F.called_set.sub
  have f3 := F.called_set.notType
  have f4 := F.called_set.canCreate
  have f5 := F.typeCall_set_1 (.ref l)
  refine wpAny_call (codeAny_of_tree ?_)
  show wpAny _ _ (callAny (.type "set") _) _ _ _
  refine wpAny_pure ⟨Code.quiet_builtin _ (by decide +kernel), codeAny_builtin F.entry_type_call ?_⟩
  rw [Around.under_plain (weight_type_call_type "set" [.ref l] []) rfl]
  repeat (any_goals (first | assumption | wp_step))
  let new : Obj := { cls := .type "set", dict := none, data := .set #[] 0 (.fresh 0 0 (!w.params.followText "set-order")) }
  refine codeAny_mono (code_set_led1 (.ref l) (E := E) (Q₁ := fun obj s₁ => obj = .ref s.heap.objs.size ∧ s₁ = { s with heap := s.heap.push new }) ⟨rfl, rfl⟩) fun r s₁ hr => ?_
  cases r with
  | error e => exact hr
  | ok fl =>
    cases fl with
    | next => exact hr.elim
    | brk => exact hr.elim
    | cont => exact hr.elim
    | ret obj =>
      obtain ⟨rfl, rfl⟩ := hr
      have hS : (s.heap.push new).get? s.heap.objs.size = some new := Heap.get?_push_size _ rfl
      have hT : Shared.TypeIs { s with heap := s.heap.push new } (.ref s.heap.objs.size) "set" := ⟨_, hS, rfl⟩
      have g1 := F.called_set.init.lookup
      have g2 := F.called_set.init.bind (.ref s.heap.objs.size)
      repeat (any_goals (first | assumption | wp_step))
      refine codeAny_mono (codeAny_call_builtin (R := wants (fun r s₂ => r = .none ∧ ∃ h' tk c, s₂ = { s with heap := h', toks := tk } ∧ SetR w h' s.heap.objs.size (fun j => decide (j ∈ ns)) c ∧
          (∀ b o, s.heap.get? b = some o → h'.get? b = some o)) E) F.called_set.init.plain F.entry_set_init (check_set_init_1 hT ?_)) fun r₂ s₂ hr₂ => ?_
      · obtain ⟨ol, hol, hcl, nl, hdl⟩ := hl
        obtain ⟨ocls, odict, odata, oslots⟩ := ol
        simp only at hcl hdl
        subst hcl
        subst hdl
        have hlS : l < s.heap.objs.size := Heap.lt_size hol
        have hol' : (s.heap.push new).get? l = some { cls := .type "list", dict := odict, data := .seq items nl, slots := oslots } := Heap.get?_push_of_some _ hol
        have k1 := F.sub_list_set
        have k2 := F.sub_list_frozenset
        have k3 : (Value.type "list" == Value.type "dict") = false := by decide
        have hl1 : (s.heap.push new).IsList l items := ⟨_, hol', rfl, nl, rfl⟩
        unfold Builtin.«set.__init__» noKeywords Builtin.Frozenset.updateFrom
        generalize hPI : pyIter = PI
        wp_walk
        subst hPI
        refine wpAny_pyIter_list hl1 ?_
        refine wpAny_bind (wpAny_runValue ?_)
        have hsz : (s.heap.push new).objs.size = s.heap.objs.size + 1 := Heap.size_push ..
        have ne1 : l ≠ (s.heap.push new).objs.size := by
          rw [hsz]
          exact Nat.ne_of_lt (Nat.lt_succ_of_lt hlS)
        have ne2 : s.heap.objs.size ∉ [(s.heap.push new).objs.size, l] := by
          rw [hsz]
          simp only [List.mem_cons, List.not_mem_nil, or_false, not_or]
          exact ⟨Nat.ne_of_lt (Nat.lt_succ_self _), Nat.ne_of_gt hlS⟩
        have hval : ∀ (i : Nat) (v : Value), items[i]? = some v → ∃ k t, ns[i]? = some k ∧ v = .int k t := fun i v hv => by
          have hi : i < ns.length := by rw [← hisz]; exact (Array.getElem?_eq_some_iff.mp hv).1
          obtain ⟨t, e⟩ := PyProof.Rows.IntsAre.int_at hit i v (by rw [Array.getElem?_toList]; exact hv)
          refine ⟨ns[i], t, List.getElem?_eq_getElem hi, ?_⟩
          rw [e, List.getD_eq_getElem?_getD, List.getElem?_eq_getElem hi] <;> rfl
        have h0 : ((s.heap.push new).push { cls := .type "list_iterator", data := .fields #[.ref l, .int 0 0] }).get? s.heap.objs.size = some new := Heap.get?_push_of_some _ hS
        refine set_update_ints ((Walks.list (by simp [hh]) _ l ne1 items).toS) s.heap.objs.size ne2 ns hisz hb hval (items.size - 0) 0 _ (by omega) (Nat.zero_le _)
          ⟨⟨_, Heap.get?_push_size _ rfl, rfl, rfl⟩, (hl1.push _)⟩ ⟨0, Nat.le_refl 0, setR_new_at h0⟩ fun s' c' hm _ hS' => ?_
        obtain ⟨h', g', d', tk', os'⟩ := s'
        obtain rfl : g' = s.gens := hm.gens
        obtain rfl : d' = s.drawn := hm.drawn
        obtain rfl : os' = s.os := hm.os
        show wpAny _ _ _ _ _ _
        refine wpAny_pure ?_
        show wpAny _ _ (ret Value.none) _ _ _
        refine wpAny_pure ⟨rfl, h', tk', c', rfl, hS', fun b o e => ?_⟩
        have lt : b < s.heap.objs.size := Heap.lt_size e
        refine hm.heap b o ?_ (Heap.get?_push_of_some _ (Heap.get?_push_of_some _ e))
        simp only [List.mem_cons, List.not_mem_nil, or_false, not_or]
        refine ⟨Nat.ne_of_lt lt, ?_⟩
        rw [hsz]
        exact Nat.ne_of_lt (Nat.lt_succ_of_lt lt)
      · cases r₂ with
        | error e => exact hr₂
        | ok fl₂ =>
          cases fl₂ with
          | next => exact hr₂.elim
          | brk => exact hr₂.elim
          | cont => exact hr₂.elim
          | ret r =>
            obtain ⟨rfl, h', tk, c', rfl, hS', hk'⟩ := hr₂
            repeat (any_goals (first | assumption | wp_step))
            exact h _ _ _ hS' hk'
end
section
variable {ct : Nat → Addr} {X : Cx} {W : WX} {e a b c : Expr} {f fa fb fc : Ev} {σ : St} {H H' : Hp} {m m' : Mp} {S S' : Store} {G : Gm} {Q : VK} {N N' : Nat} {es : List Expr} {g : Av} {x y z : Str} {p p2 q pos apos cpos : Pos} {Z : Ends} {st : Stmt} {rest body : List Stmt} {u v : Blk}
def opSet (k : List Int → Store → ER) : Op1 := fun d S => match lsOf S d with
  | some xs => match intsOf xs with
    | some ns => if ns.length ≤ 1000 then k ns S else .stuck
    | none => .stuck
  | none => .stuck
def opLenSet : Op1 := opSet fun ns S => .ok (.int ((onceI ns).length : Nat)) S
def opSortSet : Op1 := opSet fun ns S => if (onceI ns).length < 64 then .ok (.lst ((sortI (onceI ns)).map D.int)) S else .stuck
theorem set_ok (hc : X.calm = true) {d : D} {xv : V} {k : List Int → Store → ER} {pins : List (Addr × Obj)} {s1 : Shared} {vv : Value} (r : Rel ct m S H) (pp : Rp H m S.length xv d) (h : PostE ct W σ m S.length H Q (opSet k d S)) (I : Inv X pins σ H s1) (rx : RelV xv vv) {R : Value → Shared → Prop}
    (fin : ∀ ns h' tk c, PostE ct W σ m S.length H Q (k ns S) → ns.length ≤ 1000 → SetR X.w h' s1.heap.objs.size (fun j => decide (j ∈ ns)) c → c = (onceI ns).length → Inv X pins σ H { s1 with heap := h', toks := tk } → R (.ref s1.heap.objs.size) { s1 with heap := h', toks := tk }) :
    wpAny (model X.prog X.w) X.A (call (.type "set") [vv]) R X.xe s1 := by
  unfold opSet at h
  split at h
  · rename_i xs e1
    split at h
    · rename_i ns e2
      split at h
      · rename_i hz
        obtain ⟨l, vs, rfl, h1, h2⟩ := lsOf_rp r pp e1
        rw [intsOf_eq e2] at h2
        rw [h2.ints] at h1
        obtain rfl : vv = Value.ref l := rx
        obtain ⟨its, rv, pl, hz2⟩ := I.list (SqL.of h1)
        refine set_of_list ns (I.ok.hd hc) pl.isList (by simpa using ints_of_vals rv) (by unfold scanBound; omega) fun h' tk c R1 hk => ?_
        refine fin ns h' tk c h hz R1 ?_ (I.kept hk)
        obtain ⟨o, es, ep, t, _, _, _, _, nd, hm, _, _, hn, _⟩ := R1
        have pm : (es.toList.map keyOf).Perm (onceI ns) := nodup_perm nd (onceI_nodup ns) fun k => by
          rw [onceI_mem, ← hm k]
          simp
        rw [← pm.length_eq, List.length_map, Array.length_toList]
        exact hn.symm
      · exact h.elim
    · exact h.elim
  · exact h.elim
theorem snd_lenSet (hc : X.calm = true) (hg : Gl X "len") (hm : X.mg "len" = none) (hg2 : Gl X "set") (hm2 : X.mg "set" = none) (ha : SndE ct X W a f)
    (na : starEach [a] X.env = (false, eval a X.env) :: starEach [] X.env := by rfl) : SndE ct X W (.Call (.Name "len" p) [.Call (.Name "set" p2) [a] [] q] [] pos) (eOp1 opLenSet f) := by
  refine ⟨?_⟩
  intro σ H m S G Q r en h pins s I
  refine Call_ (ld_blt I hg hm PySem.boot_len ?_)
  refine PyProof.Rows.callWith_builtin1 (PyProof.Rows.args_cons ?_ rfl) rfl rfl
  refine Call_ (ld_blt I hg2 hm2 PyProof.Rows.boot_set ?_)
  refine PyProof.Rows.callWith_type1 (PyProof.Rows.args_cons (thn (ha.bind r en h pins s I) fun v s1 ⟨x, H1, I1, rx, d, m1, S1, r1, st1, p1, en1, h1⟩ => PyProof.Rows.args_nil ?_) na) na rfl
  refine set_ok hc r1 p1 h1 I1 rx fun ns h' tk c h2 hz R1 ec I2 => PyProof.Rows.args_nil ?_
  obtain ⟨o, es, ep, t, ho, hex, hd, _, _, _, _, hf, hn, _⟩ := R1
  have hle : c ≤ 1000 := by
    rw [ec]
    have := (onceI_nodup ns)
    have h3 : ∀ ns : List Int, (onceI ns).length ≤ ns.length := fun ns => by
      induction ns with
      | nil => exact Nat.le_refl _
      | cons n ns ih =>
        rw [onceI]
        split
        · exact Nat.le_succ_of_le ih
        · exact Nat.succ_le_succ ih
    exact Nat.le_trans (h3 ns) hz
  exact call_len_set ho hex hd hf (by rw [hn] <;> omega) ⟨.int ((onceI ns).length : Nat), H1, I2.tok _, ⟨_, by rw [hn, ec]⟩, h2.now r1 (.int _)⟩
theorem snd_sortSet (hc : X.calm = true) (hg : Gl X "sorted") (hm : X.mg "sorted" = none) (hg2 : Gl X "set") (hm2 : X.mg "set" = none) (ha : SndE ct X W a f)
    (na : starEach [a] X.env = (false, eval a X.env) :: starEach [] X.env := by rfl) : SndE ct X W (.Call (.Name "sorted" p) [.Call (.Name "set" p2) [a] [] q] [] pos) (eOp1 opSortSet f) := by
  refine ⟨?_⟩
  intro σ H m S G Q r en h pins s I
  refine Call_ (ld_blt I hg hm PyProof.Rows.boot_sorted ?_)
  refine PyProof.Rows.callWith_builtin1 (PyProof.Rows.args_cons ?_ rfl) rfl rfl
  refine Call_ (ld_blt I hg2 hm2 PyProof.Rows.boot_set ?_)
  refine PyProof.Rows.callWith_type1 (PyProof.Rows.args_cons (thn (ha.bind r en h pins s I) fun v s1 ⟨x, H1, I1, rx, d, m1, S1, r1, st1, p1, en1, h1⟩ => PyProof.Rows.args_nil ?_) na) na rfl
  refine set_ok hc r1 p1 h1 I1 rx fun ns h' tk c h2 hz R1 ec I2 => PyProof.Rows.args_nil ?_
  split at h2
  · rename_i h64
    refine sorted_set (s := { s1 with heap := h', toks := tk }) R1 (I2.ok.hd hc) (by rw [ec]; exact h64) fun s' pp out cc ks k gg o hp hg hi hs hmm hl => ?_
    have hn : H1 pp = none := I2.hok.fresh hp
    have J : Inv X pins σ (upd H1 pp (.lst (ks.map V.int))) { { s1 with heap := h', toks := tk } with heap := s'.heap, gens := s'.gens, drawn := s'.drawn, toks := s'.toks } :=
      I2.call (ch := []) (Un.laid k hp hn) (I2.hok.laid k hp ⟨by rw [List.length_map, hl, sizeLine_eq]; omega, out.toList, cc, vals_of_ints hi, hg⟩) (by rw [gg]; exact I2.bare) (fun _ z => nomatch z)
    have e : s' = { { s1 with heap := h', toks := tk } with heap := s'.heap, gens := s'.gens, drawn := s'.drawn, toks := s'.toks } := by
      cases s'
      cases s1
      cases o
      rfl
    rw [e]
    have ek : ks = sortI (onceI ns) := by
      refine sorted_one (hs.imp fun h => Int.le_of_lt h) (sortI_sorted _) ((nodup_perm (hs.imp fun h => Int.ne_of_lt h) (onceI_nodup ns) fun k => ?_).trans (sortI_perm _).symm)
      rw [hmm, onceI_mem]
      simp
    rw [ek] at J
    exact ⟨.ref pp, _, J, rfl, h2.newL r1 hn RpL.of_ints⟩
  · exact h2.elim

/-! ### a dict looked at while it is walked -/
mutual
theorem Rp.wr {n : Nat} {o : HO} (hn : n < N) : ∀ (d : D) (v : V), Rp H m N v d → Rp (upd H (m n) o) m N v d
  | .non, _, .non => .non
  | .bl _, _, .bl _ => .bl _
  | .int _, _, .int _ => .int _
  | .str _, _, .str _ => .str _
  | .lst ds, _, .lst e q r => .lst (by rw [upd_ne (fun z => q.1 n hn z.symm)]; exact e) q (RpL.wr hn ds _ r)
  | .tup ds, _, .tup e q r => .tup (by rw [upd_ne (fun z => q.1 n hn z.symm)]; exact e) q (RpL.wr hn ds _ r)
  | .exn a, _, .exn _ => .exn a
  | .fn _, _, .fn e h1 q1 h2 q2 => .fn e (by rw [upd_ne (fun z => q1.1 n hn z.symm)]; exact h1) q1 (by rw [upd_ne (fun z => q2.1 n hn z.symm)]; exact h2) q2
  | .ref k, _, .ref h => .ref h
theorem RpL.wr {n : Nat} {o : HO} (hn : n < N) : ∀ (ds : List D) (vs : List V), RpL H m N vs ds → RpL (upd H (m n) o) m N vs ds
  | [], _, .nil => .nil
  | d :: ds, _, .cons q r => .cons (Rp.wr hn d _ q) (RpL.wr hn ds _ r)
end
theorem Rel.wr (r : Rel ct m S H) {n : Nat} {o : HO} {c : Cell} (hn : n < S.length) (hc : CellOk ct (upd H (m n) o) m S.length (m n) c) : Rel ct m (S.set n c) (upd H (m n) o) := by
  refine ⟨fun i j hi hj e => r.inj i j (by simpa using hi) (by simpa using hj) e, fun k c' e => ?_, fun a ha => ?_⟩
  rw [List.length_set]
  by_cases h : k = n
  · subst h
    rw [List.getElem?_set_self hn] at e
    cases e
    exact hc
  · rw [List.getElem?_set_ne (Ne.symm h)] at e
    have hk : k < S.length := (List.getElem?_eq_some_iff.mp e).1
    exact (r.cell k c' e).map (fun d v => Rp.wr hn d v) (fun d v => RpL.wr hn d v) (fun c u e q => ⟨by rw [upd_ne (fun z => q.1 n hn z.symm)]; exact e, q⟩) fun u q => by
      rw [upd_ne (fun z => h (r.inj k n hk hn z))]
      exact q
  · obtain ⟨⟨u, e⟩, q⟩ := r.flo a ha
    rw [List.length_set]
    exact ⟨⟨u, by rw [upd_ne (fun z => q n hn z.symm)]; exact e⟩, q⟩
def lockD (i : Nat) (f : Ev) : Ev := fun G S => match G[i]? with
  | some (some (.ref n)) => match S[n]? with
    | some (.dic kvs) => match f G (S.set n (.lok (kvs.map (·.1)))) with
      | .ok d S2 => .ok d (S2.set n (.dic kvs))
      | _ => .stuck
    | _ => .stuck
  | _ => .stuck
theorem snd_lock {i : Nat} (he : SndE ct X W e f) : SndE ct X W e (lockD i f) := by
  refine ⟨?_⟩
  intro σ H m S G Q r en h
  unfold lockD at h
  split at h
  · rename_i n e0
    split at h
    · rename_i kvs e1
      obtain ⟨v, hv, pv⟩ := en.at_ i _ e0
      cases pv
      rename_i hn
      obtain ⟨vs, h1, h2⟩ := r.cell n _ e1
      have len : (S.set n (.lok (kvs.map (·.1)))).length = S.length := List.length_set ..
      refine .of (pe_lock pe_w) ⟨m n, .dK vs, h1, trivial, fun od => ?_⟩
      have st0 : Step m S.length H m S.length (upd H (m n) (.frz od (.dK vs))) := Step.write hn h1
      have r0 : Rel ct m (S.set n (.lok (kvs.map (·.1)))) (upd H (m n) (.frz od (.dK vs))) := r.write hn h1 (fun _ _ z => nomatch z) ⟨od, vs, upd_same, by rw [h2.keys]⟩
      refine he σ _ m _ G _ r0 (by rw [len]; exact en.mono st0) ?_
      cases ef : f G (S.set n (.lok (kvs.map (·.1)))) with
      | xc c S2 =>
        rw [ef] at h
        exact h.elim
      | stuck =>
        rw [ef] at h
        exact h.elim
      | ok d S2 =>
        rw [ef] at h
        intro v m2 H2 r2 st2 p2
        rw [len] at st2
        have hn2 : n < S2.length := Nat.lt_of_lt_of_le hn st2.le
        have ag : m2 n = m n := st2.ag n hn
        refine ⟨st2.fz _ od _ upd_same, ?_⟩
        have len2 : (S2.set n (.dic kvs)).length = S2.length := List.length_set ..
        have q2 : RpK (upd H2 (m2 n) (.dK vs)) m2 S2.length vs kvs := (h2.map (fun d v w => Rp.wr (o := .dK vs) hn2 d v (Rp.mono st2 d v (Rp.mono st0 d v w))))
        have r3 : Rel ct m2 (S2.set n (.dic kvs)) (upd H2 (m2 n) (.dK vs)) := r2.wr hn2 ⟨vs, upd_same, q2⟩
        rw [ag] at r3
        have p3 : Rp (upd H2 (m2 n) (.dK vs)) m2 S2.length v d := Rp.wr hn2 d v p2
        rw [ag] at p3
        refine h v m2 _ r3 ?_ (by rw [len2]; exact p3)
        rw [len2]
        refine ⟨st2.le, st2.ag, st2.fq1, fun p hp => (st2.fq2 p hp).imp id fun z => ?_, fun k hk1 hk2 => ?_, fun a o ha hq => ?_, fun a o ha => ?_, fun a od u ha => ?_⟩
        · by_cases e : p = m n
          · subst e
            rw [upd_same] at z
            cases z
          · rw [upd_ne e] at z
            exact z
        · have z := st2.fr k hk1 hk2
          by_cases e : m2 k = m n
          · rw [e, upd_same] at z
            cases z
          · rw [upd_ne e] at z
            exact z
        · have ne : a ≠ m n := fun z => hq n hn z.symm
          rw [upd_ne ne]
          exact st2.kp a o (by rw [upd_ne ne]; exact ha) hq
        · by_cases e : a = m n
          · subst e
            exact ⟨_, upd_same⟩
          · rw [upd_ne e]
            exact st2.th a o (by rw [upd_ne e]; exact ha)
        · have ne : a ≠ m n := fun z => by rw [z, h1] at ha; cases ha
          rw [upd_ne ne]
          exact st2.fz a od u (by rw [upd_ne ne]; exact ha)
    · exact h.elim
  · exact h.elim
/-- the keys of a locked dict, walked -/
def iKeysD (i : Nat) : Iv := fun G S => match G[i]? with
  | some (some (.ref n)) => match S[n]? with
    | some (.lok ks) => .ok ks.length (fun j _ => (ks[j]?).map D.int) (fun _ => true) S
    | _ => .stuck
  | _ => .stuck
theorem si_keysD {tg : Expr} {i : Nat} (hN : X.N[i]? = some x) (hv : Vis X.env.scope x) (hd : (x == ("__debug__" : Str)) = false := by decide) (hcd : (x == ("__classdict__" : Str)) = false := by decide) : SndI ct X W tg (.Name x pos) (iKeysD i) := by
  refine ⟨_, pi_keys (pe_var hN hv hd hcd), fun σ H m S G R r en h => ?_⟩
  unfold iKeysD at h
  split at h
  · rename_i n e0
    split at h
    · rename_i ks e1
      obtain ⟨v, hv, pv⟩ := en.at_ i _ e0
      cases pv
      rename_i hn
      obtain ⟨od, vs, h1, h2⟩ := r.cell n _ e1
      have hl : vs.length = ks.length := by
        have := congrArg List.length h2
        simpa using this
      refine ⟨.ref (m n), hv, m n, od, rfl, .inl ⟨vs, h1, h _ m H r Step.refl fun m2 S2 H2 r2 st2 => ⟨fun j d hj ej => ?_, fun _ => ⟨st2.fz _ _ _ h1, by omega⟩⟩⟩⟩
      refine ⟨⟨st2.fz _ _ _ h1, by omega⟩, fun xv H' ⟨eH, k, w, ek, ex⟩ => ?_⟩
      subst eH ex
      dsimp only at ej
      have e3 : (vs.map (·.1))[j]? = some k := by rw [List.getElem?_map, ek]; rfl
      rw [h2, List.getElem?_map] at e3
      cases e4 : ks[j]? with
      | none =>
        rw [e4] at e3
        cases e3
      | some kk =>
        rw [e4] at e3 ej
        cases e3
        cases ej
        exact ⟨r2, Step.refl, .int kk⟩
    · exact h.elim
  · exact h.elim

/-! ### {k: v} -/
def eDic1 (fk fv : Ev) : Ev := fun G S => (fk G S).bind fun k S1 => (fv G S1).bind fun d S2 => match k with
  | .int i => .ok (.ref S2.length) (S2 ++ [.dic [(i, d)]])
  | _ => .stuck
theorem snd_dic1 (hk : SndE ct X W a fa) (hv : SndE ct X W b fb) : SndE ct X W (.Dict [some a] [b] pos) (eDic1 fa fb) := by
  refine ⟨?_⟩
  intro σ H m S G Q r en h
  refine .of (pe_disp (trs := [(EvW X a, EvW X b)]) (pps_cons pe_w pe_w pps_nil) rfl rfl (fun z => nomatch z) (by show 1 ≤ 15; decide)) fun p hp => ?_
  have r0 : Rel ct (m.float p) S (upd H p (.dK [])) := r.float hp
  have st0 : Step m S.length H (m.float p) S.length (upd H p (.dK [])) := Step.float hp
  have hp0 : p ∈ (m.float p).fl := List.mem_cons_self
  have en0 := en.mono st0
  have nD : p ∉ m.fl := fun z => by
    obtain ⟨⟨o, e⟩, _⟩ := r.flo p z
    rw [hp] at e
    cases e
  unfold eDic1 at h
  show EvW X a σ (upd H p (.dK [])) _
  refine hk σ _ _ S G _ r0 en0 ?_
  cases e1 : fa G S with
  | stuck =>
    rw [e1] at h
    exact h.elim
  | xc c S1 =>
    rw [e1] at h
    exact fun m1 H1 r1 st1 => h m1 H1 r1 (st0.trans st1)
  | ok d1 S1 =>
    rw [e1, ER.bind_ok] at h
    intro xv m1 H1 r1 st1 p1
    show EvW X b σ H1 _
    refine hv σ H1 m1 S1 G _ r1 (en0.mono st1) ?_
    cases e2 : fb G S1 with
    | stuck =>
      rw [e2] at h
      exact h.elim
    | xc c S2 =>
      rw [e2] at h
      exact fun m2 H2 r2 st2 => h m2 H2 r2 ((st0.trans st1).trans st2)
    | ok d2 S2 =>
      rw [e2, ER.bind_ok] at h
      intro yv m2 H2 r2 st2 p2
      have f1 := st1.fq1 _ hp0
      have f2 := st2.fq1 _ f1
      have c1 : H1 p = some (.dK []) := st1.kp _ _ upd_same (r0.flo p hp0).2
      have c2 : H2 p = some (.dK []) := st2.kp _ _ c1 (r1.flo p f1).2
      have p1' := Rp.mono st2 _ _ p1
      have st02 : Step m S.length H m2 S2.length H2 := (st0.trans st1).trans st2
      have sub : ∀ q, q ∈ m.fl → q ∈ m2.fl := st02.fq1
      split at h
      · rename_i i
        cases p1'
        refine ⟨c2, [(Sum.inl i, yv)], rfl, by simp, ?_⟩
        have em : mergeK ([] : List (Key × V)) [(Sum.inl i, yv)] = [(Sum.inl i, yv)] := by simp [mergeK, putK]
        rw [em]
        have st3 : Step m S.length H m2 S2.length (upd H2 p (.dK [(Sum.inl i, yv)])) := st02.fill hp
        have r3 : Rel ct m2 S2 (upd H2 p (.dK [(Sum.inl i, yv)])) := r2.fill f2
        have len : (S2 ++ [Cell.dic [(i, d2)]]).length = S2.length + 1 := by simp
        have rk : RpK (upd H2 p (.dK [(Sum.inl i, yv)])) (ext (m2.reset m.fl) S2.length p) (S2.length + 1) [(Sum.inl i, yv)] [(i, d2)] := .cons (Rp.adopt f2 sub _ _ (Rp.fill f2 _ _ p2)) .nil
        have hq : ∀ (v : V) (m' : Mp) (H' : Hp), Rel ct m' (S2 ++ [Cell.dic [(i, d2)]]) H' → Step m S.length H m' (S2 ++ [Cell.dic [(i, d2)]]).length H' → Rp H' m' (S2 ++ [Cell.dic [(i, d2)]]).length v (.ref S2.length) → Q v H' := h
        rw [len] at hq
        refine hq (.ref p) (ext (m2.reset m.fl) S2.length p) _ (Rel.adopt r3 f2 sub nD ⟨_, upd_same, rk⟩) (Step.adopt st3 hp) ?_
        have ev : V.ref p = V.ref (ext (m2.reset m.fl) S2.length p S2.length) := by rw [ext_eq]
        rw [ev]
        exact .ref (Nat.lt_succ_self _)
      · exact h.elim
end
end L2.VE
/-! VE13: what the printed readings lean on. -/
namespace L2.VE
open PySem PySem.Spec PyProof.Rows
abbrev eNon : Ev := eC .non
theorem units_65 {k : Nat} {A : Around} (r : Room k A) : A.units + 65 < cLine := by have := r.un; omega
theorem units_64 {k : Nat} {A : Around} (r : Room k A) : A.units + 64 < cLine := by have := r.un; omega
theorem units_1 {k : Nat} {A : Around} (r : Room k A) : A.units + 1 < cLine := by have := r.un; omega
theorem bo_len : bootBuiltins "len" = some (.builtin "len") := by decide +kernel
theorem bo_sum : bootBuiltins "sum" = some (.builtin "sum") := by decide +kernel
theorem bo_min : bootBuiltins "min" = some (.builtin "min") := by decide +kernel
theorem bo_max : bootBuiltins "max" = some (.builtin "max") := by decide +kernel
theorem bo_abs : bootBuiltins "abs" = some (.builtin "abs") := by decide +kernel
theorem bo_all : bootBuiltins "all" = some (.builtin "all") := by decide +kernel
theorem bo_any : bootBuiltins "any" = some (.builtin "any") := by decide +kernel
theorem bo_sorted : bootBuiltins "sorted" = some (.builtin "sorted") := by decide +kernel
theorem bo_list : bootBuiltins "list" = some (.type "list") := by decide +kernel
theorem bo_int : bootBuiltins "int" = some (.type "int") := by decide +kernel
theorem bo_bool : bootBuiltins "bool" = some (.type "bool") := by decide +kernel
theorem bo_str : bootBuiltins "str" = some (.type "str") := by decide +kernel
theorem bo_tuple : bootBuiltins "tuple" = some (.type "tuple") := by decide +kernel
section
variable {P : Program} {w : World} {K : PySem.W.Frag} {mg : Str → Option Value} {base : Heap} {ct : Nat → Addr} {c k j n : Nat} {x : Str} {F : OpN} {ms : List (Nat × OpN)} {cs : List Nat}
theorem FnAt.up (h : FnAt P w K mg base ct x k n F) (hk : k ≤ j) : FnAt P w K mg base ct x j n F := let ⟨f, fd, ps, a, b⟩ := h; ⟨f, fd, ps, a.mono hk, b⟩
theorem MethAt.up (h : MethAt P w K mg base ct c x k n F) (hk : k ≤ j) : MethAt P w K mg base ct c x j n F := let ⟨f, fd, ps, a, b⟩ := h; ⟨f, fd, ps, a.mono hk, b⟩
theorem meths_nil : ∀ c F, ([] : List (Nat × OpN)).lookup c = some F → MethAt P w K mg base ct c x k n F := fun _ _ h => by cases h
theorem meths_cons (h : MethAt P w K mg base ct c x k n F) (t : ∀ c F, ms.lookup c = some F → MethAt P w K mg base ct c x k n F) : ∀ c' F', ((c, F) :: ms).lookup c' = some F' → MethAt P w K mg base ct c' x k n F' := fun c' F' e => by
  rw [List.lookup_cons] at e
  cases q : c' == c with
  | true =>
    rw [q] at e
    cases e
    rw [beq_iff_eq.mp q]
    exact h
  | false =>
    rw [q] at e
    exact t c' F' e
theorem flds_nil : ∀ c ∈ ([] : List Nat), FldAt K ct c x := fun _ h => nomatch h
theorem flds_cons (h : FldAt K ct c x) (t : ∀ c ∈ cs, FldAt K ct c x) : ∀ c' ∈ c :: cs, FldAt K ct c' x := fun c' h' => (List.mem_cons.mp h').elim (fun e => e ▸ h) (t c')
theorem subs_nil {cc : Nat} : ∀ c b, ([] : List (Nat × Bool)).lookup c = some b → InsF K (ct c) ∧ PySem.W.kitOne K (.ref (ct c)) (.ref (ct cc)) = some b := fun _ _ h => by cases h
theorem subs_cons {cc : Nat} {b : Bool} {bs : List (Nat × Bool)} (h : InsF K (ct c)) (h2 : PySem.W.kitOne K (.ref (ct c)) (.ref (ct cc)) = some b) (t : ∀ c b, bs.lookup c = some b → InsF K (ct c) ∧ PySem.W.kitOne K (.ref (ct c)) (.ref (ct cc)) = some b) :
    ∀ c' b', ((c, b) :: bs).lookup c' = some b' → InsF K (ct c') ∧ PySem.W.kitOne K (.ref (ct c')) (.ref (ct cc)) = some b' := fun c' b' e => by
  rw [List.lookup_cons] at e
  cases q : c' == c with
  | true =>
    rw [q] at e
    cases e
    rw [beq_iff_eq.mp q]
    exact ⟨h, h2⟩
  | false =>
    rw [q] at e
    exact t c' b' e
end
section
variable {ct : Nat → Addr} {X : Cx} {W : WX} {e a b c : Expr} {f fa fb fc : Ev} {σ : St} {H H' : Hp} {m m' : Mp} {S S' : Store} {G : Gm} {Q : VK} {N N' : Nat} {es : List Expr} {g : Av} {x y z : Str} {p p2 q pos apos cpos : Pos} {Z : Ends} {st : Stmt} {rest body : List Stmt} {u v : Blk}
theorem tgDs_len2 {ts : List Tg} {ds : List D} {G G' : Gm} (h : tgDs ts ds G = some G') : ds.length = ts.length := tgDs_len h
theorem ss_parT {is : List Nat} (h : SndS ct X W st (sAsg (.tup (is.map .nm)) (eTup g))) (hl : is.length ≤ 100000 := by decide) : SndS ct X W st (sPar is g) := by
  refine ⟨?_⟩
  intro σ H m S G Z r en hp
  refine h σ H m S G Z r en ?_
  unfold sPar at hp
  unfold sAsg eTup
  cases e : g G S with
  | stuck =>
    rw [e] at hp
    exact hp
  | xc c S1 =>
    rw [e] at hp
    exact hp
  | ok ds S1 =>
    rw [e] at hp
    rw [toOutA_ok] at hp
    rw [AR.bind_ok]
    cases e2 : tgDs (is.map .nm) ds G with
    | none =>
      rw [e2] at hp
      exact hp.elim
    | some G1 =>
      rw [e2] at hp
      have hz : ds.length ≤ 100000 := by
        rw [tgDs_len e2, List.length_map]
        exact hl
      rw [if_pos hz, toOut_ok, tgD, e2]
      exact hp
/-- a statement under which a dict is walked -/
def slockS (i : Nat) (u : Blk) : Blk := fun G S => match G[i]? with
  | some (some (.ref n)) => match S[n]? with
    | some (.dic kvs) => match u G (S.set n (.lok (kvs.map (·.1)))) with
      | .nx G2 S2 => .nx G2 (S2.set n (.dic kvs))
      | _ => .stuck
    | _ => .stuck
  | _ => .stuck
theorem ss_lock {i : Nat} (he : SndS ct X W st u) : SndS ct X W st (slockS i u) := by
  refine ⟨?_⟩
  intro σ H m S G Z r en h
  unfold slockS at h
  split at h
  · rename_i n e0
    split at h
    · rename_i kvs e1
      obtain ⟨v, hv, pv⟩ := en.at_ i _ e0
      cases pv
      rename_i hn
      obtain ⟨vs, h1, h2⟩ := r.cell n _ e1
      have len : (S.set n (.lok (kvs.map (·.1)))).length = S.length := List.length_set ..
      refine .of (ps_lock ps_w) ⟨m n, .dK vs, h1, trivial, fun od => ?_⟩
      have st0 : Step m S.length H m S.length (upd H (m n) (.frz od (.dK vs))) := Step.write hn h1
      have r0 : Rel ct m (S.set n (.lok (kvs.map (·.1)))) (upd H (m n) (.frz od (.dK vs))) := r.write hn h1 (fun _ _ z => nomatch z) ⟨od, vs, upd_same, by rw [h2.keys]⟩
      refine he σ _ m _ G _ r0 (by rw [len]; exact en.mono st0) ?_
      cases ef : u G (S.set n (.lok (kvs.map (·.1)))) with
      | nx G2 S2 =>
        rw [ef] at h
        intro σ2 m2 H2 r2 st2 en2
        rw [len] at st2
        have hn2 : n < S2.length := Nat.lt_of_lt_of_le hn st2.le
        have ag : m2 n = m n := st2.ag n hn
        refine ⟨st2.fz _ od _ upd_same, ?_⟩
        have len2 : (S2.set n (.dic kvs)).length = S2.length := List.length_set ..
        have q2 : RpK (upd H2 (m2 n) (.dK vs)) m2 S2.length vs kvs := (h2.map (fun d v w => Rp.wr (o := .dK vs) hn2 d v (Rp.mono st2 d v (Rp.mono st0 d v w))))
        have r3 : Rel ct m2 (S2.set n (.dic kvs)) (upd H2 (m2 n) (.dK vs)) := r2.wr hn2 ⟨vs, upd_same, q2⟩
        rw [ag] at r3
        have en3 : EnvR (upd H2 (m2 n) (.dK vs)) m2 S2.length σ2 G2 := ⟨en2.len, fun i d hd => let ⟨v, a, b⟩ := en2.at_ i d hd; ⟨v, a, Rp.wr hn2 _ _ b⟩⟩
        rw [ag] at en3
        refine h σ2 m2 _ r3 ?_ (by rw [len2]; exact en3)
        rw [len2]
        refine ⟨st2.le, st2.ag, st2.fq1, fun p hp => (st2.fq2 p hp).imp id fun z => ?_, fun k hk1 hk2 => ?_, fun a o ha hq => ?_, fun a o ha => ?_, fun a od u ha => ?_⟩
        · by_cases e : p = m n
          · subst e
            rw [upd_same] at z
            cases z
          · rw [upd_ne e] at z
            exact z
        · have z := st2.fr k hk1 hk2
          by_cases e : m2 k = m n
          · rw [e, upd_same] at z
            cases z
          · rw [upd_ne e] at z
            exact z
        · have ne : a ≠ m n := fun z => hq n hn z.symm
          rw [upd_ne ne]
          exact st2.kp a o (by rw [upd_ne ne]; exact ha) hq
        · by_cases e : a = m n
          · subst e
            exact ⟨_, upd_same⟩
          · rw [upd_ne e]
            exact st2.th a o (by rw [upd_ne e]; exact ha)
        · have ne : a ≠ m n := fun z => by rw [z, h1] at ha; cases ha
          rw [upd_ne ne]
          exact st2.fz a od u (by rw [upd_ne ne]; exact ha)
      | _ =>
        rw [ef] at h
        exact h.elim
    · exact h.elim
  · exact h.elim

/-! ### sorted of a list of tuples of ints -/
/-- the ints of a tuple -/
def tupI : D → Option (List Int)
  | .tup xs => intsOf xs
  | _ => none
def tupsI : List D → Option (List (List Int))
  | [] => some []
  | d :: ds => match tupI d, tupsI ds with
    | some ns, some nss => some (ns :: nss)
    | _, _ => none
def insC (k : List Int) : List (List Int) → List (List Int)
  | [] => [k]
  | n :: ns => if TS.code 1000 k ≤ TS.code 1000 n then k :: n :: ns else n :: insC k ns
def sortC : List (List Int) → List (List Int)
  | [] => []
  | n :: ns => insC n (sortC ns)
theorem insC_perm (k : List Int) : ∀ ns, (insC k ns).Perm (k :: ns)
  | [] => .refl _
  | n :: ns => by
    rw [insC]
    split
    · exact .refl _
    · exact ((insC_perm k ns).cons n).trans (.swap _ _ _)
theorem sortC_perm : ∀ ns, (sortC ns).Perm ns
  | [] => .refl _
  | n :: ns => (insC_perm n _).trans ((sortC_perm ns).cons n)
abbrev CodeLe (a b : List Int) : Prop := TS.code 1000 a ≤ TS.code 1000 b
theorem insC_sorted (k : List Int) : ∀ ns : List (List Int), ns.Pairwise CodeLe → (insC k ns).Pairwise CodeLe
  | [], _ => by simp [insC]
  | n :: ns, h => by
    rw [insC]
    have h' := List.pairwise_cons.mp h
    split
    · rename_i hk
      exact List.pairwise_cons.mpr ⟨fun y hy => by
        rcases List.mem_cons.mp hy with e | hy
        · rw [e]; exact hk
        · exact Int.le_trans hk (h'.1 y hy), h⟩
    · rename_i hk
      refine List.pairwise_cons.mpr ⟨fun y hy => ?_, insC_sorted k ns h'.2⟩
      have := (insC_perm k ns).mem_iff.mp hy
      rcases List.mem_cons.mp this with e | hy
      · rw [e]
        show TS.code 1000 n ≤ TS.code 1000 k
        omega
      · exact h'.1 y hy
theorem sortC_sorted : ∀ ns, (sortC ns).Pairwise CodeLe
  | [] => .nil
  | n :: ns => insC_sorted n _ (sortC_sorted ns)
theorem code_inj : ∀ {a b : List Int}, a.length = b.length → TS.Bd 1000 a → TS.Bd 1000 b → TS.code 1000 a = TS.code 1000 b → a = b
  | [], [], _, _, _, _ => rfl
  | x :: a, y :: b, hl, ha, hb, h => by
    have hl' : a.length = b.length := by simpa using hl
    have ha' : TS.Bd 1000 a := fun z hz => ha z (List.mem_cons_of_mem _ hz)
    have hb' : TS.Bd 1000 b := fun z hz => hb z (List.mem_cons_of_mem _ hz)
    rcases Int.lt_trichotomy x y with q | q | q
    · have := TS.code_lt hl' ha' hb' q
      omega
    · subst q
      have e := code_inj hl' ha' hb' (by
        have h1 := TS.code_same (B := 1000) (d := x) hl'
        have h2 := TS.code_same (B := 1000) (d := x) hl'.symm
        omega)
      rw [e]
    · have := TS.code_lt hl'.symm hb' ha' q
      omega
theorem sorted_oneC {d : Nat} : ∀ {xs ys : List (List Int)}, xs.Pairwise CodeLe → ys.Pairwise CodeLe → xs.Perm ys → (∀ x ∈ xs, x.length = d ∧ TS.Bd 1000 x) → xs = ys
  | [], ys, _, _, h, _ => (List.nil_perm.mp h).symm
  | x :: xs, [], _, _, h, _ => absurd (List.perm_nil.mp h) (by simp)
  | x :: xs, y :: ys, hx, hy, h, hd => by
    have hx' := List.pairwise_cons.mp hx
    have hy' := List.pairwise_cons.mp hy
    have e : x = y := by
      have h1 : x ∈ y :: ys := h.mem_iff.mp List.mem_cons_self
      have h2 : y ∈ x :: xs := h.mem_iff.mpr List.mem_cons_self
      have d1 := hd x List.mem_cons_self
      have d2 := hd y h2
      rcases List.mem_cons.mp h1 with e | h1
      · exact e
      · rcases List.mem_cons.mp h2 with e | h2
        · exact e.symm
        · exact code_inj (d1.1.trans d2.1.symm) d1.2 d2.2 (Int.le_antisymm (hx'.1 y h2) (hy'.1 x h1))
    subst e
    rw [sorted_oneC hx'.2 hy'.2 (List.Perm.cons_inv h) fun z hz => hd z (List.mem_cons_of_mem _ hz)]
def dtI (ns : List Int) : D := .tup (ns.map D.int)
theorem tupI_eq {d : D} {ns : List Int} (h : tupI d = some ns) : d = dtI ns := by
  unfold tupI at h
  split at h
  · rw [intsOf_eq h]
    rfl
  · cases h
theorem tupsI_eq : ∀ {ds : List D} {nss : List (List Int)}, tupsI ds = some nss → ds = nss.map dtI
  | [], _, h => by cases h; rfl
  | d :: ds, nss, h => by
    rw [tupsI] at h
    split at h
    · rename_i ns nss' e1 e2
      cases h
      rw [tupI_eq e1, tupsI_eq e2]
      rfl
    · cases h
def okC (d : Nat) (nss : List (List Int)) : Bool := nss.all fun ns => decide (ns.length = d) && ns.all fun i => decide (0 ≤ i) && decide (i < 1000)
def bSortedT : OpN := fun ds S => match ds with
  | [d] => match lsOf S d with
    | some xs => match tupsI xs with
      | some nss => if nss.length < 64 ∧ (okC 2 nss = true ∨ okC 3 nss = true) then .ok (.lst ((sortC nss).map dtI)) S else .stuck
      | none => .stuck
    | none => .stuck
  | _ => .stuck
theorem okC_bd {d : Nat} {nss : List (List Int)} (h : okC d nss = true) : ∀ ns ∈ nss, ns.length = d ∧ TS.Bd 1000 ns := fun ns hn => by
  unfold okC at h
  have := List.all_eq_true.mp h ns hn
  rw [Bool.and_eq_true, decide_eq_true_eq, List.all_eq_true] at this
  refine ⟨this.1, fun i hi => ?_⟩
  have z := this.2 i hi
  rw [Bool.and_eq_true, decide_eq_true_eq, decide_eq_true_eq] at z
  exact z
theorem rp_dtI {K : PySem.W.Frag} {v : V} {ns : List Int} (h : Rp H m N v (dtI ns)) : TupI K H v ns := by
  unfold dtI at h
  cases h with
  | tup h1 _ l1 =>
    rw [l1.ints] at h1
    exact ⟨_, rfl, SqT.of h1⟩
theorem rpl_dtI {K : PySem.W.Frag} : ∀ {vs : List V} {nss : List (List Int)}, RpL H m N vs (nss.map dtI) → ∀ x ∈ vs, ∃ ns ∈ nss, TupI K H x ns ∧ Rp H m N x (dtI ns)
  | _, [], h, x, hx => by
    cases h
    cases hx
  | _, ns :: nss, h, x, hx => by
    cases h with
    | cons h r =>
      rcases List.mem_cons.mp hx with e | hx
      · subst e
        exact ⟨ns, List.mem_cons_self, rp_dtI h, h⟩
      · obtain ⟨k, h1, h2⟩ := rpl_dtI (K := K) r x hx
        exact ⟨k, List.mem_cons_of_mem _ h1, h2⟩
theorem RpL.permC : ∀ {vs ws : List V} {nss : List (List Int)}, ws.Perm vs → RpL H m N vs (nss.map dtI) → ∃ mss : List (List Int), mss.Perm nss ∧ RpL H m N ws (mss.map dtI) := by
  intro vs ws nss hp
  induction hp generalizing nss with
  | nil => exact fun h => ⟨nss, .refl _, h⟩
  | cons x _ ih =>
    intro h
    cases nss with
    | nil => cases h
    | cons n nss =>
      cases h with
      | cons h r =>
        obtain ⟨mss, h1, h2⟩ := ih r
        exact ⟨n :: mss, h1.cons n, .cons h h2⟩
  | swap x y l =>
    intro h
    match nss, h with
    | n1 :: n2 :: nss, .cons h1 (.cons h2 r) => exact ⟨n2 :: n1 :: nss, .swap _ _ _, .cons h2 (.cons h1 r)⟩
  | trans _ _ ih1 ih2 =>
    intro h
    obtain ⟨mss, h1, h2⟩ := ih2 h
    obtain ⟨kss, h3, h4⟩ := ih1 h2
    exact ⟨kss, h3.trans h1, h4⟩
theorem pairC {K : PySem.W.Frag} : ∀ {ws : List V} {mss : List (List Int)}, RpL H m N ws (mss.map dtI) → ws.Pairwise (fun x y => ∀ n m, TupI K H x n → TupI K H y m → TS.code 1000 n ≤ TS.code 1000 m) → mss.Pairwise CodeLe
  | _, [], h, _ => .nil
  | _, n :: mss, h, hp => by
    cases h with
    | cons h r =>
      have hp' := List.pairwise_cons.mp hp
      refine List.pairwise_cons.mpr ⟨fun k hk => ?_, pairC r hp'.2⟩
      obtain ⟨i, hi, e⟩ := List.getElem_of_mem hk
      have e1 : (mss.map dtI)[i]? = some (dtI k) := by rw [List.getElem?_map, List.getElem?_eq_getElem hi, e]; rfl
      obtain ⟨v, a1, a2⟩ := r.get e1
      exact hp'.1 v (List.mem_of_getElem? a1) n k (rp_dtI h) (rp_dtI a2)
theorem sc_sortedT : SndC ct X W (.builtin "sorted") bSortedT := by
  refine ⟨?_⟩
  intro σ H m S vs ds Q r p h pins s us I rv
  unfold bSortedT at h
  split at h
  · obtain ⟨v, rfl, q⟩ := rpl1 p
    split at h
    · rename_i xs e1
      split at h
      · rename_i nss e2
        split at h
        · rename_i hz
          obtain ⟨l, ws, rfl, h1, h2⟩ := lsOf_rp r q e1
          rw [tupsI_eq e2] at h2
          have hl : ws.length = nss.length := by rw [h2.length, List.length_map]
          have go : ∀ d, 1 ≤ d → okC d nss = true → wpAny (model X.prog X.w) X.A (call (.builtin "sorted") us) (EP X pins σ Q) X.xe s := fun d hd hb => by
            refine cr_sortT (d := d) (B := 1000) hd pins s σ H _ us Q I rv ⟨l, ws, rfl, SqL.of h1, by rw [hl]; exact hz.1, fun x hx => ?_, fun ys p hp hs hn => ?_⟩
            · obtain ⟨ns, g1, g2, _⟩ := rpl_dtI (K := X.K) h2 x hx
              exact ⟨ns, g2, okC_bd hb ns g1⟩
            · obtain ⟨mss, m1, m2⟩ := RpL.permC hp h2
              have e : mss = sortC nss := sorted_oneC (pairC m2 hs) (sortC_sorted nss) (m1.trans (sortC_perm nss).symm) fun z hz' => okC_bd hb z (m1.mem_iff.mp hz')
              rw [e] at m2
              exact h.newL r hn m2
          rcases hz.2 with hb | hb
          · exact go 2 (by decide) hb
          · exact go 3 (by decide) hb
        · exact h.elim
      · exact h.elim
    · exact h.elim
  · exact h.elim
end
end L2.VE
/-! VE14: the law's own entry. -/
namespace L2.VE
open PySem PySem.Spec PyProof.Rows
theorem cut63 (ns : List Int) (h : ns.length ≤ 63) : cutV (ns.map V.int) none (some 63) = ns.map V.int := by
  unfold cutV
  have hl : (ns.map V.int).length = ns.length := List.length_map ..
  rw [hl]
  have e0 : HT.sIx ns.length 0 none = 0 := rfl
  have e1 : HT.sIx ns.length ns.length (some ((63 : Nat) : Int)) = min 63 ns.length := HT.sIx_nat ..
  have e2 : HT.sIx ns.length ns.length (some (63 : Int)) = min 63 ns.length := e1
  rw [e0, e2, List.drop_zero, Nat.sub_zero]
  refine List.take_of_length_le ?_
  rw [hl]
  omega
theorem rel_nil {ct : Nat → Addr} {f : Nat → Addr} (H : Hp) : Rel ct ⟨f, []⟩ [] H := ⟨fun i j hi _ _ => absurd hi (by simp), fun n c e => by simp at e, fun a ha => by cases ha⟩
theorem env_law {H : Hp} {a p : Addr} {ns : List Int} {Ns : List Str} {f : Nat → Addr} (hp : H p = none) :
    EnvR (upd H p (.lst (ns.map V.int))) ⟨f, []⟩ 0 ((start Ns [.ref a]).set 0 (some (.ref p))) ([D.lst (ns.map D.int)].map some ++ List.replicate (Ns.length - 1) none) := by
  have e : (start Ns [V.ref a]).set 0 (some (.ref p)) = start Ns [V.ref p] := by
    unfold L2.start
    simp
  rw [e]
  refine EnvR.start (.cons (.lst upd_same ⟨fun n hn => absurd hn (Nat.not_lt_zero _), fun z => (nomatch z)⟩ RpL.of_ints) .nil)
theorem cx_none {P : Program} {w : World} {H : Hp} {s s' : Shared} {e : Value} (h : L2.CX P w [] H s (fun _ _ _ => False) e s') : False := by
  obtain ⟨_, _, _, _, _, _, _, _, _, _, _, _, h⟩ := h
  exact h
theorem kit_same {K : PySem.W.Frag} {C : Addr} : PySem.W.kitOne K (.ref C) (.ref C) = some true := by
  unfold PySem.W.kitOne
  have e : (Value.ref C == Value.ref C) = true := by simp
  rw [if_pos e]
theorem kit_ne {K : PySem.W.Frag} {C D : Addr} {b : Bool} (h1 : PySem.W.isClsIn K D = true) (h2 : PySem.W.typeIn K (.ref D) = some (.type "type")) (h3 : PySem.W.subIn K (.ref C) (.ref D) = some b) (h4 : (Value.ref C == Value.ref D) = false) : PySem.W.kitOne K (.ref C) (.ref D) = some b := by
  unfold PySem.W.kitOne PySem.W.kitCls
  rw [if_neg (by rw [h4]; exact Bool.false_ne_true)]
  have e : ((PySem.W.clsIn K D).isSome && PySem.W.typeIn K (.ref D) == some (.type "type")) = true := by
    rw [h2]
    unfold PySem.W.isClsIn at h1
    rw [h1]
    rfl
  show (if ((PySem.W.clsIn K D).isSome && PySem.W.typeIn K (.ref D) == some (.type "type")) = true then PySem.W.subIn K (.ref C) (.ref D) else none) = some b
  rw [if_pos e]
  exact h3
end L2.VE
/-! VE15: the law's rows, cells forgotten between them. -/
namespace L2.VE
open PySem PySem.Spec PyProof.Rows
mutual
def noRef : D → Bool
  | .ref _ => false
  | .lst xs => noRefs xs
  | .tup xs => noRefs xs
  | _ => true
def noRefs : List D → Bool
  | [] => true
  | d :: ds => noRef d && noRefs ds
end
/-- slots of L that hold plain data are kept -/
def cutG (L : List Nat) (G : Gm) : Gm := (List.range G.length).map fun i => if i ∈ L then (match G[i]? with
  | some (some d) => if noRef d = true then some d else none
  | _ => none) else none
section
variable {H : Hp} {m : Mp} {N : Nat}
mutual
theorem Rp.flat {f : Nat → Addr} : ∀ (d : D) (v : V), noRef d = true → Rp H m N v d → Rp H ⟨f, []⟩ 0 v d
  | .non, _, _, .non => .non
  | .bl _, _, _, .bl _ => .bl _
  | .int _, _, _, .int _ => .int _
  | .str _, _, _, .str _ => .str _
  | .lst ds, _, h, .lst h1 q r => .lst h1 ⟨fun n hn => absurd hn (Nat.not_lt_zero _), fun z => (nomatch z)⟩ (RpL.flat ds _ (by simpa [noRef] using h) r)
  | .tup ds, _, h, .tup h1 q r => .tup h1 ⟨fun n hn => absurd hn (Nat.not_lt_zero _), fun z => (nomatch z)⟩ (RpL.flat ds _ (by simpa [noRef] using h) r)
  | .exn a, _, _, .exn _ => .exn a
  | .fn _, _, _, .fn e h1 q1 h2 q2 => .fn e h1 ⟨fun n hn => absurd hn (Nat.not_lt_zero _), fun z => (nomatch z)⟩ h2 ⟨fun n hn => absurd hn (Nat.not_lt_zero _), fun z => (nomatch z)⟩
  | .ref n, _, h, .ref _ => by simp [noRef] at h
theorem RpL.flat {f : Nat → Addr} : ∀ (ds : List D) (vs : List V), noRefs ds = true → RpL H m N vs ds → RpL H ⟨f, []⟩ 0 vs ds
  | [], _, _, .nil => .nil
  | d :: ds, _, h, .cons p r => by
    rw [noRefs, Bool.and_eq_true] at h
    exact .cons (Rp.flat d _ h.1 p) (RpL.flat ds _ h.2 r)
end
theorem EnvR.cut {f : Nat → Addr} {σ : St} {G : Gm} (L : List Nat) (e : EnvR H m N σ G) : EnvR H ⟨f, []⟩ 0 σ (cutG L G) := by
  refine ⟨by unfold cutG; rw [List.length_map, List.length_range]; exact e.len, fun i d h => ?_⟩
  unfold cutG at h
  rw [List.getElem?_map] at h
  cases hr : (List.range G.length)[i]? with
  | none =>
    rw [hr] at h
    cases h
  | some j =>
    rw [hr] at h
    have hi : i < G.length := by
      have := (List.getElem?_eq_some_iff.mp hr).1
      simpa using this
    rw [List.getElem?_range hi] at hr
    cases hr
    simp only [Option.map_some, Option.some.injEq] at h
    split at h
    · split at h
      · rename_i d' e1
        split at h
        · rename_i hn
          cases h
          obtain ⟨v, a, b⟩ := e.at_ i _ e1
          exact ⟨v, a, Rp.flat _ _ hn b⟩
        · cases h
      · cases h
    · cases h
end
/-- rows that end with True -/
structure SndL (ct : Nat → Addr) (X : Cx) (W : WX) (st : List Stmt) (f : Blk) : Prop where
  mk ::
  run : ∀ (σ : St) (H : Hp) (m : Mp) (S : Store) (G : Gm) (Z : Ends), Rel ct m S H → EnvR H m S.length σ G → (∀ H', Z.rt (.bl true) H') → (∃ S2, f G S = .rt (.bl true) S2) → StsW X st Z σ H
section
variable {ct : Nat → Addr} {X : Cx} {W : WX} {st : Stmt} {rest : List Stmt} {u v : Blk}
theorem sl_of (h : SndB ct X W rest v) : SndL ct X W rest v := ⟨fun σ H m S G Z r en hz ⟨S2, e⟩ => by
  refine h.run σ H m S G Z r en ?_
  rw [e]
  intro x m' H' r' st' p
  cases p
  exact hz H'⟩
theorem sl_cons (h1 : SndS ct X W st u) (h2 : SndL ct X W rest v) : SndL ct X W (st :: rest) (bCons u v) := ⟨fun σ H m S G Z r en hz ⟨S2, e⟩ => by
  refine .of (pss_cons ps_w pss_w) (h1.run σ H m S G _ r en ?_)
  unfold bCons at e
  cases eu : u G S with
  | nx G1 S1 =>
    rw [eu] at e
    intro σ1 m1 H1 r1 st1 en1
    exact h2.run σ1 H1 m1 S1 G1 Z r1 en1 hz ⟨S2, e⟩
  | rt d S1 =>
    rw [eu] at e
    cases e
    intro x m' H' r' st' p
    cases p
    exact hz H'
  | bk G1 S1 => rw [eu] at e; cases e
  | ct G1 S1 => rw [eu] at e; cases e
  | xc c G1 S1 => rw [eu] at e; cases e
  | stuck => rw [eu] at e; cases e⟩
/-- the cells are forgotten -/
def bCut (L : List Nat) (v : Blk) : Blk := fun G _ => v (cutG L G) []
theorem sl_cut (L : List Nat) (h2 : SndL ct X W rest v) : SndL ct X W rest (bCut L v) := ⟨fun σ H m S G Z r en hz ⟨S2, e⟩ =>
  h2.run σ H ⟨fun _ => 0, []⟩ [] (cutG L G) Z (rel_nil H) (en.cut L) hz ⟨S2, e⟩⟩
end
end L2.VE
/-! VE16: shifts to the left, and of bits. -/
namespace L2.VE
open PySem PySem.Spec PyProof.Rows
section
variable {ct : Nat → Addr} {X : Cx} {W : WX}
def opShl : Op2 := fun d e S => match d, e with
  | .int i, .int j => if 0 ≤ j ∧ j ≤ 1000 ∧ i.natAbs < 2 ^ 64 then .ok (.int (i * 2 ^ j.toNat)) S else .stuck
  | _, _ => .stuck
theorem so_shl : SndO ct X W (binaryOp .LShift) opShl := by
  refine ⟨?_⟩
  intro σ H m S x y d e Q r p q h pins s v u I rx ry
  unfold opShl at h
  split at h
  · cases p
    cases q
    split at h
    · rename_i hz
      exact op_shl pins s σ H _ _ v u Q I rx ry ⟨_, _, rfl, rfl, ⟨hz.1, by omega, hz.2.2⟩, h.now r (.int _)⟩
    · exact h.elim
  · exact h.elim
def opBand : Op2 := fun d e S => match d, e with
  | .int i, .int j => .ok (.int (Builtin.bitAnd i j)) S
  | _, _ => .stuck
theorem so_band : SndO ct X W (binaryOp .BitAnd) opBand := by
  refine ⟨?_⟩
  intro σ H m S x y d e Q r p q h pins s v u I rx ry
  unfold opBand at h
  split at h
  · cases p
    cases q
    exact op_and pins s σ H _ _ v u Q I rx ry ⟨_, _, rfl, rfl, h.now r (.int _)⟩
  · exact h.elim
/-- a list times a number, the new list one that will be changed -/
def opMulM : Op2 := fun d e S => match e with
  | .int k => match lsOf S d with
    | some xs => if 0 ≤ k ∧ k ≤ 1000 ∧ xs.length ≤ 100 then .ok (.ref S.length) (S ++ [.lst (repD k.toNat xs)]) else .stuck
    | none => .stuck
  | _ => .stuck
theorem so_mulM : SndO ct X W (binaryOp .Mult) opMulM := by
  refine ⟨?_⟩
  intro σ H m S x y d e Q r p q h pins s v u I rx ry
  unfold opMulM at h
  split at h
  · rename_i k
    split at h
    · rename_i xs e1
      split at h
      · rename_i hz
        obtain ⟨a1, v1, rfl, h1, l1⟩ := lsOf_rp r p e1
        cases q
        obtain ⟨z1, z2, z3⟩ := hz
        refine op_rep pins s σ H _ _ v u Q I rx ry ⟨_, k, _, rfl, rfl, h1, by omega, by omega, ?_, fun p hp => h.newC r hp (l1.rep _)⟩
        rw [l1.length]
        have : xs.length * k.toNat ≤ 100 * 1000 := Nat.mul_le_mul z3 (by omega)
        exact size_le (Nat.le_trans this (by decide))
      · exact h.elim
    · exact h.elim
  · exact h.elim
/-- two lists together, the new list one that will be changed -/
def opAddM : Op2 := fun d e S => match lsOf S d, lsOf S e with
  | some xs, some ys => if xs.length + ys.length ≤ 100000 then .ok (.ref S.length) (S ++ [.lst (xs ++ ys)]) else .stuck
  | _, _ => .stuck
theorem so_addM : SndO ct X W (binaryOp .Add) opAddM := by
  refine ⟨?_⟩
  intro σ H m S x y d e Q r p q h pins s v u I rx ry
  unfold opAddM at h
  split at h
  · rename_i e1 e2
    split at h
    · rename_i hz
      obtain ⟨a1, v1, rfl, h1, l1⟩ := lsOf_rp r p e1
      obtain ⟨a2, v2, rfl, h2, l2⟩ := lsOf_rp r q e2
      exact op_cat pins s σ H _ _ v u Q I rx ry ⟨_, _, _, _, rfl, rfl, h1, h2, by rw [l1.length, l2.length]; exact size_le hz, fun p hp => h.newC r hp (l1.append l2)⟩
    · exact h.elim
  · exact h.elim
/-- a slice that will be changed -/
def opSlM (d : D) (lo hi : Option Int) (S : Store) : ER := match lsOf S d with
  | some xs => .ok (.ref S.length) (S ++ [.lst (cutD xs lo hi)])
  | none => .stuck
def eSlM (fe : Ev) (fl fh : Option Ev) : Ev := fun G S => (fe G S).bind fun d S1 => ePart fl G S1 fun lo S2 => ePart fh G S2 fun hi S3 => opSlM d lo hi S3
theorem snd_slM {e : Expr} {f : Ev} {lo hi : Option Expr} {fl fh : Option Ev} {pos p2 : Pos} (he : SndE ct X W e f) (hl : SndP ct X W lo fl) (hh : SndP ct X W hi fh) : SndE ct X W (.Subscript e (.Slice lo hi none p2) pos) (eSlM f fl fh) := by
  refine ⟨?_⟩
  intro σ H m S G Q r en h
  refine .of (pe_slice (SlR.or sl_list sl_tupA) pe_w po_w po_w) ?_
  refine (he.bind r en h).mono fun x H1 ⟨d, m1, S1, r1, st1, p1, en1, h1⟩ => ?_
  intro pins s I
  refine thn (hl σ H1 m1 S1 G Q _ r1 en1 h1 pins s I) fun u s1 ⟨o, H2, I2, pu, m2, S2, r2, st2, en2, h2⟩ => ⟨o, H2, I2, pu, ?_⟩
  intro pins s I
  refine thn (hh σ H2 m2 S2 G Q _ r2 en2 h2 pins s I) fun u s1 ⟨o', H3, I3, pu3, m3, S3, r3, st3, en3, h3⟩ => ⟨o', H3, I3, pu3, ?_⟩
  have p3 := Rp.mono (st2.trans st3) _ _ p1
  unfold opSlM at h3
  split at h3
  · rename_i xs e1
    obtain ⟨a, vs, rfl, q1, l1⟩ := lsOf_rp r3 p3 e1
    exact .inl ⟨a, vs, rfl, SqL.of q1, fun p hp => h3.newC r3 hp (l1.cut _ _)⟩
  · exact h3.elim
end
end L2.VE
/-! VE17: try .. except, isinstance of what is held. -/
namespace L2.VE
open PySem PySem.Spec PyProof.Rows
/-- a try: cs tells of which classes the clause is; slot i holds the exception -/
def sTry (u : Blk) (i : Nat) (cs : List (Nat × Bool)) (h : Nat → Addr → Blk) : Blk := fun G S => match u G S with
  | .xc c G1 S1 => match cs.lookup c with
    | some true => match h c 0 (G1.set i (some (.exn 0))) S1 with
      | .rt d S2 => .rt d S2
      | .nx G2 S2 => .nx (G2.set i none) S2
      | _ => .stuck
    | some false => .xc c G1 S1
    | none => .stuck
  | o => o
/-- .. without a name -/
def sTryO (u : Blk) (cs : List (Nat × Bool)) (h : Blk) : Blk := fun G S => match u G S with
  | .xc c G1 S1 => match cs.lookup c with
    | some true => h G1 S1
    | some false => .xc c G1 S1
    | none => .stuck
  | o => o
def relab (i : Nat) (a : Addr) : Out → Out
  | .nx G S => .nx (G.set i (some (.exn a))) S
  | .bk G S => .bk (G.set i (some (.exn a))) S
  | .ct G S => .ct (G.set i (some (.exn a))) S
  | .xc c G S => .xc c (G.set i (some (.exn a))) S
  | .rt d S => .rt d S
  | .stuck => .stuck
def holds (i : Nat) : Out → Prop
  | .nx G _ => G.set i (some (.exn 0)) = G
  | .bk G _ => G.set i (some (.exn 0)) = G
  | .ct G _ => G.set i (some (.exn 0)) = G
  | .xc _ G _ => G.set i (some (.exn 0)) = G
  | _ => True
/-- it does not matter which object is held -/
def ParB (i : Nat) (u : Addr → Blk) : Prop := ∀ (a : Addr) (G : Gm) (S : Store), u a (G.set i (some (.exn a))) S = relab i a (u 0 (G.set i (some (.exn 0))) S) ∧ holds i (u 0 (G.set i (some (.exn 0))) S)
def ParE (i : Nat) (f : Addr → Ev) : Prop := ∀ (a : Addr) (G : Gm) (S : Store), f a (G.set i (some (.exn a))) S = f 0 (G.set i (some (.exn 0))) S
def ParA (i : Nat) (g : Addr → Av) : Prop := ∀ (a : Addr) (G : Gm) (S : Store), g a (G.set i (some (.exn a))) S = g 0 (G.set i (some (.exn 0))) S
def opIsX (a : Addr) (o : Option Bool) : Op1 := fun d S => match d with
  | .exn a' => if a' = a then (match o with
    | some b => .ok (.bl b) S
    | none => .stuck) else .stuck
  | _ => .stuck
section
variable {i j : Nat} {f fa fb : Addr → Ev} {g : Addr → Av} {u v : Addr → Blk}
theorem par_con {d : D} : ParE i (fun _ => eC d) := fun _ _ _ => rfl
theorem par_var (h : i ≠ j) : ParE i (fun _ => eVar j) := fun a G S => by
  unfold eVar
  dsimp only
  rw [List.getElem?_set_ne h, List.getElem?_set_ne h]
theorem par_op {o : Op2} (ha : ParE i fa) (hb : ParE i fb) : ParE i (fun a => eOp o (fa a) (fb a)) := fun a G S => by
  unfold eOp
  dsimp only
  rw [ha a G S]
  simp only [hb a G]
theorem par_nil : ParA i (fun _ => eaNil) := fun _ _ _ => rfl
theorem par_cons (hf : ParE i f) (hg : ParA i g) : ParA i (fun a => eaCons (f a) (g a)) := fun a G S => by
  unfold eaCons
  dsimp only
  rw [hf a G S]
  simp only [hg a G]
theorem par_lst (hg : ParA i g) : ParE i (fun a => eLst (g a)) := fun a G S => by
  unfold eLst
  dsimp only
  rw [hg a G S]
theorem par_isX {o : Option Bool} : ParE i (fun a => eOp1 (opIsX a o) (eVar i)) := fun a G S => by
  unfold eOp1 eVar
  dsimp only
  by_cases h : i < G.length
  · rw [List.getElem?_set_self h, List.getElem?_set_self h]
    dsimp only [ER.bind]
    unfold opIsX
    dsimp only
    rw [if_pos rfl, if_pos rfl]
  · rw [List.getElem?_eq_none (by rw [List.length_set]; omega), List.getElem?_eq_none (by rw [List.length_set]; omega)]
    rfl
theorem parB_ret (hf : ParE i f) : ParB i (fun a => sRet (f a)) := fun a G S => by
  unfold sRet
  dsimp only
  rw [hf a G S]
  cases f 0 (G.set i (some (.exn 0))) S with
  | ok d S1 => exact ⟨rfl, trivial⟩
  | xc c S1 =>
    refine ⟨?_, ?_⟩
    · show Out.xc c _ S1 = Out.xc c _ S1
      rw [List.set_set]
    · show List.set _ _ _ = _
      rw [List.set_set]
  | stuck => exact ⟨rfl, trivial⟩
theorem parB_set (h : i ≠ j) (hf : ParE i f) : ParB i (fun a => sAsg (.nm j) (f a)) := fun a G S => by
  unfold sAsg
  dsimp only
  rw [hf a G S]
  cases f 0 (G.set i (some (.exn 0))) S with
  | ok d S1 =>
    refine ⟨?_, ?_⟩
    · show Out.nx _ S1 = Out.nx _ S1
      rw [List.set_comm _ _ (fun z => h z.symm), List.set_set, List.set_comm _ _ h]
    · show List.set _ _ _ = _
      rw [List.set_comm _ _ (fun z => h z.symm), List.set_set]
  | xc c S1 =>
    refine ⟨?_, ?_⟩
    · show Out.xc c _ S1 = Out.xc c _ S1
      rw [List.set_set]
    · show List.set _ _ _ = _
      rw [List.set_set]
  | stuck => exact ⟨rfl, trivial⟩
theorem parB_cons (hu : ParB i u) (hv : ParB i v) : ParB i (fun a => bCons (u a) (v a)) := fun a G S => by
  obtain ⟨e, hh⟩ := hu a G S
  unfold bCons
  dsimp only
  rw [e]
  cases hq : u 0 (G.set i (some (.exn 0))) S with
  | nx G1 S1 =>
    rw [hq] at hh
    have hh' : G1.set i (some (.exn 0)) = G1 := hh
    have q := hv a G1 S1
    rw [hh'] at q
    exact q
  | rt d S1 => exact ⟨rfl, trivial⟩
  | bk G1 S1 => rw [hq] at hh; exact ⟨rfl, hh⟩
  | ct G1 S1 => rw [hq] at hh; exact ⟨rfl, hh⟩
  | xc c G1 S1 => rw [hq] at hh; exact ⟨rfl, hh⟩
  | stuck => exact ⟨rfl, trivial⟩
end
section
variable {ct : Nat → Addr} {X : Cx} {W : WX} {e : Expr} {f : Ev} {p pos pos' np : Pos} {x n : Str} {body suite : List Stmt} {b₀ : Stmt} {u : Blk} {cs : List (Nat × Bool)} {i cc : Nat}
theorem ss_tryAs {h : Nat → Addr → Blk} (hs : X.stack = X.env :: X.outer) (hf : X.env.frame = some X.env.locals) (hN : X.N.Nodup) (hi : X.N[i]? = some n) (hln : X.env.kindOf n = some .local) (hc : Names X x (.ref (ct cc))) (tk : Takes X W)
    (hb : ∀ (W' : WX) (pn : List (Addr × Obj)) (xe : Value → Shared → Prop), Takes (X.tr pn xe) W' → PassesOwn (model X.prog X.w) X.A X.env xe → SndB ct (X.tr pn xe) W' body u)
    (hcs : ∀ c b, cs.lookup c = some b → PySem.W.exmOne X.K (.ref (ct c)) (.ref (ct cc)) = some b)
    (hh : ∀ c, cs.lookup c = some true → ∀ (a : Addr) (oe : Obj) (pn : List (Addr × Obj)), Zc (.ref (ct c)) none oe → (∃ vs, oe.data = .fields vs) → SndB ct (X.suite a ((a, oe) :: pn)) (fun _ _ _ _ => False) (b₀ :: suite) (h c a))
    (hp : ∀ c, cs.lookup c = some true → ParB i (h c)) :
    SndS ct X W (.Try body [.ExceptHandler (some (.Name x np)) (some n) (b₀ :: suite) pos'] [] [] pos) (sTry u i cs h) := by
  refine ⟨?_⟩
  intro σ H m S G Z r en hq
  refine .of (ps_try_as hs hf hN hi hln hc tk (tb := fun W' D σ H => ∃ m S G, Rel ct m S H ∧ EnvR H m S.length σ G ∧ PostS ct W' m S.length H D (u G S))
    (ts := fun a cls d D σ H => ∃ c m S G, cls = .ref (ct c) ∧ d = none ∧ cs.lookup c = some true ∧ Rel ct m S H ∧ EnvR H m S.length σ G ∧ PostS ct (fun _ _ _ _ => False) m S.length H D (h c a G S))
    (fun W' pn xe tk' pso => ⟨fun pins s σ H D I ⟨m, S, G, r, en, p⟩ => (hb W' pn xe tk' pso).run σ H m S G D r en p pins s I⟩)
    (fun a oe cls d pn hz hv => ⟨fun pins s σ H D I ⟨c, m, S, G, e1, e2, e3, r, en, p⟩ => by
      subst e1 e2
      exact (hh c e3 a oe pn hz hv).run σ H m S G D r en p pins s I⟩)) ?_
  refine ⟨m, S, G, r, en, ?_⟩
  unfold sTry at hq
  cases hu : u G S with
  | nx G1 S1 => rw [hu] at hq; exact hq
  | rt d S1 => rw [hu] at hq; exact hq
  | bk G1 S1 => rw [hu] at hq; exact hq
  | ct G1 S1 => rw [hu] at hq; exact hq
  | stuck => rw [hu] at hq; exact hq
  | xc c G1 S1 =>
    rw [hu] at hq
    dsimp only at hq
    cases hl : cs.lookup c with
    | none =>
      rw [hl] at hq
      exact hq.elim
    | some b =>
      rw [hl] at hq
      cases b with
      | false => exact fun σ' m' H' r' st en' => ⟨false, hcs c false hl, fun z => (nomatch z), fun _ => hq σ' m' H' r' st en'⟩
      | true =>
        dsimp only at hq
        intro σ' m' H' r' st en'
        refine ⟨true, hcs c true hl, fun _ a na => ⟨c, m', S1, G1.set i (some (.exn a)), rfl, rfl, hl, r', en'.set (.exn a) i, ?_⟩, fun z => (nomatch z)⟩
        obtain ⟨e1, e2⟩ := hp c hl a G1 S1
        rw [e1]
        cases ho : h c 0 (G1.set i (some (.exn 0))) S1 with
        | rt d S2 =>
          rw [ho] at hq
          exact fun v m2 H2 r2 st2 p2 => hq v m2 H2 r2 (st.trans st2) p2
        | nx G2 S2 =>
          rw [ho] at hq
          intro σ2 m2 H2 r2 st2 en2
          refine hq (σ2.set i none) m2 H2 r2 (st.trans st2) ⟨?_, fun j d hd => ?_⟩
          · have := en2.len
            rw [List.length_set] at this
            rw [List.length_set, List.length_set]
            exact this
          · by_cases hj : i = j
            · subst hj
              by_cases hlt : i < G2.length
              · rw [List.getElem?_set_self hlt] at hd
                cases hd
              · rw [List.getElem?_eq_none (by rw [List.length_set]; omega)] at hd
                cases hd
            · rw [List.getElem?_set_ne hj] at hd
              obtain ⟨v, hv1, hv2⟩ := en2.at_ j d (by rw [List.getElem?_set_ne hj]; exact hd)
              exact ⟨v, by rw [List.getElem?_set_ne hj]; exact hv1, hv2⟩
        | bk G2 S2 => rw [ho] at hq; exact hq.elim
        | ct G2 S2 => rw [ho] at hq; exact hq.elim
        | xc c2 G2 S2 => rw [ho] at hq; exact hq.elim
        | stuck => rw [ho] at hq; exact hq.elim
theorem ss_tryO {h : Blk} (hs : X.stack = X.env :: X.outer) (hf : X.env.frame = some X.env.locals) (hc : Names X x (.ref (ct cc))) (tk : Takes X W)
    (hb : ∀ (W' : WX) (pn : List (Addr × Obj)) (xe : Value → Shared → Prop), Takes (X.tr pn xe) W' → PassesOwn (model X.prog X.w) X.A X.env xe → SndB ct (X.tr pn xe) W' body u)
    (hcs : ∀ c b, cs.lookup c = some b → PySem.W.exmOne X.K (.ref (ct c)) (.ref (ct cc)) = some b)
    (hh : ∀ (a : Addr) (oe : Obj) (pn : List (Addr × Obj)), SndB ct (X.suite a ((a, oe) :: pn)) (fun _ _ _ _ => False) (b₀ :: suite) h)
    (hx : ∀ G S c G1 S1, h G S ≠ .xc c G1 S1) :
    SndS ct X W (.Try body [.ExceptHandler (some (.Name x np)) none (b₀ :: suite) pos'] [] [] pos) (sTryO u cs h) := by
  refine ⟨?_⟩
  intro σ H m S G Z r en hq
  refine .of (ps_try_only hs hf hc tk (tb := fun W' D σ H => ∃ m S G, Rel ct m S H ∧ EnvR H m S.length σ G ∧ PostS ct W' m S.length H D (u G S))
    (ts := fun a cls d D σ H => ∃ m S G, Rel ct m S H ∧ EnvR H m S.length σ G ∧ PostS ct (fun _ _ _ _ => False) m S.length H D (h G S))
    (fun W' pn xe tk' pso => ⟨fun pins s σ H D I ⟨m, S, G, r, en, p⟩ => (hb W' pn xe tk' pso).run σ H m S G D r en p pins s I⟩)
    (fun a oe cls d pn hz hv => ⟨fun pins s σ H D I ⟨m, S, G, r, en, p⟩ => (hh a oe pn).run σ H m S G D r en p pins s I⟩)) ?_
  refine ⟨m, S, G, r, en, ?_⟩
  unfold sTryO at hq
  cases hu : u G S with
  | nx G1 S1 => rw [hu] at hq; exact hq
  | rt d S1 => rw [hu] at hq; exact hq
  | bk G1 S1 => rw [hu] at hq; exact hq
  | ct G1 S1 => rw [hu] at hq; exact hq
  | stuck => rw [hu] at hq; exact hq
  | xc c G1 S1 =>
    rw [hu] at hq
    dsimp only at hq
    cases hl : cs.lookup c with
    | none =>
      rw [hl] at hq
      exact hq.elim
    | some b =>
      rw [hl] at hq
      cases b with
      | false => exact fun σ' m' H' r' st en' => ⟨false, hcs c false hl, fun z => (nomatch z), fun _ => hq σ' m' H' r' st en'⟩
      | true =>
        dsimp only at hq
        intro σ' m' H' r' st en'
        refine ⟨true, hcs c true hl, fun _ a na => ⟨m', S1, G1, r', en', ?_⟩, fun z => (nomatch z)⟩
        cases ho : h G1 S1 with
        | xc c2 G2 S2 => exact absurd ho (hx _ _ _ _ _)
        | rt d S2 =>
          rw [ho] at hq
          exact fun v m2 H2 r2 st2 p2 => hq v m2 H2 r2 (st.trans st2) p2
        | nx G2 S2 =>
          rw [ho] at hq
          exact fun σ2 m2 H2 r2 st2 p2 => hq σ2 m2 H2 r2 (st.trans st2) p2
        | bk G2 S2 =>
          rw [ho] at hq
          exact fun σ2 m2 H2 r2 st2 p2 => hq σ2 m2 H2 r2 (st.trans st2) p2
        | ct G2 S2 =>
          rw [ho] at hq
          exact fun σ2 m2 H2 r2 st2 p2 => hq σ2 m2 H2 r2 (st.trans st2) p2
        | stuck => rw [ho] at hq; exact hq.elim
/-- what is known of the classes that may be held -/
def XSubs (K : PySem.W.Frag) (ct : Nat → Addr) (cc : Nat) (subs : List (Nat × Bool)) : Prop := ∀ c b, subs.lookup c = some b → ExcC K (ct c) ∧ PySem.W.kitOne K (.ref (ct c)) (.ref (ct cc)) = some b
def XExm (K : PySem.W.Frag) (ct : Nat → Addr) (cc : Nat) (subs : List (Nat × Bool)) : Prop := ∀ c b, subs.lookup c = some b → PySem.W.exmOne K (.ref (ct c)) (.ref (ct cc)) = some b
theorem xsubs_nil {K : PySem.W.Frag} : XSubs K ct cc [] := fun c b h => by cases h
theorem xexm_nil {K : PySem.W.Frag} : XExm K ct cc [] := fun c b h => by cases h
theorem xsubs_cons {K : PySem.W.Frag} {c : Nat} {b : Bool} {l : List (Nat × Bool)} (h : ExcC K (ct c)) (k : PySem.W.kitOne K (.ref (ct c)) (.ref (ct cc)) = some b) (t : XSubs K ct cc l) : XSubs K ct cc ((c, b) :: l) := fun c' b' hl => by
  rw [List.lookup_cons] at hl
  by_cases e : c' = c
  · subst e
    simp at hl
    subst hl
    exact ⟨h, k⟩
  · rw [show (c' == c) = false from by simpa using e] at hl
    exact t c' b' hl
theorem xexm_cons {K : PySem.W.Frag} {c : Nat} {b : Bool} {l : List (Nat × Bool)} (k : PySem.W.exmOne K (.ref (ct c)) (.ref (ct cc)) = some b) (t : XExm K ct cc l) : XExm K ct cc ((c, b) :: l) := fun c' b' hl => by
  rw [List.lookup_cons] at hl
  by_cases e : c' = c
  · subst e
    simp at hl
    subst hl
    exact k
  · rw [show (c' == c) = false from by simpa using e] at hl
    exact t c' b' hl
/-- isinstance(e, C), e held -/
theorem snd_isX {a : Addr} {oe : Obj} {pn : List (Addr × Obj)} {c : Nat} {subs : List (Nat × Bool)} {y : Str} {p2 : Pos} (hx : SndE ct (X.suite a ((a, oe) :: pn)) W e f) (hz : Zc (.ref (ct c)) none oe) (hv : ∃ vs, oe.data = .fields vs)
    (hsub : ∀ b, subs.lookup c = some b → ExcC X.K (ct c) ∧ PySem.W.kitOne X.K (.ref (ct c)) (.ref (ct cc)) = some b) (hg : Gl X "isinstance") (hm : X.mg "isinstance" = none)
    (hg2 : Gl X y) (hm2 : X.mg y = some (.ref (ct cc))) (hd2 : (y == ("__debug__" : Str)) = false := by decide) (he1 : starEach [e, .Name y p2] X.env = (false, eval e X.env) :: starEach [.Name y p2] X.env := by rfl)
    (he2 : starEach [.Name y p2] X.env = (false, eval (.Name y p2) X.env) :: starEach [] X.env := by rfl) (hpl : (backTo pos (starEach [.Name y p2] X.env)).any (·.1) = false := by rfl) :
    SndE ct (X.suite a ((a, oe) :: pn)) W (.Call (.Name "isinstance" p) [e, .Name y p2] [] pos) (eOp1 (opIsX a (subs.lookup c)) f) := by
  refine ⟨?_⟩
  intro σ H m S G Q r en h
  cases hb : subs.lookup c with
  | none =>
    rw [hb] at h
    have pa : PA (X.suite a ((a, oe) :: pn)) [e, .Name y p2] (tCons (EvW (X.suite a ((a, oe) :: pn)) e) (tCons (tC (.ref (ct cc))) tNil)) := pa_cons pe_w (pa_cons (pe_glob (v := .ref (ct cc)) hg2 hm2 rfl hd2) pa_nil he2) he1
    refine .of (pe_callB call_isi hg hm boot_isinstance pa (by decide) (by decide) he1 hpl) ((hx.bind r en h).mono fun v H1 ⟨d, m1, S1, r1, st1, p1, en1, h1⟩ => ?_)
    unfold opIsX at h1
    split at h1
    · split at h1
      · exact h1.elim
      · exact h1.elim
    · exact h1.elim
  | some b =>
    rw [hb] at h
    obtain ⟨i1, i2⟩ := hsub b hb
    have pa : PA (X.suite a ((a, oe) :: pn)) [e, .Name y p2] (tCons (EvW (X.suite a ((a, oe) :: pn)) e) (tCons (tC (.ref (ct cc))) tNil)) := pa_cons pe_w (pa_cons (pe_glob (v := .ref (ct cc)) hg2 hm2 rfl hd2) pa_nil he2) he1
    refine .of (pe_callB (call_isE (X := X) (pn := pn) i1 hz hv) hg hm boot_isinstance pa (by decide) (by decide) he1 hpl) ((hx.bind r en h).mono fun v H1 ⟨d, m1, S1, r1, st1, p1, en1, h1⟩ => ?_)
    unfold opIsX at h1
    split at h1
    · rename_i a'
      split at h1
      · rename_i ea
        subst ea
        cases p1
        exact ⟨.ref (ct cc), .ref (ct cc), b, rfl, fun u hu => hu, i2, h1.now r1 (.bl _)⟩
      · exact h1.elim
    · exact h1.elim
end
end L2.VE
/-! VE18: a table of texts, looked up where it is displayed. -/
namespace L2.VE
open PySem PySem.Spec PyProof.Rows
def opTab (tab : List (Str × Str)) : Op1 := fun d S => match d with
  | .str s => match tab.lookup s with
    | some v => .ok (.str v) S
    | none => .stuck
  | _ => .stuck
def tabV (tab : List (Str × Str)) : List (Key × V) := tab.map fun kv => (.inr kv.1, .str kv.2)
theorem valV_tab {s v : Str} : ∀ {tab : List (Str × Str)}, tab.lookup s = some v → valV (tabV tab) (.inr s) = some (.str v)
  | [], h => by cases h
  | (k, w) :: tab, h => by
    rw [List.lookup_cons] at h
    by_cases e : s = k
    · subst e
      rw [beq_self_eq_true] at h
      cases h
      exact valV_pos rfl
    · rw [show (s == k) = false from by simpa using e] at h
      have := valV_tab h
      show valV ((.inr k, V.str w) :: tabV tab) _ = _
      rw [valV_neg (fun z => e (Sum.inr.inj z).symm)]
      exact this
theorem tPairs_c {σ : St} {Q : List (V × V) → Hp → Prop} : ∀ {tab : List (Str × Str)} {H : Hp}, Q (tab.map fun kv => (V.str kv.1, V.str kv.2)) H → tPairs (tab.map fun kv => (tC (.str kv.1), tC (.str kv.2))) σ H Q
  | [], H, h => h
  | kv :: tab, H, h => tPairs_c (tab := tab) (Q := fun ps H3 => Q ((V.str kv.1, V.str kv.2) :: ps) H3) h
theorem upd_twice {H : Hp} {p : Addr} {a b : HO} : upd (upd H p a) p b = upd H p b := funext fun x => by
  by_cases e : x = p
  · subst e
    rw [upd_same, upd_same]
  · rw [upd_ne e, upd_ne e, upd_ne e]
section
variable {ct : Nat → Addr} {X : Cx} {W : WX} {e : Expr} {f : Ev} {p1 p2 : Pos}
theorem snd_tab {tab : List (Str × Str)} {keys : List (Option Expr)} {values : List Expr} (hu : X.A.units + 1 < cLine) (hi : SndE ct X W e f) (hs : PlainIx e) (hp : PPs X p1 keys values (tab.map fun kv => (tC (.str kv.1), tC (.str kv.2))))
    (hall : keys.all (·.isSome) = true) (hl : keys.length = values.length) (h0 : keys ≠ []) (h15 : keys.length ≤ 15) (t15 : tab.length ≤ 15) (hm : mergeK [] (tabV tab) = tabV tab) :
    SndE ct X W (.Subscript (.Dict keys values p1) e p2) (eOp1 (opTab tab) f) := by
  refine ⟨?_⟩
  intro σ H m S G Q r en h pins s I
  refine Subscript_ (bin (pe_disp hp hall hl h0 h15) pe_w I (R := fun x y H2 => ∀ value slice pins s v u, Inv X pins σ H2 s → RelV x v → RelV y u → subscripted slice false v u = operate [v, u] (getItem v u) → wpAny (model X.prog X.w) X.A (subscriptTail value slice v u) (EP X pins σ Q) X.xe s)
    (fun p hn => tPairs_c ⟨upd_same, tabV tab, ?_, by unfold tabV; rw [List.length_map]; exact t15, ?_⟩) fun v u s2 x y H2 I2 rx ry q => ?_)
  · unfold tabV
    rw [List.map_map]
    rfl
  · rw [hm, upd_twice]
    refine (hi.bind (r.new hn) (en.mono (Step.new hn)) (PostE.step (Step.new hn) h)).mono fun y H2 ⟨d, m2, S2, r2, st2, q2, en2, h2⟩ => ?_
    have hD : H2 p = some (.dK (tabV tab)) := st2.kp _ _ upd_same (r.no1 hn)
    unfold opTab at h2
    split at h2
    · rename_i s0
      split at h2
      · rename_i v0 ev
        cases q2
        have g : DGet H2 p (.str s0) (some (.str v0)) := by
          have := DGet.k (k := Sum.inr s0) hD
          rw [valV_tab ev] at this
          exact this
        intro value slice pins s v u I rx ry hs'
        obtain rfl : v = Value.ref p := rx
        exact tail_any (dict_typeIs I g) PySem.F.slot_dict_getitem.lookup (d_getItem hu I g ry fun w' s3 I3 rw' => ⟨_, _, I3, rw', h2.now r2 (.str _)⟩) hs'
      · exact h2.elim
    · exact h2.elim
  · exact q _ e pins s2 v u I2 rx ry (hs _ _)
end
end L2.VE
/-! VE19: a lambda handed to a def that calls it within try. -/
namespace L2.VE
open PySem PySem.Spec PyProof.Rows
section
variable {ct : Nat → Addr} {X : Cx} {pins : List (Addr × Obj)} {σ : St} {H : Hp} {s : Shared} {m : Mp} {S : Store} {j : Nat} {q : Str}
/-- the j-th table tells of one more code object -/
theorem Rel.code (r : Rel ct m S H) (hS : S[j]? = some (.tab j q)) {ps : Array Value} (hP : H (ct (100 + j)) = some (.tbl ps)) {c : Addr} (hc : H c = none) (pos : Pos) (ht : TriplesOk ps.toList) :
    Rel ct m S (upd (upd H (ct (100 + j)) (.tbl (ps ++ #[rawInt pos.line, rawInt pos.col, .ref c]))) c (LamX.CodeO c q)) ∧ Step m S.length H m S.length (upd (upd H (ct (100 + j)) (.tbl (ps ++ #[rawInt pos.line, rawInt pos.col, .ref c]))) c (LamX.CodeO c q)) ∧ NoC m S.length c := by
  have jl : j < S.length := (List.getElem?_eq_some_iff.mp hS).1
  obtain ⟨ej, ps0, h1, h2, h3⟩ := r.cell j _ hS
  rw [ej, hP] at h1
  cases h1
  have rc : Rel ct m S (upd H c (LamX.CodeO c q)) := r.new hc
  have sc : Step m S.length H m S.length (upd H c (LamX.CodeO c q)) := Step.new hc
  have hPm : H (m j) = some (.tbl ps) := by rw [ej]; exact hP
  have nP : m j ≠ c := ne_of_none hPm hc
  have hu : upd H c (LamX.CodeO c q) (m j) = some (.tbl ps) := by rw [upd_ne nP]; exact hPm
  have noc : NoC m S.length c := r.noC hc
  have eL : (ps ++ #[rawInt pos.line, rawInt pos.col, Value.ref c]).toList = ps.toList ++ [rawInt pos.line, rawInt pos.col, .ref c] := Array.toList_append
  have cn : CellOk ct (upd (upd H c (LamX.CodeO c q)) (m j) (.tbl (ps ++ #[rawInt pos.line, rawInt pos.col, Value.ref c]))) m S.length (m j) (.tab j q) := by
    refine ⟨ej, _, upd_same, by rw [eL]; exact PySem.TriplesOk_snoc _ _ _ _ ht, fun pos' cv hcv => ?_⟩
    rw [eL] at hcv
    rcases LamX.among_app _ ht hcv with z | z
    · obtain ⟨c0, e1, e2, e3⟩ := h3 pos' cv z
      exact ⟨c0, e1, by rw [upd_ne (fun z => e3.1 j jl z.symm), upd_ne (ne_of_none e2 hc)]; exact e2, e3⟩
    · exact ⟨c, z, by rw [upd_ne (Ne.symm nP), upd_same], noc⟩
  have rw1 := rc.write (n := j) jl hu (by intro _ _ z; cases z) cn
  have sw1 : Step m S.length (upd H c (LamX.CodeO c q)) m S.length (upd (upd H c (LamX.CodeO c q)) (m j) (.tbl (ps ++ #[rawInt pos.line, rawInt pos.col, Value.ref c]))) := Step.write jl hu (by intro _ _ z; cases z)
  have eS : S.set j (.tab j q) = S := by
    apply List.ext_getElem?
    intro i
    by_cases h : j = i
    · subst h
      rw [List.getElem?_set_self jl, hS]
    · rw [List.getElem?_set_ne h]
  have eH : upd (upd H c (LamX.CodeO c q)) (m j) (.tbl (ps ++ #[rawInt pos.line, rawInt pos.col, Value.ref c])) = upd (upd H (ct (100 + j)) (.tbl (ps ++ #[rawInt pos.line, rawInt pos.col, .ref c]))) c (LamX.CodeO c q) := by
    rw [ej] at nP ⊢
    funext b
    by_cases h : b = c
    · subst h
      rw [upd_ne (Ne.symm nP), upd_same, upd_same]
    · by_cases h' : b = ct (100 + j)
      · subst h'
        rw [upd_same, upd_ne h, upd_same]
      · rw [upd_ne h', upd_ne h, upd_ne h, upd_ne h']
  rw [eS, eH] at rw1
  rw [eH] at sw1
  exact ⟨rw1, sc.trans sw1, noc⟩
/-- a lambda made: the j-th table tells of its code object -/
theorem lam_new {c : Addr} {params : Arguments} {body : Expr} {scope : Scope} {pos : Pos} {EE : Value → Shared → Prop} {Q : Value → Shared → Prop} (r : Rel ct m S H) (hS : S[j]? = some (.tab j q)) (hq : X.env.qual ++ "<lambda>" = q) (I : Inv X pins σ H s)
    (TB : LamX.TabB X.base X.mg c (ct (100 + j))) (hcode : X.env.code = .ref c) (hdef : defaultsOf params X.env = ([], [])) (hfree : ∀ y ∈ scope.names, y.2 = .free → ∃ c, X.env.cells.lookup y.1 = some c)
    (h : ∀ (f ce : Addr) (pm cw : Value) (H1 : Hp) (s' : Shared), Inv X pins σ H1 s' → Rel ct m S H1 → Step m S.length H m S.length H1 →
      s'.heap.get? f = some (PySem.W.kla_obj "<lambda>" (X.env.qual ++ "<lambda>") params body scope (cloFrom X.env.cells scope.names []) pm ce cw) → H1 f = none → f ∉ frs X.stack → H1 ce = some (LamX.CodeO ce q) → NoC m S.length ce → Q (.ref f) s') :
    wpAny (model X.prog X.w) X.A (eval (.Lambda params body scope pos) X.env) Q EE s := by
  subst hq
  obtain ⟨ej, ps, h1, h2, h3⟩ := r.cell j _ hS
  rw [ej] at h1
  have B1 : s.heap.BuiltinsAt X.mg (ct (100 + j)) := TB.bm.keeps I.bk
  have C1 := TB.code.keeps I.bk
  have T1 : s.heap.get? (ct (100 + j)) = some { cls := .none, data := .fields ps } := I.hok _ _ h1
  have G1 := I.mod.glob.keeps I.bk
  have far : ∀ f, s.heap.objs.size ≤ f → f ∉ frs X.stack := fun f hf z => (List.mem_cons.mp (I.stkSub _ z)).elim (fun e => by
    have h1 := I.lt
    rw [← e] at h1
    exact absurd h1 (Nat.not_lt_of_le hf)) (fun e => I.nofs hf e)
  refine (PySem.W.kla_eval hdef ?_)
  cases hA : codeAmong pos ps.toList with
  | some cv =>
    obtain ⟨ce, e, hco, hno⟩ := h3 pos cv hA
    subst e
    exact PySem.W.kla_makeFunctionHit (closure_ok hfree) I.ok.glob G1 hcode C1 T1 h2 hA B1 fun cw h' tk hx hsz =>
      h _ ce _ cw H _ (I.kept fun b o e => Heap.get?_push_of_some _ (hx b o e)) r Step.refl (Heap.get?_push_size _ rfl) (I.hok.fresh hsz) (far _ hsz) hco hno
  | none =>
    refine PySem.W.kla_makeFunction (closure_ok hfree) I.ok.glob G1 hcode C1 T1 h2 hA TB.gP B1 fun ce cw h' tk hx hge hlt hrec htb => ?_
    obtain ⟨_, oc, vs, t, e2, hoc, hd, hv⟩ := hrec
    cases e2
    have sz : s.heap.objs.size ≤ h'.objs.size := Nat.le_trans hge (Nat.le_of_lt hlt)
    have nC : H ce = none := I.hok.fresh hge
    obtain ⟨k1, k2, k3⟩ := r.code hS h1 nC pos h2
    have I1 := LamX.inv_table (t' := tk) (more := #[rawInt pos.line, rawInt pos.col, .ref ce]) (h' := h'.push (PySem.W.kla_obj "<lambda>" (X.env.qual ++ "<lambda>") params body scope (cloFrom X.env.cells scope.names []) ((X.mg "__name__").getD .none) ce cw)) I h1
      (fun b o n e => Heap.get?_push_of_some _ (hx b o n e)) (Heap.get?_push_of_some _ htb) hge ⟨oc, vs, t, Heap.get?_push_of_some _ hoc, hd, hv⟩
    refine h _ ce _ cw _ _ I1 k1 k2 (Heap.get?_push_size _ rfl) ?_ (far _ sz) upd_same k3
    have d1 : h'.objs.size ≠ ce := Nat.ne_of_gt hlt
    have d2 : h'.objs.size ≠ ct (100 + j) := Nat.ne_of_gt (Nat.lt_of_lt_of_le (Heap.lt_size T1) sz)
    rw [upd_ne d1, upd_ne d2]
    exact I.hok.fresh sz
/-- a(): what was handed is called -/
theorem pe_ask {CXg : CXT} {Eg : XK} {Ng : List Str} {qg : Str} {sg : Scope} {g f ce : Addr} {cdg pm cw : Value} {params : Arguments} {body : Expr} {scope : Scope} {k i : Nat} {a : Str} {pn : List (Addr × Obj)} {xe : Value → Shared → Prop} {W : WX} {tb : XK → TE} {p1 p2 : Pos}
    (I : Inv X pins σ H s) (L : LamX.LamS X.env.scope scope) (hf : s.heap.get? f = some (PySem.W.kla_obj "<lambda>" (X.env.qual ++ "<lambda>") params body scope (cloFrom X.env.cells scope.names []) pm ce cw)) (hfn : H f = none) (hfr : f ∉ frs X.stack)
    (hbind : bindArgs (PySem.W.kla_fn "<lambda>" (X.env.qual ++ "<lambda>") params body scope (cloFrom X.env.cells scope.names []) pm (.ref ce) cw) ⟨[], []⟩ = pure [])
    (tk : Takes ((cxOf CXg X.prog X.w X.K X.mg X.base Ng qg sg g cdg X.A X.stack s H Eg).tr pn xe) W) (hr : Room (k + 1) (X.A.deeper (envOfC qg sg s.heap.objs.size g cdg)))
    (hbody : ∀ (E : XK) (A : Around) (outer : List Env) (s : Shared) (H : Hp), Room k (A.deeper (LamX.lamEnv X scope s.heap.objs.size f ce)) → PE (LamX.lamCx X A outer s H E scope f ce) body (tb E))
    (hN : Ng[i]? = some a) (hv : Vis sg a)
    (hd : (a == ("__debug__" : Str)) = false := by decide) (hcd : (a == ("__classdict__" : Str)) = false := by decide) :
    PE ((cxOf CXg X.prog X.w X.K X.mg X.base Ng qg sg g cdg X.A X.stack s H Eg).tr pn xe)
      (.Call (.Name a p1) [] [] p2) (fun σZ HZ Q => σZ[i]? = some (some (.ref f)) ∧ HZ ce = some (LamX.CodeO ce (X.env.qual ++ "<lambda>")) ∧ ∃ E : XK, (∀ cls d H', E cls d H' → W cls d σZ H') ∧ tb E σ HZ Q) := by
  refine ⟨fun pZ sZ σZ HZ Q IZ ⟨hs, hc, E, hE, ht⟩ => ?_⟩
  have look := (pe_var (X := (cxOf CXg X.prog X.w X.K X.mg X.base Ng qg sg g cdg X.A X.stack s H Eg).tr pn xe) (pos := p1) (i := i) hN hv hd hcd).run pZ sZ σZ HZ (fun v H1 => v = .ref f ∧ H1 = HZ) IZ ⟨.ref f, hs, rfl, rfl⟩
  refine wpAny_Call_Name_kw (thn look fun u s1 ⟨v, H1, I1, r1, ev, eH⟩ => ?_)
  subst ev
  subst eH
  cases (show u = Value.ref f from r1)
  have of1 := I1.base.keep f _ hf hfn hfr (fun z => nomatch (show f ∈ ([] : List Addr) from z))
  obtain ⟨⟨oc, vs, t, hoc, he2, hw2⟩, _, _⟩ := I1.hok ce _ hc
  have rc : codeAny (model X.prog X.w) (X.A.deeper (envOfC qg sg s.heap.objs.size g cdg)) (.call (.ref f) ⟨[], []⟩) (CR (L2.CX X.prog X.w) (envOfC qg sg s.heap.objs.size g cdg :: X.stack) X.prog X.w H1 s1 Q E) s1 := by
    refine PySem.W.kla_callFunE hr.depth of1 rfl L.co L.gen rfl ⟨ce, oc, vs, t, rfl, hoc, he2, hw2⟩ ?_
    rw [hbind]
    refine wpAny_pure (wpAny_newFunctionEnv (fun y hy => (L.own y hy).2) (fun y hy => absurd hy (by simp)) (fun hn2 hns hb2 => ⟨I1.nolimit.fresh _ hb2, ?_⟩) L.kind)
    show codeAny _ _ (.expr body (LamX.lamEnv X scope s1.heap.objs.size f ce)) _ _
    have kpt : ∀ b o, s1.heap.get? b = some o → hn2.get? b = some o := fun b o e => hb2.extBut b o (Nat.ne_of_lt (Heap.lt_size e)) (Heap.get?_push_of_some _ e)
    have J : Inv (LamX.lamCx X (X.A.deeper (envOfC qg sg s.heap.objs.size g cdg)) (envOfC qg sg s.heap.objs.size g cdg :: X.stack) s1 H1 E scope f ce) [] σ H1 { s1 with heap := hn2, toks := s1.toks + ([] : List (Str × Value)).length } := LamX.lam_start2 I L I1.env0 hr.hd I1.base hns kpt
    exact PySem.W.kla_codeExpr (wpAny_mono ((hbody E _ _ s1 H1 (hr.deeper _)).run [] _ _ H1 Q J ht) (fun v s' ⟨w', H', J', rv, q⟩ => ⟨w', H', J'.os, J'.bare, J'.base, J'.hok, rv, q⟩) fun e s' hq => hq)
  refine PySem.W.callWith_F0 ⟨_, _, _, _, of1⟩ (wpAny_call (codeAny_mono rc fun r s' hq => ?_))
  cases r with
  | error e => exact tk e s' (XE.of_call I1 (fun cls d H' h => hE cls d H' h) hq)
  | ok fl =>
    cases fl with
    | ret u => exact I1.after hq
    | next => exact (show False from hq).elim
    | brk => exact (show False from hq).elim
    | cont => exact (show False from hq).elim
end
end L2.VE
/-! VE20: of which classes a refusal is. -/
namespace L2.VE
open PySem PySem.Spec PyProof.Rows
/-- found = []; try: a() except .. as e: found = ..; return found -/
def kindsR (cs : List (Nat × Bool)) (h : Nat → Addr → Blk) : ER → ER
  | .ok _ S => .ok (.lst []) S
  | .xc c S => match cs.lookup c with
    | some true => match h c 0 [none, some (.lst []), some (.exn 0)] S with
      | .nx G2 S2 => match G2[1]? with
        | some (some d) => .ok d S2
        | _ => .stuck
      | _ => .stuck
    | _ => .stuck
  | .stuck => .stuck
def eKinds (j : Nat) (q : Str) (R : ER → ER) (fb : Ev) : Ev := fun G S => match S[j]? with
  | some (.tab j' q') => if j' = j ∧ q' = q then R (fb G S) else .stuck
  | _ => .stuck
/-- what the def does with what it is handed -/
def KGive (P : Program) (w : World) (K : PySem.W.Frag) (mg : Str → Option Value) (base : Heap) (ct : Nat → Addr) (x : Str) (g : Addr) (cdv : Value) (bg : List Stmt) (sg : Scope) (Ng : List Str) (a : Str) (R : ER → ER) : Prop :=
  ∀ (A : Around) (outer : List Env) (s : Shared) (H : Hp) (f ce : Addr) (q : Str) (tb : XK → Hp → VK → Prop) (m : Mp) (S : Store) (σM : St) (G : Gm) (fb : Ev) (Q : VK),
    (∀ (W : WX) (pn : List (Addr × Obj)) (xe : Value → Shared → Prop) (p1 p2 : Pos), Takes ((cxOf C8.CX0 P w K mg base Ng x sg g cdv A outer s H C8.E0).tr pn xe) W →
      PE ((cxOf C8.CX0 P w K mg base Ng x sg g cdv A outer s H C8.E0).tr pn xe) (.Call (.Name a p1) [] [] p2) (fun σZ HZ Q => σZ[0]? = some (some (.ref f)) ∧ HZ ce = some (LamX.CodeO ce q) ∧ ∃ E : XK, (∀ cls d H', E cls d H' → W cls d σZ H') ∧ tb E HZ Q)) →
    (∀ (E : XK) (H' : Hp) (Q' : VK) (m' : Mp) (S' : Store), Rel ct m' S' H' → EnvR H' m' S'.length σM G → PostE ct (fun cls d _ H => E cls d H) σM m' S'.length H' Q' (fb G S') → tb E H' Q') →
    Rel ct m S H → EnvR H m S.length σM G → H ce = some (LamX.CodeO ce q) → NoC m S.length ce → PostE ct (fun _ _ _ _ => False) σM m S.length H Q (R (fb G S)) →
    StsW (cxOf C8.CX0 P w K mg base Ng x sg g cdv A outer s H C8.E0).nox bg { nx := fun _ H' => Q .non H', rt := Q } (start Ng [.ref f]) H
structure KindsAt (P : Program) (w : World) (K : PySem.W.Frag) (mg : Str → Option Value) (base : Heap) (ct : Nat → Addr) (x a : Str) (R : ER → ER) : Prop where
  ex : ∃ (g : Addr) (pg : Arguments) (bg : List Stmt) (sg : Scope) (dV kV doc pm cdv ctv oc : Value) (an od : Option Addr) (osl : Array (Option Value)) (Ng : List Str), mg x = some (.ref g) ∧ PySem.W.keepIn K (.ref g) = true ∧ K.lookup g = some ⟨oc, od, .func (PySem.W.fnOf x x pg bg sg dV kV doc pm an cdv ctv), osl⟩ ∧
    PySem.W.codeIn K cdv x = true ∧ Binds K (PySem.W.fnOf x x pg bg sg dV kV doc pm an cdv ctv) [a] [] ∧ FnScope Ng [a] sg ∧ Ng[0]? = some a ∧ Vis sg a ∧ KGive P w K mg base ct x g cdv bg sg Ng a R
  no : ∀ e c S, R e ≠ .xc c S
theorem kindsR_no {cs : List (Nat × Bool)} {h : Nat → Addr → Blk} : ∀ e c S, kindsR cs h e ≠ .xc c S := fun e c S z => by
  unfold kindsR at z
  split at z
  · cases z
  · split at z
    · split at z
      · split at z
        · cases z
        · cases z
      · cases z
    · cases z
  · cases z
section
variable {ct : Nat → Addr} {X : Cx} {W : WX}
theorem snd_kinds {x a : Str} {R : ER → ER} {j k : Nat} {q : Str} {c : Addr} {params : Arguments} {body : Expr} {scope : Scope} {fb : Ev} {p lpos pos : Pos} (hK : KindsAt X.prog X.w X.K X.mg X.base ct x a R) (hg : Gl X x) (TB : LamX.TabB X.base X.mg c (ct (100 + j))) (hcode : X.env.code = .ref c)
    (hq : X.env.qual ++ "<lambda>" = q) (hr : Room (k + 2) X.A) (L : LamX.LamS X.env.scope scope) (hdef : defaultsOf params X.env = ([], []))
    (hbind : ∀ (qn : Str) (cl : List (Str × Addr)) (pm cv cw : Value), bindArgs (PySem.W.kla_fn "<lambda>" qn params body scope cl pm cv cw) ⟨[], []⟩ = pure [])
    (hbody : ∀ (A : Around) (outer : List Env) (s : Shared) (H : Hp) (E : XK) (f ce : Addr), Room k (A.deeper (LamX.lamEnv X scope s.heap.objs.size f ce)) → SndE ct (LamX.lamCx X A outer s H E scope f ce) (fun cls d _ H => E cls d H) body fb)
    (hdb : (x == ("__debug__" : Str)) = false := by decide)
    (hd : (a == ("__debug__" : Str)) = false := by decide) (hcd : (a == ("__classdict__" : Str)) = false := by decide) :
    SndE ct X W (.Call (.Name x p) [.Lambda params body scope lpos] [] pos) (eKinds j q R fb) := by
  refine ⟨?_⟩
  intro σ H m S G Q r en hp
  unfold eKinds at hp
  split at hp
  · rename_i j' q' hS
    split at hp
    · rename_i hj
      obtain ⟨rfl, rfl⟩ := hj
      obtain ⟨⟨g, pg, bg, sg, dV, kV, doc, pm, cdv, ctv, oc, an, od, osl, Ng, hm, hk, lk, hcg, hb, Sg, hNg, hva, hG⟩, hno⟩ := hK
      intro pins s I
      refine (wpAny_Call_Name_kw (ld_glob I hg hm ?_ hdb))
      refine (PySem.W.callWith_K (h₀ := X.base) I.ok.mod.kin hk ?_ rfl rfl)
      show wpAny _ _ (spliced ((false, eval (.Lambda params body scope lpos) X.env) :: backTo pos (starEach [] X.env))) _ X.xe s
      refine Calls.spliced_cons (lam_new r hS hq I TB hcode hdef (L.has I.ok) fun f ce pm' cw H1 s' I1 r1 st1 hf hfn hfr hco hnc => ?_)
      refine (Calls.spliced_nil ⟨I1.kIn, ?_⟩)
      have rcc : codeAny (model X.prog X.w) X.A (.call (.ref g) ⟨[.ref f], []⟩) (CR C8.CX0 X.stack X.prog X.w H1 s' Q C8.E0) s' := by
        refine LamX.run_ofS (N := Ng) (ps := [a]) (us := [.ref f]) (vs := [.ref f]) lk hcg Sg hr I1.env0 (hb s' [.ref f] I1.kIn rfl) (.cons rfl .nil) rfl fun hr' => ?_
        have hp1 : PostE ct (fun _ _ _ _ => False) σ m S.length H1 Q (R (fb G S)) := by
          cases hR : R (fb G S) with
          | ok d S2 =>
            rw [hR] at hp
            exact fun v m2 H2 r2 st2 p2 => hp v m2 H2 r2 (st1.trans st2) p2
          | xc c2 S2 => exact absurd hR (hno _ _ _)
          | stuck =>
            rw [hR] at hp
            exact hp.elim
        refine ⟨_, pss_w.nox, ?_⟩
        refine hG X.A X.stack s' H1 f ce _ (fun E H' Q' => ∃ m' S', Rel ct m' S' H' ∧ EnvR H' m' S'.length σ G ∧ PostE ct (fun cls d _ H => E cls d H) σ m' S'.length H' Q' (fb G S')) m S σ G fb Q (fun W2 pn xe p1 p2 tk => ?_) (fun E H' Q' m' S' h1 h2 h3 => ⟨m', S', h1, h2, h3⟩) r1 (en.mono st1) hco hnc hp1
        have act := pe_ask (i := 0) (p1 := p1) (p2 := p2) (tb := fun E σ' H' Q' => ∃ m' S', Rel ct m' S' H' ∧ EnvR H' m' S'.length σ' G ∧ PostE ct (fun cls d _ H => E cls d H) σ' m' S'.length H' Q' (fb G S')) I1 L hf hfn hfr (hbind _ _ _ _ _) tk hr' (fun E A outer s H hr2 => ⟨fun pins s2 σ2 H2 Q2 I2 ⟨m2, S2, k1, k2, k3⟩ => (hbody A outer s H E f ce hr2).run σ2 H2 m2 S2 G Q2 k1 k2 k3 pins s2 I2⟩) hNg hva hd hcd
        rw [hq] at act
        exact act
      refine wpAny_call (codeAny_mono rcc fun r s2 hq2 => ?_)
      cases r with
      | error e => exact (show False from hq2).elim
      | ok fl =>
        cases fl with
        | ret u => exact I1.after hq2
        | next => exact (show False from hq2).elim
        | brk => exact (show False from hq2).elim
        | cont => exact (show False from hq2).elim
    · exact hp.elim
  · exact hp.elim
end
end L2.VE
/-! VE21: the def that tells of which classes a refusal is. -/
namespace L2.VE
open PySem PySem.Spec PyProof.Rows
section
variable {P : Program} {w : World} {K : PySem.W.Frag} {mg : Str → Option Value} {base : Heap} {ct : Nat → Addr}
theorem kinds_gives {x a fnd er sn : Str} {g : Addr} {cdv : Value} {sg : Scope} {Ng : List Str} {cs : List (Nat × Bool)} {h : Nat → Addr → Blk} {cc : Nat} {b₀ : Stmt} {suite : List Stmt} {q1 q2 q3 q4 q5 q6 q7 q8 q9 q10 q11 : Pos}
    (nd : Ng.Nodup) (l3 : Ng.length = 3) (h1 : Ng[1]? = some fnd) (h2 : Ng[2]? = some er) (hl : Loc sg fnd) (hloc : sg.names.lookup fnd = some .local) (hv1 : Vis sg fnd)
    (hln : ∀ (A : Around) (outer : List Env) (s : Shared) (H : Hp), (cxOf C8.CX0 P w K mg base Ng x sg g cdv A outer s H C8.E0).nox.env.kindOf er = some .local)
    (hc : ∀ (A : Around) (outer : List Env) (s : Shared) (H : Hp), Names (cxOf C8.CX0 P w K mg base Ng x sg g cdv A outer s H C8.E0).nox sn (.ref (ct cc)))
    (hcs : ∀ c b, cs.lookup c = some b → PySem.W.exmOne K (.ref (ct c)) (.ref (ct cc)) = some b)
    (hh : ∀ (A : Around) (outer : List Env) (s : Shared) (H : Hp) (c : Nat), cs.lookup c = some true → ∀ (ae : Addr) (oe : Obj) (pn : List (Addr × Obj)), Zc (.ref (ct c)) none oe → (∃ vs, oe.data = .fields vs) → SndB ct ((cxOf C8.CX0 P w K mg base Ng x sg g cdv A outer s H C8.E0).nox.suite ae ((ae, oe) :: pn)) (fun _ _ _ _ => False) (b₀ :: suite) (h c ae))
    (hp : ∀ c, cs.lookup c = some true → ParB 2 (h c)) (hd1 : (fnd == ("__debug__" : Str)) = false := by decide) (hd2 : (fnd == ("__classdict__" : Str)) = false := by decide)
    (hsw : ∀ (A : Around) (outer : List Env) (s : Shared) (H : Hp), swapsWith (.List [] q2) (some (.Name fnd q1)) q3.line (cxOf C8.CX0 P w K mg base Ng x sg g cdv A outer s H C8.E0).nox.env = pure false := by intros; rfl)
    (hse : ∀ (A : Around) (outer : List Env) (s : Shared) (H : Hp) (pn : List (Addr × Obj)) (xe : Value → Shared → Prop), swapsWith (.Call (.Name a q4) [] [] q5) none q6.line ((cxOf C8.CX0 P w K mg base Ng x sg g cdv A outer s H C8.E0).nox.tr pn xe).env = pure false := by intros; rfl) :
    KGive P w K mg base ct x g cdv [.Assign [.Name fnd q1] (.List [] q2) q3, .Try [.Expr (.Call (.Name a q4) [] [] q5) q6] [.ExceptHandler (some (.Name sn q7)) (some er) (b₀ :: suite) q8] [] [] q9, .Return (some (.Name fnd q10)) q11] sg Ng a (kindsR cs h) := by
  intro A outer s H f ce q tb m S σM G fb Q act htb r en hco hnc hpost
  have body := fun (W : WX) (pn : List (Addr × Obj)) (xe : Value → Shared → Prop) (tk : Takes ((cxOf C8.CX0 P w K mg base Ng x sg g cdv A outer s H C8.E0).nox.tr pn xe) W) => pss_one (ps_expr (pos := q6) (act W pn xe q4 q5 tk) (hse A outer s H pn xe))
  have ret := ps_ret (pos := q11) (pe_var (X := (cxOf C8.CX0 P w K mg base Ng x sg g cdv A outer s H C8.E0).nox) (pos := q10) (i := 1) h1 hv1 hd1 hd2)
  refine .of (pss_cons (ps_set (i := 1) nd h1 hl (pe_lst pa_nil) (hsw A outer s H) (.inr hloc)) (pss_cons (ps_try_as (i := 2) (c := .ref (ct cc)) rfl rfl nd h2 (hln A outer s H) (hc A outer s H) LamX.takes0
    (tb := fun (W : WX) (D : Ends) (σ : St) (H : Hp) => σ[0]? = some (some (V.ref f)) ∧ H ce = some (LamX.CodeO ce q) ∧ ∃ E : XK, (∀ cls d H', E cls d H' → W cls d σ H') ∧ tb E H (fun v H' => D.nx σ H'))
    (ts := fun ae cls d D σ H => ∃ c m S G, cls = .ref (ct c) ∧ d = none ∧ cs.lookup c = some true ∧ Rel ct m S H ∧ EnvR H m S.length σ G ∧ PostS ct (fun _ _ _ _ => False) m S.length H D (h c ae G S))
    (fun W pn xe tk _ => ⟨fun pins s σ H D I hq => (body W pn xe tk).run pins s σ H D I hq⟩)
    (fun ae oe cls d pn hz hv => ⟨fun pins s1 σ H1 D I ⟨c, m, S, G, e1, e2, e3, r, en, p⟩ => by
      subst e1 e2
      exact (hh A outer s H c e3 ae oe pn hz hv).run σ H1 m S G D r en p pins s1 I⟩)) (pss_one ret))) ?_
  refine ⟨Nat.zero_le _, fun p hp0 => ?_⟩
  have eN : start Ng [V.ref f] = [some (.ref f), none, none] := by
    unfold start
    simp [l3]
  have r2 : Rel ct m S (upd H p (.lst [])) := r.new hp0
  have st2 : Step m S.length H m S.length (upd H p (.lst [])) := Step.new hp0
  have pl : Rp (upd H p (.lst [])) m S.length (.ref p) (.lst []) := rp_newL r hp0 .nil
  have co2 : upd H p (.lst []) ce = some (LamX.CodeO ce q) := st2.kp _ _ hco hnc.1
  show _ ∧ _ ∧ _
  rw [eN]
  refine ⟨rfl, co2, fun cls d H' => ∃ c S1 m1, fb G S = .xc c S1 ∧ cls = .ref (ct c) ∧ d = none ∧ Rel ct m1 S1 H' ∧ Step m S.length (upd H p (.lst [])) m1 S1.length H', fun cls d H' hE => ?_, htb _ _ _ m S r2 (en.mono st2) ?_⟩
  · obtain ⟨c, S1, m1, e, rfl, rfl, r3, st3⟩ := hE
    rw [e] at hpost
    unfold kindsR at hpost
    dsimp only at hpost
    cases hl2 : cs.lookup c with
    | none =>
      rw [hl2] at hpost
      exact hpost.elim
    | some b =>
      cases b with
      | false =>
        rw [hl2] at hpost
        exact hpost.elim
      | true =>
        rw [hl2] at hpost
        dsimp only at hpost
        refine ⟨true, hcs c true hl2, fun _ ae na => ⟨c, m1, S1, [none, some (.lst []), some (.exn ae)], rfl, rfl, hl2, r3, ⟨rfl, fun i d hd => ?_⟩, ?_⟩, fun z => (nomatch z)⟩
        · match i, hd with
          | 0, hd => cases hd
          | 1, hd =>
            cases hd
            exact ⟨.ref p, rfl, Rp.mono st3 _ _ pl⟩
          | 2, hd =>
            cases hd
            exact ⟨.ref ae, rfl, .exn ae⟩
          | i + 3, hd => simp at hd
        · obtain ⟨e1, _⟩ := hp c hl2 ae [none, some (.lst []), none] S1
          have e1 : h c ae [none, some (.lst []), some (.exn ae)] S1 = relab 2 ae (h c 0 [none, some (.lst []), some (.exn 0)] S1) := e1
          rw [e1]
          cases ho : h c 0 [none, some (.lst []), some (.exn 0)] S1 with
          | nx G2 S2 =>
            rw [ho] at hpost
            dsimp only at hpost
            intro σ2 m2 H2 r4 st4 en4
            cases hg : G2[1]? with
            | none =>
              rw [hg] at hpost
              exact hpost.elim
            | some od =>
              cases od with
              | none =>
                rw [hg] at hpost
                exact hpost.elim
              | some dd =>
                rw [hg] at hpost
                obtain ⟨v, v1, v2⟩ := en4.at_ 1 dd (by rw [List.getElem?_set_ne (by decide)]; exact hg)
                exact ⟨v, by rw [List.getElem?_set_ne (by decide)]; exact v1, hpost v m2 H2 r4 ((st2.trans st3).trans st4) v2⟩
          | rt d S2 => rw [ho] at hpost; exact hpost.elim
          | bk G2 S2 => rw [ho] at hpost; exact hpost.elim
          | ct G2 S2 => rw [ho] at hpost; exact hpost.elim
          | xc c2 G2 S2 => rw [ho] at hpost; exact hpost.elim
          | stuck => rw [ho] at hpost; exact hpost.elim
  · cases e : fb G S with
    | ok d S1 =>
      rw [e] at hpost
      intro v m1 H' r3 st3 p3
      exact ⟨.ref p, rfl, hpost (.ref p) m1 H' r3 (st2.trans st3) (Rp.mono st3 _ _ pl)⟩
    | xc c S1 => exact fun m1 H' r3 st3 => ⟨c, S1, m1, rfl, rfl, rfl, r3, st3⟩
    | stuck =>
      rw [e] at hpost
      exact hpost.elim
/-- isinstance(e, T), e held, T a class of the language -/
theorem snd_isXT {X : Cx} {W : WX} {e : Expr} {f : Ev} {T y : String} {a : Addr} {oe : Obj} {pn : List (Addr × Obj)} {c : Nat} {subs : List (Nat × Bool)} {p p2 pos : Pos} (hx : SndE ct (X.suite a ((a, oe) :: pn)) W e f) (hz : Zc (.ref (ct c)) none oe) (hv : ∃ vs, oe.data = .fields vs)
    (hsub : ∀ b, subs.lookup c = some b → ExcC X.K (ct c) ∧ PySem.W.kitOne X.K (.ref (ct c)) (.type T) = some b) (hg : Gl X "isinstance") (hm : X.mg "isinstance" = none)
    (hg2 : Gl X y) (hm2 : X.mg y = none) (hv2 : bootBuiltins y = some (.type T)) (hn2 : (y : Str) ≠ "__name__" := by decide) (hd2 : ((y : Str) == ("__debug__" : Str)) = false := by decide) (he1 : starEach [e, .Name y p2] X.env = (false, eval e X.env) :: starEach [.Name y p2] X.env := by rfl)
    (he2 : starEach [.Name y p2] X.env = (false, eval (.Name y p2) X.env) :: starEach [] X.env := by rfl) (hpl : (backTo pos (starEach [.Name y p2] X.env)).any (·.1) = false := by rfl) :
    SndE ct (X.suite a ((a, oe) :: pn)) W (.Call (.Name "isinstance" p) [e, .Name y p2] [] pos) (eOp1 (opIsX a (subs.lookup c)) f) := by
  refine ⟨?_⟩
  intro σ H m S G Q r en h
  have pa : PA (X.suite a ((a, oe) :: pn)) [e, .Name y p2] (tCons (EvW (X.suite a ((a, oe) :: pn)) e) (tCons (tC (.ty T)) tNil)) := pa_cons pe_w (pa_cons (pe_bltn (v := .ty T) hg2 hm2 hv2 rfl hn2 hd2) pa_nil he2) he1
  cases hb : subs.lookup c with
  | none =>
    rw [hb] at h
    refine .of (pe_callB call_isi hg hm boot_isinstance pa (by decide) (by decide) he1 hpl) ((hx.bind r en h).mono fun v H1 ⟨d, m1, S1, r1, st1, p1, en1, h1⟩ => ?_)
    unfold opIsX at h1
    split at h1
    · split at h1 <;> exact h1.elim
    · exact h1.elim
  | some b =>
    rw [hb] at h
    obtain ⟨i1, i2⟩ := hsub b hb
    refine .of (pe_callB (call_isE (X := X) (pn := pn) i1 hz hv) hg hm boot_isinstance pa (by decide) (by decide) he1 hpl) ((hx.bind r en h).mono fun v H1 ⟨d, m1, S1, r1, st1, p1, en1, h1⟩ => ?_)
    unfold opIsX at h1
    split at h1
    · split at h1
      · rename_i ea
        subst ea
        cases p1
        exact ⟨.ty T, .type T, b, rfl, fun u hu => hu, i2, h1.now r1 (.bl _)⟩
      · exact h1.elim
    · exact h1.elim
end
end L2.VE
/-! VE22: defs that hold lambdas, the law's end with tables. -/
namespace L2.VE
open PySem PySem.Spec PyProof.Rows
theorem def_okT {P : Program} {w : World} {K : PySem.W.Frag} {mg : Str → Option Value} {base : Heap} {ct : Nat → Addr} {x qual : Str} {st : Stmt} {f cc : Addr} {fd : FuncData} {Ns ps : List Str} {k : Nat} {B : Blk} (F : Fun K x qual st f fd) (hcc : fd.code = .ref cc) (Sc : FnScope Ns ps (defScope st))
    (hb : ∀ (A : Around) (outer : List Env) (s : Shared) (H : Hp) (E : XK), Room k (A.deeper (envOfC qual (defScope st) s.heap.objs.size f (.ref cc))) →
      SndB ct (bodyX P w K mg base Ns qual st f (.ref cc) A outer s H E) (fun cls d _ H => E cls d H) (defBody st) B) : FnOk P w K mg base (L2.CX P w) (k + 1) f fd ps (spOf ct ps.length (fnD Ns.length B)) := by
  obtain ⟨oc, od, kV, doc, pm, an, cdv, ctv, osl, rfl, lk, hcd⟩ := F.ex
  have e : cdv = .ref cc := hcc
  subst e
  refine fn_of lk hcd Sc (fun vs H Q E h => h.1) fun A outer s H vs Q E hr h => ?_
  obtain ⟨hl, m, S, ds, r, p, hp⟩ := h
  refine ⟨StsW (bodyX P w K mg base Ns qual st f (.ref cc) A outer s H E) (defBody st), pss_w, ?_⟩
  refine hb A outer s H E hr (start Ns vs) H m S (ds.map some ++ List.replicate (Ns.length - ds.length) none) _ r (EnvR.start p) ?_
  unfold fnD at hp
  cases e : B (ds.map some ++ List.replicate (Ns.length - ds.length) none) S with
  | nx G1 S1 =>
    rw [e] at hp
    exact fun σ' m' H' r' st' _ => hp .non m' H' r' st' .non
  | rt d S1 =>
    rw [e] at hp
    exact hp
  | xc c G1 S1 =>
    rw [e] at hp
    exact fun σ' m' H' r' st' _ => hp m' H' r' st'
  | bk G1 S1 => rw [e] at hp; exact hp.elim
  | ct G1 S1 => rw [e] at hp; exact hp.elim
  | stuck => rw [e] at hp; exact hp.elim
/-- the same, any promise -/
theorem okXT {P : Program} {w : World} {K : PySem.W.Frag} {mg : Str → Option Value} {base : Heap} {x qual : Str} {st : Stmt} {f cc : Addr} {fd : FuncData} {N ps : List Str} {k : Nat} {sp : Sp} (F : Fun K x qual st f fd) (hcc : fd.code = .ref cc) (Sc : FnScope N ps (defScope st)) (len : ∀ vs H Q E, sp vs H Q E → vs.length = ps.length)
    (hb : ∀ (A : Around) (outer : List Env) (s : Shared) (H : Hp) (vs : List V) (Q : VK) (E : XK), Room k (A.deeper (envOfC qual (defScope st) s.heap.objs.size f (.ref cc))) → sp vs H Q E →
      ∃ t, PSs (cxOf (L2.CX P w) P w K mg base N qual (defScope st) f (.ref cc) A outer s H E) (defBody st) t ∧ t { nx := fun _ H' => Q .non H', rt := Q } (start N vs) H) : FnOk P w K mg base (L2.CX P w) (k + 1) f fd ps sp := by
  obtain ⟨oc, od, kV, doc, pm, an, cdv, ctv, osl, rfl, lk, hcd⟩ := F.ex
  have e : cdv = .ref cc := hcc
  subst e
  exact fn_of lk hcd Sc len fun A outer s H vs Q E hr hsp => hb A outer s H vs Q E hr hsp
def XSubsT (K : PySem.W.Frag) (ct : Nat → Addr) (T : String) (subs : List (Nat × Bool)) : Prop := ∀ c b, subs.lookup c = some b → ExcC K (ct c) ∧ PySem.W.kitOne K (.ref (ct c)) (.type T) = some b
theorem xsubsT_nil {K : PySem.W.Frag} {ct : Nat → Addr} {T : String} : XSubsT K ct T [] := fun c b h => by cases h
theorem xsubsT_cons {K : PySem.W.Frag} {ct : Nat → Addr} {T : String} {c : Nat} {b : Bool} {l : List (Nat × Bool)} (h : ExcC K (ct c)) (k : PySem.W.kitOne K (.ref (ct c)) (.type T) = some b) (t : XSubsT K ct T l) : XSubsT K ct T ((c, b) :: l) := fun c' b' hl => by
  rw [List.lookup_cons] at hl
  by_cases e : c' = c
  · subst e
    simp at hl
    subst hl
    exact ⟨h, k⟩
  · rw [show (c' == c) = false from by simpa using e] at hl
    exact t c' b' hl
theorem kit_type {K : PySem.W.Frag} {C : Addr} {T : String} {b : Bool} (h1 : PySem.W.kitMeta T = true) (h2 : PySem.W.subIn K (.ref C) (.type T) = some b) : PySem.W.kitOne K (.ref C) (.type T) = some b := by
  unfold PySem.W.kitOne PySem.W.kitCls
  have n0 : (Value.ref C == Value.type T) = false := by first | rfl | simp
  rw [n0, if_neg Bool.false_ne_true]
  dsimp only
  rw [if_pos h1]
  exact h2
/-! ### the tables, empty -/
def tabsOf : Nat → List Str → Store
  | _, [] => []
  | j, q :: qs => .tab j q :: tabsOf (j + 1) qs
theorem tabsOf_len : ∀ (qs : List Str) (j : Nat), (tabsOf j qs).length = qs.length
  | [], _ => rfl
  | q :: qs, j => congrArg Nat.succ (tabsOf_len qs (j + 1))
theorem tabsOf_get : ∀ (qs : List Str) (j n : Nat) (c : Cell), (tabsOf j qs)[n]? = some c → ∃ q, c = .tab (j + n) q
  | [], _, _, _, h => by simp [tabsOf] at h
  | q :: qs, j, 0, c, h => by
    simp [tabsOf] at h
    exact ⟨q, h.symm⟩
  | q :: qs, j, n + 1, c, h => by
    rw [tabsOf, List.getElem?_cons_succ] at h
    obtain ⟨q', e⟩ := tabsOf_get qs (j + 1) n c h
    exact ⟨q', by rw [e]; congr 1; omega⟩
theorem rel_tabs {ct : Nat → Addr} {qs : List Str} {ps : List Addr} {H : Hp} (hl : ps.length = qs.length) (hc : ∀ i, i < ps.length → ps[i]? = some (ct (100 + i))) (nd : ps.Nodup) (hT : ∀ p ∈ ps, H p = some (.tbl #[])) : Rel ct ⟨fun n => ct (100 + n), []⟩ (tabsOf 0 qs) H := by
  refine ⟨fun i j hi hj e => ?_, fun n c e => ?_, fun a ha => by cases ha⟩
  · rw [tabsOf_len, ← hl] at hi hj
    have e1 := hc i hi
    have e2 := hc j hj
    have e3 : ct (100 + i) = ct (100 + j) := e
    rw [e3, ← e2] at e1
    rw [List.getElem?_eq_getElem hi, List.getElem?_eq_getElem hj] at e1
    exact (List.getElem_inj nd).mp (Option.some.inj e1)
  · have hn : n < (tabsOf 0 qs).length := (List.getElem?_eq_some_iff.mp e).1
    rw [tabsOf_len, ← hl] at hn
    obtain ⟨q, rfl⟩ := tabsOf_get qs 0 n c e
    rw [Nat.zero_add]
    refine ⟨rfl, #[], hT _ (List.mem_of_getElem? (hc n hn)), True.intro, fun pos cv z => ?_⟩
    have z : codeAmong pos [] = some cv := z
    simp [codeAmong] at z
theorem env_lawT {ct : Nat → Addr} {m : Mp} {S : Store} {H : Hp} {a p : Addr} {ns : List Int} {Ns : List Str} (r : Rel ct m S H) (hp : H p = none) :
    EnvR (upd H p (.lst (ns.map V.int))) m S.length ((start Ns [.ref a]).set 0 (some (.ref p))) ([D.lst (ns.map D.int)].map some ++ List.replicate (Ns.length - 1) none) := by
  have e : (start Ns [V.ref a]).set 0 (some (.ref p)) = start Ns [V.ref p] := by
    unfold L2.start
    simp
  rw [e]
  exact EnvR.start (.cons (rp_newL r hp RpL.of_ints) .nil)
def spLawT (K : PySem.W.Frag) (tps : List Addr) : Sp := fun vs H Q _ => ∃ (a : Addr) (ns : List Int), vs = [.ref a] ∧ SqL K H a (ns.map V.int) ∧ ns.length ≤ 63 ∧ (∀ z ∈ ns, Builtin.Int.intBits z ≤ 1048576) ∧ (∀ p ∈ tps, H p = some (.tbl #[])) ∧ ∀ H', Q (.bl true) H'
/-- what the top tells of tables -/
def TabsTop (q : Program) (K : PySem.W.Frag) (h : Heap) : Prop := ∀ (x : Str) (d : DefRec) (c P : Addr), (recsOf q).find? (fun e => e.name == x) = some d → PySem.W.tabIn K x = some (c, P) → PySem.W.CodeHd h c P ∧ h.get? P = some { cls := .none, data := .fields #[] }
theorem walk_tabs {l : PySem.W.OpenLaw} {n k : Nat} {q : Program} {loose : List Str} {XP : (Str → Option Value) → Heap → Prop} {YP : World → Heap → Prop} {d : DefRec} {K : Params → PySem.W.Frag} {CX : World → CXT} {x : Str} (hn : l.most = some n) (hn2 : n ≤ sizeLine) (hdf : d.params.defaults = []) (hr : Room k callerA) (hY : ∀ (w : World) (h : Heap), YP w h → (K w.params).In h)
    (F : ∀ (w : World) (mg : Str → Option Value) (fa : Addr) (h : Heap), (K w.params).In h → h.Ns mainGlobals mg → mg d.name = some (.ref fa) → TabsTop q (K w.params) h → LamX.LawAtS l w (K w.params) (CX w) k n x mg fa h)
    (hCX : ∀ (w : World) (H : Hp) (s : Shared) (e : Value) (s' : Shared), CX w [] H s (fun _ _ _ => False) e s' → False) : PySem.W.WalkO q loose XP YP l.row.toRowW d [] (fun f vs => PySem.call f vs) := by
  refine Att.attach_callB hn hdf fun w sA sB mg mb fa o pm cd doc a vs ns G Y ho hd hcd hmg hobj hints hlen hbits hg => ?_
  have KI := hY w _ Y
  obtain ⟨fd, cs, sp, tT, tN, tC, tB, tS, tF⟩ := F w mg fa _ KI G.T.g hmg (fun x d' c P h1 h2 => PySem.W.tab_of G.T KI h1 h2)
  exact LamX.law_callTs KI G.T.g G.T.b G.T.builtins G.T.nolimit hg tT tN tC G.T.bmain hobj hints (Nat.le_trans hlen hn2) hr tF tB (fun H hH hS => tS H a ns hlen hbits hH hS) fun H e s' => hCX w H sB e s'
end L2.VE
/-! VE23: the empty dict displayed. -/
namespace L2.VE
open PySem PySem.Spec PyProof.Rows
section
variable {ct : Nat → Addr} {X : Cx} {W : WX} {pos : Pos}
def eDic0 : Ev := fun _ S => .ok (.ref S.length) (S ++ [.dic []])
theorem snd_dic0 : SndE ct X W (.Dict [] [] pos) eDic0 := by
  refine ⟨?_⟩
  intro σ H m S G Q r en h
  refine .of pe_dnewK fun p hp => ?_
  have k : ∀ a o, H a = some o → upd H p (.dK []) a = some o := fun a u e => by rw [upd_ne (ne_of_none e hp)]; exact e
  have st : Step m S.length H (ext m S.length p) (S.length + 1) (upd H p (.dK [])) := Step.cell hp k
  have len : (S ++ [Cell.dic []]).length = S.length + 1 := by simp
  have h2 : ∀ (v : V) (m' : Mp) (H' : Hp), Rel ct m' (S ++ [Cell.dic []]) H' → Step m S.length H m' (S ++ [Cell.dic []]).length H' → Rp H' m' (S ++ [Cell.dic []]).length v (.ref S.length) → Q v H' := h
  rw [len] at h2
  refine h2 _ (ext m S.length p) _ (r.cellNew hp k ⟨[], upd_same, .nil⟩) st ?_
  have e : V.ref p = V.ref (ext m S.length p S.length) := by rw [ext_eq]
  rw [e]
  exact .ref (Nat.lt_succ_self _)
end
end L2.VE
/-! VE24: behind a loop's turn all cells but the tables are forgotten. -/
namespace L2.VE
open PySem PySem.Spec PyProof.Rows
def isTab : Cell → Bool
  | .tab _ _ => true
  | .lst xs => noRefs xs
  | _ => false
def bCutT (L : List Nat) (u : Blk) : Blk := fun G S => match u G S with
  | .nx G2 S2 => if (S2.take S.length).all isTab = true then .nx (cutG L G2) (S2.take S.length) else .stuck
  | o => o
section
variable {H : Hp} {m : Mp} {N N' : Nat}
theorem NoC.less {a : Addr} (h : NoC m N a) (hl : N' ≤ N) : NoC m N' a := ⟨fun n hn => h.1 n (Nat.lt_of_lt_of_le hn hl), h.2⟩
mutual
theorem Rp.less (hl : N' ≤ N) : ∀ (d : D) (v : V), noRef d = true → Rp H m N v d → Rp H m N' v d
  | .non, _, _, .non => .non
  | .bl _, _, _, .bl _ => .bl _
  | .int _, _, _, .int _ => .int _
  | .str _, _, _, .str _ => .str _
  | .lst ds, _, h, .lst h1 q r => .lst h1 (q.less hl) (RpL.less hl ds _ (by simpa [noRef] using h) r)
  | .tup ds, _, h, .tup h1 q r => .tup h1 (q.less hl) (RpL.less hl ds _ (by simpa [noRef] using h) r)
  | .exn a, _, _, .exn _ => .exn a
  | .fn _, _, _, .fn e h1 q1 h2 q2 => .fn e h1 (q1.less hl) h2 (q2.less hl)
  | .ref n, _, h, .ref _ => by simp [noRef] at h
theorem RpL.less (hl : N' ≤ N) : ∀ (ds : List D) (vs : List V), noRefs ds = true → RpL H m N vs ds → RpL H m N' vs ds
  | [], _, _, .nil => .nil
  | d :: ds, _, h, .cons p r => by
    rw [noRefs, Bool.and_eq_true] at h
    exact .cons (Rp.less hl d _ h.1 p) (RpL.less hl ds _ h.2 r)
end
theorem EnvR.less {σ : St} {G : Gm} (hl : N' ≤ N) (L : List Nat) (e : EnvR H m N σ G) : EnvR H m N' σ (cutG L G) := by
  refine ⟨by unfold cutG; rw [List.length_map, List.length_range]; exact e.len, fun i d h => ?_⟩
  unfold cutG at h
  rw [List.getElem?_map] at h
  cases hr : (List.range G.length)[i]? with
  | none =>
    rw [hr] at h
    cases h
  | some j =>
    rw [hr] at h
    have hi : i < G.length := by
      have := (List.getElem?_eq_some_iff.mp hr).1
      simpa using this
    rw [List.getElem?_range hi] at hr
    cases hr
    simp only [Option.map_some, Option.some.injEq] at h
    split at h
    · split at h
      · rename_i d' e1
        split at h
        · rename_i hn
          cases h
          obtain ⟨v, a, b⟩ := e.at_ i _ e1
          exact ⟨v, a, Rp.less hl _ _ hn b⟩
        · cases h
      · cases h
    · cases h
end
theorem sb_cutT {ct : Nat → Addr} {X : Cx} {W : WX} {st : List Stmt} {u : Blk} (L : List Nat) (h : SndB ct X W st u) : SndB ct X W st (bCutT L u) := ⟨fun σ H m S G Z r en hq => by
  refine h.run σ H m S G Z r en ?_
  unfold bCutT at hq
  cases hu : u G S with
  | nx G2 S2 =>
    rw [hu] at hq
    dsimp only at hq
    split at hq
    · rename_i ha
      intro σ' m' H' r' st' en'
      have l1 : (S2.take S.length).length = S.length := by
        rw [List.length_take, Nat.min_eq_left st'.le]
      have hq' : ∀ σ' m' H', Rel ct m' (S2.take S.length) H' → Step m S.length H m' (S2.take S.length).length H' → EnvR H' m' (S2.take S.length).length σ' (cutG L G2) → Z.nx σ' H' := hq
      rw [l1] at hq'
      refine hq' σ' m' H' ⟨fun i j hi hj e => ?_, fun n c e => ?_, fun a ha2 => ?_⟩ ⟨Nat.le_refl _, st'.ag, st'.fq1, st'.fq2, fun n h1 h2 => absurd (Nat.lt_of_lt_of_le h2 h1) (Nat.lt_irrefl _), st'.kp, st'.th, st'.fz⟩ (en'.less st'.le L)
      · rw [l1] at hi hj
        exact r'.inj i j (Nat.lt_of_lt_of_le hi st'.le) (Nat.lt_of_lt_of_le hj st'.le) e
      · rw [l1]
        have hn : n < (S2.take S.length).length := (List.getElem?_eq_some_iff.mp e).1
        have tc : isTab c = true := List.all_eq_true.mp ha c (List.mem_of_getElem? e)
        rw [l1] at hn
        rw [List.getElem?_take_of_lt hn] at e
        have q := r'.cell n c e
        cases c with
        | tab j t =>
          obtain ⟨e1, ps, e2, e3, e4⟩ := q
          exact ⟨e1, ps, e2, e3, fun pos cv hc => let ⟨c, a1, a2, a3⟩ := e4 pos cv hc; ⟨c, a1, a2, a3.less st'.le⟩⟩
        | lst xs =>
          obtain ⟨vs, e1, e2⟩ := q
          exact ⟨vs, e1, RpL.less st'.le _ _ tc e2⟩
        | _ => cases tc
      · obtain ⟨q1, q2⟩ := r'.flo a ha2
        rw [l1]
        exact ⟨q1, fun n hn => q2 n (Nat.lt_of_lt_of_le hn st'.le)⟩
    · exact hq.elim
  | rt d S2 => rw [hu] at hq; exact hq
  | bk G2 S2 => rw [hu] at hq; exact hq
  | ct G2 S2 => rw [hu] at hq; exact hq
  | xc c G2 S2 => rw [hu] at hq; exact hq
  | stuck => rw [hu] at hq; exact hq⟩
end L2.VE
/-! VE25: lambdas made and called; tuple(xs); sorted, the list changed later. -/
namespace L2.VE
open PySem PySem.Spec PyProof.Rows
/-- a lambda made: j the maker's table -/
def eLam (j : Nat) (q : Str) (id : Nat) : Ev := fun _ S => match S[j]? with
  | some (.tab j' q') => if j' = j ∧ q' = q then .ok (.fn id) S else .stuck
  | _ => .stuck
def eApp (apps : List (Nat × OpN)) (fo : Ev) (g : Av) : Ev := fun G S => (fo G S).bind fun d S1 => match d with
  | .fn id => match apps.lookup id with
    | some F => (g G S1).bind fun ds S2 => F ds S2
    | none => .stuck
  | _ => .stuck
def lamD (n : Nat) (fb : Ev) : OpN := fun ds S => fb (ds.map some ++ List.replicate (n - ds.length) none) S
section
variable {ct : Nat → Addr} {X : Cx} {pins : List (Addr × Obj)} {σ : St} {H : Hp} {s : Shared} {m : Mp} {S : Store} {j : Nat} {q : Str} {W : WX}
/-- the function's object is known from now on -/
theorem inv_lam {c : Addr} {L : LamI} {o : Obj} {t' : Nat} {pm ctv : Value} (I : Inv X pins σ H s) (ho : o = PySem.W.kla_obj "<lambda>" L.qual L.params L.body L.scope [] pm c ctv) :
    Inv X pins σ (upd H s.heap.objs.size (LamO s.heap.objs.size c L)) { s with heap := s.heap.push o, toks := t' } := by
  subst ho
  have e := Heap.get?_push_size s.heap (o := PySem.W.kla_obj "<lambda>" L.qual L.params L.body L.scope [] pm c ctv) rfl
  exact I.laid (a := s.heap.objs.size) (fun b u e => Heap.get?_push_of_some _ e) (Nat.le_refl _) ⟨⟨pm, ctv, e⟩, ⟨_, e⟩, fun h1 h2 ⟨p, t, z⟩ st => ⟨p, t, st _ z⟩⟩
theorem snd_lamM {id : Nat} {c : Addr} {params : Arguments} {body : Expr} {scope : Scope} {pos : Pos} (TB : LamX.TabB X.base X.mg c (ct (100 + j))) (hcode : X.env.code = .ref c) (hq : X.env.qual ++ "<lambda>" = q) (hL : lamT id = some ⟨params, body, scope, q⟩) (hdef : defaultsOf params X.env = ([], []))
    (hcl : ∀ cells, cloFrom cells scope.names [] = []) (hfree : ∀ y ∈ scope.names, y.2 ≠ .free) : SndE ct X W (.Lambda params body scope pos) (eLam j q id) := by
  refine ⟨?_⟩
  intro σ H m S G Q r en hp
  unfold eLam at hp
  split at hp
  · rename_i j' q' hS
    split at hp
    · rename_i hj
      obtain ⟨rfl, rfl⟩ := hj
      subst hq
      intro pins s I
      obtain ⟨ej, ps, h1, h2, h3⟩ := r.cell j' _ hS
      rw [ej] at h1
      have B1 : s.heap.BuiltinsAt X.mg (ct (100 + j')) := TB.bm.keeps I.bk
      have C1 := TB.code.keeps I.bk
      have T1 : s.heap.get? (ct (100 + j')) = some { cls := .none, data := .fields ps } := I.hok _ _ h1
      have G1 := I.mod.glob.keeps I.bk
      have hfr : ∀ y ∈ scope.names, y.2 = .free → ∃ c, X.env.cells.lookup y.1 = some c := fun y hy e => absurd e (hfree y hy)
      have hcl := hcl X.env.cells
      have fin : ∀ (f c' : Addr) (H1 : Hp) (s' : Shared), Inv X pins σ (upd H1 f (LamO f c' ⟨params, body, scope, X.env.qual ++ "<lambda>"⟩)) s' → Rel ct m S H1 → Step m S.length H m S.length H1 → H1 f = none → H1 c' = some (LamX.CodeO c' (X.env.qual ++ "<lambda>")) → NoC m S.length c' → EP X pins σ Q (.ref f) s' := fun f c' H1 s' I2 r1 st1 hf hc hn => by
        refine ⟨.ref f, _, I2, rfl, ?_⟩
        exact hp (.ref f) m _ (r1.new hf) (st1.trans (Step.new hf)) (.fn hL upd_same (r1.noC hf) (by rw [upd_ne (ne_of_none hc hf)]; exact hc) hn)
      refine (PySem.W.kla_eval hdef ?_)
      cases hA : codeAmong pos ps.toList with
      | some cv =>
        obtain ⟨c', e, hco, hno⟩ := h3 pos cv hA
        subst e
        refine PySem.W.kla_makeFunctionHit (closure_ok hfr) I.ok.glob G1 hcode C1 T1 h2 hA B1 fun cw h' tk hx hsz => ?_
        have J1 : Inv X pins σ H { s with heap := h', toks := tk } := I.kept hx
        have nFr : H h'.objs.size = none := J1.hok.fresh (Nat.le_refl _)
        exact fin _ c' H _ (inv_lam (L := ⟨params, body, scope, X.env.qual ++ "<lambda>"⟩) (t' := tk) (ctv := cw) (pm := (X.mg "__name__").getD .none) J1 (by rw [hcl])) r Step.refl nFr hco hno
      | none =>
        refine PySem.W.kla_makeFunction (closure_ok hfr) I.ok.glob G1 hcode C1 T1 h2 hA TB.gP B1 fun c' cw h' tk hx hge hlt hrec htb => ?_
        obtain ⟨_, oc, vs, t, e2, hoc, hd, hv⟩ := hrec
        cases e2
        have nCode : H c' = none := I.hok.fresh hge
        obtain ⟨k1, k2, k3⟩ := r.code hS h1 nCode pos h2
        have I1 := LamX.inv_table (t' := tk) (more := #[rawInt pos.line, rawInt pos.col, .ref c']) (h' := h') I h1 (fun b o n e => hx b o n e) htb hge ⟨oc, vs, t, hoc, hd, hv⟩
        have nNew := I1.hok.fresh (Nat.le_refl _)
        exact fin _ c' _ _ (inv_lam (L := ⟨params, body, scope, X.env.qual ++ "<lambda>"⟩) (t' := tk) (ctv := cw) (pm := (X.mg "__name__").getD .none) I1 (by rw [hcl])) k1 k2 nNew upd_same k3
    · exact hp.elim
  · exact hp.elim
end
/-- the id-th lambda, called, is worth what F tells -/
structure LamAt (P : Program) (w : World) (K : PySem.W.Frag) (mg : Str → Option Value) (base : Heap) (ct : Nat → Addr) (id k n : Nat) (F : OpN) : Prop where
  run : ∀ (f c : Addr) (L : LamI) (A : Around) (outer : List Env) (s : Shared) (H : Hp) (us : List Value) (vs : List V) (Q : VK) (E : XK) (m : Mp) (S : Store) (ds : List D), lamT id = some L → Room k A → Env0 P w K mg base A outer s H → H f = some (LamO f c L) → H c = some (LamX.CodeO c L.qual) →
    Vals vs us → vs.length = n → Rel ct m S H → RpL H m S.length vs ds → PostE ct (fun cls d _ H => E cls d H) [] m S.length H Q (F ds S) → codeAny (model P w) A (.call (.ref f) ⟨us, []⟩) (CR (L2.CX P w) outer P w H s Q E) s
section
variable {P : Program} {w : World} {K : PySem.W.Frag} {mg : Str → Option Value} {base : Heap} {ct : Nat → Addr}
theorem LamAt.up {id k k' n : Nat} {F : OpN} (h : LamAt P w K mg base ct id k n F) (hk : k ≤ k') : LamAt P w K mg base ct id k' n F :=
  ⟨fun f c L A outer s H us vs Q E m S ds e hr => h.run f c L A outer s H us vs Q E m S ds e (hr.mono hk)⟩
theorem lam_at {id k : Nat} {N ps : List Str} {params : Arguments} {body : Expr} {scope : Scope} {qual : Str} {fb : Ev} (hL : lamT id = some ⟨params, body, scope, qual⟩) (Sc : NdefX.NScope N ps [] scope)
    (hb : ∀ (pm ctv : Value) (c : Addr) (us : List Value), us.length = ps.length → bindArgs (PySem.W.kla_fn "<lambda>" qual params body scope [] pm (.ref c) ctv) ⟨us, []⟩ = pure (ps.zip us))
    (hbody : ∀ (A : Around) (outer : List Env) (s : Shared) (H : Hp) (E : XK) (f c : Addr), Room k (A.deeper (NdefX.envF ⟨"<lambda>", qual, params, [], scope, [], c⟩ f s.heap.objs.size)) →
      SndE ct (NdefX.ncx (L2.CX P w) P w K mg base N ⟨"<lambda>", qual, params, [], scope, [], c⟩ f A outer s H E) (fun cls d _ H => E cls d H) body fb) : LamAt P w K mg base ct id (k + 1) ps.length (lamD N.length fb) := by
  refine ⟨fun f c L A outer s H us vs Q E m S ds e hr e0 hf hc rv hl r p hq => ?_⟩
  rw [hL] at e
  cases e
  have lim0 : s.heap.NoLimit := e0.mod.nolimit.keeps fun b o e => (e0.bs b o e).1
  obtain ⟨⟨pm, ctv, ho⟩, _, _⟩ := e0.hok f _ hf
  obtain ⟨⟨oc, vc, t, g1, g2, g3⟩, _, _⟩ := e0.hok c _ hc
  refine PySem.W.kla_callFunE hr.depth ho rfl Sc.co Sc.gen rfl ⟨c, oc, vc, t, rfl, g1, g2, g3⟩ ?_
  rw [hb pm ctv c us (by rw [← rv.length]; exact hl)]
  refine wpAny_pure (wpAny_newFunctionEnv Sc.nocell (fun ⟨n, _⟩ hy => Sc.par n (List.of_mem_zip hy).1) (fun hh hns hsm => ⟨lim0.fresh _ hsm, ?_⟩) Sc.kind)
  show codeAny _ _ (.expr body (NdefX.envF ⟨"<lambda>", qual, params, [], scope, [], c⟩ f s.heap.objs.size)) _ _
  have keep : ∀ b o, s.heap.get? b = some o → hh.get? b = some o := fun b o e => hsm.extBut b o (Nat.ne_of_lt (Heap.lt_size e)) (Heap.get?_push_of_some _ e)
  have I : Inv (NdefX.ncx (L2.CX P w) P w K mg base N ⟨"<lambda>", qual, params, [], scope, [], c⟩ f A outer s H E) [] (NdefX.startF N vs []) H { s with heap := hh, toks := s.toks + (ps.zip us).length } :=
    NdefX.inv_startN (F := ⟨"<lambda>", qual, params, [], scope, [], c⟩) Sc hr.hd e0 hl rv ⟨rfl, fun y c e => (by cases e), fun x y c e => (by cases e), fun i y e => (by simp at e)⟩ hns keep
  have eS : NdefX.startF N vs [] = start N vs := by
    unfold NdefX.startF L2.start
    simp
  rw [eS] at I
  have q2 : PostE ct (fun cls d _ H => E cls d H) (start N vs) m S.length H Q (fb (ds.map some ++ List.replicate (N.length - ds.length) none) S) := by
    unfold lamD at hq
    cases e : fb (ds.map some ++ List.replicate (N.length - ds.length) none) S with
    | ok d S2 => rw [e] at hq; exact hq
    | xc c2 S2 => rw [e] at hq; exact hq
    | stuck => rw [e] at hq; exact hq
  exact PySem.W.kla_codeExpr (wpAny_mono ((hbody A outer s H E f c (hr.deeper _)).run (start N vs) H m S _ Q r (EnvR.start p) q2 [] _ I) (fun v s' ⟨w', H', J, rv, q⟩ => ⟨w', H', J.os, J.bare, J.base, J.hok, rv, q⟩) fun e s' hq => hq)
theorem lam_atL {id k : Nat} {N ps : List Str} {L : LamI} {fb : Ev} (hL : lamT id = some L) (Sc : NdefX.NScope N ps [] L.scope)
    (hb : ∀ (pm ctv : Value) (c : Addr) (us : List Value), us.length = ps.length → bindArgs (PySem.W.kla_fn "<lambda>" L.qual L.params L.body L.scope [] pm (.ref c) ctv) ⟨us, []⟩ = pure (ps.zip us))
    (hbody : ∀ (A : Around) (outer : List Env) (s : Shared) (H : Hp) (E : XK) (f c : Addr), Room k (A.deeper (NdefX.envF ⟨"<lambda>", L.qual, L.params, [], L.scope, [], c⟩ f s.heap.objs.size)) →
      SndE ct (NdefX.ncx (L2.CX P w) P w K mg base N ⟨"<lambda>", L.qual, L.params, [], L.scope, [], c⟩ f A outer s H E) (fun cls d _ H => E cls d H) L.body fb) : LamAt P w K mg base ct id (k + 1) ps.length (lamD N.length fb) := by
  obtain ⟨params, body, scope, qual⟩ := L
  exact lam_at hL Sc hb hbody
end
section
variable {ct : Nat → Addr} {X : Cx} {W : WX}
def Lams (P : Program) (w : World) (K : PySem.W.Frag) (mg : Str → Option Value) (base : Heap) (ct : Nat → Addr) (k n : Nat) (apps : List (Nat × OpN)) : Prop := ∀ id F, apps.lookup id = some F → LamAt P w K mg base ct id k n F
theorem lams_nil {P : Program} {w : World} {K : PySem.W.Frag} {mg : Str → Option Value} {base : Heap} {k n : Nat} : Lams P w K mg base ct k n [] := fun id F h => by cases h
theorem lams_cons {P : Program} {w : World} {K : PySem.W.Frag} {mg : Str → Option Value} {base : Heap} {k n id : Nat} {F : OpN} {l : List (Nat × OpN)} (h : LamAt P w K mg base ct id k n F) (t : Lams P w K mg base ct k n l) : Lams P w K mg base ct k n ((id, F) :: l) := fun i G hl => by
  rw [List.lookup_cons] at hl
  by_cases e : i = id
  · subst e
    simp at hl
    subst hl
    exact h
  · rw [show (i == id) = false from by simpa using e] at hl
    exact t i G hl
theorem snd_app {apps : List (Nat × OpN)} {k n j i : Nat} {x : Str} {e : Expr} {es : List Expr} {g : Av} {p pos : Pos} (hA : Lams X.prog X.w X.K X.mg X.base ct k n apps) (tk : Takes X W) (hr : Room j X.A) (hk : k ≤ j) (hN : X.N[i]? = some x) (hv : Vis X.env.scope x) (ha : SndA ct X W (e :: es) g) (hn : (e :: es).length = n)
    (hd : (x == ("__debug__" : Str)) = false := by decide) (hcd : (x == ("__classdict__" : Str)) = false := by decide) (he : starEach (e :: es) X.env = (false, eval e X.env) :: starEach es X.env := by rfl) (hpl : (backTo pos (starEach es X.env)).any (·.1) = false := by rfl) :
    SndE ct X W (.Call (.Name x p) (e :: es) [] pos) (eApp apps (eVar i) g) := by
  refine ⟨?_⟩
  intro σ H m S G Q r en hp
  unfold eApp eVar at hp
  split at hp
  · rename_i d hG
    rw [ER.bind_ok] at hp
    split at hp
    · rename_i id
      split at hp
      · rename_i F hF
        obtain ⟨v, hv1, hv2⟩ := en.at_ i _ hG
        cases hv2 with
        | @fn f c _ L e1 h1 n1 h2 n2 =>
          intro pins s I
          have look := (pe_var (X := X) (pos := p) (i := i) hN hv hd hcd).run pins s σ H (fun v H1 => v = .ref f ∧ H1 = H) I ⟨.ref f, hv1, rfl, rfl⟩
          refine (wpAny_Call_Name_kw (thn look fun u s1 ⟨v, H1, I1, r1, ev, eH⟩ => ?_))
          subst ev
          subst eH
          cases (show u = Value.ref f from r1)
          have fnA : ∀ {pins : List (Addr × Obj)} {σ : St} {H : Hp} {s : Shared}, Inv X pins σ H s → H f = some (LamO f c L) → PySem.W.FnAt f s.heap := fun I h => by
            obtain ⟨⟨pm, cw, ho⟩, _, _⟩ := I.hok f _ h
            exact ⟨_, _, _, _, ho⟩
          refine PySem.W.callWith_F (first := []) (fnA I1 h1) (thn (ha σ H1 m S G Q _ r en hp pos pins s1 I1) fun us s2 ⟨vs, H2, I2, rv, ds, m2, S2, r2, st2, p2, en2, h3, z2⟩ => ⟨fnA I2 (st2.kp _ _ h1 n1.1), ?_⟩) he hpl
          show wpAny _ _ (call (Value.ref f) us) _ _ _
          have hc2 := st2.kp _ _ h2 n2.1
          have hlen : vs.length = n := by rw [p2.length, z2]; exact hn
          refine wpAny_call (codeAny_mono ((hA id F hF).run f c L X.A X.stack s2 H2 us vs Q (WE W σ) m2 S2 ds e1 (hr.mono hk) I2.env0 (st2.kp _ _ h1 n1.1) hc2 rv hlen r2 p2 h3.toF) fun r s' hq => ?_)
          cases r with
          | error e => exact tk e s' (XE.of_call I2 (fun cls d H' h => h) hq)
          | ok fl =>
            cases fl with
            | ret u => exact I2.after hq
            | next => exact (show False from hq).elim
            | brk => exact (show False from hq).elim
            | cont => exact (show False from hq).elim
      · exact hp.elim
    · exact hp.elim
  · exact hp.elim
/-! ### tuple(xs), sorted -/
def bTuple : OpN := fun ds S => match ds with
  | [d] => match lsOf S d with
    | some xs => .ok (.tup xs) S
    | none => .stuck
  | _ => .stuck
theorem sc_tuple : SndC ct X W (.type "tuple") bTuple := ⟨fun σ H m S vs ds Q r p hp pins s us I rv => by
  unfold bTuple at hp
  split at hp
  · rename_i d
    obtain ⟨v, rfl, q⟩ := rpl1 p
    split at hp
    · rename_i xs e
      obtain ⟨u, rfl, ru⟩ := vals1 rv
      unfold lsOf at e
      split at e
      · cases e
        cases q with
        | lst h1 _ h2 => exact rl_tuple pins s σ H _ u Q I ru (.inl ⟨_, _, rfl, SqL.of h1, fun pp hpp => hp.newT r hpp h2⟩)
      · split at e
        · rename_i e0
          cases e
          obtain ⟨ws, h1, h2⟩ := r.cell _ _ e0
          cases q
          exact rl_tuple pins s σ H _ u Q I ru (.inl ⟨_, _, rfl, SqL.of h1, fun pp hpp => hp.newT r hpp h2⟩)
        · cases e
      · cases e
    · exact hp.elim
  · exact hp.elim⟩
/-- sorted(xs), one item or none -/
def rSorted1 (K : PySem.W.Frag) : List V → Hp → VK → Prop := fun vs H Q => ∃ (a : Addr) (xs : List V), vs = [V.ref a] ∧ SqL K H a xs ∧ xs.length ≤ 1 ∧ ∀ p : Addr, H p = none → Q (.ref p) (upd H p (.lst xs))
theorem perm1 {α : Type} : ∀ {xs ys : List α}, xs.Perm ys → ys.length ≤ 1 → xs = ys
  | xs, [], h, _ => List.perm_nil.mp h
  | xs, [y], h, _ => List.perm_singleton.mp h
  | xs, y :: z :: ys, h, hl => by simp at hl
theorem cr_sorted1 : CallR X (.builtin "sorted") (rSorted1 X.K) := by
  intro pins s σ H vs us Q I r h
  obtain ⟨a, xs, rfl, hs, h1, q⟩ := h
  obtain ⟨its, rv, hl, hz⟩ := I.list hs
  rw [Vals.ref1 r]
  have l1 : its.length ≤ 1 := by rw [← rv.length]; exact h1
  refine SrtO.sorted_ord SrtO.swo_int hl.isList (by rw [← rv.length]; exact hz) (fun h2 => absurd l1 (by omega)) fun out _ hS => ?_
  have eo : out = its := perm1 hS.perm l1
  subst eo
  obtain ⟨ep, he'⟩ := PyProof.Rows.sortedAll_at s.heap out out.toArray
  exact ⟨.ref _, upd H (s.heap.objs.size + 1) (.lst xs), I.laid (t' := s.toks) (fun _ _ => PyProof.Rows.sortedAll_old) (Nat.le_succ _) ⟨hz, out, ep, rv, he'⟩, rfl, q _ (I.hok.fresh (Nat.le_succ _))⟩
def bSorted1M : OpN := fun ds S => match ds with
  | [d] => match lsOf S d with
    | some xs => if xs.length ≤ 1 then .ok (.ref S.length) (S ++ [.lst xs]) else .stuck
    | none => .stuck
  | _ => .stuck
theorem sc_sorted1M : SndC ct X W (.builtin "sorted") bSorted1M := .of cr_sorted1 fun σ H m S vs ds Q r p h => by
  unfold bSorted1M at h
  split at h
  · obtain ⟨v, rfl, q⟩ := rpl1 p
    split at h
    · rename_i xs e
      split at h
      · rename_i hl
        unfold lsOf at e
        split at e
        · cases e
          cases q with
          | lst h1 _ h2 => exact ⟨_, _, rfl, SqL.of h1, by rw [h2.length]; exact hl, fun pp hpp => h.newC r hpp h2⟩
        · split at e
          · rename_i e0
            cases e
            obtain ⟨ws, h1, h2⟩ := r.cell _ _ e0
            cases q
            exact ⟨_, _, rfl, SqL.of h1, by rw [h2.length]; exact hl, fun pp hpp => h.newC r hpp h2⟩
          · cases e
        · cases e
      · exact h.elim
    · exact h.elim
  · exact h.elim
end
end L2.VE
/-! VE26: sorted of tuples, the list changed later; a def that calls itself. -/
namespace L2.VE
open PySem PySem.Spec PyProof.Rows
section
variable {ct : Nat → Addr} {X : Cx} {W : WX}
def bSortedTM : OpN := fun ds S => match ds with
  | [d] => match lsOf S d with
    | some xs => match tupsI xs with
      | some nss => if nss.length < 64 ∧ (okC 2 nss = true ∨ okC 3 nss = true) then .ok (.ref S.length) (S ++ [.lst ((sortC nss).map dtI)]) else .stuck
      | none => .stuck
    | none => .stuck
  | _ => .stuck
theorem sc_sortedTM : SndC ct X W (.builtin "sorted") bSortedTM := by
  refine ⟨?_⟩
  intro σ H m S vs ds Q r p h pins s us I rv
  unfold bSortedTM at h
  split at h
  · obtain ⟨v, rfl, q⟩ := rpl1 p
    split at h
    · rename_i xs e1
      split at h
      · rename_i nss e2
        split at h
        · rename_i hz
          obtain ⟨l, ws, rfl, h1, h2⟩ := lsOf_rp r q e1
          rw [tupsI_eq e2] at h2
          have hl : ws.length = nss.length := by rw [h2.length, List.length_map]
          have go : ∀ d, 1 ≤ d → okC d nss = true → wpAny (model X.prog X.w) X.A (call (.builtin "sorted") us) (EP X pins σ Q) X.xe s := fun d hd hb => by
            refine cr_sortT (d := d) (B := 1000) hd pins s σ H _ us Q I rv ⟨l, ws, rfl, SqL.of h1, by rw [hl]; exact hz.1, fun x hx => ?_, fun ys p hp hs hn => ?_⟩
            · obtain ⟨ns, g1, g2, _⟩ := rpl_dtI (K := X.K) h2 x hx
              exact ⟨ns, g2, okC_bd hb ns g1⟩
            · obtain ⟨mss, m1, m2⟩ := RpL.permC hp h2
              have e : mss = sortC nss := sorted_oneC (pairC m2 hs) (sortC_sorted nss) (m1.trans (sortC_perm nss).symm) fun z hz' => okC_bd hb z (m1.mem_iff.mp hz')
              rw [e] at m2
              exact h.newC r hn m2
          rcases hz.2 with hb | hb
          · exact go 2 (by decide) hb
          · exact go 3 (by decide) hb
        · exact h.elim
      · exact h.elim
    · exact h.elim
  · exact h.elim
end
/-- nothing is told: the ground of a def that calls itself -/
def bStuck : Blk := fun _ _ => .stuck
theorem sb_stuck {ct : Nat → Addr} {X : Cx} {W : WX} {st : List Stmt} : SndB ct X W st bStuck := ⟨fun σ H m S G Z r en h => h.elim⟩
end L2.VE
/-! VE27: behind a call that tells plain data the new cells are forgotten, where no elder one holds them. -/
namespace L2.VE
open PySem PySem.Spec PyProof.Rows
mutual
def refsB (N : Nat) : D → Bool
  | .ref n => decide (n < N)
  | .lst xs => refsBs N xs
  | .tup xs => refsBs N xs
  | _ => true
def refsBs (N : Nat) : List D → Bool
  | [] => true
  | d :: ds => refsB N d && refsBs N ds
end
def refsBf (N : Nat) : List (Str × D) → Bool
  | [] => true
  | p :: ps => refsB N p.2 && refsBf N ps
def refsBk (N : Nat) : List (Int × D) → Bool
  | [] => true
  | p :: ps => refsB N p.2 && refsBk N ps
def cellB (N : Nat) : Cell → Bool
  | .lst xs => refsBs N xs
  | .ins _ fs => refsBf N fs
  | .dic kvs => refsBk N kvs
  | .lok _ => true
  | .tab _ _ => true
def eCut (f : Ev) : Ev := fun G S => match f G S with
  | .ok d S2 => if (noRef d && (S2.take S.length).all (cellB S.length)) = true then .ok d (S2.take S.length) else .ok d S2
  | o => o
section
variable {H : Hp} {m : Mp} {N N' : Nat}
mutual
theorem Rp.under (hl : N' ≤ N) : ∀ (d : D) (v : V), refsB N' d = true → Rp H m N v d → Rp H m N' v d
  | .non, _, _, .non => .non
  | .bl _, _, _, .bl _ => .bl _
  | .int _, _, _, .int _ => .int _
  | .str _, _, _, .str _ => .str _
  | .lst ds, _, h, .lst h1 q r => .lst h1 (q.less hl) (RpL.under hl ds _ (by simpa [refsB] using h) r)
  | .tup ds, _, h, .tup h1 q r => .tup h1 (q.less hl) (RpL.under hl ds _ (by simpa [refsB] using h) r)
  | .exn a, _, _, .exn _ => .exn a
  | .fn _, _, _, .fn e h1 q1 h2 q2 => .fn e h1 (q1.less hl) h2 (q2.less hl)
  | .ref n, _, h, .ref _ => .ref (by simpa [refsB] using h)
theorem RpL.under (hl : N' ≤ N) : ∀ (ds : List D) (vs : List V), refsBs N' ds = true → RpL H m N vs ds → RpL H m N' vs ds
  | [], _, _, .nil => .nil
  | d :: ds, _, h, .cons p r => by
    rw [refsBs, Bool.and_eq_true] at h
    exact .cons (Rp.under hl d _ h.1 p) (RpL.under hl ds _ h.2 r)
end
theorem RpF.under (hl : N' ≤ N) : ∀ {fs : List (Str × D)} {vs : List (Str × V)}, refsBf N' fs = true → RpF H m N vs fs → RpF H m N' vs fs
  | _, _, _, .nil => .nil
  | _, _, h, .cons p r => by
    rw [refsBf, Bool.and_eq_true] at h
    exact .cons (Rp.under hl _ _ h.1 p) (RpF.under hl h.2 r)
theorem RpK.under (hl : N' ≤ N) : ∀ {fs : List (Int × D)} {vs : List (Key × V)}, refsBk N' fs = true → RpK H m N vs fs → RpK H m N' vs fs
  | _, _, _, .nil => .nil
  | _, _, h, .cons p r => by
    rw [refsBk, Bool.and_eq_true] at h
    exact .cons (Rp.under hl _ _ h.1 p) (RpK.under hl h.2 r)
theorem CellOk.under {ct : Nat → Addr} (hl : N' ≤ N) {a : Addr} {c : Cell} (hc : cellB N' c = true) (h : CellOk ct H m N a c) : CellOk ct H m N' a c := by
  cases c with
  | lst ds =>
    obtain ⟨vs, q, r⟩ := h
    exact ⟨vs, q, RpL.under hl _ _ hc r⟩
  | ins c fs =>
    obtain ⟨dx, vs, q, r⟩ := h
    exact ⟨dx, vs, q, RpF.under hl hc r⟩
  | dic kvs =>
    obtain ⟨vs, q, r⟩ := h
    exact ⟨vs, q, RpK.under hl hc r⟩
  | lok ks => exact h
  | tab j t =>
    obtain ⟨e1, ps, e2, e3, e4⟩ := h
    exact ⟨e1, ps, e2, e3, fun pos cv hc => let ⟨c, a1, a2, a3⟩ := e4 pos cv hc; ⟨c, a1, a2, a3.less hl⟩⟩
end
theorem snd_cut {ct : Nat → Addr} {X : Cx} {W : WX} {e : Expr} {f : Ev} (h : SndE ct X W e f) : SndE ct X W e (eCut f) := ⟨fun σ H m S G Q r en hq => by
  refine h.run σ H m S G Q r en ?_
  unfold eCut at hq
  cases hu : f G S with
  | ok d S2 =>
    rw [hu] at hq
    dsimp only at hq
    split at hq
    · rename_i ha
      rw [Bool.and_eq_true] at ha
      intro v m' H' r' st' p
      have l1 : (S2.take S.length).length = S.length := by
        rw [List.length_take, Nat.min_eq_left st'.le]
      have hq' : ∀ v m' H', Rel ct m' (S2.take S.length) H' → Step m S.length H m' (S2.take S.length).length H' → Rp H' m' (S2.take S.length).length v d → Q v H' := hq
      rw [l1] at hq'
      refine hq' v m' H' ⟨fun i j hi hj e => ?_, fun n c e => ?_, fun a ha2 => ?_⟩ ⟨Nat.le_refl _, st'.ag, st'.fq1, st'.fq2, fun n h1 h2 => absurd (Nat.lt_of_lt_of_le h2 h1) (Nat.lt_irrefl _), st'.kp, st'.th, st'.fz⟩ (Rp.less st'.le _ _ ha.1 p)
      · rw [l1] at hi hj
        exact r'.inj i j (Nat.lt_of_lt_of_le hi st'.le) (Nat.lt_of_lt_of_le hj st'.le) e
      · rw [l1]
        have hn : n < (S2.take S.length).length := (List.getElem?_eq_some_iff.mp e).1
        have tc := List.all_eq_true.mp ha.2 c (List.mem_of_getElem? e)
        rw [l1] at hn
        rw [List.getElem?_take_of_lt hn] at e
        exact (r'.cell n c e).under st'.le tc
      · obtain ⟨q1, q2⟩ := r'.flo a ha2
        rw [l1]
        exact ⟨q1, fun n hn => q2 n (Nat.lt_of_lt_of_le hn st'.le)⟩
    · exact hq
  | xc c S2 => rw [hu] at hq; exact hq
  | stuck => rw [hu] at hq; exact hq⟩
end L2.VE
/-! law_k12_whole_handed: the text, read. Printed by gen.py. -/
namespace L2.VE.T
open PySem PySem.Spec PyProof.Rows L2 L2.VE
def top (i : Nat) : Stmt := PySem.Challenge.pw_swapalbum_k12_whole_handed.main.body.getD i (.Pass ⟨0, 0, 0, 0⟩)
abbrev st_z_wall : Stmt := top 0
abbrev st_is_count : Stmt := top 18
abbrev st_are_counts : Stmt := top 19
abbrev st_is_album : Stmt := top 20
abbrev st_check_albums : Stmt := top 21
abbrev st_is_gift : Stmt := top 22
abbrev st_check_gifts : Stmt := top 23
abbrev st_left_of : Stmt := top 24
abbrev st_fits : Stmt := top 25
abbrev st_is_even : Stmt := top 26
abbrev st_is_ring : Stmt := top 27
abbrev st_Flow_steps : Stmt := inClass (top 29) 1
abbrev st_Flow_far : Stmt := inClass (top 29) 2
abbrev st_Flow_bettered : Stmt := inClass (top 29) 3
abbrev st_Flow_init : Stmt := inClass (top 29) 0
abbrev st_Flow_given : Stmt := inClass (top 29) 4
abbrev st_worth : Stmt := top 30
abbrev st_gift_between : Stmt := top 32
abbrev st_led_from : Stmt := top 33
abbrev st_ring_for : Stmt := top 34
abbrev st_one_ring : Stmt := top 35
abbrev st_parted : Stmt := top 36
abbrev st_brings : Stmt := top 37
abbrev st_Ring_init : Stmt := inClass (top 40) 0
abbrev st_Ring_shows : Stmt := inClass (top 40) 1
abbrev st_Never_init : Stmt := inClass (top 41) 0
abbrev st_Never_shows : Stmt := inClass (top 41) 1
abbrev st_Most_init : Stmt := inClass (top 42) 0
abbrev st_Most_shows : Stmt := inClass (top 42) 1
abbrev st_ring : Stmt := top 44
abbrev st_most : Stmt := top 45
abbrev st_rings : Stmt := top 46
abbrev st_Desk_init : Stmt := inClass (top 49) 0
abbrev st_Desk_kept : Stmt := inClass (top 49) 1
abbrev st_Desk_free : Stmt := inClass (top 49) 2
abbrev st_Desk_agree : Stmt := inClass (top 49) 3
abbrev st_Desk_look_at : Stmt := inClass (top 49) 4
abbrev st_Desk_put : Stmt := inClass (top 49) 5
abbrev st_Desk_send : Stmt := inClass (top 49) 6
abbrev st_Desk_come : Stmt := inClass (top 49) 7
abbrev st_Desk_lose : Stmt := inClass (top 49) 8
abbrev st_Desk_drop : Stmt := inClass (top 49) 9
abbrev st_Desk_stands : Stmt := inClass (top 49) 10
abbrev st_Desk_owed : Stmt := inClass (top 49) 11
abbrev st_z_cell_at : Stmt := top 51
abbrev st_z_copy : Stmt := top 52
abbrev st_z_into : Stmt := top 53
abbrev st_z_spoil : Stmt := top 54
abbrev st_z_ring_twice : Stmt := top 56
abbrev st_z_most_twice : Stmt := top 57
abbrev st_z_rings_twice : Stmt := top 58
abbrev st_z_door_right : Stmt := top 55
abbrev st_z_rows_one : Stmt := top 59
abbrev st_z_law : Stmt := top 60
/-! ### the readings -/
abbrev cl_many : List Nat := [16]
abbrev cl_knots : List Nat := [16]
abbrev cl_ways : List Nat := [16]
abbrev cl_much : List Nat := [16]
abbrev cl_turn : List Nat := [16]
abbrev cl_gifts : List Nat := [13, 15]
abbrev cl_collectors : List Nat := [14]
abbrev cl_prices : List Nat := [15]
abbrev cl_kinds : List Nat := [15]
abbrev cl_albums : List Nat := [17]
abbrev cl_swaps : List Nat := [17]
abbrev cl_marks : List Nat := [17]
abbrev is_Ring : List (Nat × Bool) := [(16, false), (12, false), (13, true), (14, false), (15, false), (17, false)]
/-- _wall(k); 0 k -/
abbrev b_z_wall_0 : Blk :=
    bNil
def d_z_wall : Blk :=
    (sWhile (eC (.bl true)) b_z_wall_0 [] 1000)
def f_z_wall : OpN := fnD 1 d_z_wall
/-- is_count(thing, least, most); 0 thing 1 least 2 most -/
def d_is_count : Blk :=
    (sRet (eAnd (eOp1 (opIsT "int") (eVar 0)) (eAnd (eOp1 opNot (eOp1 (opIsT "bool") (eVar 0))) (eChain opLe opLe (eVar 1) (eVar 0) (eVar 2)))))
def f_is_count : OpN := fnD 3 d_is_count
/-- are_counts(thing, many); 0 thing 1 many 2 one -/
def d_are_counts : Blk :=
    (sRet (eAnd (eOp1 (opIsT "list") (eVar 0)) (eAnd (eOp (opEq false) (eCall bLen (eaCons (eVar 0) eaNil)) (eVar 1)) (eCall bAll (eaCons (eLc (iSeq (eVar 0)) [2] (.nm 2) (eC (.bl true)) (eCall f_is_count (eaCons (eVar 2) (eaCons (eC (.int 0)) (eaCons (eC (.int 2)) eaNil))))) eaNil)))))
def f_are_counts : OpN := fnD 3 d_are_counts
/-- is_album(thing, many); 0 thing 1 many 2 spare 3 want -/
def d_is_album : Blk :=
    (bCons (sIf (eOr (eOp1 opNot (eOp1 (opIsT "tuple") (eVar 0))) (eOp (opEq true) (eCall bLen (eaCons (eVar 0) eaNil)) (eC (.int 2)))) (sRet (eC (.bl false))) bNil)
    (bCons (sIf (eOr (eOp1 opNot (eCall f_are_counts (eaCons (eIx (eVar 0) (eC (.int 0))) (eaCons (eVar 1) eaNil)))) (eOp1 opNot (eCall f_are_counts (eaCons (eIx (eVar 0) (eC (.int 1))) (eaCons (eVar 1) eaNil))))) (sRet (eC (.bl false))) bNil)
    (sRet (eCall bAll (eaCons (eLc (iArgs zipI (eaCons (eIx (eVar 0) (eC (.int 0))) (eaCons (eIx (eVar 0) (eC (.int 1))) eaNil))) [2, 3] (.tup [(.nm 2), (.nm 3)]) (eC (.bl true)) (eOr (eOp (opEq false) (eVar 2) (eC (.int 0))) (eOp (opEq false) (eVar 3) (eC (.int 0))))) eaNil)))))
def f_is_album : OpN := fnD 4 d_is_album
/-- check_albums(albums); 0 albums 1 first 2 many 3 album -/
def d_check_albums : Blk :=
    (bCons (sIf (eOr (eOp1 opNot (eOp1 (opIsT "list") (eVar 0))) (eOp1 opNot (eChain opLe opLe (eC (.int 1)) (eCall bLen (eaCons (eVar 0) eaNil)) (eC (.int 4))))) (sRaise 1) bNil)
    (bCons (sAsg (.nm 1) (eIx (eVar 0) (eC (.int 0))))
    (bCons (sIf (eOr (eOp1 opNot (eOp1 (opIsT "tuple") (eVar 1))) (eOr (eOp (opEq true) (eCall bLen (eaCons (eVar 1) eaNil)) (eC (.int 2))) (eOp1 opNot (eOp1 (opIsT "list") (eIx (eVar 1) (eC (.int 0))))))) (sRaise 1) bNil)
    (bCons (sAsg (.nm 2) (eCall bLen (eaCons (eIx (eVar 1) (eC (.int 0))) eaNil)))
    (sIf (eOr (eOp1 opNot (eChain opLe opLe (eC (.int 1)) (eVar 2) (eC (.int 4)))) (eOp1 opNot (eCall bAll (eaCons (eLc (iSeq (eVar 0)) [3] (.nm 3) (eC (.bl true)) (eCall f_is_album (eaCons (eVar 3) (eaCons (eVar 2) eaNil)))) eaNil)))) (sRaise 1) bNil)))))
def f_check_albums : OpN := fnD 4 d_check_albums
/-- is_gift(albums, gift); 0 albums 1 gift 2 giver 3 kind 4 taker 5 many 6 kinds -/
def d_is_gift : Blk :=
    (bCons (sAsg (.tup [(.nm 2), (.nm 3), (.nm 4)]) (eVar 1))
    (bCons (sPar [5, 6] (eaCons (eCall bLen (eaCons (eVar 0) eaNil)) (eaCons (eCall bLen (eaCons (eIx (eIx (eVar 0) (eC (.int 0))) (eC (.int 0))) eaNil)) eaNil)))
    (sRet (eAnd (eChain opLe opLt (eC (.int 0)) (eVar 2) (eVar 5)) (eAnd (eChain opLe opLt (eC (.int 0)) (eVar 4) (eVar 5)) (eAnd (eOp (opEq true) (eVar 2) (eVar 4)) (eChain opLe opLt (eC (.int 0)) (eVar 3) (eVar 6))))))))
def f_is_gift : OpN := fnD 7 d_is_gift
/-- check_gifts(albums, gifts); 0 albums 1 gifts 2 gift 3 one -/
abbrev b_check_gifts_0 : Blk :=
    (bCons (sIf (eOr (eOp1 opNot (eOp1 (opIsT "tuple") (eVar 2))) (eOp (opEq true) (eCall bLen (eaCons (eVar 2) eaNil)) (eC (.int 3)))) (sRaise 4) bNil)
    (sIf (eOr (eOp1 opNot (eCall bAll (eaCons (eLc (iSeq (eVar 2)) [3] (.nm 3) (eC (.bl true)) (eCall f_is_count (eaCons (eVar 3) (eaCons (eC (.int 0)) (eaCons (eC (.int 4)) eaNil))))) eaNil))) (eOp1 opNot (eCall f_is_gift (eaCons (eVar 0) (eaCons (eVar 2) eaNil))))) (sRaise 4) bNil))
def d_check_gifts : Blk :=
    (bCons (sIf (eOp1 opNot (eOp1 (opIsT "list") (eVar 1))) (sRaise 4) bNil)
    (sFor (iSeq (eVar 1)) (.nm 2) [2] b_check_gifts_0))
def f_check_gifts : OpN := fnD 4 d_check_gifts
/-- left_of(albums, gifts); 0 albums 1 gifts 2 found 3 spares 4 wants 5 giver 6 kind 7 taker -/
abbrev b_left_of_0 : Blk :=
    (bCons (sAugS (fun a b => a - b) (eIx (eIx (eVar 2) (eVar 5)) (eC (.int 0))) (eVar 6) (eC (.int 1)))
    (sAugS (fun a b => a - b) (eIx (eIx (eVar 2) (eVar 7)) (eC (.int 1))) (eVar 6) (eC (.int 1))))
def d_left_of : Blk :=
    (bCons (sAsg (.nm 2) (eLc (iSeq (eVar 0)) [3, 4] (.tup [(.nm 3), (.nm 4)]) (eC (.bl true)) (eTup (eaCons (eCall bListM (eaCons (eVar 3) eaNil)) (eaCons (eCall bListM (eaCons (eVar 4) eaNil)) eaNil)))))
    (bCons (sFor (iSeq (eVar 1)) (.tup [(.nm 5), (.nm 6), (.nm 7)]) [5, 6, 7] b_left_of_0)
    (sRet (eVar 2))))
def f_left_of : OpN := fnD 8 d_left_of
/-- fits(albums, gifts); 0 albums 1 gifts 2 gift 3 spares 4 wants -/
def d_fits : Blk :=
    (bCons (sIf (eOp1 opNot (eCall bAll (eaCons (eLc (iSeq (eVar 1)) [2] (.nm 2) (eC (.bl true)) (eCall f_is_gift (eaCons (eVar 0) (eaCons (eVar 2) eaNil)))) eaNil))) (sRet (eC (.bl false))) bNil)
    (sRet (eCall bAll (eaCons (eLc (iSeq (eCall f_left_of (eaCons (eVar 0) (eaCons (eVar 1) eaNil)))) [3, 4] (.tup [(.nm 3), (.nm 4)]) (eC (.bl true)) (eOp opGe (eCall bMin (eaCons (eOp opAdd (eVar 3) (eVar 4)) eaNil)) (eC (.int 0)))) eaNil))))
def f_fits : OpN := fnD 5 d_fits
/-- is_even(gifts); 0 gifts 1 gift -/
def d_is_even : Blk :=
    (sRet (eOp (opEq false) (eCall bSorted (eaCons (eLc (iSeq (eVar 0)) [1] (.nm 1) (eC (.bl true)) (eIx (eVar 1) (eC (.int 0)))) eaNil)) (eCall bSorted (eaCons (eLc (iSeq (eVar 0)) [1] (.nm 1) (eC (.bl true)) (eIx (eVar 1) (eC (.int 2)))) eaNil))))
def f_is_even : OpN := fnD 2 d_is_even
/-- is_ring(gifts); 0 gifts 1 givers 2 gift -/
def d_is_ring : Blk :=
    (bCons (sAsg (.nm 1) (eLc (iSeq (eVar 0)) [2] (.nm 2) (eC (.bl true)) (eIx (eVar 2) (eC (.int 0)))))
    (bCons (sIf (eOr (eOp (opEq false) (eVar 0) (eLst eaNil)) (eOp opLt (eOp1 opLenSet (eVar 1)) (eCall bLen (eaCons (eVar 1) eaNil)))) (sRet (eC (.bl false))) bNil)
    (sRet (eOp (opEq false) (eLc (iSeq (eVar 0)) [2] (.nm 2) (eC (.bl true)) (eIx (eVar 2) (eC (.int 2)))) (eOp opAdd (eSl (eVar 1) (some (eC (.int 1))) none) (eSl (eVar 1) none (some (eC (.int 1)))))))))
def f_is_ring : OpN := fnD 3 d_is_ring
/-- Flow.steps(self); 0 self 1 found 2 place 3 begin 4 end 5 most 6 gain -/
abbrev b_Flow_steps_0 : Blk :=
    (bCons (sIf (eOp opLt (eIx (eOp1 (opFld cl_much "much") (eVar 0)) (eVar 2)) (eVar 5)) (sExpr (eMt mAppend (eVar 1) (eaCons (eTup (eaCons (eVar 3) (eaCons (eVar 4) (eaCons (eOp1 opNeg (eVar 6)) (eaCons (eVar 2) (eaCons (eC (.bl true)) eaNil)))))) eaNil))) bNil)
    (sIf (eOp opGt (eIx (eOp1 (opFld cl_much "much") (eVar 0)) (eVar 2)) (eC (.int 0))) (sExpr (eMt mAppend (eVar 1) (eaCons (eTup (eaCons (eVar 4) (eaCons (eVar 3) (eaCons (eVar 6) (eaCons (eVar 2) (eaCons (eC (.bl false)) eaNil)))))) eaNil))) bNil))
def d_Flow_steps : Blk :=
    (bCons (sAsg (.nm 1) (eLstM eaNil))
    (bCons (sFor (iArgs enumI (eaCons (eOp1 (opFld cl_ways "ways") (eVar 0)) eaNil)) (.tup [(.nm 2), (.tup [(.nm 3), (.nm 4), (.nm 5), (.nm 6)])]) [2, 3, 4, 5, 6] b_Flow_steps_0)
    (sRet (eVar 1))))
def f_Flow_steps : OpN := fnD 7 d_Flow_steps
/-- Flow.far(self); 0 self 1 far 2 back 3 last 4 turn 5 step -/
abbrev me_steps_0 : List (Nat × OpN) := [(16, f_Flow_steps)]
abbrev b_Flow_far_0 : Blk :=
    (sIf (eOp opLt (eOp opAdd (eIx (eVar 1) (eIx (eVar 5) (eC (.int 0)))) (eIx (eVar 5) (eC (.int 2)))) (eIx (eVar 1) (eIx (eVar 5) (eC (.int 1))))) (bCons (sSub (eVar 1) (eIx (eVar 5) (eC (.int 1))) (eOp opAdd (eIx (eVar 1) (eIx (eVar 5) (eC (.int 0)))) (eIx (eVar 5) (eC (.int 2)))))
    (bCons (sSub (eVar 2) (eIx (eVar 5) (eC (.int 1))) (eVar 5))
    (sAsg (.nm 3) (eIx (eVar 5) (eC (.int 1)))))) bNil)
abbrev b_Flow_far_1 : Blk :=
    (bCons (sAsg (.nm 3) eNon)
    (bCons (sFor (iSeq (eMeth me_steps_0 "steps" (eVar 0) eaNil)) (.nm 5) [5] b_Flow_far_0)
    (sIf (eOp (opIs false) (eVar 3) eNon) (sRet (eTup (eaCons (eVar 1) (eaCons (eVar 2) (eaCons (eVar 3) eaNil))))) bNil)))
def d_Flow_far : Blk :=
    (bCons (sPar [1, 2, 3] (eaCons (eOp opMulM (eLst (eaCons (eC (.int 0)) eaNil)) (eOp1 (opFld cl_knots "knots") (eVar 0))) (eaCons (eOp opMulM (eLst (eaCons eNon eaNil)) (eOp1 (opFld cl_knots "knots") (eVar 0))) (eaCons eNon eaNil))))
    (bCons (sFor (iArgs rangeI (eaCons (eOp1 (opFld cl_knots "knots") (eVar 0)) eaNil)) (.nm 4) [4, 5] b_Flow_far_1)
    (sRet (eTup (eaCons (eVar 1) (eaCons (eVar 2) (eaCons (eVar 3) eaNil)))))))
def f_Flow_far : OpN := fnD 6 d_Flow_far
/-- Flow.bettered(self); 0 self 1 far 2 back 3 here 4 turn 5 first 6 step -/
abbrev me_far_0 : List (Nat × OpN) := [(16, f_Flow_far)]
abbrev b_Flow_bettered_0 : Blk :=
    (sAsg (.nm 3) (eIx (eIx (eVar 2) (eVar 3)) (eC (.int 0))))
abbrev b_Flow_bettered_1 : Blk :=
    (bCons (sAsg (.nm 6) (eIx (eVar 2) (eVar 3)))
    (bCons (sAugS (fun a b => a + b) (eOp1 (opFld cl_much "much") (eVar 0)) (eIx (eVar 6) (eC (.int 3))) (eIf (eIx (eVar 6) (eC (.int 4))) (eC (.int 1)) (eOp1 opNeg (eC (.int 1)))))
    (bCons (sAsg (.nm 3) (eIx (eVar 6) (eC (.int 0))))
    (sIf (eOp (opEq false) (eVar 3) (eVar 5)) (sRet (eC (.bl true))) bNil))))
def d_Flow_bettered : Blk :=
    (bCons (sAsg (.tup [(.nm 1), (.nm 2), (.nm 3)]) (eMeth me_far_0 "far" (eVar 0) eaNil))
    (bCons (sIf (eOp (opIs false) (eVar 3) eNon) (sRet (eC (.bl false))) bNil)
    (bCons (sFor (iArgs rangeI (eaCons (eOp1 (opFld cl_knots "knots") (eVar 0)) eaNil)) (.nm 4) [4] b_Flow_bettered_0)
    (bCons (sAsg (.nm 5) (eVar 3))
    (sWhile (eC (.bl true)) b_Flow_bettered_1 [6] 1000)))))
def f_Flow_bettered : OpN := fnD 7 d_Flow_bettered
/-- Flow.__init__(self, albums); 0 self 1 albums 2 collector 3 spares 4 wants 5 kind 6 most -/
abbrev me_bettered_0 : List (Nat × OpN) := [(16, f_Flow_bettered)]
abbrev b_Flow_init_0 : Blk :=
    (sIf (eOp opGt (eVar 6) (eC (.int 0))) (sExpr (eMt mAppend (eOp1 (opFld cl_ways "ways") (eVar 0)) (eaCons (eTup (eaCons (eVar 2) (eaCons (eOp opAdd (eOp1 (opFld cl_many "many") (eVar 0)) (eVar 5)) (eaCons (eVar 6) (eaCons (eC (.int 0)) eaNil))))) eaNil))) bNil)
abbrev b_Flow_init_1 : Blk :=
    (sIf (eOp opGt (eVar 6) (eC (.int 0))) (sExpr (eMt mAppend (eOp1 (opFld cl_ways "ways") (eVar 0)) (eaCons (eTup (eaCons (eOp opAdd (eOp1 (opFld cl_many "many") (eVar 0)) (eVar 5)) (eaCons (eVar 2) (eaCons (eVar 6) (eaCons (eC (.int 1)) eaNil))))) eaNil))) bNil)
abbrev b_Flow_init_2 : Blk :=
    (bCons (sFor (iArgs enumI (eaCons (eVar 3) eaNil)) (.tup [(.nm 5), (.nm 6)]) [] b_Flow_init_0)
    (sFor (iArgs enumI (eaCons (eVar 4) eaNil)) (.tup [(.nm 5), (.nm 6)]) [] b_Flow_init_1))
abbrev b_Flow_init_3 : Blk :=
    (sFldS cl_turn "turn" (eVar 0) (eC (.int 0)))
def d_Flow_init : Blk :=
    (bCons (sFldS cl_many "many" (eVar 0) (eCall bLen (eaCons (eVar 1) eaNil)))
    (bCons (sFldS cl_knots "knots" (eVar 0) (eOp opAdd (eCall bLen (eaCons (eVar 1) eaNil)) (eCall bLen (eaCons (eIx (eIx (eVar 1) (eC (.int 0))) (eC (.int 0))) eaNil))))
    (bCons (sFldS cl_ways "ways" (eVar 0) (eLstM eaNil))
    (bCons (sFor (iArgs enumI (eaCons (eVar 1) eaNil)) (.tup [(.nm 2), (.tup [(.nm 3), (.nm 4)])]) [2, 3, 4, 5, 6] b_Flow_init_2)
    (bCons (sFldS cl_much "much" (eVar 0) (eOp opMulM (eLst (eaCons (eC (.int 0)) eaNil)) (eCall bLen (eaCons (eOp1 (opFld cl_ways "ways") (eVar 0)) eaNil))))
    (sWhile (eMeth me_bettered_0 "bettered" (eVar 0) eaNil) b_Flow_init_3 [] 1000))))))
def f_Flow_init : OpN := fnD 7 d_Flow_init
/-- Flow.given(self); 0 self 1 found 2 kind 3 givers 4 takers 5 place 6 begin 7 end 8 most 9 gain 10 giver 11 taker -/
abbrev b_Flow_given_0 : Blk :=
    (bCons (sIf (eOp (opEq false) (eVar 7) (eVar 2)) (sExpr (eMt mExtend (eVar 3) (eaCons (eOp opMul (eLst (eaCons (eVar 6) eaNil)) (eIx (eOp1 (opFld cl_much "much") (eVar 0)) (eVar 5))) eaNil))) bNil)
    (sIf (eOp (opEq false) (eVar 6) (eVar 2)) (sExpr (eMt mExtend (eVar 4) (eaCons (eOp opMul (eLst (eaCons (eVar 7) eaNil)) (eIx (eOp1 (opFld cl_much "much") (eVar 0)) (eVar 5))) eaNil))) bNil))
abbrev b_Flow_given_1 : Blk :=
    (bCons (sPar [3, 4] (eaCons (eLstM eaNil) (eaCons (eLstM eaNil) eaNil)))
    (bCons (sFor (iArgs enumI (eaCons (eOp1 (opFld cl_ways "ways") (eVar 0)) eaNil)) (.tup [(.nm 5), (.tup [(.nm 6), (.nm 7), (.nm 8), (.nm 9)])]) [5, 6, 7, 8, 9] b_Flow_given_0)
    (sExpr (eMt mExtend (eVar 1) (eaCons (eLc (iArgs zipI (eaCons (eVar 3) (eaCons (eVar 4) eaNil))) [10, 11] (.tup [(.nm 10), (.nm 11)]) (eC (.bl true)) (eTup (eaCons (eVar 10) (eaCons (eOp opSub (eVar 2) (eOp1 (opFld cl_many "many") (eVar 0))) (eaCons (eVar 11) eaNil))))) eaNil)))))
def d_Flow_given : Blk :=
    (bCons (sAsg (.nm 1) (eLstM eaNil))
    (bCons (sFor (iArgs rangeI (eaCons (eOp1 (opFld cl_many "many") (eVar 0)) (eaCons (eOp1 (opFld cl_knots "knots") (eVar 0)) eaNil))) (.nm 2) [2, 3, 4, 5, 6, 7, 8, 9] b_Flow_given_1)
    (sRet (eVar 1))))
def f_Flow_given : OpN := fnD 12 d_Flow_given
/-- worth(albums, prices, kinds); 0 albums 1 prices 2 kinds 3 found 4 spares 5 wants 6 price 7 many 8 kind -/
abbrev b_worth_0 : Blk :=
    (bCons (sAug 3 (fun a b => a + b) (eCall bSum (eaCons (eLc (iArgs zipI (eaCons (eVar 4) (eaCons (eVar 2) eaNil))) [7, 8] (.tup [(.nm 7), (.nm 8)]) (eC (.bl true)) (eOp opMul (eVar 7) (eCall bMax2 (eaCons (eC (.int 0)) (eaCons (eOp opSub (eVar 8) (eVar 6)) eaNil))))) eaNil)))
    (sAug 3 (fun a b => a + b) (eCall bSum (eaCons (eLc (iArgs zipI (eaCons (eVar 5) (eaCons (eVar 2) eaNil))) [7, 8] (.tup [(.nm 7), (.nm 8)]) (eC (.bl true)) (eOp opMul (eVar 7) (eCall bMax2 (eaCons (eC (.int 0)) (eaCons (eOp opSub (eOp opAdd (eVar 6) (eC (.int 1))) (eVar 8)) eaNil))))) eaNil))))
def d_worth : Blk :=
    (bCons (sAsg (.nm 3) (eC (.int 0)))
    (bCons (sFor (iArgs zipI (eaCons (eVar 0) (eaCons (eVar 1) eaNil))) (.tup [(.tup [(.nm 4), (.nm 5)]), (.nm 6)]) [4, 5, 6] b_worth_0)
    (sRet (eVar 3))))
def f_worth : OpN := fnD 9 d_worth
/-- gift_between(albums, giver, taker); 0 albums 1 giver 2 taker 3 kind 4 many -/
abbrev b_gift_between_0 : Blk :=
    (sIf (eAnd (eOp opGt (eVar 4) (eC (.int 0))) (eOp opGt (eIx (eIx (eIx (eVar 0) (eVar 2)) (eC (.int 1))) (eVar 3)) (eC (.int 0)))) (sRet (eTup (eaCons (eVar 1) (eaCons (eVar 3) (eaCons (eVar 2) eaNil))))) bNil)
def d_gift_between : Blk :=
    (bCons (sFor (iArgs enumI (eaCons (eIx (eIx (eVar 0) (eVar 1)) (eC (.int 0))) eaNil)) (.tup [(.nm 3), (.nm 4)]) [3, 4] b_gift_between_0)
    (sRet eNon))
def f_gift_between : OpN := fnD 5 d_gift_between
/-- led_from(albums, collector); 0 albums 1 collector 2 found 3 more 4 longer 5 giver 6 taker 7 gift -/
abbrev b_led_from_0 : Blk :=
    (bCons (sAsg (.nm 7) (eCall f_gift_between (eaCons (eVar 0) (eaCons (eVar 5) (eaCons (eVar 6) eaNil)))))
    (sIf (eAnd (eOp (opIs true) (eVar 7) eNon) (eOp (opIn true) (eVar 6) (eVar 2))) (bCons (sSub (eVar 2) (eVar 6) (eVar 7))
    (sExpr (eMt mAppend (eVar 4) (eaCons (eVar 6) eaNil)))) bNil))
abbrev b_led_from_1 : Blk :=
    (sFor (iArgs rangeI (eaCons (eCall bLen (eaCons (eVar 0) eaNil)) eaNil)) (.nm 6) [6, 7] b_led_from_0)
abbrev b_led_from_2 : Blk :=
    (bCons (sAsg (.nm 4) (eLstM eaNil))
    (bCons (sFor (iSeq (eVar 3)) (.nm 5) [5, 6] b_led_from_1)
    (sAsg (.nm 3) (eVar 4))))
def d_led_from : Blk :=
    (bCons (sPar [2, 3] (eaCons (eDic1 (eVar 1) eNon) (eaCons (eLst (eaCons (eVar 1) eaNil)) eaNil)))
    (bCons (sWhile (eOp (opEq true) (eVar 3) (eLst eaNil)) b_led_from_2 [4, 5] 1000)
    (sRet (eVar 2))))
def f_led_from : OpN := fnD 8 d_led_from
/-- ring_for(albums, collector, kind); 0 albums 1 collector 2 kind 3 found 4 some 5 giver 6 gifts -/
abbrev b_ring_for_0 : Blk :=
    (sAsg (.nm 6) (eOp opAdd (eLst (eaCons (eIx (eVar 3) (eIx (eIx (eVar 6) (eC (.int 0))) (eC (.int 0)))) eaNil)) (eVar 6)))
def d_ring_for : Blk :=
    (bCons (sAsg (.nm 3) (eCall f_led_from (eaCons (eVar 0) (eaCons (eVar 1) eaNil))))
    (bCons (slockS 3 (sAsg (.nm 4) (eLc (iKeysD 3) [5] (.nm 5) (eOp opGt (eIx (eIx (eIx (eVar 0) (eVar 5)) (eC (.int 0))) (eVar 2)) (eC (.int 0))) (eVar 5))))
    (bCons (sIf (eOp (opEq false) (eVar 4) (eLst eaNil)) (sRet (eTup (eaCons eNon (eaCons (eCall bSortedD (eaCons (eVar 3) eaNil)) eaNil)))) bNil)
    (bCons (sAsg (.nm 6) (eLst (eaCons (eTup (eaCons (eIx (eVar 4) (eC (.int 0))) (eaCons (eVar 2) (eaCons (eVar 1) eaNil)))) eaNil)))
    (bCons (sWhile (eOp (opEq true) (eIx (eIx (eVar 6) (eC (.int 0))) (eC (.int 0))) (eVar 1)) b_ring_for_0 [] 1000)
    (sRet (eTup (eaCons (eVar 6) (eaCons (eCall bSortedD (eaCons (eVar 3) eaNil)) eaNil)))))))))
def f_ring_for : OpN := fnD 7 d_ring_for
/-- one_ring(gifts); 0 gifts 1 way 2 gift 3 begin -/
abbrev b_one_ring_0 : Blk :=
    (sExpr (eMt mAppend (eVar 1) (eaCons (eIx (eLc (iSeq (eVar 0)) [2] (.nm 2) (eOp (opEq false) (eIx (eVar 2) (eC (.int 0))) (eIx (eIx (eVar 1) (eOp1 opNeg (eC (.int 1)))) (eC (.int 2)))) (eVar 2)) (eC (.int 0))) eaNil)))
def d_one_ring : Blk :=
    (bCons (sAsg (.nm 1) (eLstM (eaCons (eIx (eVar 0) (eC (.int 0))) eaNil)))
    (bCons (sWhile (eOp (opIn true) (eIx (eIx (eVar 1) (eOp1 opNeg (eC (.int 1)))) (eC (.int 2))) (eLc (iSeq (eVar 1)) [2] (.nm 2) (eC (.bl true)) (eIx (eVar 2) (eC (.int 0))))) b_one_ring_0 [] 1000)
    (bCons (sAsg (.nm 3) (eMt mIndex (eLc (iSeq (eVar 1)) [2] (.nm 2) (eC (.bl true)) (eIx (eVar 2) (eC (.int 0)))) (eaCons (eIx (eIx (eVar 1) (eOp1 opNeg (eC (.int 1)))) (eC (.int 2))) eaNil)))
    (sRet (eSlM (eVar 1) (some (eVar 3)) none)))))
def f_one_ring : OpN := fnD 4 d_one_ring
/-- parted(gifts); 0 gifts 1 left 2 found 3 ring 4 gift -/
abbrev b_parted_0 : Blk :=
    (sExpr (eMt mRemove (eVar 1) (eaCons (eVar 4) eaNil)))
abbrev b_parted_1 : Blk :=
    (bCons (sAsg (.nm 3) (eCall f_one_ring (eaCons (eVar 1) eaNil)))
    (bCons (sFor (iSeq (eVar 3)) (.nm 4) [4] b_parted_0)
    (sExpr (eMt mAppend (eVar 2) (eaCons (eVar 3) eaNil)))))
def d_parted : Blk :=
    (bCons (sPar [1, 2] (eaCons (eCall bListM (eaCons (eVar 0) eaNil)) (eaCons (eLstM eaNil) eaNil)))
    (bCons (sWhile (eOp (opEq true) (eVar 1) (eLst eaNil)) b_parted_1 [3, 4] 1000)
    (sRet (eVar 2))))
def f_parted : OpN := fnD 5 d_parted
/-- brings(gifts, collector, kind); 0 gifts 1 collector 2 kind 3 gift -/
def d_brings : Blk :=
    (sRet (eAnd (eCall f_is_ring (eaCons (eVar 0) eaNil)) (eCall bAny (eaCons (eLc (iSeq (eVar 0)) [3] (.nm 3) (eC (.bl true)) (eAnd (eOp (opEq false) (eIx (eVar 3) (eC (.int 1))) (eVar 2)) (eOp (opEq false) (eIx (eVar 3) (eC (.int 2))) (eVar 1)))) eaNil))))
def f_brings : OpN := fnD 4 d_brings
/-- Ring.__init__(self, gifts); 0 self 1 gifts -/
def d_Ring_init : Blk :=
    (sFldS cl_gifts "gifts" (eVar 0) (eCall bListM (eaCons (eVar 1) eaNil)))
def f_Ring_init : OpN := fnD 2 d_Ring_init
/-- Ring.shows(self, albums, collector, kind); 0 self 1 albums 2 collector 3 kind -/
def d_Ring_shows : Blk :=
    (sRet (eAnd (eCall f_fits (eaCons (eVar 1) (eaCons (eOp1 (opFld cl_gifts "gifts") (eVar 0)) eaNil))) (eCall f_brings (eaCons (eOp1 (opFld cl_gifts "gifts") (eVar 0)) (eaCons (eVar 2) (eaCons (eVar 3) eaNil))))))
def f_Ring_shows : OpN := fnD 4 d_Ring_shows
/-- Never.__init__(self, collectors); 0 self 1 collectors -/
def d_Never_init : Blk :=
    (sFldS cl_collectors "collectors" (eVar 0) (eCall bListM (eaCons (eVar 1) eaNil)))
def f_Never_init : OpN := fnD 2 d_Never_init
/-- Never.shows(self, albums, collector, kind); 0 self 1 albums 2 collector 3 kind 4 some 5 many 6 one 7 other 8 others -/
def d_Never_shows : Blk :=
    (bCons (sPar [4, 5] (eaCons (eOp1 (opFld cl_collectors "collectors") (eVar 0)) (eaCons (eCall bLen (eaCons (eVar 1) eaNil)) eaNil)))
    (bCons (sIf (eOr (eOp (opIn true) (eVar 2) (eVar 4)) (eCall bAny (eaCons (eLc (iArgs zipI (eaCons (eVar 4) (eaCons (eSl (eVar 4) (some (eC (.int 1))) none) eaNil))) [6, 7] (.tup [(.nm 6), (.nm 7)]) (eC (.bl true)) (eOp opGe (eVar 6) (eVar 7))) eaNil))) (sRet (eC (.bl false))) bNil)
    (bCons (sIf (eOr (eOp opLt (eIx (eVar 4) (eC (.int 0))) (eC (.int 0))) (eOr (eOp opGe (eIx (eVar 4) (eOp1 opNeg (eC (.int 1)))) (eVar 5)) (eCall bAny (eaCons (eLc (iSeq (eVar 4)) [6] (.nm 6) (eC (.bl true)) (eOp opGt (eIx (eIx (eIx (eVar 1) (eVar 6)) (eC (.int 0))) (eVar 3)) (eC (.int 0)))) eaNil)))) (sRet (eC (.bl false))) bNil)
    (bCons (sAsg (.nm 8) (eLc (iArgs rangeI (eaCons (eVar 5) eaNil)) [7] (.nm 7) (eOp (opIn true) (eVar 7) (eVar 4)) (eVar 7)))
    (sRet (eOp1 opNot (eCall bAny (eaCons (eLc (iSeq (eVar 4)) [6] (.nm 6) (eC (.bl true)) (eCall bAny (eaCons (eLc (iSeq (eVar 8)) [7] (.nm 7) (eC (.bl true)) (eOp (opIs true) (eCall f_gift_between (eaCons (eVar 1) (eaCons (eVar 6) (eaCons (eVar 7) eaNil)))) eNon)) eaNil))) eaNil))))))))
def f_Never_shows : OpN := fnD 9 d_Never_shows
/-- Most.__init__(self, gifts, prices, kinds); 0 self 1 gifts 2 prices 3 kinds -/
def d_Most_init : Blk :=
    (bCons (sFldS cl_gifts "gifts" (eVar 0) (eCall bListM (eaCons (eVar 1) eaNil)))
    (bCons (sFldS cl_prices "prices" (eVar 0) (eCall bListM (eaCons (eVar 2) eaNil)))
    (sFldS cl_kinds "kinds" (eVar 0) (eCall bListM (eaCons (eVar 3) eaNil)))))
def f_Most_init : OpN := fnD 4 d_Most_init
/-- Most.shows(self, albums); 0 self 1 albums -/
def d_Most_shows : Blk :=
    (bCons (sIf (eOr (eOp1 opNot (eCall f_fits (eaCons (eVar 1) (eaCons (eOp1 (opFld cl_gifts "gifts") (eVar 0)) eaNil)))) (eOp1 opNot (eCall f_is_even (eaCons (eOp1 (opFld cl_gifts "gifts") (eVar 0)) eaNil)))) (sRet (eC (.bl false))) bNil)
    (bCons (sIf (eOr (eOp (opEq true) (eCall bLen (eaCons (eOp1 (opFld cl_prices "prices") (eVar 0)) eaNil)) (eCall bLen (eaCons (eVar 1) eaNil))) (eOp (opEq true) (eCall bLen (eaCons (eOp1 (opFld cl_kinds "kinds") (eVar 0)) eaNil)) (eCall bLen (eaCons (eIx (eIx (eVar 1) (eC (.int 0))) (eC (.int 0))) eaNil)))) (sRet (eC (.bl false))) bNil)
    (sRet (eOp (opEq false) (eCall f_worth (eaCons (eVar 1) (eaCons (eOp1 (opFld cl_prices "prices") (eVar 0)) (eaCons (eOp1 (opFld cl_kinds "kinds") (eVar 0)) eaNil)))) (eCall bLen (eaCons (eOp1 (opFld cl_gifts "gifts") (eVar 0)) eaNil))))))
def f_Most_shows : OpN := fnD 2 d_Most_shows
/-- ring(albums, collector, kind); 0 albums 1 collector 2 kind 3 gifts 4 some -/
def d_ring : Blk :=
    (bCons (sExpr (eCall f_check_albums (eaCons (eVar 0) eaNil)))
    (bCons (sIf (eOp1 opNot (eCall f_is_count (eaCons (eVar 1) (eaCons (eC (.int 0)) (eaCons (eOp opSub (eCall bLen (eaCons (eVar 0) eaNil)) (eC (.int 1))) eaNil))))) (sRaise 2) bNil)
    (bCons (sIf (eOr (eOp1 opNot (eCall f_is_count (eaCons (eVar 2) (eaCons (eC (.int 0)) (eaCons (eOp opSub (eCall bLen (eaCons (eIx (eIx (eVar 0) (eC (.int 0))) (eC (.int 0))) eaNil)) (eC (.int 1))) eaNil))))) (eOp (opEq false) (eIx (eIx (eIx (eVar 0) (eVar 1)) (eC (.int 1))) (eVar 2)) (eC (.int 0)))) (sRaise 3) bNil)
    (bCons (sAsg (.tup [(.nm 3), (.nm 4)]) (eCall f_ring_for (eaCons (eVar 0) (eaCons (eVar 1) (eaCons (eVar 2) eaNil)))))
    (sRet (eIf (eOp (opIs true) (eVar 3) eNon) (eMake 13 f_Ring_init (eaCons (eVar 3) eaNil)) (eMake 14 f_Never_init (eaCons (eVar 4) eaNil))))))))
def f_ring : OpN := fnD 5 d_ring
/-- most(albums); 0 albums 1 flow 2 far 3 back 4 last -/
abbrev me_given_0 : List (Nat × OpN) := [(16, f_Flow_given)]
def d_most : Blk :=
    (bCons (sExpr (eCall f_check_albums (eaCons (eVar 0) eaNil)))
    (bCons (sAsg (.nm 1) (eMake 16 f_Flow_init (eaCons (eVar 0) eaNil)))
    (bCons (sAsg (.tup [(.nm 2), (.nm 3), (.nm 4)]) (eMeth me_far_0 "far" (eVar 1) eaNil))
    (sRet (eMake 15 f_Most_init (eaCons (eMeth me_given_0 "given" (eVar 1) eaNil) (eaCons (eSl (eVar 2) none (some (eCall bLen (eaCons (eVar 0) eaNil)))) (eaCons (eSl (eVar 2) (some (eCall bLen (eaCons (eVar 0) eaNil))) none) eaNil))))))))
def f_most : OpN := fnD 5 d_most
/-- rings(albums, gifts); 0 albums 1 gifts -/
def d_rings : Blk :=
    (bCons (sExpr (eCall f_check_albums (eaCons (eVar 0) eaNil)))
    (bCons (sExpr (eCall f_check_gifts (eaCons (eVar 0) (eaCons (eVar 1) eaNil))))
    (bCons (sIf (eOp1 opNot (eCall f_fits (eaCons (eVar 0) (eaCons (eVar 1) eaNil)))) (sRaise 7) bNil)
    (bCons (sIf (eOp1 opNot (eCall f_is_even (eaCons (eVar 1) eaNil))) (sRaise 8) bNil)
    (sRet (eCall f_parted (eaCons (eVar 1) eaNil)))))))
def f_rings : OpN := fnD 2 d_rings
/-- Desk.__init__(self, albums); 0 self 1 albums 2 spares 3 wants -/
def d_Desk_init : Blk :=
    (bCons (sExpr (eCall f_check_albums (eaCons (eVar 1) eaNil)))
    (bCons (sFldS cl_albums "albums" (eVar 0) (eLcM (iSeq (eVar 1)) [2, 3] (.tup [(.nm 2), (.nm 3)]) (eC (.bl true)) (eTup (eaCons (eCall bList (eaCons (eVar 2) eaNil)) (eaCons (eCall bList (eaCons (eVar 3) eaNil)) eaNil)))))
    (bCons (sFldS cl_swaps "swaps" (eVar 0) (eLstM eaNil))
    (sFldS cl_marks "marks" (eVar 0) (eLstM eaNil)))))
def f_Desk_init : OpN := fnD 4 d_Desk_init
/-- Desk.kept(self); 0 self 1 found 2 gifts 3 marks 4 gift 5 mark -/
abbrev b_Desk_kept_0 : Blk :=
    (sExpr (eMt mExtend (eVar 1) (eaCons (eLc (iArgs zipI (eaCons (eVar 2) (eaCons (eVar 3) eaNil))) [4, 5] (.tup [(.nm 4), (.nm 5)]) (eOp (opEq true) (eVar 5) (eC (.str "off"))) (eVar 4)) eaNil)))
def d_Desk_kept : Blk :=
    (bCons (sAsg (.nm 1) (eLstM eaNil))
    (bCons (sFor (iArgs zipI (eaCons (eOp1 (opFld cl_swaps "swaps") (eVar 0)) (eaCons (eOp1 (opFld cl_marks "marks") (eVar 0)) eaNil))) (.tup [(.nm 2), (.nm 3)]) [2, 3] b_Desk_kept_0)
    (sRet (eVar 1))))
def f_Desk_kept : OpN := fnD 6 d_Desk_kept
/-- Desk.free(self); 0 self -/
abbrev me_kept_0 : List (Nat × OpN) := [(17, f_Desk_kept)]
def d_Desk_free : Blk :=
    (sRet (eCall f_left_of (eaCons (eOp1 (opFld cl_albums "albums") (eVar 0)) (eaCons (eMeth me_kept_0 "kept" (eVar 0) eaNil) eaNil))))
def f_Desk_free : OpN := fnD 1 d_Desk_free
/-- Desk.agree(self, gifts); 0 self 1 gifts -/
abbrev me_free_0 : List (Nat × OpN) := [(17, f_Desk_free)]
def d_Desk_agree : Blk :=
    (bCons (sExpr (eCall f_check_gifts (eaCons (eOp1 (opFld cl_albums "albums") (eVar 0)) (eaCons (eVar 1) eaNil))))
    (bCons (sIf (eOp1 opNot (eCall f_is_ring (eaCons (eVar 1) eaNil))) (sRaise 9) bNil)
    (bCons (sIf (eOp1 opNot (eCall f_fits (eaCons (eMeth me_free_0 "free" (eVar 0) eaNil) (eaCons (eVar 1) eaNil)))) (sRaise 7) bNil)
    (bCons (sIf (eOp (opEq false) (eCall bLen (eaCons (eOp1 (opFld cl_swaps "swaps") (eVar 0)) eaNil)) (eC (.int 12))) (sRaise 11) bNil)
    (bCons (sExpr (eMt mAppend (eOp1 (opFld cl_swaps "swaps") (eVar 0)) (eaCons (eCall bList (eaCons (eVar 1) eaNil)) eaNil)))
    (bCons (sExpr (eMt mAppend (eOp1 (opFld cl_marks "marks") (eVar 0)) (eaCons (eOp opMulM (eLst (eaCons (eC (.str "promised")) eaNil)) (eCall bLen (eaCons (eVar 1) eaNil))) eaNil)))
    (sRet (eOp opSub (eCall bLen (eaCons (eOp1 (opFld cl_swaps "swaps") (eVar 0)) eaNil)) (eC (.int 1))))))))))
def f_Desk_agree : OpN := fnD 2 d_Desk_agree
/-- Desk.look_at(self, swap); 0 self 1 swap -/
def d_Desk_look_at : Blk :=
    (bCons (sIf (eOp1 opNot (eCall f_is_count (eaCons (eVar 1) (eaCons (eC (.int 0)) (eaCons (eOp opSub (eCall bLen (eaCons (eOp1 (opFld cl_swaps "swaps") (eVar 0)) eaNil)) (eC (.int 1))) eaNil))))) (sRaise 5) bNil)
    (sRet (eIx (eOp1 (opFld cl_marks "marks") (eVar 0)) (eVar 1))))
def f_Desk_look_at : OpN := fnD 2 d_Desk_look_at
/-- Desk.put(self, swap, place, ahead, mark); 0 self 1 swap 2 place 3 ahead 4 mark 5 marks -/
abbrev me_look_at_1 : List (Nat × OpN) := [(17, f_Desk_look_at)]
def d_Desk_put : Blk :=
    (bCons (sAsg (.nm 5) (eMeth me_look_at_1 "look_at" (eVar 0) (eaCons (eVar 1) eaNil)))
    (bCons (sIf (eOp1 opNot (eCall f_is_count (eaCons (eVar 2) (eaCons (eC (.int 0)) (eaCons (eOp opSub (eCall bLen (eaCons (eVar 5) eaNil)) (eC (.int 1))) eaNil))))) (sRaise 6) bNil)
    (bCons (sIf (eOp (opEq true) (eIx (eVar 5) (eVar 2)) (eVar 3)) (sRaiseE 10 (eOp opAdd (eOp opAdd (eC (.str "a gift that is ")) (eVar 3)) (eC (.str " is due")))) bNil)
    (bCons (sSub (eVar 5) (eVar 2) (eVar 4))
    (sRet (eMt mCount (eVar 5) (eaCons (eC (.str "promised")) eaNil)))))))
def f_Desk_put : OpN := fnD 6 d_Desk_put
/-- Desk.send(self, swap, place); 0 self 1 swap 2 place -/
abbrev me_put_4 : List (Nat × OpN) := [(17, f_Desk_put)]
def d_Desk_send : Blk :=
    (sRet (eMeth me_put_4 "put" (eVar 0) (eaCons (eVar 1) (eaCons (eVar 2) (eaCons (eC (.str "promised")) (eaCons (eC (.str "sent")) eaNil))))))
def f_Desk_send : OpN := fnD 3 d_Desk_send
/-- Desk.come(self, swap, place); 0 self 1 swap 2 place -/
def d_Desk_come : Blk :=
    (sExpr (eCall f_z_wall (eaCons (eC (.int 0)) eaNil)))
def f_Desk_come : OpN := fnD 3 d_Desk_come
/-- Desk.lose(self, swap, place); 0 self 1 swap 2 place -/
def d_Desk_lose : Blk :=
    (sExpr (eCall f_z_wall (eaCons (eC (.int 1)) eaNil)))
def f_Desk_lose : OpN := fnD 3 d_Desk_lose
/-- Desk.drop(self, swap); 0 self 1 swap -/
def d_Desk_drop : Blk :=
    (sExpr (eCall f_z_wall (eaCons (eC (.int 2)) eaNil)))
def f_Desk_drop : OpN := fnD 2 d_Desk_drop
/-- Desk.stands(self, swap); 0 self 1 swap -/
def d_Desk_stands : Blk :=
    (sRet (eCall bList (eaCons (eMeth me_look_at_1 "look_at" (eVar 0) (eaCons (eVar 1) eaNil)) eaNil)))
def f_Desk_stands : OpN := fnD 2 d_Desk_stands
/-- Desk.owed(self); 0 self -/
def d_Desk_owed : Blk :=
    (sExpr (eCall f_z_wall (eaCons (eC (.int 3)) eaNil)))
def f_Desk_owed : OpN := fnD 1 d_Desk_owed
/-- law_cell_at(_law_script, _law_k); 0 _law_script 1 _law_k -/
def d_z_cell_at : Blk :=
    (bCons (sIf (eOp opLt (eVar 1) (eCall bLen (eaCons (eVar 0) eaNil))) (sRet (eIx (eVar 0) (eVar 1))) bNil)
    (sRet (eC (.int 0))))
def f_z_cell_at : OpN := fnD 2 d_z_cell_at
/-- law_copy(_law_thing); 0 _law_thing 1 _law_one -/
def d_z_copy (rec : OpN) : Blk :=
    (bCons (sIf (eOp1 (opIsT "list") (eVar 0)) (sRet (eLcM (iSeq (eVar 0)) [1] (.nm 1) (eC (.bl true)) (eCall rec (eaCons (eVar 1) eaNil)))) bNil)
    (bCons (sIf (eOp1 (opIsT "tuple") (eVar 0)) (sRet (eCall bTuple (eaCons (eLcM (iSeq (eVar 0)) [1] (.nm 1) (eC (.bl true)) (eCall rec (eaCons (eVar 1) eaNil))) eaNil))) bNil)
    (sRet (eVar 0))))
def f_z_copy : Nat → OpN
  | 0 => fnD 2 bStuck
  | n + 1 => fnD 2 (d_z_copy (f_z_copy n))
/-- law_into(_law_handed, _law_new); 0 _law_handed 1 _law_new 2 _law_at 3 _law_one -/
abbrev b_z_into_0 (rec : OpN) : Blk :=
    (sIf (eAnd (eOp1 (opIsT "list") (eVar 3)) (eOp (opEq false) (eCall bLen (eaCons (eIx (eVar 0) (eVar 2)) eaNil)) (eCall bLen (eaCons (eVar 3) eaNil)))) (sExpr (eCall rec (eaCons (eIx (eVar 0) (eVar 2)) (eaCons (eVar 3) eaNil)))) (sSub (eVar 0) (eVar 2) (eCall (f_z_copy 8) (eaCons (eVar 3) eaNil))))
def d_z_into (rec : OpN) : Blk :=
    (sFor (iArgs enumI (eaCons (eVar 1) eaNil)) (.tup [(.nm 2), (.nm 3)]) [2, 3] (b_z_into_0 rec))
def f_z_into : Nat → OpN
  | 0 => fnD 4 bStuck
  | n + 1 => fnD 4 (d_z_into (f_z_into n))
/-- law_spoil(_law_found); 0 _law_found 1 _law_one -/
abbrev b_z_spoil_0 (rec : OpN) : Blk :=
    (sExpr (eCall rec (eaCons (eVar 1) eaNil)))
def d_z_spoil (rec : OpN) : Blk :=
    (bCons (sIf (eOr (eOp1 (opIsT "list") (eVar 0)) (eOp1 (opIsT "tuple") (eVar 0))) (sFor (iSeq (eCall bList (eaCons (eVar 0) eaNil))) (.nm 1) [1] (b_z_spoil_0 rec)) bNil)
    (sIf (eOp1 (opIsT "list") (eVar 0)) (sExpr (eMt mAppend (eVar 0) (eaCons eNon eaNil))) bNil))
def f_z_spoil : Nat → OpN
  | 0 => fnD 2 bStuck
  | n + 1 => fnD 2 (d_z_spoil (f_z_spoil n))
/-- lam_0(_law_some); 0 _law_some -/
def d_lam_0 : Ev :=
    (eOp1 (opIsC is_Ring) (eCall f_ring (eaCons (eIx (eVar 0) (eC (.int 0))) (eaCons (eC (.int 0)) (eaCons (eC (.int 1)) eaNil)))))
def f_lam_0 : OpN := lamD 1 d_lam_0
/-- lam_1(_law_some); 0 _law_some -/
def d_lam_1 : Ev :=
    (eCall bLen (eaCons (eOp1 (opFld cl_gifts "gifts") (eCall f_most (eaCons (eIx (eVar 0) (eC (.int 0))) eaNil))) eaNil))
def f_lam_1 : OpN := lamD 1 d_lam_1
/-- law_ring_twice(_law_some); 0 _law_some 1 _law_kept -/
abbrev me_shows_3 : List (Nat × OpN) := [(13, f_Ring_shows), (14, f_Never_shows)]
def d_z_ring_twice : Blk :=
    (bCons (sAsg (.nm 1) (eCall (f_z_copy 8) (eaCons (eVar 0) eaNil)))
    (bCons (sExpr (eMt mClear (eOp1 (opFld cl_gifts "gifts") (eCall f_ring (eaCons (eIx (eVar 0) (eC (.int 0))) (eaCons (eC (.int 0)) (eaCons (eC (.int 1)) eaNil))))) eaNil))
    (sRet (eMeth me_shows_3 "shows" (eCall f_ring (eaCons (eIx (eVar 1) (eC (.int 0))) (eaCons (eC (.int 0)) (eaCons (eC (.int 1)) eaNil)))) (eaCons (eIx (eVar 1) (eC (.int 0))) (eaCons (eC (.int 0)) (eaCons (eC (.int 1)) eaNil)))))))
def f_z_ring_twice : OpN := fnD 2 d_z_ring_twice
/-- lam_2(_law_some); 0 _law_some -/
def d_lam_2 : Ev :=
    (eCall f_z_ring_twice (eaCons (eVar 0) eaNil))
def f_lam_2 : OpN := lamD 1 d_lam_2
/-- law_most_twice(_law_some); 0 _law_some 1 _law_kept 2 _law_found -/
abbrev me_shows_1 : List (Nat × OpN) := [(15, f_Most_shows)]
def d_z_most_twice : Blk :=
    (bCons (sAsg (.nm 1) (eCall (f_z_copy 8) (eaCons (eVar 0) eaNil)))
    (bCons (sAsg (.nm 2) (eCall f_most (eaCons (eIx (eVar 0) (eC (.int 0))) eaNil)))
    (bCons (sExpr (eMt mClear (eOp1 (opFld cl_gifts "gifts") (eVar 2)) eaNil))
    (bCons (sExpr (eMt mClear (eOp1 (opFld cl_prices "prices") (eVar 2)) eaNil))
    (bCons (sExpr (eMt mClear (eOp1 (opFld cl_kinds "kinds") (eVar 2)) eaNil))
    (sRet (eMeth me_shows_1 "shows" (eCall f_most (eaCons (eIx (eVar 1) (eC (.int 0))) eaNil)) (eaCons (eIx (eVar 1) (eC (.int 0))) eaNil))))))))
def f_z_most_twice : OpN := fnD 3 d_z_most_twice
/-- lam_3(_law_some); 0 _law_some -/
def d_lam_3 : Ev :=
    (eCall f_z_most_twice (eaCons (eVar 0) eaNil))
def f_lam_3 : OpN := lamD 1 d_lam_3
/-- lam_4(_law_some); 0 _law_some 1 _law_one -/
def d_lam_4 : Ev :=
    (eCall bSorted1M (eaCons (eLc (iSeq (eCall f_rings (eaCons (eIx (eVar 0) (eC (.int 0))) (eaCons (eIx (eVar 0) (eC (.int 1))) eaNil)))) [1] (.nm 1) (eC (.bl true)) (eCall bSortedTM (eaCons (eVar 1) eaNil))) eaNil))
def f_lam_4 : OpN := lamD 2 d_lam_4
/-- law_rings_twice(_law_some); 0 _law_some 1 _law_kept 2 _law_found 3 _law_one -/
def d_z_rings_twice : Blk :=
    (bCons (sAsg (.nm 1) (eCall (f_z_copy 8) (eaCons (eVar 0) eaNil)))
    (bCons (sAsg (.nm 2) (eCall f_rings (eaCons (eIx (eVar 0) (eC (.int 0))) (eaCons (eIx (eVar 0) (eC (.int 1))) eaNil))))
    (bCons (sExpr (eMt mClear (eIx (eVar 2) (eC (.int 0))) eaNil))
    (bCons (sExpr (eMt mClear (eVar 2) eaNil))
    (sRet (eCall bSorted1M (eaCons (eLc (iSeq (eCall f_rings (eaCons (eIx (eVar 1) (eC (.int 0))) (eaCons (eIx (eVar 1) (eC (.int 1))) eaNil)))) [3] (.nm 3) (eC (.bl true)) (eCall bSortedTM (eaCons (eVar 3) eaNil))) eaNil)))))))
def f_z_rings_twice : OpN := fnD 4 d_z_rings_twice
/-- lam_5(_law_some); 0 _law_some -/
def d_lam_5 : Ev :=
    (eCall f_z_rings_twice (eaCons (eVar 0) eaNil))
def f_lam_5 : OpN := lamD 1 d_lam_5
/-- lam_6(_law_some); 0 _law_some -/
def d_lam_6 : Ev :=
    (eMeth me_shows_3 "shows" (eMake 13 f_Ring_init (eaCons (eLst (eaCons (eTup (eaCons (eC (.int 0)) (eaCons (eC (.int 0)) (eaCons (eC (.int 1)) eaNil)))) (eaCons (eTup (eaCons (eC (.int 1)) (eaCons (eC (.int 1)) (eaCons (eC (.int 0)) eaNil)))) eaNil))) eaNil)) (eaCons (eIx (eVar 0) (eC (.int 0))) (eaCons (eC (.int 0)) (eaCons (eC (.int 1)) eaNil))))
def f_lam_6 : OpN := lamD 1 d_lam_6
/-- lam_7(_law_some); 0 _law_some -/
def d_lam_7 : Ev :=
    (eMeth me_shows_3 "shows" (eMake 14 f_Never_init (eaCons (eLst (eaCons (eC (.int 0)) eaNil)) eaNil)) (eaCons (eIx (eVar 0) (eC (.int 0))) (eaCons (eC (.int 0)) (eaCons (eC (.int 1)) eaNil))))
def f_lam_7 : OpN := lamD 1 d_lam_7
/-- lam_8(_law_some); 0 _law_some -/
def d_lam_8 : Ev :=
    (eMeth me_shows_1 "shows" (eCall f_most (eaCons (eLst (eaCons (eTup (eaCons (eLst (eaCons (eC (.int 1)) (eaCons (eC (.int 0)) eaNil))) (eaCons (eLst (eaCons (eC (.int 0)) (eaCons (eC (.int 1)) eaNil))) eaNil))) (eaCons (eTup (eaCons (eLst (eaCons (eC (.int 0)) (eaCons (eC (.int 1)) eaNil))) (eaCons (eLst (eaCons (eC (.int 1)) (eaCons (eC (.int 0)) eaNil))) eaNil))) eaNil))) eaNil)) (eaCons (eIx (eVar 0) (eC (.int 0))) eaNil))
def f_lam_8 : OpN := lamD 1 d_lam_8
/-- lam_9(_law_some); 0 _law_some -/
abbrev me_agree_1 : List (Nat × OpN) := [(17, f_Desk_agree)]
def d_lam_9 : Ev :=
    (eMeth me_agree_1 "agree" (eMake 17 f_Desk_init (eaCons (eLst (eaCons (eTup (eaCons (eLst (eaCons (eC (.int 1)) (eaCons (eC (.int 0)) eaNil))) (eaCons (eLst (eaCons (eC (.int 0)) (eaCons (eC (.int 1)) eaNil))) eaNil))) (eaCons (eTup (eaCons (eLst (eaCons (eC (.int 0)) (eaCons (eC (.int 1)) eaNil))) (eaCons (eLst (eaCons (eC (.int 1)) (eaCons (eC (.int 0)) eaNil))) eaNil))) eaNil))) eaNil)) (eaCons (eIx (eVar 0) (eC (.int 0))) eaNil))
def f_lam_9 : OpN := lamD 1 d_lam_9
/-- lam_10(_law_some); 0 _law_some 1 _law_one -/
def d_lam_10 : Ev :=
    (eCall bSorted1M (eaCons (eLc (iSeq (eCall f_rings (eaCons (eIx (eVar 0) (eC (.int 0))) (eaCons (eIx (eVar 0) (eC (.int 1))) eaNil)))) [1] (.nm 1) (eC (.bl true)) (eCall bSortedTM (eaCons (eVar 1) eaNil))) eaNil))
def f_lam_10 : OpN := lamD 2 d_lam_10
abbrev lamApps : List (Nat × OpN) := [(0, f_lam_0), (1, f_lam_1), (2, f_lam_2), (3, f_lam_3), (4, f_lam_4), (5, f_lam_5), (6, f_lam_6), (7, f_lam_7), (8, f_lam_8), (9, f_lam_9), (10, f_lam_10)]
/-- law_door_right(_law_ask, _law_first, _law_second); 0 _law_ask 1 _law_first 2 _law_second 3 _law_handed 4 _law_dues 5 _law_some 6 _law_due 7 _law_again 8 _law_found -/
abbrev b_z_door_right_0 : Blk :=
    (sExpr (eMt mAppend (eVar 4) (eaCons (eTup (eaCons (eVar 5) (eaCons (eCall (f_z_copy 8) (eaCons (eCut (eApp lamApps (eVar 0) (eaCons (eCall (f_z_copy 8) (eaCons (eVar 5) eaNil)) eaNil))) eaNil)) eaNil))) eaNil)))
abbrev b_z_door_right_1 : Blk :=
    (bCons (sAsg (.nm 8) (eCut (eApp lamApps (eVar 0) (eaCons (eVar 3) eaNil))))
    (bCons (sIf (eOr (eOp (opEq true) (eVar 3) (eVar 5)) (eOp (opEq true) (eVar 8) (eVar 6))) (sRet (eC (.bl false))) bNil)
    (sExpr (eCall (f_z_spoil 8) (eaCons (eVar 8) eaNil)))))
abbrev b_z_door_right_2 : Blk :=
    (bCons (sExpr (eCall (f_z_into 8) (eaCons (eVar 3) (eaCons (eVar 5) eaNil))))
    (sFor (iArgs rangeI (eaCons (eC (.int 2)) eaNil)) (.nm 7) [7, 8] b_z_door_right_1))
def d_z_door_right : Blk :=
    (bCons (sPar [3, 4] (eaCons (eCall (f_z_copy 8) (eaCons (eVar 1) eaNil)) (eaCons (eLstM eaNil) eaNil)))
    (bCons (sFor (iSeq (eTup (eaCons (eVar 1) (eaCons (eVar 2) eaNil)))) (.nm 5) [] b_z_door_right_0)
    (bCons (sFor (iSeq (eOp opAdd (eVar 4) (eVar 4))) (.tup [(.nm 5), (.nm 6)]) [6, 7] b_z_door_right_2)
    (sRet (eC (.bl true))))))
def f_z_door_right : OpN := fnD 9 d_z_door_right
/-- law_rows_one(); 0 _law_rows -/
def d_z_rows_one : Blk :=
    (bCons (sAsg (.nm 0) (eLstM eaNil))
    (bCons (sExpr (eMt mAppend (eVar 0) (eaCons (eTup (eaCons (eLam 0 "_law_rows_one.<locals>.<lambda>" 0) (eaCons (eLst (eaCons (eLst (eaCons (eTup (eaCons (eLst (eaCons (eC (.int 1)) (eaCons (eC (.int 0)) eaNil))) (eaCons (eLst (eaCons (eC (.int 0)) (eaCons (eC (.int 1)) eaNil))) eaNil))) (eaCons (eTup (eaCons (eLst (eaCons (eC (.int 0)) (eaCons (eC (.int 1)) eaNil))) (eaCons (eLst (eaCons (eC (.int 1)) (eaCons (eC (.int 0)) eaNil))) eaNil))) eaNil))) eaNil)) (eaCons (eLst (eaCons (eLst (eaCons (eTup (eaCons (eLst (eaCons (eC (.int 1)) (eaCons (eC (.int 0)) eaNil))) (eaCons (eLst (eaCons (eC (.int 0)) (eaCons (eC (.int 1)) eaNil))) eaNil))) (eaCons (eTup (eaCons (eLst (eaCons (eC (.int 0)) (eaCons (eC (.int 1)) eaNil))) (eaCons (eLst (eaCons (eC (.int 0)) (eaCons (eC (.int 0)) eaNil))) eaNil))) eaNil))) eaNil)) eaNil)))) eaNil)))
    (bCons (sExpr (eMt mAppend (eVar 0) (eaCons (eTup (eaCons (eLam 0 "_law_rows_one.<locals>.<lambda>" 1) (eaCons (eLst (eaCons (eLst (eaCons (eTup (eaCons (eLst (eaCons (eC (.int 1)) (eaCons (eC (.int 0)) eaNil))) (eaCons (eLst (eaCons (eC (.int 0)) (eaCons (eC (.int 1)) eaNil))) eaNil))) (eaCons (eTup (eaCons (eLst (eaCons (eC (.int 0)) (eaCons (eC (.int 1)) eaNil))) (eaCons (eLst (eaCons (eC (.int 1)) (eaCons (eC (.int 0)) eaNil))) eaNil))) eaNil))) eaNil)) (eaCons (eLst (eaCons (eLst (eaCons (eTup (eaCons (eLst (eaCons (eC (.int 1)) (eaCons (eC (.int 0)) eaNil))) (eaCons (eLst (eaCons (eC (.int 0)) (eaCons (eC (.int 1)) eaNil))) eaNil))) (eaCons (eTup (eaCons (eLst (eaCons (eC (.int 0)) (eaCons (eC (.int 1)) eaNil))) (eaCons (eLst (eaCons (eC (.int 0)) (eaCons (eC (.int 0)) eaNil))) eaNil))) eaNil))) eaNil)) eaNil)))) eaNil)))
    (bCons (sExpr (eMt mAppend (eVar 0) (eaCons (eTup (eaCons (eLam 0 "_law_rows_one.<locals>.<lambda>" 2) (eaCons (eLst (eaCons (eLst (eaCons (eTup (eaCons (eLst (eaCons (eC (.int 1)) (eaCons (eC (.int 0)) eaNil))) (eaCons (eLst (eaCons (eC (.int 0)) (eaCons (eC (.int 1)) eaNil))) eaNil))) (eaCons (eTup (eaCons (eLst (eaCons (eC (.int 0)) (eaCons (eC (.int 1)) eaNil))) (eaCons (eLst (eaCons (eC (.int 1)) (eaCons (eC (.int 0)) eaNil))) eaNil))) eaNil))) eaNil)) (eaCons (eLst (eaCons (eLst (eaCons (eTup (eaCons (eLst (eaCons (eC (.int 2)) (eaCons (eC (.int 0)) eaNil))) (eaCons (eLst (eaCons (eC (.int 0)) (eaCons (eC (.int 1)) eaNil))) eaNil))) (eaCons (eTup (eaCons (eLst (eaCons (eC (.int 0)) (eaCons (eC (.int 1)) eaNil))) (eaCons (eLst (eaCons (eC (.int 1)) (eaCons (eC (.int 0)) eaNil))) eaNil))) eaNil))) eaNil)) eaNil)))) eaNil)))
    (bCons (sExpr (eMt mAppend (eVar 0) (eaCons (eTup (eaCons (eLam 0 "_law_rows_one.<locals>.<lambda>" 3) (eaCons (eLst (eaCons (eLst (eaCons (eTup (eaCons (eLst (eaCons (eC (.int 1)) (eaCons (eC (.int 0)) eaNil))) (eaCons (eLst (eaCons (eC (.int 0)) (eaCons (eC (.int 1)) eaNil))) eaNil))) (eaCons (eTup (eaCons (eLst (eaCons (eC (.int 0)) (eaCons (eC (.int 1)) eaNil))) (eaCons (eLst (eaCons (eC (.int 1)) (eaCons (eC (.int 0)) eaNil))) eaNil))) eaNil))) eaNil)) (eaCons (eLst (eaCons (eLst (eaCons (eTup (eaCons (eLst (eaCons (eC (.int 1)) (eaCons (eC (.int 0)) eaNil))) (eaCons (eLst (eaCons (eC (.int 0)) (eaCons (eC (.int 1)) eaNil))) eaNil))) (eaCons (eTup (eaCons (eLst (eaCons (eC (.int 0)) (eaCons (eC (.int 1)) eaNil))) (eaCons (eLst (eaCons (eC (.int 0)) (eaCons (eC (.int 0)) eaNil))) eaNil))) eaNil))) eaNil)) eaNil)))) eaNil)))
    (bCons (sExpr (eMt mAppend (eVar 0) (eaCons (eTup (eaCons (eLam 0 "_law_rows_one.<locals>.<lambda>" 4) (eaCons (eLst (eaCons (eLst (eaCons (eTup (eaCons (eLst (eaCons (eC (.int 1)) (eaCons (eC (.int 0)) eaNil))) (eaCons (eLst (eaCons (eC (.int 0)) (eaCons (eC (.int 1)) eaNil))) eaNil))) (eaCons (eTup (eaCons (eLst (eaCons (eC (.int 0)) (eaCons (eC (.int 1)) eaNil))) (eaCons (eLst (eaCons (eC (.int 1)) (eaCons (eC (.int 0)) eaNil))) eaNil))) eaNil))) (eaCons (eLst (eaCons (eTup (eaCons (eC (.int 0)) (eaCons (eC (.int 0)) (eaCons (eC (.int 1)) eaNil)))) (eaCons (eTup (eaCons (eC (.int 1)) (eaCons (eC (.int 1)) (eaCons (eC (.int 0)) eaNil)))) eaNil))) eaNil))) (eaCons (eLst (eaCons (eLst (eaCons (eTup (eaCons (eLst (eaCons (eC (.int 1)) (eaCons (eC (.int 0)) eaNil))) (eaCons (eLst (eaCons (eC (.int 0)) (eaCons (eC (.int 1)) eaNil))) eaNil))) (eaCons (eTup (eaCons (eLst (eaCons (eC (.int 0)) (eaCons (eC (.int 1)) eaNil))) (eaCons (eLst (eaCons (eC (.int 1)) (eaCons (eC (.int 0)) eaNil))) eaNil))) eaNil))) (eaCons (eLst (eaCons (eTup (eaCons (eC (.int 1)) (eaCons (eC (.int 1)) (eaCons (eC (.int 0)) eaNil)))) (eaCons (eTup (eaCons (eC (.int 0)) (eaCons (eC (.int 0)) (eaCons (eC (.int 1)) eaNil)))) eaNil))) eaNil))) eaNil)))) eaNil)))
    (bCons (sExpr (eMt mAppend (eVar 0) (eaCons (eTup (eaCons (eLam 0 "_law_rows_one.<locals>.<lambda>" 5) (eaCons (eLst (eaCons (eLst (eaCons (eTup (eaCons (eLst (eaCons (eC (.int 1)) (eaCons (eC (.int 0)) eaNil))) (eaCons (eLst (eaCons (eC (.int 0)) (eaCons (eC (.int 1)) eaNil))) eaNil))) (eaCons (eTup (eaCons (eLst (eaCons (eC (.int 0)) (eaCons (eC (.int 1)) eaNil))) (eaCons (eLst (eaCons (eC (.int 1)) (eaCons (eC (.int 0)) eaNil))) eaNil))) eaNil))) (eaCons (eLst (eaCons (eTup (eaCons (eC (.int 0)) (eaCons (eC (.int 0)) (eaCons (eC (.int 1)) eaNil)))) (eaCons (eTup (eaCons (eC (.int 1)) (eaCons (eC (.int 1)) (eaCons (eC (.int 0)) eaNil)))) eaNil))) eaNil))) (eaCons (eLst (eaCons (eLst (eaCons (eTup (eaCons (eLst (eaCons (eC (.int 2)) (eaCons (eC (.int 0)) eaNil))) (eaCons (eLst (eaCons (eC (.int 0)) (eaCons (eC (.int 1)) eaNil))) eaNil))) (eaCons (eTup (eaCons (eLst (eaCons (eC (.int 0)) (eaCons (eC (.int 1)) eaNil))) (eaCons (eLst (eaCons (eC (.int 1)) (eaCons (eC (.int 0)) eaNil))) eaNil))) eaNil))) (eaCons (eLst (eaCons (eTup (eaCons (eC (.int 0)) (eaCons (eC (.int 0)) (eaCons (eC (.int 1)) eaNil)))) (eaCons (eTup (eaCons (eC (.int 1)) (eaCons (eC (.int 1)) (eaCons (eC (.int 0)) eaNil)))) eaNil))) eaNil))) eaNil)))) eaNil)))
    (bCons (sExpr (eMt mAppend (eVar 0) (eaCons (eTup (eaCons (eLam 0 "_law_rows_one.<locals>.<lambda>" 6) (eaCons (eLst (eaCons (eLst (eaCons (eTup (eaCons (eLst (eaCons (eC (.int 1)) (eaCons (eC (.int 0)) eaNil))) (eaCons (eLst (eaCons (eC (.int 0)) (eaCons (eC (.int 1)) eaNil))) eaNil))) (eaCons (eTup (eaCons (eLst (eaCons (eC (.int 0)) (eaCons (eC (.int 1)) eaNil))) (eaCons (eLst (eaCons (eC (.int 1)) (eaCons (eC (.int 0)) eaNil))) eaNil))) eaNil))) eaNil)) (eaCons (eLst (eaCons (eLst (eaCons (eTup (eaCons (eLst (eaCons (eC (.int 1)) (eaCons (eC (.int 0)) eaNil))) (eaCons (eLst (eaCons (eC (.int 0)) (eaCons (eC (.int 1)) eaNil))) eaNil))) (eaCons (eTup (eaCons (eLst (eaCons (eC (.int 0)) (eaCons (eC (.int 1)) eaNil))) (eaCons (eLst (eaCons (eC (.int 0)) (eaCons (eC (.int 0)) eaNil))) eaNil))) eaNil))) eaNil)) eaNil)))) eaNil)))
    (bCons (sExpr (eMt mAppend (eVar 0) (eaCons (eTup (eaCons (eLam 0 "_law_rows_one.<locals>.<lambda>" 7) (eaCons (eLst (eaCons (eLst (eaCons (eTup (eaCons (eLst (eaCons (eC (.int 1)) (eaCons (eC (.int 0)) eaNil))) (eaCons (eLst (eaCons (eC (.int 0)) (eaCons (eC (.int 1)) eaNil))) eaNil))) (eaCons (eTup (eaCons (eLst (eaCons (eC (.int 0)) (eaCons (eC (.int 1)) eaNil))) (eaCons (eLst (eaCons (eC (.int 0)) (eaCons (eC (.int 0)) eaNil))) eaNil))) eaNil))) eaNil)) (eaCons (eLst (eaCons (eLst (eaCons (eTup (eaCons (eLst (eaCons (eC (.int 1)) (eaCons (eC (.int 0)) eaNil))) (eaCons (eLst (eaCons (eC (.int 0)) (eaCons (eC (.int 1)) eaNil))) eaNil))) (eaCons (eTup (eaCons (eLst (eaCons (eC (.int 0)) (eaCons (eC (.int 1)) eaNil))) (eaCons (eLst (eaCons (eC (.int 1)) (eaCons (eC (.int 0)) eaNil))) eaNil))) eaNil))) eaNil)) eaNil)))) eaNil)))
    (bCons (sExpr (eMt mAppend (eVar 0) (eaCons (eTup (eaCons (eLam 0 "_law_rows_one.<locals>.<lambda>" 8) (eaCons (eLst (eaCons (eLst (eaCons (eTup (eaCons (eLst (eaCons (eC (.int 1)) (eaCons (eC (.int 0)) eaNil))) (eaCons (eLst (eaCons (eC (.int 0)) (eaCons (eC (.int 1)) eaNil))) eaNil))) (eaCons (eTup (eaCons (eLst (eaCons (eC (.int 0)) (eaCons (eC (.int 1)) eaNil))) (eaCons (eLst (eaCons (eC (.int 1)) (eaCons (eC (.int 0)) eaNil))) eaNil))) eaNil))) eaNil)) (eaCons (eLst (eaCons (eLst (eaCons (eTup (eaCons (eLst (eaCons (eC (.int 1)) (eaCons (eC (.int 0)) eaNil))) (eaCons (eLst (eaCons (eC (.int 0)) (eaCons (eC (.int 1)) eaNil))) eaNil))) (eaCons (eTup (eaCons (eLst (eaCons (eC (.int 0)) (eaCons (eC (.int 1)) eaNil))) (eaCons (eLst (eaCons (eC (.int 0)) (eaCons (eC (.int 0)) eaNil))) eaNil))) eaNil))) eaNil)) eaNil)))) eaNil)))
    (bCons (sExpr (eMt mAppend (eVar 0) (eaCons (eTup (eaCons (eLam 0 "_law_rows_one.<locals>.<lambda>" 9) (eaCons (eLst (eaCons (eLst (eaCons (eTup (eaCons (eC (.int 0)) (eaCons (eC (.int 0)) (eaCons (eC (.int 1)) eaNil)))) (eaCons (eTup (eaCons (eC (.int 1)) (eaCons (eC (.int 1)) (eaCons (eC (.int 0)) eaNil)))) eaNil))) eaNil)) (eaCons (eLst (eaCons (eLst (eaCons (eTup (eaCons (eC (.int 1)) (eaCons (eC (.int 1)) (eaCons (eC (.int 0)) eaNil)))) (eaCons (eTup (eaCons (eC (.int 0)) (eaCons (eC (.int 0)) (eaCons (eC (.int 1)) eaNil)))) eaNil))) eaNil)) eaNil)))) eaNil)))
    (bCons (sExpr (eMt mAppend (eVar 0) (eaCons (eTup (eaCons (eLam 0 "_law_rows_one.<locals>.<lambda>" 10) (eaCons (eLst (eaCons (eLst (eaCons (eTup (eaCons (eLst (eaCons (eC (.int 1)) (eaCons (eC (.int 0)) eaNil))) (eaCons (eLst (eaCons (eC (.int 0)) (eaCons (eC (.int 1)) eaNil))) eaNil))) (eaCons (eTup (eaCons (eLst (eaCons (eC (.int 0)) (eaCons (eC (.int 1)) eaNil))) (eaCons (eLst (eaCons (eC (.int 1)) (eaCons (eC (.int 0)) eaNil))) eaNil))) eaNil))) (eaCons (eLst (eaCons (eTup (eaCons (eC (.int 0)) (eaCons (eC (.int 0)) (eaCons (eC (.int 1)) eaNil)))) (eaCons (eTup (eaCons (eC (.int 1)) (eaCons (eC (.int 1)) (eaCons (eC (.int 0)) eaNil)))) eaNil))) eaNil))) (eaCons (eLst (eaCons (eLst (eaCons (eTup (eaCons (eLst (eaCons (eC (.int 0)) (eaCons (eC (.int 1)) eaNil))) (eaCons (eLst (eaCons (eC (.int 1)) (eaCons (eC (.int 0)) eaNil))) eaNil))) (eaCons (eTup (eaCons (eLst (eaCons (eC (.int 1)) (eaCons (eC (.int 0)) eaNil))) (eaCons (eLst (eaCons (eC (.int 0)) (eaCons (eC (.int 1)) eaNil))) eaNil))) eaNil))) (eaCons (eLst (eaCons (eTup (eaCons (eC (.int 0)) (eaCons (eC (.int 1)) (eaCons (eC (.int 1)) eaNil)))) (eaCons (eTup (eaCons (eC (.int 1)) (eaCons (eC (.int 0)) (eaCons (eC (.int 0)) eaNil)))) eaNil))) eaNil))) eaNil)))) eaNil)))
    (sRet (eVar 0))))))))))))))
def f_z_rows_one : OpN := fnD 1 d_z_rows_one
/-- law(_law_script); 0 _law_script 1 _law_rows 2 _law_begin 3 _law_ask 4 _law_first 5 _law_second -/
abbrev b_z_law_0 : Blk :=
    (sIf (eOp1 opNot (eCall f_z_door_right (eaCons (eVar 3) (eaCons (eVar 4) (eaCons (eVar 5) eaNil))))) (sRet (eC (.bl false))) bNil)
def d_z_law : Blk :=
    (bCons (sAsg (.nm 0) (eSl (eVar 0) none (some (eC (.int 63)))))
    (bCons (sAsg (.nm 1) (eCall f_z_rows_one eaNil))
    (bCons (sAsg (.nm 2) (eOp opMod (eCall bAbs (eaCons (eCall f_z_cell_at (eaCons (eVar 0) (eaCons (eC (.int 0)) eaNil))) eaNil)) (eCall bLen (eaCons (eVar 1) eaNil))))
    (bCons (sFor (iSeq (eOp opAdd (eSl (eVar 1) (some (eVar 2)) none) (eSl (eVar 1) none (some (eVar 2))))) (.tup [(.nm 3), (.nm 4), (.nm 5)]) [3, 4, 5] (bCutT [0] b_z_law_0))
    (sRet (eC (.bl true)))))))
def f_z_law : OpN := fnD 6 d_z_law
def tab0 : Store := tabsOf 0 ["_law_rows_one.<locals>.<lambda>"]
/-- the law behind its first statement -/
def r_law : Blk :=
    (bCons (sAsg (.nm 1) (eCall f_z_rows_one eaNil))
    (bCons (sAsg (.nm 2) (eOp opMod (eCall bAbs (eaCons (eCall f_z_cell_at (eaCons (eVar 0) (eaCons (eC (.int 0)) eaNil))) eaNil)) (eCall bLen (eaCons (eVar 1) eaNil))))
    (bCons (sFor (iSeq (eOp opAdd (eSl (eVar 1) (some (eVar 2)) none) (eSl (eVar 1) none (some (eVar 2))))) (.tup [(.nm 3), (.nm 4), (.nm 5)]) [3, 4, 5] (bCutT [0] b_z_law_0))
    (sRet (eC (.bl true))))))
/-! ### what is wanted of the top -/
structure Txt (K : PySem.W.Frag) (mg : Str → Option Value) (ct : Nat → Addr) : Prop where
  n_isinstance : mg "isinstance" = none
  n_int : mg "int" = none
  n_bool : mg "bool" = none
  n_list : mg "list" = none
  n_len : mg "len" = none
  n_all : mg "all" = none
  n_tuple : mg "tuple" = none
  n_zip : mg "zip" = none
  n_min : mg "min" = none
  n_sorted : mg "sorted" = none
  n_set : mg "set" = none
  n_enumerate : mg "enumerate" = none
  n_range : mg "range" = none
  n_max : mg "max" = none
  n_sum : mg "sum" = none
  n_any : mg "any" = none
  n_abs : mg "abs" = none
  i_MOST_OF_ONE : ∃ t, mg "MOST_OF_ONE" = some (.int 2 t)
  i_MOST_COLLECTORS : ∃ t, mg "MOST_COLLECTORS" = some (.int 4 t)
  i_MOST_KINDS : ∃ t, mg "MOST_KINDS" = some (.int 4 t)
  i_MOST_SWAPS : ∃ t, mg "MOST_SWAPS" = some (.int 12 t)
  e_BadAlbums : ExcAt K mg ct 1 "BadAlbums"
  e_BadGifts : ExcAt K mg ct 4 "BadGifts"
  e_BadCollector : ExcAt K mg ct 2 "BadCollector"
  e_BadKind : ExcAt K mg ct 3 "BadKind"
  e_Unfit : ExcAt K mg ct 7 "Unfit"
  e_Uneven : ExcAt K mg ct 8 "Uneven"
  e_NoRing : ExcAt K mg ct 9 "NoRing"
  e_TooMany : ExcAt K mg ct 11 "TooMany"
  e_BadSwap : ExcAt K mg ct 5 "BadSwap"
  e_BadPlace : ExcAt K mg ct 6 "BadPlace"
  e_NotSo : ExcAt K mg ct 10 "NotSo"
  f_Flow_many : FldAt K ct 16 "many"
  f_Flow_knots : FldAt K ct 16 "knots"
  f_Flow_ways : FldAt K ct 16 "ways"
  f_Flow_much : FldAt K ct 16 "much"
  f_Flow_turn : FldAt K ct 16 "turn"
  f_Ring_gifts : FldAt K ct 13 "gifts"
  f_Most_gifts : FldAt K ct 15 "gifts"
  f_Never_collectors : FldAt K ct 14 "collectors"
  f_Most_prices : FldAt K ct 15 "prices"
  f_Most_kinds : FldAt K ct 15 "kinds"
  f_Desk_albums : FldAt K ct 17 "albums"
  f_Desk_swaps : FldAt K ct 17 "swaps"
  f_Desk_marks : FldAt K ct 17 "marks"
  c_Flow : InsF K (ct 16)
  c_Answer : InsF K (ct 12)
  c_Ring : InsF K (ct 13)
  c_Never : InsF K (ct 14)
  c_Most : InsF K (ct 15)
  c_Desk : InsF K (ct 17)
  k_Flow_Ring : PySem.W.kitOne K (.ref (ct 16)) (.ref (ct 13)) = some false
  k_Answer_Ring : PySem.W.kitOne K (.ref (ct 12)) (.ref (ct 13)) = some false
  k_Ring_Ring : PySem.W.kitOne K (.ref (ct 13)) (.ref (ct 13)) = some true
  k_Never_Ring : PySem.W.kitOne K (.ref (ct 14)) (.ref (ct 13)) = some false
  k_Most_Ring : PySem.W.kitOne K (.ref (ct 15)) (.ref (ct 13)) = some false
  k_Desk_Ring : PySem.W.kitOne K (.ref (ct 17)) (.ref (ct 13)) = some false
  g_Ring : mg "Ring" = some (.ref (ct 13))
section
variable {P : Program} {w : World} {K : PySem.W.Frag} {mg : Str → Option Value} {base : Heap} {ct : Nat → Addr}
theorem sc_z_wall : FnScope ["k"] ["k"] (defScope st_z_wall) := ⟨rfl, rfl, rfl, by decide +kernel, rfl, by decide +kernel, by decide +kernel⟩
set_option maxHeartbeats 0 in
theorem ok_z_wall {f : Addr} {fd : FuncData} (F : Fun K "_wall" "_wall" st_z_wall f fd) (T : Txt K mg ct) :
    FnOk P w K mg base (L2.CX P w) 1 f fd ["k"] (spOf ct 1 f_z_wall) := by
  refine def_ok (k := 0) (Ns := ["k"]) F sc_z_wall fun cdv A outer s H E hr => ?_
  have hu65 := units_65 hr
  have hu64 := units_64 hr
  have hu1 := units_1 hr
  have nd := sc_z_wall.nd
  have tk : Takes (bodyX P w K mg base ["k"] "_wall" st_z_wall f cdv A outer s H E) (fun cls d _ H => E cls d H) := takes_of rfl rfl rfl rfl
  have ps : PassesOwn (model P w) (bodyX P w K mg base ["k"] "_wall" st_z_wall f cdv A outer s H E).A (bodyX P w K mg base ["k"] "_wall" st_z_wall f cdv A outer s H E).env (bodyX P w K mg base ["k"] "_wall" st_z_wall f cdv A outer s H E).xe := passes_of rfl
  unfold d_z_wall
  exact (sb_one (ss_while ps (st_val snd_bl) (sb_one ss_pass)))
theorem sc_is_count : FnScope ["thing", "least", "most"] ["thing", "least", "most"] (defScope st_is_count) := ⟨rfl, rfl, rfl, by decide +kernel, rfl, by decide +kernel, by decide +kernel⟩
set_option maxHeartbeats 0 in
theorem ok_is_count {f : Addr} {fd : FuncData} (F : Fun K "is_count" "is_count" st_is_count f fd) (T : Txt K mg ct) :
    FnOk P w K mg base (L2.CX P w) 1 f fd ["thing", "least", "most"] (spOf ct 3 f_is_count) := by
  refine def_ok (k := 0) (Ns := ["thing", "least", "most"]) F sc_is_count fun cdv A outer s H E hr => ?_
  have hu65 := units_65 hr
  have hu64 := units_64 hr
  have hu1 := units_1 hr
  have nd := sc_is_count.nd
  have tk : Takes (bodyX P w K mg base ["thing", "least", "most"] "is_count" st_is_count f cdv A outer s H E) (fun cls d _ H => E cls d H) := takes_of rfl rfl rfl rfl
  have ps : PassesOwn (model P w) (bodyX P w K mg base ["thing", "least", "most"] "is_count" st_is_count f cdv A outer s H E).A (bodyX P w K mg base ["thing", "least", "most"] "is_count" st_is_count f cdv A outer s H E).env (bodyX P w K mg base ["thing", "least", "most"] "is_count" st_is_count f cdv A outer s H E).xe := passes_of rfl
  unfold d_is_count
  exact (sb_one (ss_ret (snd_and (snd_isT (snd_var 0 rfl (by first | exact .inl rfl | exact .inr (.inl rfl) | exact .inr (.inr rfl))) tf_int (by rfl) T.n_isinstance (by rfl) T.n_int bo_int) (snd_and (snd_not (snd_isT (snd_var 0 rfl (by first | exact .inl rfl | exact .inr (.inl rfl) | exact .inr (.inr rfl))) tf_bool (by rfl) T.n_isinstance (by rfl) T.n_bool bo_bool)) (snd_one (snd_chain so_le so_le (snd_var 1 rfl (by first | exact .inl rfl | exact .inr (.inl rfl) | exact .inr (.inr rfl))) (snd_var 0 rfl (by first | exact .inl rfl | exact .inr (.inl rfl) | exact .inr (.inr rfl))) (snd_var 2 rfl (by first | exact .inl rfl | exact .inr (.inl rfl) | exact .inr (.inr rfl)))))))))
theorem sc_are_counts : FnScope ["thing", "many", "one"] ["thing", "many"] (defScope st_are_counts) := ⟨rfl, rfl, rfl, by decide +kernel, rfl, by decide +kernel, by decide +kernel⟩
set_option maxHeartbeats 0 in
theorem ok_are_counts {f : Addr} {fd : FuncData} (F : Fun K "are_counts" "are_counts" st_are_counts f fd) (T : Txt K mg ct) (a_is_count : FnAt P w K mg base ct "is_count" 1 3 f_is_count) :
    FnOk P w K mg base (L2.CX P w) 2 f fd ["thing", "many"] (spOf ct 2 f_are_counts) := by
  refine def_ok (k := 1) (Ns := ["thing", "many", "one"]) F sc_are_counts fun cdv A outer s H E hr => ?_
  have hu65 := units_65 hr
  have hu64 := units_64 hr
  have hu1 := units_1 hr
  have nd := sc_are_counts.nd
  have tk : Takes (bodyX P w K mg base ["thing", "many", "one"] "are_counts" st_are_counts f cdv A outer s H E) (fun cls d _ H => E cls d H) := takes_of rfl rfl rfl rfl
  have ps : PassesOwn (model P w) (bodyX P w K mg base ["thing", "many", "one"] "are_counts" st_are_counts f cdv A outer s H E).A (bodyX P w K mg base ["thing", "many", "one"] "are_counts" st_are_counts f cdv A outer s H E).env (bodyX P w K mg base ["thing", "many", "one"] "are_counts" st_are_counts f cdv A outer s H E).xe := passes_of rfl
  unfold d_are_counts
  exact (sb_one (ss_ret (snd_and (snd_isT (snd_var 0 rfl (by first | exact .inl rfl | exact .inr (.inl rfl) | exact .inr (.inr rfl))) tf_list (by rfl) T.n_isinstance (by rfl) T.n_list bo_list) (snd_and (snd_cmp (so_eq hu64) (snd_callB sc_len (by rfl) T.n_len bo_len (sa_cons (snd_var 0 rfl (by first | exact .inl rfl | exact .inr (.inl rfl) | exact .inr (.inr rfl))) sa_nil)) (snd_var 1 rfl (by first | exact .inl rfl | exact .inr (.inl rfl) | exact .inr (.inr rfl))) (by rfl)) (snd_one (snd_callB (sc_all rfl) (by rfl) T.n_all bo_all (sa_cons (snd_lc (own := [("one", 2)]) rfl nd (si_seq (snd_var 0 rfl (by first | exact .inl rfl | exact .inr (.inl rfl) | exact .inr (.inr rfl)))) (blkOk_by (by kernel_rfl)) (fun _ _ _ _ _ => (sg_name nd rfl (by first | exact .inl rfl | exact .inr rfl))) (fun _ _ _ _ _ => sts_nil) (fun _ _ _ _ _ => (snd_call a_is_count takes_0 hr (by decide) (by rfl) (sa_cons (snd_var 2 rfl (by first | exact .inl rfl | exact .inr (.inl rfl) | exact .inr (.inr rfl))) (sa_cons snd_int (sa_cons (snd_gint (by rfl) T.i_MOST_OF_ONE) sa_nil))) rfl))) sa_nil)))))))
theorem sc_is_album : FnScope ["thing", "many", "spare", "want"] ["thing", "many"] (defScope st_is_album) := ⟨rfl, rfl, rfl, by decide +kernel, rfl, by decide +kernel, by decide +kernel⟩
set_option maxHeartbeats 0 in
theorem ok_is_album {f : Addr} {fd : FuncData} (F : Fun K "is_album" "is_album" st_is_album f fd) (T : Txt K mg ct) (a_are_counts : FnAt P w K mg base ct "are_counts" 2 2 f_are_counts) :
    FnOk P w K mg base (L2.CX P w) 3 f fd ["thing", "many"] (spOf ct 2 f_is_album) := by
  refine def_ok (k := 2) (Ns := ["thing", "many", "spare", "want"]) F sc_is_album fun cdv A outer s H E hr => ?_
  have hu65 := units_65 hr
  have hu64 := units_64 hr
  have hu1 := units_1 hr
  have nd := sc_is_album.nd
  have tk : Takes (bodyX P w K mg base ["thing", "many", "spare", "want"] "is_album" st_is_album f cdv A outer s H E) (fun cls d _ H => E cls d H) := takes_of rfl rfl rfl rfl
  have ps : PassesOwn (model P w) (bodyX P w K mg base ["thing", "many", "spare", "want"] "is_album" st_is_album f cdv A outer s H E).A (bodyX P w K mg base ["thing", "many", "spare", "want"] "is_album" st_is_album f cdv A outer s H E).env (bodyX P w K mg base ["thing", "many", "spare", "want"] "is_album" st_is_album f cdv A outer s H E).xe := passes_of rfl
  unfold d_is_album
  exact (sb_cons (ss_if (SndW.t (sw_or (st_not (st_val (snd_isT (snd_var 0 rfl (by first | exact .inl rfl | exact .inr (.inl rfl) | exact .inr (.inr rfl))) tf_tuple (by rfl) T.n_isinstance (by rfl) T.n_tuple bo_tuple))) (sw_or1 (st_cmp (so_ne hu64) (snd_callB sc_len (by rfl) T.n_len bo_len (sa_cons (snd_var 0 rfl (by first | exact .inl rfl | exact .inr (.inl rfl) | exact .inr (.inr rfl))) sa_nil)) snd_int (by rfl))))) (sb_one (ss_ret snd_bl)) sb_nil)
    (sb_cons (ss_if (SndW.t (sw_or (st_not (st_val (snd_call a_are_counts tk hr (by decide) (by rfl) (sa_cons (snd_ix hu1 (snd_var 0 rfl (by first | exact .inl rfl | exact .inr (.inl rfl) | exact .inr (.inr rfl))) snd_int (fun _ _ => rfl)) (sa_cons (snd_var 1 rfl (by first | exact .inl rfl | exact .inr (.inl rfl) | exact .inr (.inr rfl))) sa_nil)) rfl))) (sw_or1 (st_not (st_val (snd_call a_are_counts tk hr (by decide) (by rfl) (sa_cons (snd_ix hu1 (snd_var 0 rfl (by first | exact .inl rfl | exact .inr (.inl rfl) | exact .inr (.inr rfl))) snd_int (fun _ _ => rfl)) (sa_cons (snd_var 1 rfl (by first | exact .inl rfl | exact .inr (.inl rfl) | exact .inr (.inr rfl))) sa_nil)) rfl)))))) (sb_one (ss_ret snd_bl)) sb_nil)
    (sb_one (ss_ret (snd_callB (sc_all rfl) (by rfl) T.n_all bo_all (sa_cons (snd_lc (own := [("spare", 2), ("want", 3)]) rfl nd (si_zip (by rfl) T.n_zip (sa_cons (snd_ix hu1 (snd_var 0 rfl (by first | exact .inl rfl | exact .inr (.inl rfl) | exact .inr (.inr rfl))) snd_int (fun _ _ => rfl)) (sa_cons (snd_ix hu1 (snd_var 0 rfl (by first | exact .inl rfl | exact .inr (.inl rfl) | exact .inr (.inr rfl))) snd_int (fun _ _ => rfl)) sa_nil))) (blkOk_by (by kernel_rfl)) (fun _ _ _ _ _ => (sg_tup rfl (sg_cons (sg_name nd rfl (by first | exact .inl rfl | exact .inr rfl)) (sg_cons (sg_name nd rfl (by first | exact .inl rfl | exact .inr rfl)) sg_nil)))) (fun _ _ _ _ _ => sts_nil) (fun _ _ _ _ _ => (snd_or (snd_cmp (so_eq hu64) (snd_var 2 rfl (by first | exact .inl rfl | exact .inr (.inl rfl) | exact .inr (.inr rfl))) snd_int (by rfl)) (snd_one (snd_cmp (so_eq hu64) (snd_var 3 rfl (by first | exact .inl rfl | exact .inr (.inl rfl) | exact .inr (.inr rfl))) snd_int (by rfl)))))) sa_nil))))))
theorem sc_check_albums : FnScope ["albums", "first", "many", "album"] ["albums"] (defScope st_check_albums) := ⟨rfl, rfl, rfl, by decide +kernel, rfl, by decide +kernel, by decide +kernel⟩
set_option maxHeartbeats 0 in
theorem ok_check_albums {f : Addr} {fd : FuncData} (F : Fun K "check_albums" "check_albums" st_check_albums f fd) (T : Txt K mg ct) (a_is_album : FnAt P w K mg base ct "is_album" 3 2 f_is_album) :
    FnOk P w K mg base (L2.CX P w) 4 f fd ["albums"] (spOf ct 1 f_check_albums) := by
  refine def_ok (k := 3) (Ns := ["albums", "first", "many", "album"]) F sc_check_albums fun cdv A outer s H E hr => ?_
  have hu65 := units_65 hr
  have hu64 := units_64 hr
  have hu1 := units_1 hr
  have nd := sc_check_albums.nd
  have tk : Takes (bodyX P w K mg base ["albums", "first", "many", "album"] "check_albums" st_check_albums f cdv A outer s H E) (fun cls d _ H => E cls d H) := takes_of rfl rfl rfl rfl
  have ps : PassesOwn (model P w) (bodyX P w K mg base ["albums", "first", "many", "album"] "check_albums" st_check_albums f cdv A outer s H E).A (bodyX P w K mg base ["albums", "first", "many", "album"] "check_albums" st_check_albums f cdv A outer s H E).env (bodyX P w K mg base ["albums", "first", "many", "album"] "check_albums" st_check_albums f cdv A outer s H E).xe := passes_of rfl
  unfold d_check_albums
  exact (sb_cons (ss_if (SndW.t (sw_or (st_not (st_val (snd_isT (snd_var 0 rfl (by first | exact .inl rfl | exact .inr (.inl rfl) | exact .inr (.inr rfl))) tf_list (by rfl) T.n_isinstance (by rfl) T.n_list bo_list))) (sw_or1 (st_not (st_chain so_le so_le snd_int (snd_callB sc_len (by rfl) T.n_len bo_len (sa_cons (snd_var 0 rfl (by first | exact .inl rfl | exact .inr (.inl rfl) | exact .inr (.inr rfl))) sa_nil)) (snd_gint (by rfl) T.i_MOST_COLLECTORS)))))) (sb_one (ss_raise T.e_BadAlbums rfl tk (by rfl))) sb_nil)
    (sb_cons (ss_set (snd_ix hu1 (snd_var 0 rfl (by first | exact .inl rfl | exact .inr (.inl rfl) | exact .inr (.inr rfl))) snd_int (fun _ _ => rfl)) nd rfl (by first | exact .inl rfl | exact .inr rfl))
    (sb_cons (ss_if (SndW.t (sw_or (st_not (st_val (snd_isT (snd_var 1 rfl (by first | exact .inl rfl | exact .inr (.inl rfl) | exact .inr (.inr rfl))) tf_tuple (by rfl) T.n_isinstance (by rfl) T.n_tuple bo_tuple))) (sw_or (st_cmp (so_ne hu64) (snd_callB sc_len (by rfl) T.n_len bo_len (sa_cons (snd_var 1 rfl (by first | exact .inl rfl | exact .inr (.inl rfl) | exact .inr (.inr rfl))) sa_nil)) snd_int (by rfl)) (sw_or1 (st_not (st_val (snd_isT (snd_ix hu1 (snd_var 1 rfl (by first | exact .inl rfl | exact .inr (.inl rfl) | exact .inr (.inr rfl))) snd_int (fun _ _ => rfl)) tf_list (by rfl) T.n_isinstance (by rfl) T.n_list bo_list))))))) (sb_one (ss_raise T.e_BadAlbums rfl tk (by rfl))) sb_nil)
    (sb_cons (ss_set (snd_callB sc_len (by rfl) T.n_len bo_len (sa_cons (snd_ix hu1 (snd_var 1 rfl (by first | exact .inl rfl | exact .inr (.inl rfl) | exact .inr (.inr rfl))) snd_int (fun _ _ => rfl)) sa_nil)) nd rfl (by first | exact .inl rfl | exact .inr rfl))
    (sb_one (ss_if (SndW.t (sw_or (st_not (st_chain so_le so_le snd_int (snd_var 2 rfl (by first | exact .inl rfl | exact .inr (.inl rfl) | exact .inr (.inr rfl))) (snd_gint (by rfl) T.i_MOST_KINDS))) (sw_or1 (st_not (st_val (snd_callB (sc_all rfl) (by rfl) T.n_all bo_all (sa_cons (snd_lc (own := [("album", 3)]) rfl nd (si_seq (snd_var 0 rfl (by first | exact .inl rfl | exact .inr (.inl rfl) | exact .inr (.inr rfl)))) (blkOk_by (by kernel_rfl)) (fun _ _ _ _ _ => (sg_name nd rfl (by first | exact .inl rfl | exact .inr rfl))) (fun _ _ _ _ _ => sts_nil) (fun _ _ _ _ _ => (snd_call a_is_album takes_0 hr (by decide) (by rfl) (sa_cons (snd_var 3 rfl (by first | exact .inl rfl | exact .inr (.inl rfl) | exact .inr (.inr rfl))) (sa_cons (snd_var 2 rfl (by first | exact .inl rfl | exact .inr (.inl rfl) | exact .inr (.inr rfl))) sa_nil)) rfl))) sa_nil))))))) (sb_one (ss_raise T.e_BadAlbums rfl tk (by rfl))) sb_nil))))))
theorem sc_is_gift : FnScope ["albums", "gift", "giver", "kind", "taker", "many", "kinds"] ["albums", "gift"] (defScope st_is_gift) := ⟨rfl, rfl, rfl, by decide +kernel, rfl, by decide +kernel, by decide +kernel⟩
set_option maxHeartbeats 0 in
theorem ok_is_gift {f : Addr} {fd : FuncData} (F : Fun K "is_gift" "is_gift" st_is_gift f fd) (T : Txt K mg ct) :
    FnOk P w K mg base (L2.CX P w) 1 f fd ["albums", "gift"] (spOf ct 2 f_is_gift) := by
  refine def_ok (k := 0) (Ns := ["albums", "gift", "giver", "kind", "taker", "many", "kinds"]) F sc_is_gift fun cdv A outer s H E hr => ?_
  have hu65 := units_65 hr
  have hu64 := units_64 hr
  have hu1 := units_1 hr
  have nd := sc_is_gift.nd
  have tk : Takes (bodyX P w K mg base ["albums", "gift", "giver", "kind", "taker", "many", "kinds"] "is_gift" st_is_gift f cdv A outer s H E) (fun cls d _ H => E cls d H) := takes_of rfl rfl rfl rfl
  have ps : PassesOwn (model P w) (bodyX P w K mg base ["albums", "gift", "giver", "kind", "taker", "many", "kinds"] "is_gift" st_is_gift f cdv A outer s H E).A (bodyX P w K mg base ["albums", "gift", "giver", "kind", "taker", "many", "kinds"] "is_gift" st_is_gift f cdv A outer s H E).env (bodyX P w K mg base ["albums", "gift", "giver", "kind", "taker", "many", "kinds"] "is_gift" st_is_gift f cdv A outer s H E).xe := passes_of rfl
  unfold d_is_gift
  exact (sb_cons (ss_asg (snd_var 1 rfl (by first | exact .inl rfl | exact .inr (.inl rfl) | exact .inr (.inr rfl))) (sg_tup rfl (sg_cons (sg_name nd rfl (by first | exact .inl rfl | exact .inr rfl)) (sg_cons (sg_name nd rfl (by first | exact .inl rfl | exact .inr rfl)) (sg_cons (sg_name nd rfl (by first | exact .inl rfl | exact .inr rfl)) sg_nil)))))
    (sb_cons (by first | exact (ss_par rfl nd rfl rfl (by decide) rfl rfl (sa_cons (snd_callB sc_len (by rfl) T.n_len bo_len (sa_cons (snd_var 0 rfl (by first | exact .inl rfl | exact .inr (.inl rfl) | exact .inr (.inr rfl))) sa_nil)) (sa_cons (snd_callB sc_len (by rfl) T.n_len bo_len (sa_cons (snd_ix hu1 (snd_ix hu1 (snd_var 0 rfl (by first | exact .inl rfl | exact .inr (.inl rfl) | exact .inr (.inr rfl))) snd_int (fun _ _ => rfl)) snd_int (fun _ _ => rfl)) sa_nil)) sa_nil)) rfl) | exact ss_parT (ss_asg (snd_tup (sa_cons (snd_callB sc_len (by rfl) T.n_len bo_len (sa_cons (snd_var 0 rfl (by first | exact .inl rfl | exact .inr (.inl rfl) | exact .inr (.inr rfl))) sa_nil)) (sa_cons (snd_callB sc_len (by rfl) T.n_len bo_len (sa_cons (snd_ix hu1 (snd_ix hu1 (snd_var 0 rfl (by first | exact .inl rfl | exact .inr (.inl rfl) | exact .inr (.inr rfl))) snd_int (fun _ _ => rfl)) snd_int (fun _ _ => rfl)) sa_nil)) sa_nil))) (sg_tup rfl (sg_cons (sg_name nd rfl (by first | exact .inl rfl | exact .inr rfl)) (sg_cons (sg_name nd rfl (by first | exact .inl rfl | exact .inr rfl)) sg_nil)))))
    (sb_one (ss_ret (snd_and (snd_chain so_le so_lt snd_int (snd_var 2 rfl (by first | exact .inl rfl | exact .inr (.inl rfl) | exact .inr (.inr rfl))) (snd_var 5 rfl (by first | exact .inl rfl | exact .inr (.inl rfl) | exact .inr (.inr rfl)))) (snd_and (snd_chain so_le so_lt snd_int (snd_var 4 rfl (by first | exact .inl rfl | exact .inr (.inl rfl) | exact .inr (.inr rfl))) (snd_var 5 rfl (by first | exact .inl rfl | exact .inr (.inl rfl) | exact .inr (.inr rfl)))) (snd_and (snd_cmp (so_ne hu64) (snd_var 2 rfl (by first | exact .inl rfl | exact .inr (.inl rfl) | exact .inr (.inr rfl))) (snd_var 4 rfl (by first | exact .inl rfl | exact .inr (.inl rfl) | exact .inr (.inr rfl))) (by rfl)) (snd_one (snd_chain so_le so_lt snd_int (snd_var 3 rfl (by first | exact .inl rfl | exact .inr (.inl rfl) | exact .inr (.inr rfl))) (snd_var 6 rfl (by first | exact .inl rfl | exact .inr (.inl rfl) | exact .inr (.inr rfl))))))))))))
theorem sc_check_gifts : FnScope ["albums", "gifts", "gift", "one"] ["albums", "gifts"] (defScope st_check_gifts) := ⟨rfl, rfl, rfl, by decide +kernel, rfl, by decide +kernel, by decide +kernel⟩
set_option maxHeartbeats 0 in
theorem ok_check_gifts {f : Addr} {fd : FuncData} (F : Fun K "check_gifts" "check_gifts" st_check_gifts f fd) (T : Txt K mg ct) (a_is_count : FnAt P w K mg base ct "is_count" 1 3 f_is_count) (a_is_gift : FnAt P w K mg base ct "is_gift" 1 2 f_is_gift) :
    FnOk P w K mg base (L2.CX P w) 2 f fd ["albums", "gifts"] (spOf ct 2 f_check_gifts) := by
  refine def_ok (k := 1) (Ns := ["albums", "gifts", "gift", "one"]) F sc_check_gifts fun cdv A outer s H E hr => ?_
  have hu65 := units_65 hr
  have hu64 := units_64 hr
  have hu1 := units_1 hr
  have nd := sc_check_gifts.nd
  have tk : Takes (bodyX P w K mg base ["albums", "gifts", "gift", "one"] "check_gifts" st_check_gifts f cdv A outer s H E) (fun cls d _ H => E cls d H) := takes_of rfl rfl rfl rfl
  have ps : PassesOwn (model P w) (bodyX P w K mg base ["albums", "gifts", "gift", "one"] "check_gifts" st_check_gifts f cdv A outer s H E).A (bodyX P w K mg base ["albums", "gifts", "gift", "one"] "check_gifts" st_check_gifts f cdv A outer s H E).env (bodyX P w K mg base ["albums", "gifts", "gift", "one"] "check_gifts" st_check_gifts f cdv A outer s H E).xe := passes_of rfl
  unfold d_check_gifts
  exact (sb_cons (ss_if (st_not (st_val (snd_isT (snd_var 1 rfl (by first | exact .inl rfl | exact .inr (.inl rfl) | exact .inr (.inr rfl))) tf_list (by rfl) T.n_isinstance (by rfl) T.n_list bo_list))) (sb_one (ss_raise T.e_BadGifts rfl tk (by rfl))) sb_nil)
    (sb_one (ss_for ps rfl (si_seq (snd_var 1 rfl (by first | exact .inl rfl | exact .inr (.inl rfl) | exact .inr (.inr rfl)))) (sg_name nd rfl (by first | exact .inl rfl | exact .inr rfl)) (sb_cons (ss_if (SndW.t (sw_or (st_not (st_val (snd_isT (snd_var 2 rfl (by first | exact .inl rfl | exact .inr (.inl rfl) | exact .inr (.inr rfl))) tf_tuple (by rfl) T.n_isinstance (by rfl) T.n_tuple bo_tuple))) (sw_or1 (st_cmp (so_ne hu64) (snd_callB sc_len (by rfl) T.n_len bo_len (sa_cons (snd_var 2 rfl (by first | exact .inl rfl | exact .inr (.inl rfl) | exact .inr (.inr rfl))) sa_nil)) snd_int (by rfl))))) (sb_one (ss_raise T.e_BadGifts rfl tk (by rfl))) sb_nil)
    (sb_one (ss_if (SndW.t (sw_or (st_not (st_val (snd_callB (sc_all rfl) (by rfl) T.n_all bo_all (sa_cons (snd_lc (own := [("one", 3)]) rfl nd (si_seq (snd_var 2 rfl (by first | exact .inl rfl | exact .inr (.inl rfl) | exact .inr (.inr rfl)))) (blkOk_by (by kernel_rfl)) (fun _ _ _ _ _ => (sg_name nd rfl (by first | exact .inl rfl | exact .inr rfl))) (fun _ _ _ _ _ => sts_nil) (fun _ _ _ _ _ => (snd_call a_is_count takes_0 hr (by decide) (by rfl) (sa_cons (snd_var 3 rfl (by first | exact .inl rfl | exact .inr (.inl rfl) | exact .inr (.inr rfl))) (sa_cons snd_int (sa_cons (snd_gint (by rfl) T.i_MOST_COLLECTORS) sa_nil))) rfl))) sa_nil)))) (sw_or1 (st_not (st_val (snd_call a_is_gift tk hr (by decide) (by rfl) (sa_cons (snd_var 0 rfl (by first | exact .inl rfl | exact .inr (.inl rfl) | exact .inr (.inr rfl))) (sa_cons (snd_var 2 rfl (by first | exact .inl rfl | exact .inr (.inl rfl) | exact .inr (.inr rfl))) sa_nil)) rfl)))))) (sb_one (ss_raise T.e_BadGifts rfl tk (by rfl))) sb_nil))))))
theorem sc_left_of : FnScope ["albums", "gifts", "found", "spares", "wants", "giver", "kind", "taker"] ["albums", "gifts"] (defScope st_left_of) := ⟨rfl, rfl, rfl, by decide +kernel, rfl, by decide +kernel, by decide +kernel⟩
set_option maxHeartbeats 0 in
theorem ok_left_of {f : Addr} {fd : FuncData} (F : Fun K "left_of" "left_of" st_left_of f fd) (T : Txt K mg ct) :
    FnOk P w K mg base (L2.CX P w) 1 f fd ["albums", "gifts"] (spOf ct 2 f_left_of) := by
  refine def_ok (k := 0) (Ns := ["albums", "gifts", "found", "spares", "wants", "giver", "kind", "taker"]) F sc_left_of fun cdv A outer s H E hr => ?_
  have hu65 := units_65 hr
  have hu64 := units_64 hr
  have hu1 := units_1 hr
  have nd := sc_left_of.nd
  have tk : Takes (bodyX P w K mg base ["albums", "gifts", "found", "spares", "wants", "giver", "kind", "taker"] "left_of" st_left_of f cdv A outer s H E) (fun cls d _ H => E cls d H) := takes_of rfl rfl rfl rfl
  have ps : PassesOwn (model P w) (bodyX P w K mg base ["albums", "gifts", "found", "spares", "wants", "giver", "kind", "taker"] "left_of" st_left_of f cdv A outer s H E).A (bodyX P w K mg base ["albums", "gifts", "found", "spares", "wants", "giver", "kind", "taker"] "left_of" st_left_of f cdv A outer s H E).env (bodyX P w K mg base ["albums", "gifts", "found", "spares", "wants", "giver", "kind", "taker"] "left_of" st_left_of f cdv A outer s H E).xe := passes_of rfl
  unfold d_left_of
  exact (sb_cons (by first | exact ss_setLc (own := [("spares", 3), ("wants", 4)]) rfl nd rfl rfl rfl (si_seq (snd_var 0 rfl (by first | exact .inl rfl | exact .inr (.inl rfl) | exact .inr (.inr rfl)))) (blkOk_by (by kernel_rfl)) (fun _ _ _ _ _ => (sg_tup rfl (sg_cons (sg_name nd rfl (by first | exact .inl rfl | exact .inr rfl)) (sg_cons (sg_name nd rfl (by first | exact .inl rfl | exact .inr rfl)) sg_nil)))) (fun _ _ _ _ _ => sts_nil) (fun _ _ _ _ _ => (snd_tup (sa_cons (snd_callTy sc_listM (by rfl) T.n_list bo_list (sa_cons (snd_var 3 rfl (by first | exact .inl rfl | exact .inr (.inl rfl) | exact .inr (.inr rfl))) sa_nil)) (sa_cons (snd_callTy sc_listM (by rfl) T.n_list bo_list (sa_cons (snd_var 4 rfl (by first | exact .inl rfl | exact .inr (.inl rfl) | exact .inr (.inr rfl))) sa_nil)) sa_nil)))) | exact ss_set (snd_lc (own := [("spares", 3), ("wants", 4)]) rfl nd (si_seq (snd_var 0 rfl (by first | exact .inl rfl | exact .inr (.inl rfl) | exact .inr (.inr rfl)))) (blkOk_by (by kernel_rfl)) (fun _ _ _ _ _ => (sg_tup rfl (sg_cons (sg_name nd rfl (by first | exact .inl rfl | exact .inr rfl)) (sg_cons (sg_name nd rfl (by first | exact .inl rfl | exact .inr rfl)) sg_nil)))) (fun _ _ _ _ _ => sts_nil) (fun _ _ _ _ _ => (snd_tup (sa_cons (snd_callTy sc_listM (by rfl) T.n_list bo_list (sa_cons (snd_var 3 rfl (by first | exact .inl rfl | exact .inr (.inl rfl) | exact .inr (.inr rfl))) sa_nil)) (sa_cons (snd_callTy sc_listM (by rfl) T.n_list bo_list (sa_cons (snd_var 4 rfl (by first | exact .inl rfl | exact .inr (.inl rfl) | exact .inr (.inr rfl))) sa_nil)) sa_nil))))) nd rfl (by first | exact .inl rfl | exact .inr rfl))
    (sb_cons (ss_for ps rfl (si_seq (snd_var 1 rfl (by first | exact .inl rfl | exact .inr (.inl rfl) | exact .inr (.inr rfl)))) (sg_tup rfl (sg_cons (sg_name nd rfl (by first | exact .inl rfl | exact .inr rfl)) (sg_cons (sg_name nd rfl (by first | exact .inl rfl | exact .inr rfl)) (sg_cons (sg_name nd rfl (by first | exact .inl rfl | exact .inr rfl)) sg_nil)))) (sb_cons (ss_augS hu1 ip_sub (snd_ix hu1 (snd_ix hu1 (snd_var 2 rfl (by first | exact .inl rfl | exact .inr (.inl rfl) | exact .inr (.inr rfl))) (snd_var 5 rfl (by first | exact .inl rfl | exact .inr (.inl rfl) | exact .inr (.inr rfl))) (fun _ _ => rfl)) snd_int (fun _ _ => rfl)) (snd_var 6 rfl (by first | exact .inl rfl | exact .inr (.inl rfl) | exact .inr (.inr rfl))) snd_int)
    (sb_one (ss_augS hu1 ip_sub (snd_ix hu1 (snd_ix hu1 (snd_var 2 rfl (by first | exact .inl rfl | exact .inr (.inl rfl) | exact .inr (.inr rfl))) (snd_var 7 rfl (by first | exact .inl rfl | exact .inr (.inl rfl) | exact .inr (.inr rfl))) (fun _ _ => rfl)) snd_int (fun _ _ => rfl)) (snd_var 6 rfl (by first | exact .inl rfl | exact .inr (.inl rfl) | exact .inr (.inr rfl))) snd_int))))
    (sb_one (ss_ret (snd_var 2 rfl (by first | exact .inl rfl | exact .inr (.inl rfl) | exact .inr (.inr rfl)))))))
theorem sc_fits : FnScope ["albums", "gifts", "gift", "spares", "wants"] ["albums", "gifts"] (defScope st_fits) := ⟨rfl, rfl, rfl, by decide +kernel, rfl, by decide +kernel, by decide +kernel⟩
set_option maxHeartbeats 0 in
theorem ok_fits {f : Addr} {fd : FuncData} (F : Fun K "fits" "fits" st_fits f fd) (T : Txt K mg ct) (a_is_gift : FnAt P w K mg base ct "is_gift" 1 2 f_is_gift) (a_left_of : FnAt P w K mg base ct "left_of" 1 2 f_left_of) :
    FnOk P w K mg base (L2.CX P w) 2 f fd ["albums", "gifts"] (spOf ct 2 f_fits) := by
  refine def_ok (k := 1) (Ns := ["albums", "gifts", "gift", "spares", "wants"]) F sc_fits fun cdv A outer s H E hr => ?_
  have hu65 := units_65 hr
  have hu64 := units_64 hr
  have hu1 := units_1 hr
  have nd := sc_fits.nd
  have tk : Takes (bodyX P w K mg base ["albums", "gifts", "gift", "spares", "wants"] "fits" st_fits f cdv A outer s H E) (fun cls d _ H => E cls d H) := takes_of rfl rfl rfl rfl
  have ps : PassesOwn (model P w) (bodyX P w K mg base ["albums", "gifts", "gift", "spares", "wants"] "fits" st_fits f cdv A outer s H E).A (bodyX P w K mg base ["albums", "gifts", "gift", "spares", "wants"] "fits" st_fits f cdv A outer s H E).env (bodyX P w K mg base ["albums", "gifts", "gift", "spares", "wants"] "fits" st_fits f cdv A outer s H E).xe := passes_of rfl
  unfold d_fits
  exact (sb_cons (ss_if (st_not (st_val (snd_callB (sc_all rfl) (by rfl) T.n_all bo_all (sa_cons (snd_lc (own := [("gift", 2)]) rfl nd (si_seq (snd_var 1 rfl (by first | exact .inl rfl | exact .inr (.inl rfl) | exact .inr (.inr rfl)))) (blkOk_by (by kernel_rfl)) (fun _ _ _ _ _ => (sg_name nd rfl (by first | exact .inl rfl | exact .inr rfl))) (fun _ _ _ _ _ => sts_nil) (fun _ _ _ _ _ => (snd_call a_is_gift takes_0 hr (by decide) (by rfl) (sa_cons (snd_var 0 rfl (by first | exact .inl rfl | exact .inr (.inl rfl) | exact .inr (.inr rfl))) (sa_cons (snd_var 2 rfl (by first | exact .inl rfl | exact .inr (.inl rfl) | exact .inr (.inr rfl))) sa_nil)) rfl))) sa_nil)))) (sb_one (ss_ret snd_bl)) sb_nil)
    (sb_one (ss_ret (snd_callB (sc_all rfl) (by rfl) T.n_all bo_all (sa_cons (snd_lc (own := [("spares", 3), ("wants", 4)]) rfl nd (si_seq (snd_call a_left_of tk hr (by decide) (by rfl) (sa_cons (snd_var 0 rfl (by first | exact .inl rfl | exact .inr (.inl rfl) | exact .inr (.inr rfl))) (sa_cons (snd_var 1 rfl (by first | exact .inl rfl | exact .inr (.inl rfl) | exact .inr (.inr rfl))) sa_nil)) rfl)) (blkOk_by (by kernel_rfl)) (fun _ _ _ _ _ => (sg_tup rfl (sg_cons (sg_name nd rfl (by first | exact .inl rfl | exact .inr rfl)) (sg_cons (sg_name nd rfl (by first | exact .inl rfl | exact .inr rfl)) sg_nil)))) (fun _ _ _ _ _ => sts_nil) (fun _ _ _ _ _ => (snd_cmp so_ge (snd_callB (sc_min rfl) (by rfl) T.n_min bo_min (sa_cons (snd_bin so_add (snd_var 3 rfl (by first | exact .inl rfl | exact .inr (.inl rfl) | exact .inr (.inr rfl))) (snd_var 4 rfl (by first | exact .inl rfl | exact .inr (.inl rfl) | exact .inr (.inr rfl)))) sa_nil)) snd_int (by rfl)))) sa_nil)))))
theorem sc_is_even : FnScope ["gifts", "gift"] ["gifts"] (defScope st_is_even) := ⟨rfl, rfl, rfl, by decide +kernel, rfl, by decide +kernel, by decide +kernel⟩
set_option maxHeartbeats 0 in
theorem ok_is_even {f : Addr} {fd : FuncData} (F : Fun K "is_even" "is_even" st_is_even f fd) (T : Txt K mg ct) :
    FnOk P w K mg base (L2.CX P w) 1 f fd ["gifts"] (spOf ct 1 f_is_even) := by
  refine def_ok (k := 0) (Ns := ["gifts", "gift"]) F sc_is_even fun cdv A outer s H E hr => ?_
  have hu65 := units_65 hr
  have hu64 := units_64 hr
  have hu1 := units_1 hr
  have nd := sc_is_even.nd
  have tk : Takes (bodyX P w K mg base ["gifts", "gift"] "is_even" st_is_even f cdv A outer s H E) (fun cls d _ H => E cls d H) := takes_of rfl rfl rfl rfl
  have ps : PassesOwn (model P w) (bodyX P w K mg base ["gifts", "gift"] "is_even" st_is_even f cdv A outer s H E).A (bodyX P w K mg base ["gifts", "gift"] "is_even" st_is_even f cdv A outer s H E).env (bodyX P w K mg base ["gifts", "gift"] "is_even" st_is_even f cdv A outer s H E).xe := passes_of rfl
  unfold d_is_even
  exact (sb_one (ss_ret (snd_cmp (so_eq hu64) (snd_callB sc_sorted (by rfl) T.n_sorted bo_sorted (sa_cons (snd_lc (own := [("gift", 1)]) rfl nd (si_seq (snd_var 0 rfl (by first | exact .inl rfl | exact .inr (.inl rfl) | exact .inr (.inr rfl)))) (blkOk_by (by kernel_rfl)) (fun _ _ _ _ _ => (sg_name nd rfl (by first | exact .inl rfl | exact .inr rfl))) (fun _ _ _ _ _ => sts_nil) (fun _ _ _ _ _ => (snd_ix hu1 (snd_var 1 rfl (by first | exact .inl rfl | exact .inr (.inl rfl) | exact .inr (.inr rfl))) snd_int (fun _ _ => rfl)))) sa_nil)) (snd_callB sc_sorted (by rfl) T.n_sorted bo_sorted (sa_cons (snd_lc (own := [("gift", 1)]) rfl nd (si_seq (snd_var 0 rfl (by first | exact .inl rfl | exact .inr (.inl rfl) | exact .inr (.inr rfl)))) (blkOk_by (by kernel_rfl)) (fun _ _ _ _ _ => (sg_name nd rfl (by first | exact .inl rfl | exact .inr rfl))) (fun _ _ _ _ _ => sts_nil) (fun _ _ _ _ _ => (snd_ix hu1 (snd_var 1 rfl (by first | exact .inl rfl | exact .inr (.inl rfl) | exact .inr (.inr rfl))) snd_int (fun _ _ => rfl)))) sa_nil)) (by rfl))))
theorem sc_is_ring : FnScope ["gifts", "givers", "gift"] ["gifts"] (defScope st_is_ring) := ⟨rfl, rfl, rfl, by decide +kernel, rfl, by decide +kernel, by decide +kernel⟩
set_option maxHeartbeats 0 in
theorem ok_is_ring {f : Addr} {fd : FuncData} (F : Fun K "is_ring" "is_ring" st_is_ring f fd) (T : Txt K mg ct) :
    FnOk P w K mg base (L2.CX P w) 1 f fd ["gifts"] (spOf ct 1 f_is_ring) := by
  refine def_ok (k := 0) (Ns := ["gifts", "givers", "gift"]) F sc_is_ring fun cdv A outer s H E hr => ?_
  have hu65 := units_65 hr
  have hu64 := units_64 hr
  have hu1 := units_1 hr
  have nd := sc_is_ring.nd
  have tk : Takes (bodyX P w K mg base ["gifts", "givers", "gift"] "is_ring" st_is_ring f cdv A outer s H E) (fun cls d _ H => E cls d H) := takes_of rfl rfl rfl rfl
  have ps : PassesOwn (model P w) (bodyX P w K mg base ["gifts", "givers", "gift"] "is_ring" st_is_ring f cdv A outer s H E).A (bodyX P w K mg base ["gifts", "givers", "gift"] "is_ring" st_is_ring f cdv A outer s H E).env (bodyX P w K mg base ["gifts", "givers", "gift"] "is_ring" st_is_ring f cdv A outer s H E).xe := passes_of rfl
  unfold d_is_ring
  exact (sb_cons (by first | exact ss_setLc (own := [("gift", 2)]) rfl nd rfl rfl rfl (si_seq (snd_var 0 rfl (by first | exact .inl rfl | exact .inr (.inl rfl) | exact .inr (.inr rfl)))) (blkOk_by (by kernel_rfl)) (fun _ _ _ _ _ => (sg_name nd rfl (by first | exact .inl rfl | exact .inr rfl))) (fun _ _ _ _ _ => sts_nil) (fun _ _ _ _ _ => (snd_ix hu1 (snd_var 2 rfl (by first | exact .inl rfl | exact .inr (.inl rfl) | exact .inr (.inr rfl))) snd_int (fun _ _ => rfl))) | exact ss_set (snd_lc (own := [("gift", 2)]) rfl nd (si_seq (snd_var 0 rfl (by first | exact .inl rfl | exact .inr (.inl rfl) | exact .inr (.inr rfl)))) (blkOk_by (by kernel_rfl)) (fun _ _ _ _ _ => (sg_name nd rfl (by first | exact .inl rfl | exact .inr rfl))) (fun _ _ _ _ _ => sts_nil) (fun _ _ _ _ _ => (snd_ix hu1 (snd_var 2 rfl (by first | exact .inl rfl | exact .inr (.inl rfl) | exact .inr (.inr rfl))) snd_int (fun _ _ => rfl)))) nd rfl (by first | exact .inl rfl | exact .inr rfl))
    (sb_cons (ss_if (SndW.t (sw_or (st_cmp (so_eq hu64) (snd_var 0 rfl (by first | exact .inl rfl | exact .inr (.inl rfl) | exact .inr (.inr rfl))) (snd_lst sa_nil) (by rfl)) (sw_or1 (st_cmp so_lt (snd_lenSet rfl (by rfl) T.n_len (by rfl) T.n_set (snd_var 1 rfl (by first | exact .inl rfl | exact .inr (.inl rfl) | exact .inr (.inr rfl)))) (snd_callB sc_len (by rfl) T.n_len bo_len (sa_cons (snd_var 1 rfl (by first | exact .inl rfl | exact .inr (.inl rfl) | exact .inr (.inr rfl))) sa_nil)) (by rfl))))) (sb_one (ss_ret snd_bl)) sb_nil)
    (sb_one (ss_ret (snd_cmp (so_eq hu64) (snd_lc (own := [("gift", 2)]) rfl nd (si_seq (snd_var 0 rfl (by first | exact .inl rfl | exact .inr (.inl rfl) | exact .inr (.inr rfl)))) (blkOk_by (by kernel_rfl)) (fun _ _ _ _ _ => (sg_name nd rfl (by first | exact .inl rfl | exact .inr rfl))) (fun _ _ _ _ _ => sts_nil) (fun _ _ _ _ _ => (snd_ix hu1 (snd_var 2 rfl (by first | exact .inl rfl | exact .inr (.inl rfl) | exact .inr (.inr rfl))) snd_int (fun _ _ => rfl)))) (snd_bin so_add (snd_sl (snd_var 1 rfl (by first | exact .inl rfl | exact .inr (.inl rfl) | exact .inr (.inr rfl))) (sp_some snd_int) sp_none) (snd_sl (snd_var 1 rfl (by first | exact .inl rfl | exact .inr (.inl rfl) | exact .inr (.inr rfl))) sp_none (sp_some snd_int))) (by rfl))))))
theorem sc_Flow_steps : FnScope ["self", "found", "place", "begin", "end", "most", "gain"] ["self"] (defScope st_Flow_steps) := ⟨rfl, rfl, rfl, by decide +kernel, rfl, by decide +kernel, by decide +kernel⟩
set_option maxHeartbeats 0 in
theorem ok_Flow_steps {f : Addr} {fd : FuncData} (F : Fun K "steps" "Flow.steps" st_Flow_steps f fd) (T : Txt K mg ct) :
    FnOk P w K mg base (L2.CX P w) 1 f fd ["self"] (spOf ct 1 f_Flow_steps) := by
  refine def_ok (k := 0) (Ns := ["self", "found", "place", "begin", "end", "most", "gain"]) F sc_Flow_steps fun cdv A outer s H E hr => ?_
  have hu65 := units_65 hr
  have hu64 := units_64 hr
  have hu1 := units_1 hr
  have nd := sc_Flow_steps.nd
  have tk : Takes (bodyX P w K mg base ["self", "found", "place", "begin", "end", "most", "gain"] "Flow.steps" st_Flow_steps f cdv A outer s H E) (fun cls d _ H => E cls d H) := takes_of rfl rfl rfl rfl
  have ps : PassesOwn (model P w) (bodyX P w K mg base ["self", "found", "place", "begin", "end", "most", "gain"] "Flow.steps" st_Flow_steps f cdv A outer s H E).A (bodyX P w K mg base ["self", "found", "place", "begin", "end", "most", "gain"] "Flow.steps" st_Flow_steps f cdv A outer s H E).env (bodyX P w K mg base ["self", "found", "place", "begin", "end", "most", "gain"] "Flow.steps" st_Flow_steps f cdv A outer s H E).xe := passes_of rfl
  unfold d_Flow_steps
  exact (sb_cons (ss_set (snd_lstM sa_nil) nd rfl (by first | exact .inl rfl | exact .inr rfl))
    (sb_cons (ss_for ps rfl (si_enum (by rfl) T.n_enumerate (sa_cons (snd_fld (snd_var 0 rfl (by first | exact .inl rfl | exact .inr (.inl rfl) | exact .inr (.inr rfl))) (flds_cons T.f_Flow_ways flds_nil) rfl) sa_nil)) (sg_tup rfl (sg_cons (sg_name nd rfl (by first | exact .inl rfl | exact .inr rfl)) (sg_cons (sg_tup rfl (sg_cons (sg_name nd rfl (by first | exact .inl rfl | exact .inr rfl)) (sg_cons (sg_name nd rfl (by first | exact .inl rfl | exact .inr rfl)) (sg_cons (sg_name nd rfl (by first | exact .inl rfl | exact .inr rfl)) (sg_cons (sg_name nd rfl (by first | exact .inl rfl | exact .inr rfl)) sg_nil))))) sg_nil))) (sb_cons (ss_if (st_cmp so_lt (snd_ix hu1 (snd_fld (snd_var 0 rfl (by first | exact .inl rfl | exact .inr (.inl rfl) | exact .inr (.inr rfl))) (flds_cons T.f_Flow_much flds_nil) rfl) (snd_var 2 rfl (by first | exact .inl rfl | exact .inr (.inl rfl) | exact .inr (.inr rfl))) (fun _ _ => rfl)) (snd_var 5 rfl (by first | exact .inl rfl | exact .inr (.inl rfl) | exact .inr (.inr rfl))) (by rfl)) (sb_one (ss_expr (snd_mt sm_append PySem.F.slot_list_append PySem.F.type_list_append (snd_var 1 rfl (by first | exact .inl rfl | exact .inr (.inl rfl) | exact .inr (.inr rfl))) (sa_cons (snd_tup (sa_cons (snd_var 3 rfl (by first | exact .inl rfl | exact .inr (.inl rfl) | exact .inr (.inr rfl))) (sa_cons (snd_var 4 rfl (by first | exact .inl rfl | exact .inr (.inl rfl) | exact .inr (.inr rfl))) (sa_cons (snd_neg (snd_var 6 rfl (by first | exact .inl rfl | exact .inr (.inl rfl) | exact .inr (.inr rfl)))) (sa_cons (snd_var 2 rfl (by first | exact .inl rfl | exact .inr (.inl rfl) | exact .inr (.inr rfl))) (sa_cons snd_bl sa_nil)))))) sa_nil)))) sb_nil)
    (sb_one (ss_if (st_cmp so_gt (snd_ix hu1 (snd_fld (snd_var 0 rfl (by first | exact .inl rfl | exact .inr (.inl rfl) | exact .inr (.inr rfl))) (flds_cons T.f_Flow_much flds_nil) rfl) (snd_var 2 rfl (by first | exact .inl rfl | exact .inr (.inl rfl) | exact .inr (.inr rfl))) (fun _ _ => rfl)) snd_int (by rfl)) (sb_one (ss_expr (snd_mt sm_append PySem.F.slot_list_append PySem.F.type_list_append (snd_var 1 rfl (by first | exact .inl rfl | exact .inr (.inl rfl) | exact .inr (.inr rfl))) (sa_cons (snd_tup (sa_cons (snd_var 4 rfl (by first | exact .inl rfl | exact .inr (.inl rfl) | exact .inr (.inr rfl))) (sa_cons (snd_var 3 rfl (by first | exact .inl rfl | exact .inr (.inl rfl) | exact .inr (.inr rfl))) (sa_cons (snd_var 6 rfl (by first | exact .inl rfl | exact .inr (.inl rfl) | exact .inr (.inr rfl))) (sa_cons (snd_var 2 rfl (by first | exact .inl rfl | exact .inr (.inl rfl) | exact .inr (.inr rfl))) (sa_cons snd_bl sa_nil)))))) sa_nil)))) sb_nil))))
    (sb_one (ss_ret (snd_var 1 rfl (by first | exact .inl rfl | exact .inr (.inl rfl) | exact .inr (.inr rfl)))))))
theorem sc_Flow_far : FnScope ["self", "far", "back", "last", "turn", "step"] ["self"] (defScope st_Flow_far) := ⟨rfl, rfl, rfl, by decide +kernel, rfl, by decide +kernel, by decide +kernel⟩
set_option maxHeartbeats 0 in
theorem ok_Flow_far {f : Addr} {fd : FuncData} (F : Fun K "far" "Flow.far" st_Flow_far f fd) (T : Txt K mg ct) (e_Flow_steps : MethAt P w K mg base ct 16 "steps" 1 1 f_Flow_steps) :
    FnOk P w K mg base (L2.CX P w) 2 f fd ["self"] (spOf ct 1 f_Flow_far) := by
  refine def_ok (k := 1) (Ns := ["self", "far", "back", "last", "turn", "step"]) F sc_Flow_far fun cdv A outer s H E hr => ?_
  have hu65 := units_65 hr
  have hu64 := units_64 hr
  have hu1 := units_1 hr
  have nd := sc_Flow_far.nd
  have tk : Takes (bodyX P w K mg base ["self", "far", "back", "last", "turn", "step"] "Flow.far" st_Flow_far f cdv A outer s H E) (fun cls d _ H => E cls d H) := takes_of rfl rfl rfl rfl
  have ps : PassesOwn (model P w) (bodyX P w K mg base ["self", "far", "back", "last", "turn", "step"] "Flow.far" st_Flow_far f cdv A outer s H E).A (bodyX P w K mg base ["self", "far", "back", "last", "turn", "step"] "Flow.far" st_Flow_far f cdv A outer s H E).env (bodyX P w K mg base ["self", "far", "back", "last", "turn", "step"] "Flow.far" st_Flow_far f cdv A outer s H E).xe := passes_of rfl
  unfold d_Flow_far
  exact (sb_cons (by first | exact (ss_par3 rfl nd rfl rfl rfl (by decide) (by decide) (by decide) rfl rfl rfl (sa_cons (snd_bin so_mulM (snd_lst (sa_cons snd_int sa_nil)) (snd_fld (snd_var 0 rfl (by first | exact .inl rfl | exact .inr (.inl rfl) | exact .inr (.inr rfl))) (flds_cons T.f_Flow_knots flds_nil) rfl)) (sa_cons (snd_bin so_mulM (snd_lst (sa_cons snd_non sa_nil)) (snd_fld (snd_var 0 rfl (by first | exact .inl rfl | exact .inr (.inl rfl) | exact .inr (.inr rfl))) (flds_cons T.f_Flow_knots flds_nil) rfl)) (sa_cons snd_non sa_nil))) rfl) | exact ss_parT (ss_asg (snd_tup (sa_cons (snd_bin so_mulM (snd_lst (sa_cons snd_int sa_nil)) (snd_fld (snd_var 0 rfl (by first | exact .inl rfl | exact .inr (.inl rfl) | exact .inr (.inr rfl))) (flds_cons T.f_Flow_knots flds_nil) rfl)) (sa_cons (snd_bin so_mulM (snd_lst (sa_cons snd_non sa_nil)) (snd_fld (snd_var 0 rfl (by first | exact .inl rfl | exact .inr (.inl rfl) | exact .inr (.inr rfl))) (flds_cons T.f_Flow_knots flds_nil) rfl)) (sa_cons snd_non sa_nil)))) (sg_tup rfl (sg_cons (sg_name nd rfl (by first | exact .inl rfl | exact .inr rfl)) (sg_cons (sg_name nd rfl (by first | exact .inl rfl | exact .inr rfl)) (sg_cons (sg_name nd rfl (by first | exact .inl rfl | exact .inr rfl)) sg_nil))))))
    (sb_cons (ss_for ps rfl (si_range1 (by rfl) T.n_range (sa_cons (snd_fld (snd_var 0 rfl (by first | exact .inl rfl | exact .inr (.inl rfl) | exact .inr (.inr rfl))) (flds_cons T.f_Flow_knots flds_nil) rfl) sa_nil)) (sg_name nd rfl (by first | exact .inl rfl | exact .inr rfl)) (sb_cons (ss_set snd_non nd rfl (by first | exact .inl rfl | exact .inr rfl))
    (sb_cons (ss_for ps rfl (si_seq (snd_meth0 (k := 1) (snd_var 0 rfl (by first | exact .inl rfl | exact .inr (.inl rfl) | exact .inr (.inr rfl))) (meths_cons (e_Flow_steps.up (by decide)) meths_nil) tk hr (Nat.le_refl _))) (sg_name nd rfl (by first | exact .inl rfl | exact .inr rfl)) (sb_one (ss_if (st_cmp so_lt (snd_bin so_add (snd_ix hu1 (snd_var 1 rfl (by first | exact .inl rfl | exact .inr (.inl rfl) | exact .inr (.inr rfl))) (snd_ix hu1 (snd_var 5 rfl (by first | exact .inl rfl | exact .inr (.inl rfl) | exact .inr (.inr rfl))) snd_int (fun _ _ => rfl)) (fun _ _ => rfl)) (snd_ix hu1 (snd_var 5 rfl (by first | exact .inl rfl | exact .inr (.inl rfl) | exact .inr (.inr rfl))) snd_int (fun _ _ => rfl))) (snd_ix hu1 (snd_var 1 rfl (by first | exact .inl rfl | exact .inr (.inl rfl) | exact .inr (.inr rfl))) (snd_ix hu1 (snd_var 5 rfl (by first | exact .inl rfl | exact .inr (.inl rfl) | exact .inr (.inr rfl))) snd_int (fun _ _ => rfl)) (fun _ _ => rfl)) (by rfl)) (sb_cons (ss_sub hu1 (snd_var 1 rfl (by first | exact .inl rfl | exact .inr (.inl rfl) | exact .inr (.inr rfl))) (snd_ix hu1 (snd_var 5 rfl (by first | exact .inl rfl | exact .inr (.inl rfl) | exact .inr (.inr rfl))) snd_int (fun _ _ => rfl)) (snd_bin so_add (snd_ix hu1 (snd_var 1 rfl (by first | exact .inl rfl | exact .inr (.inl rfl) | exact .inr (.inr rfl))) (snd_ix hu1 (snd_var 5 rfl (by first | exact .inl rfl | exact .inr (.inl rfl) | exact .inr (.inr rfl))) snd_int (fun _ _ => rfl)) (fun _ _ => rfl)) (snd_ix hu1 (snd_var 5 rfl (by first | exact .inl rfl | exact .inr (.inl rfl) | exact .inr (.inr rfl))) snd_int (fun _ _ => rfl))))
    (sb_cons (ss_sub hu1 (snd_var 2 rfl (by first | exact .inl rfl | exact .inr (.inl rfl) | exact .inr (.inr rfl))) (snd_ix hu1 (snd_var 5 rfl (by first | exact .inl rfl | exact .inr (.inl rfl) | exact .inr (.inr rfl))) snd_int (fun _ _ => rfl)) (snd_var 5 rfl (by first | exact .inl rfl | exact .inr (.inl rfl) | exact .inr (.inr rfl))))
    (sb_one (ss_set (snd_ix hu1 (snd_var 5 rfl (by first | exact .inl rfl | exact .inr (.inl rfl) | exact .inr (.inr rfl))) snd_int (fun _ _ => rfl)) nd rfl (by first | exact .inl rfl | exact .inr rfl))))) sb_nil)))
    (sb_one (ss_if (st_cmp so_is (snd_var 3 rfl (by first | exact .inl rfl | exact .inr (.inl rfl) | exact .inr (.inr rfl))) snd_non (by rfl)) (sb_one (ss_ret (snd_tup (sa_cons (snd_var 1 rfl (by first | exact .inl rfl | exact .inr (.inl rfl) | exact .inr (.inr rfl))) (sa_cons (snd_var 2 rfl (by first | exact .inl rfl | exact .inr (.inl rfl) | exact .inr (.inr rfl))) (sa_cons (snd_var 3 rfl (by first | exact .inl rfl | exact .inr (.inl rfl) | exact .inr (.inr rfl))) sa_nil)))))) sb_nil)))))
    (sb_one (ss_ret (snd_tup (sa_cons (snd_var 1 rfl (by first | exact .inl rfl | exact .inr (.inl rfl) | exact .inr (.inr rfl))) (sa_cons (snd_var 2 rfl (by first | exact .inl rfl | exact .inr (.inl rfl) | exact .inr (.inr rfl))) (sa_cons (snd_var 3 rfl (by first | exact .inl rfl | exact .inr (.inl rfl) | exact .inr (.inr rfl))) sa_nil))))))))
theorem sc_Flow_bettered : FnScope ["self", "far", "back", "here", "turn", "first", "step"] ["self"] (defScope st_Flow_bettered) := ⟨rfl, rfl, rfl, by decide +kernel, rfl, by decide +kernel, by decide +kernel⟩
set_option maxHeartbeats 0 in
theorem ok_Flow_bettered {f : Addr} {fd : FuncData} (F : Fun K "bettered" "Flow.bettered" st_Flow_bettered f fd) (T : Txt K mg ct) (e_Flow_far : MethAt P w K mg base ct 16 "far" 2 1 f_Flow_far) :
    FnOk P w K mg base (L2.CX P w) 3 f fd ["self"] (spOf ct 1 f_Flow_bettered) := by
  refine def_ok (k := 2) (Ns := ["self", "far", "back", "here", "turn", "first", "step"]) F sc_Flow_bettered fun cdv A outer s H E hr => ?_
  have hu65 := units_65 hr
  have hu64 := units_64 hr
  have hu1 := units_1 hr
  have nd := sc_Flow_bettered.nd
  have tk : Takes (bodyX P w K mg base ["self", "far", "back", "here", "turn", "first", "step"] "Flow.bettered" st_Flow_bettered f cdv A outer s H E) (fun cls d _ H => E cls d H) := takes_of rfl rfl rfl rfl
  have ps : PassesOwn (model P w) (bodyX P w K mg base ["self", "far", "back", "here", "turn", "first", "step"] "Flow.bettered" st_Flow_bettered f cdv A outer s H E).A (bodyX P w K mg base ["self", "far", "back", "here", "turn", "first", "step"] "Flow.bettered" st_Flow_bettered f cdv A outer s H E).env (bodyX P w K mg base ["self", "far", "back", "here", "turn", "first", "step"] "Flow.bettered" st_Flow_bettered f cdv A outer s H E).xe := passes_of rfl
  unfold d_Flow_bettered
  exact (sb_cons (ss_asg (snd_meth0 (k := 2) (snd_var 0 rfl (by first | exact .inl rfl | exact .inr (.inl rfl) | exact .inr (.inr rfl))) (meths_cons (e_Flow_far.up (by decide)) meths_nil) tk hr (Nat.le_refl _)) (sg_tup rfl (sg_cons (sg_name nd rfl (by first | exact .inl rfl | exact .inr rfl)) (sg_cons (sg_name nd rfl (by first | exact .inl rfl | exact .inr rfl)) (sg_cons (sg_name nd rfl (by first | exact .inl rfl | exact .inr rfl)) sg_nil)))))
    (sb_cons (ss_if (st_cmp so_is (snd_var 3 rfl (by first | exact .inl rfl | exact .inr (.inl rfl) | exact .inr (.inr rfl))) snd_non (by rfl)) (sb_one (ss_ret snd_bl)) sb_nil)
    (sb_cons (ss_for ps rfl (si_range1 (by rfl) T.n_range (sa_cons (snd_fld (snd_var 0 rfl (by first | exact .inl rfl | exact .inr (.inl rfl) | exact .inr (.inr rfl))) (flds_cons T.f_Flow_knots flds_nil) rfl) sa_nil)) (sg_name nd rfl (by first | exact .inl rfl | exact .inr rfl)) (sb_one (ss_set (snd_ix hu1 (snd_ix hu1 (snd_var 2 rfl (by first | exact .inl rfl | exact .inr (.inl rfl) | exact .inr (.inr rfl))) (snd_var 3 rfl (by first | exact .inl rfl | exact .inr (.inl rfl) | exact .inr (.inr rfl))) (fun _ _ => rfl)) snd_int (fun _ _ => rfl)) nd rfl (by first | exact .inl rfl | exact .inr rfl))))
    (sb_cons (ss_set (snd_var 3 rfl (by first | exact .inl rfl | exact .inr (.inl rfl) | exact .inr (.inr rfl))) nd rfl (by first | exact .inl rfl | exact .inr rfl))
    (sb_one (ss_while ps (st_val snd_bl) (sb_cons (ss_set (snd_ix hu1 (snd_var 2 rfl (by first | exact .inl rfl | exact .inr (.inl rfl) | exact .inr (.inr rfl))) (snd_var 3 rfl (by first | exact .inl rfl | exact .inr (.inl rfl) | exact .inr (.inr rfl))) (fun _ _ => rfl)) nd rfl (by first | exact .inl rfl | exact .inr rfl))
    (sb_cons (ss_augS hu1 ip_add (snd_fld (snd_var 0 rfl (by first | exact .inl rfl | exact .inr (.inl rfl) | exact .inr (.inr rfl))) (flds_cons T.f_Flow_much flds_nil) rfl) (snd_ix hu1 (snd_var 6 rfl (by first | exact .inl rfl | exact .inr (.inl rfl) | exact .inr (.inr rfl))) snd_int (fun _ _ => rfl)) (snd_ifExp (st_val (snd_ix hu1 (snd_var 6 rfl (by first | exact .inl rfl | exact .inr (.inl rfl) | exact .inr (.inr rfl))) snd_int (fun _ _ => rfl))) snd_int (snd_neg snd_int)))
    (sb_cons (ss_set (snd_ix hu1 (snd_var 6 rfl (by first | exact .inl rfl | exact .inr (.inl rfl) | exact .inr (.inr rfl))) snd_int (fun _ _ => rfl)) nd rfl (by first | exact .inl rfl | exact .inr rfl))
    (sb_one (ss_if (st_cmp (so_eq hu64) (snd_var 3 rfl (by first | exact .inl rfl | exact .inr (.inl rfl) | exact .inr (.inr rfl))) (snd_var 5 rfl (by first | exact .inl rfl | exact .inr (.inl rfl) | exact .inr (.inr rfl))) (by rfl)) (sb_one (ss_ret snd_bl)) sb_nil)))))))))))
theorem sc_Flow_init : FnScope ["self", "albums", "collector", "spares", "wants", "kind", "most"] ["self", "albums"] (defScope st_Flow_init) := ⟨rfl, rfl, rfl, by decide +kernel, rfl, by decide +kernel, by decide +kernel⟩
set_option maxHeartbeats 0 in
theorem ok_Flow_init {f : Addr} {fd : FuncData} (F : Fun K "__init__" "Flow.__init__" st_Flow_init f fd) (T : Txt K mg ct) (e_Flow_bettered : MethAt P w K mg base ct 16 "bettered" 3 1 f_Flow_bettered) :
    FnOk P w K mg base (L2.CX P w) 4 f fd ["self", "albums"] (spOf ct 2 f_Flow_init) := by
  refine def_ok (k := 3) (Ns := ["self", "albums", "collector", "spares", "wants", "kind", "most"]) F sc_Flow_init fun cdv A outer s H E hr => ?_
  have hu65 := units_65 hr
  have hu64 := units_64 hr
  have hu1 := units_1 hr
  have nd := sc_Flow_init.nd
  have tk : Takes (bodyX P w K mg base ["self", "albums", "collector", "spares", "wants", "kind", "most"] "Flow.__init__" st_Flow_init f cdv A outer s H E) (fun cls d _ H => E cls d H) := takes_of rfl rfl rfl rfl
  have ps : PassesOwn (model P w) (bodyX P w K mg base ["self", "albums", "collector", "spares", "wants", "kind", "most"] "Flow.__init__" st_Flow_init f cdv A outer s H E).A (bodyX P w K mg base ["self", "albums", "collector", "spares", "wants", "kind", "most"] "Flow.__init__" st_Flow_init f cdv A outer s H E).env (bodyX P w K mg base ["self", "albums", "collector", "spares", "wants", "kind", "most"] "Flow.__init__" st_Flow_init f cdv A outer s H E).xe := passes_of rfl
  unfold d_Flow_init
  exact (sb_cons (ss_fld (snd_var 0 rfl (by first | exact .inl rfl | exact .inr (.inl rfl) | exact .inr (.inr rfl))) (snd_callB sc_len (by rfl) T.n_len bo_len (sa_cons (snd_var 1 rfl (by first | exact .inl rfl | exact .inr (.inl rfl) | exact .inr (.inr rfl))) sa_nil)) (flds_cons T.f_Flow_many flds_nil))
    (sb_cons (ss_fld (snd_var 0 rfl (by first | exact .inl rfl | exact .inr (.inl rfl) | exact .inr (.inr rfl))) (snd_bin so_add (snd_callB sc_len (by rfl) T.n_len bo_len (sa_cons (snd_var 1 rfl (by first | exact .inl rfl | exact .inr (.inl rfl) | exact .inr (.inr rfl))) sa_nil)) (snd_callB sc_len (by rfl) T.n_len bo_len (sa_cons (snd_ix hu1 (snd_ix hu1 (snd_var 1 rfl (by first | exact .inl rfl | exact .inr (.inl rfl) | exact .inr (.inr rfl))) snd_int (fun _ _ => rfl)) snd_int (fun _ _ => rfl)) sa_nil))) (flds_cons T.f_Flow_knots flds_nil))
    (sb_cons (ss_fld (snd_var 0 rfl (by first | exact .inl rfl | exact .inr (.inl rfl) | exact .inr (.inr rfl))) (snd_lstM sa_nil) (flds_cons T.f_Flow_ways flds_nil))
    (sb_cons (ss_for ps rfl (si_enum (by rfl) T.n_enumerate (sa_cons (snd_var 1 rfl (by first | exact .inl rfl | exact .inr (.inl rfl) | exact .inr (.inr rfl))) sa_nil)) (sg_tup rfl (sg_cons (sg_name nd rfl (by first | exact .inl rfl | exact .inr rfl)) (sg_cons (sg_tup rfl (sg_cons (sg_name nd rfl (by first | exact .inl rfl | exact .inr rfl)) (sg_cons (sg_name nd rfl (by first | exact .inl rfl | exact .inr rfl)) sg_nil))) sg_nil))) (sb_cons (ss_for ps rfl (si_enum (by rfl) T.n_enumerate (sa_cons (snd_var 3 rfl (by first | exact .inl rfl | exact .inr (.inl rfl) | exact .inr (.inr rfl))) sa_nil)) (sg_tup rfl (sg_cons (sg_name nd rfl (by first | exact .inl rfl | exact .inr rfl)) (sg_cons (sg_name nd rfl (by first | exact .inl rfl | exact .inr rfl)) sg_nil))) (sb_one (ss_if (st_cmp so_gt (snd_var 6 rfl (by first | exact .inl rfl | exact .inr (.inl rfl) | exact .inr (.inr rfl))) snd_int (by rfl)) (sb_one (ss_expr (snd_mt sm_append PySem.F.slot_list_append PySem.F.type_list_append (snd_fld (snd_var 0 rfl (by first | exact .inl rfl | exact .inr (.inl rfl) | exact .inr (.inr rfl))) (flds_cons T.f_Flow_ways flds_nil) rfl) (sa_cons (snd_tup (sa_cons (snd_var 2 rfl (by first | exact .inl rfl | exact .inr (.inl rfl) | exact .inr (.inr rfl))) (sa_cons (snd_bin so_add (snd_fld (snd_var 0 rfl (by first | exact .inl rfl | exact .inr (.inl rfl) | exact .inr (.inr rfl))) (flds_cons T.f_Flow_many flds_nil) rfl) (snd_var 5 rfl (by first | exact .inl rfl | exact .inr (.inl rfl) | exact .inr (.inr rfl)))) (sa_cons (snd_var 6 rfl (by first | exact .inl rfl | exact .inr (.inl rfl) | exact .inr (.inr rfl))) (sa_cons snd_int sa_nil))))) sa_nil)))) sb_nil)))
    (sb_one (ss_for ps rfl (si_enum (by rfl) T.n_enumerate (sa_cons (snd_var 4 rfl (by first | exact .inl rfl | exact .inr (.inl rfl) | exact .inr (.inr rfl))) sa_nil)) (sg_tup rfl (sg_cons (sg_name nd rfl (by first | exact .inl rfl | exact .inr rfl)) (sg_cons (sg_name nd rfl (by first | exact .inl rfl | exact .inr rfl)) sg_nil))) (sb_one (ss_if (st_cmp so_gt (snd_var 6 rfl (by first | exact .inl rfl | exact .inr (.inl rfl) | exact .inr (.inr rfl))) snd_int (by rfl)) (sb_one (ss_expr (snd_mt sm_append PySem.F.slot_list_append PySem.F.type_list_append (snd_fld (snd_var 0 rfl (by first | exact .inl rfl | exact .inr (.inl rfl) | exact .inr (.inr rfl))) (flds_cons T.f_Flow_ways flds_nil) rfl) (sa_cons (snd_tup (sa_cons (snd_bin so_add (snd_fld (snd_var 0 rfl (by first | exact .inl rfl | exact .inr (.inl rfl) | exact .inr (.inr rfl))) (flds_cons T.f_Flow_many flds_nil) rfl) (snd_var 5 rfl (by first | exact .inl rfl | exact .inr (.inl rfl) | exact .inr (.inr rfl)))) (sa_cons (snd_var 2 rfl (by first | exact .inl rfl | exact .inr (.inl rfl) | exact .inr (.inr rfl))) (sa_cons (snd_var 6 rfl (by first | exact .inl rfl | exact .inr (.inl rfl) | exact .inr (.inr rfl))) (sa_cons snd_int sa_nil))))) sa_nil)))) sb_nil))))))
    (sb_cons (ss_fld (snd_var 0 rfl (by first | exact .inl rfl | exact .inr (.inl rfl) | exact .inr (.inr rfl))) (snd_bin so_mulM (snd_lst (sa_cons snd_int sa_nil)) (snd_callB sc_len (by rfl) T.n_len bo_len (sa_cons (snd_fld (snd_var 0 rfl (by first | exact .inl rfl | exact .inr (.inl rfl) | exact .inr (.inr rfl))) (flds_cons T.f_Flow_ways flds_nil) rfl) sa_nil))) (flds_cons T.f_Flow_much flds_nil))
    (sb_one (ss_while ps (st_val (snd_meth0 (k := 3) (snd_var 0 rfl (by first | exact .inl rfl | exact .inr (.inl rfl) | exact .inr (.inr rfl))) (meths_cons (e_Flow_bettered.up (by decide)) meths_nil) tk hr (Nat.le_refl _))) (sb_one (ss_fld (snd_var 0 rfl (by first | exact .inl rfl | exact .inr (.inl rfl) | exact .inr (.inr rfl))) snd_int (flds_cons T.f_Flow_turn flds_nil))))))))))
theorem sc_Flow_given : FnScope ["self", "found", "kind", "givers", "takers", "place", "begin", "end", "most", "gain", "giver", "taker"] ["self"] (defScope st_Flow_given) := ⟨rfl, rfl, rfl, by decide +kernel, rfl, by decide +kernel, by decide +kernel⟩
set_option maxHeartbeats 0 in
theorem ok_Flow_given {f : Addr} {fd : FuncData} (F : Fun K "given" "Flow.given" st_Flow_given f fd) (T : Txt K mg ct) :
    FnOk P w K mg base (L2.CX P w) 1 f fd ["self"] (spOf ct 1 f_Flow_given) := by
  refine def_ok (k := 0) (Ns := ["self", "found", "kind", "givers", "takers", "place", "begin", "end", "most", "gain", "giver", "taker"]) F sc_Flow_given fun cdv A outer s H E hr => ?_
  have hu65 := units_65 hr
  have hu64 := units_64 hr
  have hu1 := units_1 hr
  have nd := sc_Flow_given.nd
  have tk : Takes (bodyX P w K mg base ["self", "found", "kind", "givers", "takers", "place", "begin", "end", "most", "gain", "giver", "taker"] "Flow.given" st_Flow_given f cdv A outer s H E) (fun cls d _ H => E cls d H) := takes_of rfl rfl rfl rfl
  have ps : PassesOwn (model P w) (bodyX P w K mg base ["self", "found", "kind", "givers", "takers", "place", "begin", "end", "most", "gain", "giver", "taker"] "Flow.given" st_Flow_given f cdv A outer s H E).A (bodyX P w K mg base ["self", "found", "kind", "givers", "takers", "place", "begin", "end", "most", "gain", "giver", "taker"] "Flow.given" st_Flow_given f cdv A outer s H E).env (bodyX P w K mg base ["self", "found", "kind", "givers", "takers", "place", "begin", "end", "most", "gain", "giver", "taker"] "Flow.given" st_Flow_given f cdv A outer s H E).xe := passes_of rfl
  unfold d_Flow_given
  exact (sb_cons (ss_set (snd_lstM sa_nil) nd rfl (by first | exact .inl rfl | exact .inr rfl))
    (sb_cons (ss_for ps rfl (si_range2 (by rfl) T.n_range (sa_cons (snd_fld (snd_var 0 rfl (by first | exact .inl rfl | exact .inr (.inl rfl) | exact .inr (.inr rfl))) (flds_cons T.f_Flow_many flds_nil) rfl) (sa_cons (snd_fld (snd_var 0 rfl (by first | exact .inl rfl | exact .inr (.inl rfl) | exact .inr (.inr rfl))) (flds_cons T.f_Flow_knots flds_nil) rfl) sa_nil))) (sg_name nd rfl (by first | exact .inl rfl | exact .inr rfl)) (sb_cons (by first | exact (ss_par rfl nd rfl rfl (by decide) rfl rfl (sa_cons (snd_lstM sa_nil) (sa_cons (snd_lstM sa_nil) sa_nil)) rfl) | exact ss_parT (ss_asg (snd_tup (sa_cons (snd_lstM sa_nil) (sa_cons (snd_lstM sa_nil) sa_nil))) (sg_tup rfl (sg_cons (sg_name nd rfl (by first | exact .inl rfl | exact .inr rfl)) (sg_cons (sg_name nd rfl (by first | exact .inl rfl | exact .inr rfl)) sg_nil)))))
    (sb_cons (ss_for ps rfl (si_enum (by rfl) T.n_enumerate (sa_cons (snd_fld (snd_var 0 rfl (by first | exact .inl rfl | exact .inr (.inl rfl) | exact .inr (.inr rfl))) (flds_cons T.f_Flow_ways flds_nil) rfl) sa_nil)) (sg_tup rfl (sg_cons (sg_name nd rfl (by first | exact .inl rfl | exact .inr rfl)) (sg_cons (sg_tup rfl (sg_cons (sg_name nd rfl (by first | exact .inl rfl | exact .inr rfl)) (sg_cons (sg_name nd rfl (by first | exact .inl rfl | exact .inr rfl)) (sg_cons (sg_name nd rfl (by first | exact .inl rfl | exact .inr rfl)) (sg_cons (sg_name nd rfl (by first | exact .inl rfl | exact .inr rfl)) sg_nil))))) sg_nil))) (sb_cons (ss_if (st_cmp (so_eq hu64) (snd_var 7 rfl (by first | exact .inl rfl | exact .inr (.inl rfl) | exact .inr (.inr rfl))) (snd_var 2 rfl (by first | exact .inl rfl | exact .inr (.inl rfl) | exact .inr (.inr rfl))) (by rfl)) (sb_one (ss_expr (snd_mt sm_extend PySem.F.slot_list_extend PySem.F.type_list_extend (snd_var 3 rfl (by first | exact .inl rfl | exact .inr (.inl rfl) | exact .inr (.inr rfl))) (sa_cons (snd_bin so_mul (snd_lst (sa_cons (snd_var 6 rfl (by first | exact .inl rfl | exact .inr (.inl rfl) | exact .inr (.inr rfl))) sa_nil)) (snd_ix hu1 (snd_fld (snd_var 0 rfl (by first | exact .inl rfl | exact .inr (.inl rfl) | exact .inr (.inr rfl))) (flds_cons T.f_Flow_much flds_nil) rfl) (snd_var 5 rfl (by first | exact .inl rfl | exact .inr (.inl rfl) | exact .inr (.inr rfl))) (fun _ _ => rfl))) sa_nil)))) sb_nil)
    (sb_one (ss_if (st_cmp (so_eq hu64) (snd_var 6 rfl (by first | exact .inl rfl | exact .inr (.inl rfl) | exact .inr (.inr rfl))) (snd_var 2 rfl (by first | exact .inl rfl | exact .inr (.inl rfl) | exact .inr (.inr rfl))) (by rfl)) (sb_one (ss_expr (snd_mt sm_extend PySem.F.slot_list_extend PySem.F.type_list_extend (snd_var 4 rfl (by first | exact .inl rfl | exact .inr (.inl rfl) | exact .inr (.inr rfl))) (sa_cons (snd_bin so_mul (snd_lst (sa_cons (snd_var 7 rfl (by first | exact .inl rfl | exact .inr (.inl rfl) | exact .inr (.inr rfl))) sa_nil)) (snd_ix hu1 (snd_fld (snd_var 0 rfl (by first | exact .inl rfl | exact .inr (.inl rfl) | exact .inr (.inr rfl))) (flds_cons T.f_Flow_much flds_nil) rfl) (snd_var 5 rfl (by first | exact .inl rfl | exact .inr (.inl rfl) | exact .inr (.inr rfl))) (fun _ _ => rfl))) sa_nil)))) sb_nil))))
    (sb_one (ss_expr (snd_mt sm_extend PySem.F.slot_list_extend PySem.F.type_list_extend (snd_var 1 rfl (by first | exact .inl rfl | exact .inr (.inl rfl) | exact .inr (.inr rfl))) (sa_cons (snd_lc (own := [("giver", 10), ("taker", 11)]) rfl nd (si_zip (by rfl) T.n_zip (sa_cons (snd_var 3 rfl (by first | exact .inl rfl | exact .inr (.inl rfl) | exact .inr (.inr rfl))) (sa_cons (snd_var 4 rfl (by first | exact .inl rfl | exact .inr (.inl rfl) | exact .inr (.inr rfl))) sa_nil))) (blkOk_by (by kernel_rfl)) (fun _ _ _ _ _ => (sg_tup rfl (sg_cons (sg_name nd rfl (by first | exact .inl rfl | exact .inr rfl)) (sg_cons (sg_name nd rfl (by first | exact .inl rfl | exact .inr rfl)) sg_nil)))) (fun _ _ _ _ _ => sts_nil) (fun _ _ _ _ _ => (snd_tup (sa_cons (snd_var 10 rfl (by first | exact .inl rfl | exact .inr (.inl rfl) | exact .inr (.inr rfl))) (sa_cons (snd_bin so_sub (snd_var 2 rfl (by first | exact .inl rfl | exact .inr (.inl rfl) | exact .inr (.inr rfl))) (snd_fld (snd_var 0 rfl (by first | exact .inl rfl | exact .inr (.inl rfl) | exact .inr (.inr rfl))) (flds_cons T.f_Flow_many flds_nil) rfl)) (sa_cons (snd_var 11 rfl (by first | exact .inl rfl | exact .inr (.inl rfl) | exact .inr (.inr rfl))) sa_nil)))))) sa_nil)))))))
    (sb_one (ss_ret (snd_var 1 rfl (by first | exact .inl rfl | exact .inr (.inl rfl) | exact .inr (.inr rfl)))))))
theorem sc_worth : FnScope ["albums", "prices", "kinds", "found", "spares", "wants", "price", "many", "kind"] ["albums", "prices", "kinds"] (defScope st_worth) := ⟨rfl, rfl, rfl, by decide +kernel, rfl, by decide +kernel, by decide +kernel⟩
set_option maxHeartbeats 0 in
theorem ok_worth {f : Addr} {fd : FuncData} (F : Fun K "worth" "worth" st_worth f fd) (T : Txt K mg ct) :
    FnOk P w K mg base (L2.CX P w) 1 f fd ["albums", "prices", "kinds"] (spOf ct 3 f_worth) := by
  refine def_ok (k := 0) (Ns := ["albums", "prices", "kinds", "found", "spares", "wants", "price", "many", "kind"]) F sc_worth fun cdv A outer s H E hr => ?_
  have hu65 := units_65 hr
  have hu64 := units_64 hr
  have hu1 := units_1 hr
  have nd := sc_worth.nd
  have tk : Takes (bodyX P w K mg base ["albums", "prices", "kinds", "found", "spares", "wants", "price", "many", "kind"] "worth" st_worth f cdv A outer s H E) (fun cls d _ H => E cls d H) := takes_of rfl rfl rfl rfl
  have ps : PassesOwn (model P w) (bodyX P w K mg base ["albums", "prices", "kinds", "found", "spares", "wants", "price", "many", "kind"] "worth" st_worth f cdv A outer s H E).A (bodyX P w K mg base ["albums", "prices", "kinds", "found", "spares", "wants", "price", "many", "kind"] "worth" st_worth f cdv A outer s H E).env (bodyX P w K mg base ["albums", "prices", "kinds", "found", "spares", "wants", "price", "many", "kind"] "worth" st_worth f cdv A outer s H E).xe := passes_of rfl
  unfold d_worth
  exact (sb_cons (ss_set snd_int nd rfl (by first | exact .inl rfl | exact .inr rfl))
    (sb_cons (ss_for ps rfl (si_zip (by rfl) T.n_zip (sa_cons (snd_var 0 rfl (by first | exact .inl rfl | exact .inr (.inl rfl) | exact .inr (.inr rfl))) (sa_cons (snd_var 1 rfl (by first | exact .inl rfl | exact .inr (.inl rfl) | exact .inr (.inr rfl))) sa_nil))) (sg_tup rfl (sg_cons (sg_tup rfl (sg_cons (sg_name nd rfl (by first | exact .inl rfl | exact .inr rfl)) (sg_cons (sg_name nd rfl (by first | exact .inl rfl | exact .inr rfl)) sg_nil))) (sg_cons (sg_name nd rfl (by first | exact .inl rfl | exact .inr rfl)) sg_nil))) (sb_cons (ss_aug nd rfl (by first | exact .inl rfl | exact .inr rfl) ip_add (snd_callB (sc_sum rfl) (by rfl) T.n_sum bo_sum (sa_cons (snd_lc (own := [("many", 7), ("kind", 8)]) rfl nd (si_zip (by rfl) T.n_zip (sa_cons (snd_var 4 rfl (by first | exact .inl rfl | exact .inr (.inl rfl) | exact .inr (.inr rfl))) (sa_cons (snd_var 2 rfl (by first | exact .inl rfl | exact .inr (.inl rfl) | exact .inr (.inr rfl))) sa_nil))) (blkOk_by (by kernel_rfl)) (fun _ _ _ _ _ => (sg_tup rfl (sg_cons (sg_name nd rfl (by first | exact .inl rfl | exact .inr rfl)) (sg_cons (sg_name nd rfl (by first | exact .inl rfl | exact .inr rfl)) sg_nil)))) (fun _ _ _ _ _ => sts_nil) (fun _ _ _ _ _ => (snd_bin so_mul (snd_var 7 rfl (by first | exact .inl rfl | exact .inr (.inl rfl) | exact .inr (.inr rfl))) (snd_callB (sc_max2 rfl) (by rfl) T.n_max bo_max (sa_cons snd_int (sa_cons (snd_bin so_sub (snd_var 8 rfl (by first | exact .inl rfl | exact .inr (.inl rfl) | exact .inr (.inr rfl))) (snd_var 6 rfl (by first | exact .inl rfl | exact .inr (.inl rfl) | exact .inr (.inr rfl)))) sa_nil)))))) sa_nil)))
    (sb_one (ss_aug nd rfl (by first | exact .inl rfl | exact .inr rfl) ip_add (snd_callB (sc_sum rfl) (by rfl) T.n_sum bo_sum (sa_cons (snd_lc (own := [("many", 7), ("kind", 8)]) rfl nd (si_zip (by rfl) T.n_zip (sa_cons (snd_var 5 rfl (by first | exact .inl rfl | exact .inr (.inl rfl) | exact .inr (.inr rfl))) (sa_cons (snd_var 2 rfl (by first | exact .inl rfl | exact .inr (.inl rfl) | exact .inr (.inr rfl))) sa_nil))) (blkOk_by (by kernel_rfl)) (fun _ _ _ _ _ => (sg_tup rfl (sg_cons (sg_name nd rfl (by first | exact .inl rfl | exact .inr rfl)) (sg_cons (sg_name nd rfl (by first | exact .inl rfl | exact .inr rfl)) sg_nil)))) (fun _ _ _ _ _ => sts_nil) (fun _ _ _ _ _ => (snd_bin so_mul (snd_var 7 rfl (by first | exact .inl rfl | exact .inr (.inl rfl) | exact .inr (.inr rfl))) (snd_callB (sc_max2 rfl) (by rfl) T.n_max bo_max (sa_cons snd_int (sa_cons (snd_bin so_sub (snd_bin so_add (snd_var 6 rfl (by first | exact .inl rfl | exact .inr (.inl rfl) | exact .inr (.inr rfl))) snd_int) (snd_var 8 rfl (by first | exact .inl rfl | exact .inr (.inl rfl) | exact .inr (.inr rfl)))) sa_nil)))))) sa_nil))))))
    (sb_one (ss_ret (snd_var 3 rfl (by first | exact .inl rfl | exact .inr (.inl rfl) | exact .inr (.inr rfl)))))))
theorem sc_gift_between : FnScope ["albums", "giver", "taker", "kind", "many"] ["albums", "giver", "taker"] (defScope st_gift_between) := ⟨rfl, rfl, rfl, by decide +kernel, rfl, by decide +kernel, by decide +kernel⟩
set_option maxHeartbeats 0 in
theorem ok_gift_between {f : Addr} {fd : FuncData} (F : Fun K "gift_between" "gift_between" st_gift_between f fd) (T : Txt K mg ct) :
    FnOk P w K mg base (L2.CX P w) 1 f fd ["albums", "giver", "taker"] (spOf ct 3 f_gift_between) := by
  refine def_ok (k := 0) (Ns := ["albums", "giver", "taker", "kind", "many"]) F sc_gift_between fun cdv A outer s H E hr => ?_
  have hu65 := units_65 hr
  have hu64 := units_64 hr
  have hu1 := units_1 hr
  have nd := sc_gift_between.nd
  have tk : Takes (bodyX P w K mg base ["albums", "giver", "taker", "kind", "many"] "gift_between" st_gift_between f cdv A outer s H E) (fun cls d _ H => E cls d H) := takes_of rfl rfl rfl rfl
  have ps : PassesOwn (model P w) (bodyX P w K mg base ["albums", "giver", "taker", "kind", "many"] "gift_between" st_gift_between f cdv A outer s H E).A (bodyX P w K mg base ["albums", "giver", "taker", "kind", "many"] "gift_between" st_gift_between f cdv A outer s H E).env (bodyX P w K mg base ["albums", "giver", "taker", "kind", "many"] "gift_between" st_gift_between f cdv A outer s H E).xe := passes_of rfl
  unfold d_gift_between
  exact (sb_cons (ss_for ps rfl (si_enum (by rfl) T.n_enumerate (sa_cons (snd_ix hu1 (snd_ix hu1 (snd_var 0 rfl (by first | exact .inl rfl | exact .inr (.inl rfl) | exact .inr (.inr rfl))) (snd_var 1 rfl (by first | exact .inl rfl | exact .inr (.inl rfl) | exact .inr (.inr rfl))) (fun _ _ => rfl)) snd_int (fun _ _ => rfl)) sa_nil)) (sg_tup rfl (sg_cons (sg_name nd rfl (by first | exact .inl rfl | exact .inr rfl)) (sg_cons (sg_name nd rfl (by first | exact .inl rfl | exact .inr rfl)) sg_nil))) (sb_one (ss_if (SndW.t (sw_and (st_cmp so_gt (snd_var 4 rfl (by first | exact .inl rfl | exact .inr (.inl rfl) | exact .inr (.inr rfl))) snd_int (by rfl)) (sw_and1 (st_cmp so_gt (snd_ix hu1 (snd_ix hu1 (snd_ix hu1 (snd_var 0 rfl (by first | exact .inl rfl | exact .inr (.inl rfl) | exact .inr (.inr rfl))) (snd_var 2 rfl (by first | exact .inl rfl | exact .inr (.inl rfl) | exact .inr (.inr rfl))) (fun _ _ => rfl)) snd_int (fun _ _ => rfl)) (snd_var 3 rfl (by first | exact .inl rfl | exact .inr (.inl rfl) | exact .inr (.inr rfl))) (fun _ _ => rfl)) snd_int (by rfl))))) (sb_one (ss_ret (snd_tup (sa_cons (snd_var 1 rfl (by first | exact .inl rfl | exact .inr (.inl rfl) | exact .inr (.inr rfl))) (sa_cons (snd_var 3 rfl (by first | exact .inl rfl | exact .inr (.inl rfl) | exact .inr (.inr rfl))) (sa_cons (snd_var 2 rfl (by first | exact .inl rfl | exact .inr (.inl rfl) | exact .inr (.inr rfl))) sa_nil)))))) sb_nil)))
    (sb_one (ss_ret snd_non)))
theorem sc_led_from : FnScope ["albums", "collector", "found", "more", "longer", "giver", "taker", "gift"] ["albums", "collector"] (defScope st_led_from) := ⟨rfl, rfl, rfl, by decide +kernel, rfl, by decide +kernel, by decide +kernel⟩
set_option maxHeartbeats 0 in
theorem ok_led_from {f : Addr} {fd : FuncData} (F : Fun K "led_from" "led_from" st_led_from f fd) (T : Txt K mg ct) (a_gift_between : FnAt P w K mg base ct "gift_between" 1 3 f_gift_between) :
    FnOk P w K mg base (L2.CX P w) 2 f fd ["albums", "collector"] (spOf ct 2 f_led_from) := by
  refine def_ok (k := 1) (Ns := ["albums", "collector", "found", "more", "longer", "giver", "taker", "gift"]) F sc_led_from fun cdv A outer s H E hr => ?_
  have hu65 := units_65 hr
  have hu64 := units_64 hr
  have hu1 := units_1 hr
  have nd := sc_led_from.nd
  have tk : Takes (bodyX P w K mg base ["albums", "collector", "found", "more", "longer", "giver", "taker", "gift"] "led_from" st_led_from f cdv A outer s H E) (fun cls d _ H => E cls d H) := takes_of rfl rfl rfl rfl
  have ps : PassesOwn (model P w) (bodyX P w K mg base ["albums", "collector", "found", "more", "longer", "giver", "taker", "gift"] "led_from" st_led_from f cdv A outer s H E).A (bodyX P w K mg base ["albums", "collector", "found", "more", "longer", "giver", "taker", "gift"] "led_from" st_led_from f cdv A outer s H E).env (bodyX P w K mg base ["albums", "collector", "found", "more", "longer", "giver", "taker", "gift"] "led_from" st_led_from f cdv A outer s H E).xe := passes_of rfl
  unfold d_led_from
  exact (sb_cons (by first | exact (ss_par rfl nd rfl rfl (by decide) rfl rfl (sa_cons (snd_dic1 (snd_var 1 rfl (by first | exact .inl rfl | exact .inr (.inl rfl) | exact .inr (.inr rfl))) snd_non) (sa_cons (snd_lst (sa_cons (snd_var 1 rfl (by first | exact .inl rfl | exact .inr (.inl rfl) | exact .inr (.inr rfl))) sa_nil)) sa_nil)) rfl) | exact ss_parT (ss_asg (snd_tup (sa_cons (snd_dic1 (snd_var 1 rfl (by first | exact .inl rfl | exact .inr (.inl rfl) | exact .inr (.inr rfl))) snd_non) (sa_cons (snd_lst (sa_cons (snd_var 1 rfl (by first | exact .inl rfl | exact .inr (.inl rfl) | exact .inr (.inr rfl))) sa_nil)) sa_nil))) (sg_tup rfl (sg_cons (sg_name nd rfl (by first | exact .inl rfl | exact .inr rfl)) (sg_cons (sg_name nd rfl (by first | exact .inl rfl | exact .inr rfl)) sg_nil)))))
    (sb_cons (ss_while ps (st_cmp (so_ne hu64) (snd_var 3 rfl (by first | exact .inl rfl | exact .inr (.inl rfl) | exact .inr (.inr rfl))) (snd_lst sa_nil) (by rfl)) (sb_cons (ss_set (snd_lstM sa_nil) nd rfl (by first | exact .inl rfl | exact .inr rfl))
    (sb_cons (ss_for ps rfl (si_seq (snd_var 3 rfl (by first | exact .inl rfl | exact .inr (.inl rfl) | exact .inr (.inr rfl)))) (sg_name nd rfl (by first | exact .inl rfl | exact .inr rfl)) (sb_one (ss_for ps rfl (si_range1 (by rfl) T.n_range (sa_cons (snd_callB sc_len (by rfl) T.n_len bo_len (sa_cons (snd_var 0 rfl (by first | exact .inl rfl | exact .inr (.inl rfl) | exact .inr (.inr rfl))) sa_nil)) sa_nil)) (sg_name nd rfl (by first | exact .inl rfl | exact .inr rfl)) (sb_cons (ss_set (snd_call a_gift_between tk hr (by decide) (by rfl) (sa_cons (snd_var 0 rfl (by first | exact .inl rfl | exact .inr (.inl rfl) | exact .inr (.inr rfl))) (sa_cons (snd_var 5 rfl (by first | exact .inl rfl | exact .inr (.inl rfl) | exact .inr (.inr rfl))) (sa_cons (snd_var 6 rfl (by first | exact .inl rfl | exact .inr (.inl rfl) | exact .inr (.inr rfl))) sa_nil))) rfl) nd rfl (by first | exact .inl rfl | exact .inr rfl))
    (sb_one (ss_if (SndW.t (sw_and (st_cmp so_isNot (snd_var 7 rfl (by first | exact .inl rfl | exact .inr (.inl rfl) | exact .inr (.inr rfl))) snd_non (by rfl)) (sw_and1 (st_cmp (so_notIn hu65) (snd_var 6 rfl (by first | exact .inl rfl | exact .inr (.inl rfl) | exact .inr (.inr rfl))) (snd_var 2 rfl (by first | exact .inl rfl | exact .inr (.inl rfl) | exact .inr (.inr rfl))) (by rfl))))) (sb_cons (ss_sub hu1 (snd_var 2 rfl (by first | exact .inl rfl | exact .inr (.inl rfl) | exact .inr (.inr rfl))) (snd_var 6 rfl (by first | exact .inl rfl | exact .inr (.inl rfl) | exact .inr (.inr rfl))) (snd_var 7 rfl (by first | exact .inl rfl | exact .inr (.inl rfl) | exact .inr (.inr rfl))))
    (sb_one (ss_expr (snd_mt sm_append PySem.F.slot_list_append PySem.F.type_list_append (snd_var 4 rfl (by first | exact .inl rfl | exact .inr (.inl rfl) | exact .inr (.inr rfl))) (sa_cons (snd_var 6 rfl (by first | exact .inl rfl | exact .inr (.inl rfl) | exact .inr (.inr rfl))) sa_nil))))) sb_nil))))))
    (sb_one (ss_set (snd_var 4 rfl (by first | exact .inl rfl | exact .inr (.inl rfl) | exact .inr (.inr rfl))) nd rfl (by first | exact .inl rfl | exact .inr rfl))))))
    (sb_one (ss_ret (snd_var 2 rfl (by first | exact .inl rfl | exact .inr (.inl rfl) | exact .inr (.inr rfl)))))))
theorem sc_ring_for : FnScope ["albums", "collector", "kind", "found", "some", "giver", "gifts"] ["albums", "collector", "kind"] (defScope st_ring_for) := ⟨rfl, rfl, rfl, by decide +kernel, rfl, by decide +kernel, by decide +kernel⟩
set_option maxHeartbeats 0 in
theorem ok_ring_for {f : Addr} {fd : FuncData} (F : Fun K "ring_for" "ring_for" st_ring_for f fd) (T : Txt K mg ct) (a_led_from : FnAt P w K mg base ct "led_from" 2 2 f_led_from) :
    FnOk P w K mg base (L2.CX P w) 3 f fd ["albums", "collector", "kind"] (spOf ct 3 f_ring_for) := by
  refine def_ok (k := 2) (Ns := ["albums", "collector", "kind", "found", "some", "giver", "gifts"]) F sc_ring_for fun cdv A outer s H E hr => ?_
  have hu65 := units_65 hr
  have hu64 := units_64 hr
  have hu1 := units_1 hr
  have nd := sc_ring_for.nd
  have tk : Takes (bodyX P w K mg base ["albums", "collector", "kind", "found", "some", "giver", "gifts"] "ring_for" st_ring_for f cdv A outer s H E) (fun cls d _ H => E cls d H) := takes_of rfl rfl rfl rfl
  have ps : PassesOwn (model P w) (bodyX P w K mg base ["albums", "collector", "kind", "found", "some", "giver", "gifts"] "ring_for" st_ring_for f cdv A outer s H E).A (bodyX P w K mg base ["albums", "collector", "kind", "found", "some", "giver", "gifts"] "ring_for" st_ring_for f cdv A outer s H E).env (bodyX P w K mg base ["albums", "collector", "kind", "found", "some", "giver", "gifts"] "ring_for" st_ring_for f cdv A outer s H E).xe := passes_of rfl
  unfold d_ring_for
  exact (sb_cons (ss_set (snd_call a_led_from tk hr (by decide) (by rfl) (sa_cons (snd_var 0 rfl (by first | exact .inl rfl | exact .inr (.inl rfl) | exact .inr (.inr rfl))) (sa_cons (snd_var 1 rfl (by first | exact .inl rfl | exact .inr (.inl rfl) | exact .inr (.inr rfl))) sa_nil)) rfl) nd rfl (by first | exact .inl rfl | exact .inr rfl))
    (sb_cons (ss_lock (by first | exact ss_setLc (own := [("giver", 5)]) rfl nd rfl rfl rfl (si_keysD rfl (by first | exact .inl rfl | exact .inr (.inl rfl) | exact .inr (.inr rfl))) (blkOk_by (by kernel_rfl)) (fun _ _ _ _ _ => (sg_name nd rfl (by first | exact .inl rfl | exact .inr rfl))) (fun _ _ _ _ _ => (sts_one (st_cmp so_gt (snd_ix hu1 (snd_ix hu1 (snd_ix hu1 (snd_var 0 rfl (by first | exact .inl rfl | exact .inr (.inl rfl) | exact .inr (.inr rfl))) (snd_var 5 rfl (by first | exact .inl rfl | exact .inr (.inl rfl) | exact .inr (.inr rfl))) (fun _ _ => rfl)) snd_int (fun _ _ => rfl)) (snd_var 2 rfl (by first | exact .inl rfl | exact .inr (.inl rfl) | exact .inr (.inr rfl))) (fun _ _ => rfl)) snd_int (by rfl)))) (fun _ _ _ _ _ => (snd_var 5 rfl (by first | exact .inl rfl | exact .inr (.inl rfl) | exact .inr (.inr rfl)))) | exact ss_set (snd_lc (own := [("giver", 5)]) rfl nd (si_keysD rfl (by first | exact .inl rfl | exact .inr (.inl rfl) | exact .inr (.inr rfl))) (blkOk_by (by kernel_rfl)) (fun _ _ _ _ _ => (sg_name nd rfl (by first | exact .inl rfl | exact .inr rfl))) (fun _ _ _ _ _ => (sts_one (st_cmp so_gt (snd_ix hu1 (snd_ix hu1 (snd_ix hu1 (snd_var 0 rfl (by first | exact .inl rfl | exact .inr (.inl rfl) | exact .inr (.inr rfl))) (snd_var 5 rfl (by first | exact .inl rfl | exact .inr (.inl rfl) | exact .inr (.inr rfl))) (fun _ _ => rfl)) snd_int (fun _ _ => rfl)) (snd_var 2 rfl (by first | exact .inl rfl | exact .inr (.inl rfl) | exact .inr (.inr rfl))) (fun _ _ => rfl)) snd_int (by rfl)))) (fun _ _ _ _ _ => (snd_var 5 rfl (by first | exact .inl rfl | exact .inr (.inl rfl) | exact .inr (.inr rfl))))) nd rfl (by first | exact .inl rfl | exact .inr rfl)))
    (sb_cons (ss_if (st_cmp (so_eq hu64) (snd_var 4 rfl (by first | exact .inl rfl | exact .inr (.inl rfl) | exact .inr (.inr rfl))) (snd_lst sa_nil) (by rfl)) (sb_one (ss_ret (snd_tup (sa_cons snd_non (sa_cons (snd_callB (sc_sortedD rfl) (by rfl) T.n_sorted bo_sorted (sa_cons (snd_var 3 rfl (by first | exact .inl rfl | exact .inr (.inl rfl) | exact .inr (.inr rfl))) sa_nil)) sa_nil))))) sb_nil)
    (sb_cons (ss_set (snd_lst (sa_cons (snd_tup (sa_cons (snd_ix hu1 (snd_var 4 rfl (by first | exact .inl rfl | exact .inr (.inl rfl) | exact .inr (.inr rfl))) snd_int (fun _ _ => rfl)) (sa_cons (snd_var 2 rfl (by first | exact .inl rfl | exact .inr (.inl rfl) | exact .inr (.inr rfl))) (sa_cons (snd_var 1 rfl (by first | exact .inl rfl | exact .inr (.inl rfl) | exact .inr (.inr rfl))) sa_nil)))) sa_nil)) nd rfl (by first | exact .inl rfl | exact .inr rfl))
    (sb_cons (ss_while ps (st_cmp (so_ne hu64) (snd_ix hu1 (snd_ix hu1 (snd_var 6 rfl (by first | exact .inl rfl | exact .inr (.inl rfl) | exact .inr (.inr rfl))) snd_int (fun _ _ => rfl)) snd_int (fun _ _ => rfl)) (snd_var 1 rfl (by first | exact .inl rfl | exact .inr (.inl rfl) | exact .inr (.inr rfl))) (by rfl)) (sb_one (ss_set (snd_bin so_add (snd_lst (sa_cons (snd_ix hu1 (snd_var 3 rfl (by first | exact .inl rfl | exact .inr (.inl rfl) | exact .inr (.inr rfl))) (snd_ix hu1 (snd_ix hu1 (snd_var 6 rfl (by first | exact .inl rfl | exact .inr (.inl rfl) | exact .inr (.inr rfl))) snd_int (fun _ _ => rfl)) snd_int (fun _ _ => rfl)) (fun _ _ => rfl)) sa_nil)) (snd_var 6 rfl (by first | exact .inl rfl | exact .inr (.inl rfl) | exact .inr (.inr rfl)))) nd rfl (by first | exact .inl rfl | exact .inr rfl))))
    (sb_one (ss_ret (snd_tup (sa_cons (snd_var 6 rfl (by first | exact .inl rfl | exact .inr (.inl rfl) | exact .inr (.inr rfl))) (sa_cons (snd_callB (sc_sortedD rfl) (by rfl) T.n_sorted bo_sorted (sa_cons (snd_var 3 rfl (by first | exact .inl rfl | exact .inr (.inl rfl) | exact .inr (.inr rfl))) sa_nil)) sa_nil))))))))))
theorem sc_one_ring : FnScope ["gifts", "way", "gift", "begin"] ["gifts"] (defScope st_one_ring) := ⟨rfl, rfl, rfl, by decide +kernel, rfl, by decide +kernel, by decide +kernel⟩
set_option maxHeartbeats 0 in
theorem ok_one_ring {f : Addr} {fd : FuncData} (F : Fun K "one_ring" "one_ring" st_one_ring f fd) (T : Txt K mg ct) :
    FnOk P w K mg base (L2.CX P w) 1 f fd ["gifts"] (spOf ct 1 f_one_ring) := by
  refine def_ok (k := 0) (Ns := ["gifts", "way", "gift", "begin"]) F sc_one_ring fun cdv A outer s H E hr => ?_
  have hu65 := units_65 hr
  have hu64 := units_64 hr
  have hu1 := units_1 hr
  have nd := sc_one_ring.nd
  have tk : Takes (bodyX P w K mg base ["gifts", "way", "gift", "begin"] "one_ring" st_one_ring f cdv A outer s H E) (fun cls d _ H => E cls d H) := takes_of rfl rfl rfl rfl
  have ps : PassesOwn (model P w) (bodyX P w K mg base ["gifts", "way", "gift", "begin"] "one_ring" st_one_ring f cdv A outer s H E).A (bodyX P w K mg base ["gifts", "way", "gift", "begin"] "one_ring" st_one_ring f cdv A outer s H E).env (bodyX P w K mg base ["gifts", "way", "gift", "begin"] "one_ring" st_one_ring f cdv A outer s H E).xe := passes_of rfl
  unfold d_one_ring
  exact (sb_cons (ss_set (snd_lstM (sa_cons (snd_ix hu1 (snd_var 0 rfl (by first | exact .inl rfl | exact .inr (.inl rfl) | exact .inr (.inr rfl))) snd_int (fun _ _ => rfl)) sa_nil)) nd rfl (by first | exact .inl rfl | exact .inr rfl))
    (sb_cons (ss_while ps (st_cmp (so_notIn hu65) (snd_ix hu1 (snd_ix hu1 (snd_var 1 rfl (by first | exact .inl rfl | exact .inr (.inl rfl) | exact .inr (.inr rfl))) (snd_neg snd_int) (fun _ _ => rfl)) snd_int (fun _ _ => rfl)) (snd_lc (own := [("gift", 2)]) rfl nd (si_seq (snd_var 1 rfl (by first | exact .inl rfl | exact .inr (.inl rfl) | exact .inr (.inr rfl)))) (blkOk_by (by kernel_rfl)) (fun _ _ _ _ _ => (sg_name nd rfl (by first | exact .inl rfl | exact .inr rfl))) (fun _ _ _ _ _ => sts_nil) (fun _ _ _ _ _ => (snd_ix hu1 (snd_var 2 rfl (by first | exact .inl rfl | exact .inr (.inl rfl) | exact .inr (.inr rfl))) snd_int (fun _ _ => rfl)))) (by rfl)) (sb_one (ss_expr (snd_mt sm_append PySem.F.slot_list_append PySem.F.type_list_append (snd_var 1 rfl (by first | exact .inl rfl | exact .inr (.inl rfl) | exact .inr (.inr rfl))) (sa_cons (snd_ix hu1 (snd_lc (own := [("gift", 2)]) rfl nd (si_seq (snd_var 0 rfl (by first | exact .inl rfl | exact .inr (.inl rfl) | exact .inr (.inr rfl)))) (blkOk_by (by kernel_rfl)) (fun _ _ _ _ _ => (sg_name nd rfl (by first | exact .inl rfl | exact .inr rfl))) (fun _ _ _ _ _ => (sts_one (st_cmp (so_eq hu64) (snd_ix hu1 (snd_var 2 rfl (by first | exact .inl rfl | exact .inr (.inl rfl) | exact .inr (.inr rfl))) snd_int (fun _ _ => rfl)) (snd_ix hu1 (snd_ix hu1 (snd_var 1 rfl (by first | exact .inl rfl | exact .inr (.inl rfl) | exact .inr (.inr rfl))) (snd_neg snd_int) (fun _ _ => rfl)) snd_int (fun _ _ => rfl)) (by rfl)))) (fun _ _ _ _ _ => (snd_var 2 rfl (by first | exact .inl rfl | exact .inr (.inl rfl) | exact .inr (.inr rfl))))) snd_int (fun _ _ => rfl)) sa_nil)))))
    (sb_cons (ss_set (snd_mt (sm_index hu65) PySem.F.slot_list_index PySem.F.type_list_index (snd_lc (own := [("gift", 2)]) rfl nd (si_seq (snd_var 1 rfl (by first | exact .inl rfl | exact .inr (.inl rfl) | exact .inr (.inr rfl)))) (blkOk_by (by kernel_rfl)) (fun _ _ _ _ _ => (sg_name nd rfl (by first | exact .inl rfl | exact .inr rfl))) (fun _ _ _ _ _ => sts_nil) (fun _ _ _ _ _ => (snd_ix hu1 (snd_var 2 rfl (by first | exact .inl rfl | exact .inr (.inl rfl) | exact .inr (.inr rfl))) snd_int (fun _ _ => rfl)))) (sa_cons (snd_ix hu1 (snd_ix hu1 (snd_var 1 rfl (by first | exact .inl rfl | exact .inr (.inl rfl) | exact .inr (.inr rfl))) (snd_neg snd_int) (fun _ _ => rfl)) snd_int (fun _ _ => rfl)) sa_nil)) nd rfl (by first | exact .inl rfl | exact .inr rfl))
    (sb_one (ss_ret (snd_slM (snd_var 1 rfl (by first | exact .inl rfl | exact .inr (.inl rfl) | exact .inr (.inr rfl))) (sp_some (snd_var 3 rfl (by first | exact .inl rfl | exact .inr (.inl rfl) | exact .inr (.inr rfl)))) sp_none))))))
theorem sc_parted : FnScope ["gifts", "left", "found", "ring", "gift"] ["gifts"] (defScope st_parted) := ⟨rfl, rfl, rfl, by decide +kernel, rfl, by decide +kernel, by decide +kernel⟩
set_option maxHeartbeats 0 in
theorem ok_parted {f : Addr} {fd : FuncData} (F : Fun K "parted" "parted" st_parted f fd) (T : Txt K mg ct) (a_one_ring : FnAt P w K mg base ct "one_ring" 1 1 f_one_ring) :
    FnOk P w K mg base (L2.CX P w) 2 f fd ["gifts"] (spOf ct 1 f_parted) := by
  refine def_ok (k := 1) (Ns := ["gifts", "left", "found", "ring", "gift"]) F sc_parted fun cdv A outer s H E hr => ?_
  have hu65 := units_65 hr
  have hu64 := units_64 hr
  have hu1 := units_1 hr
  have nd := sc_parted.nd
  have tk : Takes (bodyX P w K mg base ["gifts", "left", "found", "ring", "gift"] "parted" st_parted f cdv A outer s H E) (fun cls d _ H => E cls d H) := takes_of rfl rfl rfl rfl
  have ps : PassesOwn (model P w) (bodyX P w K mg base ["gifts", "left", "found", "ring", "gift"] "parted" st_parted f cdv A outer s H E).A (bodyX P w K mg base ["gifts", "left", "found", "ring", "gift"] "parted" st_parted f cdv A outer s H E).env (bodyX P w K mg base ["gifts", "left", "found", "ring", "gift"] "parted" st_parted f cdv A outer s H E).xe := passes_of rfl
  unfold d_parted
  exact (sb_cons (by first | exact (ss_par rfl nd rfl rfl (by decide) rfl rfl (sa_cons (snd_callTy sc_listM (by rfl) T.n_list bo_list (sa_cons (snd_var 0 rfl (by first | exact .inl rfl | exact .inr (.inl rfl) | exact .inr (.inr rfl))) sa_nil)) (sa_cons (snd_lstM sa_nil) sa_nil)) rfl) | exact ss_parT (ss_asg (snd_tup (sa_cons (snd_callTy sc_listM (by rfl) T.n_list bo_list (sa_cons (snd_var 0 rfl (by first | exact .inl rfl | exact .inr (.inl rfl) | exact .inr (.inr rfl))) sa_nil)) (sa_cons (snd_lstM sa_nil) sa_nil))) (sg_tup rfl (sg_cons (sg_name nd rfl (by first | exact .inl rfl | exact .inr rfl)) (sg_cons (sg_name nd rfl (by first | exact .inl rfl | exact .inr rfl)) sg_nil)))))
    (sb_cons (ss_while ps (st_cmp (so_ne hu64) (snd_var 1 rfl (by first | exact .inl rfl | exact .inr (.inl rfl) | exact .inr (.inr rfl))) (snd_lst sa_nil) (by rfl)) (sb_cons (ss_set (snd_call a_one_ring tk hr (by decide) (by rfl) (sa_cons (snd_var 1 rfl (by first | exact .inl rfl | exact .inr (.inl rfl) | exact .inr (.inr rfl))) sa_nil) rfl) nd rfl (by first | exact .inl rfl | exact .inr rfl))
    (sb_cons (ss_for ps rfl (si_seq (snd_var 3 rfl (by first | exact .inl rfl | exact .inr (.inl rfl) | exact .inr (.inr rfl)))) (sg_name nd rfl (by first | exact .inl rfl | exact .inr rfl)) (sb_one (ss_expr (snd_mt (sm_remove hu65) PySem.F.slot_list_remove PySem.F.type_list_remove (snd_var 1 rfl (by first | exact .inl rfl | exact .inr (.inl rfl) | exact .inr (.inr rfl))) (sa_cons (snd_var 4 rfl (by first | exact .inl rfl | exact .inr (.inl rfl) | exact .inr (.inr rfl))) sa_nil)))))
    (sb_one (ss_expr (snd_mt sm_append PySem.F.slot_list_append PySem.F.type_list_append (snd_var 2 rfl (by first | exact .inl rfl | exact .inr (.inl rfl) | exact .inr (.inr rfl))) (sa_cons (snd_var 3 rfl (by first | exact .inl rfl | exact .inr (.inl rfl) | exact .inr (.inr rfl))) sa_nil)))))))
    (sb_one (ss_ret (snd_var 2 rfl (by first | exact .inl rfl | exact .inr (.inl rfl) | exact .inr (.inr rfl)))))))
theorem sc_brings : FnScope ["gifts", "collector", "kind", "gift"] ["gifts", "collector", "kind"] (defScope st_brings) := ⟨rfl, rfl, rfl, by decide +kernel, rfl, by decide +kernel, by decide +kernel⟩
set_option maxHeartbeats 0 in
theorem ok_brings {f : Addr} {fd : FuncData} (F : Fun K "brings" "brings" st_brings f fd) (T : Txt K mg ct) (a_is_ring : FnAt P w K mg base ct "is_ring" 1 1 f_is_ring) :
    FnOk P w K mg base (L2.CX P w) 2 f fd ["gifts", "collector", "kind"] (spOf ct 3 f_brings) := by
  refine def_ok (k := 1) (Ns := ["gifts", "collector", "kind", "gift"]) F sc_brings fun cdv A outer s H E hr => ?_
  have hu65 := units_65 hr
  have hu64 := units_64 hr
  have hu1 := units_1 hr
  have nd := sc_brings.nd
  have tk : Takes (bodyX P w K mg base ["gifts", "collector", "kind", "gift"] "brings" st_brings f cdv A outer s H E) (fun cls d _ H => E cls d H) := takes_of rfl rfl rfl rfl
  have ps : PassesOwn (model P w) (bodyX P w K mg base ["gifts", "collector", "kind", "gift"] "brings" st_brings f cdv A outer s H E).A (bodyX P w K mg base ["gifts", "collector", "kind", "gift"] "brings" st_brings f cdv A outer s H E).env (bodyX P w K mg base ["gifts", "collector", "kind", "gift"] "brings" st_brings f cdv A outer s H E).xe := passes_of rfl
  unfold d_brings
  exact (sb_one (ss_ret (snd_and (snd_call a_is_ring tk hr (by decide) (by rfl) (sa_cons (snd_var 0 rfl (by first | exact .inl rfl | exact .inr (.inl rfl) | exact .inr (.inr rfl))) sa_nil) rfl) (snd_one (snd_callB (sc_any rfl) (by rfl) T.n_any bo_any (sa_cons (snd_lc (own := [("gift", 3)]) rfl nd (si_seq (snd_var 0 rfl (by first | exact .inl rfl | exact .inr (.inl rfl) | exact .inr (.inr rfl)))) (blkOk_by (by kernel_rfl)) (fun _ _ _ _ _ => (sg_name nd rfl (by first | exact .inl rfl | exact .inr rfl))) (fun _ _ _ _ _ => sts_nil) (fun _ _ _ _ _ => (snd_and (snd_cmp (so_eq hu64) (snd_ix hu1 (snd_var 3 rfl (by first | exact .inl rfl | exact .inr (.inl rfl) | exact .inr (.inr rfl))) snd_int (fun _ _ => rfl)) (snd_var 2 rfl (by first | exact .inl rfl | exact .inr (.inl rfl) | exact .inr (.inr rfl))) (by rfl)) (snd_one (snd_cmp (so_eq hu64) (snd_ix hu1 (snd_var 3 rfl (by first | exact .inl rfl | exact .inr (.inl rfl) | exact .inr (.inr rfl))) snd_int (fun _ _ => rfl)) (snd_var 1 rfl (by first | exact .inl rfl | exact .inr (.inl rfl) | exact .inr (.inr rfl))) (by rfl)))))) sa_nil))))))
theorem sc_Ring_init : FnScope ["self", "gifts"] ["self", "gifts"] (defScope st_Ring_init) := ⟨rfl, rfl, rfl, by decide +kernel, rfl, by decide +kernel, by decide +kernel⟩
set_option maxHeartbeats 0 in
theorem ok_Ring_init {f : Addr} {fd : FuncData} (F : Fun K "__init__" "Ring.__init__" st_Ring_init f fd) (T : Txt K mg ct) :
    FnOk P w K mg base (L2.CX P w) 1 f fd ["self", "gifts"] (spOf ct 2 f_Ring_init) := by
  refine def_ok (k := 0) (Ns := ["self", "gifts"]) F sc_Ring_init fun cdv A outer s H E hr => ?_
  have hu65 := units_65 hr
  have hu64 := units_64 hr
  have hu1 := units_1 hr
  have nd := sc_Ring_init.nd
  have tk : Takes (bodyX P w K mg base ["self", "gifts"] "Ring.__init__" st_Ring_init f cdv A outer s H E) (fun cls d _ H => E cls d H) := takes_of rfl rfl rfl rfl
  have ps : PassesOwn (model P w) (bodyX P w K mg base ["self", "gifts"] "Ring.__init__" st_Ring_init f cdv A outer s H E).A (bodyX P w K mg base ["self", "gifts"] "Ring.__init__" st_Ring_init f cdv A outer s H E).env (bodyX P w K mg base ["self", "gifts"] "Ring.__init__" st_Ring_init f cdv A outer s H E).xe := passes_of rfl
  unfold d_Ring_init
  exact (sb_one (ss_fld (snd_var 0 rfl (by first | exact .inl rfl | exact .inr (.inl rfl) | exact .inr (.inr rfl))) (snd_callTy sc_listM (by rfl) T.n_list bo_list (sa_cons (snd_var 1 rfl (by first | exact .inl rfl | exact .inr (.inl rfl) | exact .inr (.inr rfl))) sa_nil)) (flds_cons T.f_Ring_gifts (flds_cons T.f_Most_gifts flds_nil))))
theorem sc_Ring_shows : FnScope ["self", "albums", "collector", "kind"] ["self", "albums", "collector", "kind"] (defScope st_Ring_shows) := ⟨rfl, rfl, rfl, by decide +kernel, rfl, by decide +kernel, by decide +kernel⟩
set_option maxHeartbeats 0 in
theorem ok_Ring_shows {f : Addr} {fd : FuncData} (F : Fun K "shows" "Ring.shows" st_Ring_shows f fd) (T : Txt K mg ct) (a_brings : FnAt P w K mg base ct "brings" 2 3 f_brings) (a_fits : FnAt P w K mg base ct "fits" 2 2 f_fits) :
    FnOk P w K mg base (L2.CX P w) 3 f fd ["self", "albums", "collector", "kind"] (spOf ct 4 f_Ring_shows) := by
  refine def_ok (k := 2) (Ns := ["self", "albums", "collector", "kind"]) F sc_Ring_shows fun cdv A outer s H E hr => ?_
  have hu65 := units_65 hr
  have hu64 := units_64 hr
  have hu1 := units_1 hr
  have nd := sc_Ring_shows.nd
  have tk : Takes (bodyX P w K mg base ["self", "albums", "collector", "kind"] "Ring.shows" st_Ring_shows f cdv A outer s H E) (fun cls d _ H => E cls d H) := takes_of rfl rfl rfl rfl
  have ps : PassesOwn (model P w) (bodyX P w K mg base ["self", "albums", "collector", "kind"] "Ring.shows" st_Ring_shows f cdv A outer s H E).A (bodyX P w K mg base ["self", "albums", "collector", "kind"] "Ring.shows" st_Ring_shows f cdv A outer s H E).env (bodyX P w K mg base ["self", "albums", "collector", "kind"] "Ring.shows" st_Ring_shows f cdv A outer s H E).xe := passes_of rfl
  unfold d_Ring_shows
  exact (sb_one (ss_ret (snd_and (snd_call a_fits tk hr (by decide) (by rfl) (sa_cons (snd_var 1 rfl (by first | exact .inl rfl | exact .inr (.inl rfl) | exact .inr (.inr rfl))) (sa_cons (snd_fld (snd_var 0 rfl (by first | exact .inl rfl | exact .inr (.inl rfl) | exact .inr (.inr rfl))) (flds_cons T.f_Ring_gifts (flds_cons T.f_Most_gifts flds_nil)) rfl) sa_nil)) rfl) (snd_one (snd_call a_brings tk hr (by decide) (by rfl) (sa_cons (snd_fld (snd_var 0 rfl (by first | exact .inl rfl | exact .inr (.inl rfl) | exact .inr (.inr rfl))) (flds_cons T.f_Ring_gifts (flds_cons T.f_Most_gifts flds_nil)) rfl) (sa_cons (snd_var 2 rfl (by first | exact .inl rfl | exact .inr (.inl rfl) | exact .inr (.inr rfl))) (sa_cons (snd_var 3 rfl (by first | exact .inl rfl | exact .inr (.inl rfl) | exact .inr (.inr rfl))) sa_nil))) rfl)))))
theorem sc_Never_init : FnScope ["self", "collectors"] ["self", "collectors"] (defScope st_Never_init) := ⟨rfl, rfl, rfl, by decide +kernel, rfl, by decide +kernel, by decide +kernel⟩
set_option maxHeartbeats 0 in
theorem ok_Never_init {f : Addr} {fd : FuncData} (F : Fun K "__init__" "Never.__init__" st_Never_init f fd) (T : Txt K mg ct) :
    FnOk P w K mg base (L2.CX P w) 1 f fd ["self", "collectors"] (spOf ct 2 f_Never_init) := by
  refine def_ok (k := 0) (Ns := ["self", "collectors"]) F sc_Never_init fun cdv A outer s H E hr => ?_
  have hu65 := units_65 hr
  have hu64 := units_64 hr
  have hu1 := units_1 hr
  have nd := sc_Never_init.nd
  have tk : Takes (bodyX P w K mg base ["self", "collectors"] "Never.__init__" st_Never_init f cdv A outer s H E) (fun cls d _ H => E cls d H) := takes_of rfl rfl rfl rfl
  have ps : PassesOwn (model P w) (bodyX P w K mg base ["self", "collectors"] "Never.__init__" st_Never_init f cdv A outer s H E).A (bodyX P w K mg base ["self", "collectors"] "Never.__init__" st_Never_init f cdv A outer s H E).env (bodyX P w K mg base ["self", "collectors"] "Never.__init__" st_Never_init f cdv A outer s H E).xe := passes_of rfl
  unfold d_Never_init
  exact (sb_one (ss_fld (snd_var 0 rfl (by first | exact .inl rfl | exact .inr (.inl rfl) | exact .inr (.inr rfl))) (snd_callTy sc_listM (by rfl) T.n_list bo_list (sa_cons (snd_var 1 rfl (by first | exact .inl rfl | exact .inr (.inl rfl) | exact .inr (.inr rfl))) sa_nil)) (flds_cons T.f_Never_collectors flds_nil)))
theorem sc_Never_shows : FnScope ["self", "albums", "collector", "kind", "some", "many", "one", "other", "others"] ["self", "albums", "collector", "kind"] (defScope st_Never_shows) := ⟨rfl, rfl, rfl, by decide +kernel, rfl, by decide +kernel, by decide +kernel⟩
set_option maxHeartbeats 0 in
theorem ok_Never_shows {f : Addr} {fd : FuncData} (F : Fun K "shows" "Never.shows" st_Never_shows f fd) (T : Txt K mg ct) (a_gift_between : FnAt P w K mg base ct "gift_between" 1 3 f_gift_between) :
    FnOk P w K mg base (L2.CX P w) 2 f fd ["self", "albums", "collector", "kind"] (spOf ct 4 f_Never_shows) := by
  refine def_ok (k := 1) (Ns := ["self", "albums", "collector", "kind", "some", "many", "one", "other", "others"]) F sc_Never_shows fun cdv A outer s H E hr => ?_
  have hu65 := units_65 hr
  have hu64 := units_64 hr
  have hu1 := units_1 hr
  have nd := sc_Never_shows.nd
  have tk : Takes (bodyX P w K mg base ["self", "albums", "collector", "kind", "some", "many", "one", "other", "others"] "Never.shows" st_Never_shows f cdv A outer s H E) (fun cls d _ H => E cls d H) := takes_of rfl rfl rfl rfl
  have ps : PassesOwn (model P w) (bodyX P w K mg base ["self", "albums", "collector", "kind", "some", "many", "one", "other", "others"] "Never.shows" st_Never_shows f cdv A outer s H E).A (bodyX P w K mg base ["self", "albums", "collector", "kind", "some", "many", "one", "other", "others"] "Never.shows" st_Never_shows f cdv A outer s H E).env (bodyX P w K mg base ["self", "albums", "collector", "kind", "some", "many", "one", "other", "others"] "Never.shows" st_Never_shows f cdv A outer s H E).xe := passes_of rfl
  unfold d_Never_shows
  exact (sb_cons (by first | exact (ss_par rfl nd rfl rfl (by decide) rfl rfl (sa_cons (snd_fld (snd_var 0 rfl (by first | exact .inl rfl | exact .inr (.inl rfl) | exact .inr (.inr rfl))) (flds_cons T.f_Never_collectors flds_nil) rfl) (sa_cons (snd_callB sc_len (by rfl) T.n_len bo_len (sa_cons (snd_var 1 rfl (by first | exact .inl rfl | exact .inr (.inl rfl) | exact .inr (.inr rfl))) sa_nil)) sa_nil)) rfl) | exact ss_parT (ss_asg (snd_tup (sa_cons (snd_fld (snd_var 0 rfl (by first | exact .inl rfl | exact .inr (.inl rfl) | exact .inr (.inr rfl))) (flds_cons T.f_Never_collectors flds_nil) rfl) (sa_cons (snd_callB sc_len (by rfl) T.n_len bo_len (sa_cons (snd_var 1 rfl (by first | exact .inl rfl | exact .inr (.inl rfl) | exact .inr (.inr rfl))) sa_nil)) sa_nil))) (sg_tup rfl (sg_cons (sg_name nd rfl (by first | exact .inl rfl | exact .inr rfl)) (sg_cons (sg_name nd rfl (by first | exact .inl rfl | exact .inr rfl)) sg_nil)))))
    (sb_cons (ss_if (SndW.t (sw_or (st_cmp (so_notIn hu65) (snd_var 2 rfl (by first | exact .inl rfl | exact .inr (.inl rfl) | exact .inr (.inr rfl))) (snd_var 4 rfl (by first | exact .inl rfl | exact .inr (.inl rfl) | exact .inr (.inr rfl))) (by rfl)) (sw_or1 (st_val (snd_callB (sc_any rfl) (by rfl) T.n_any bo_any (sa_cons (snd_lc (own := [("one", 6), ("other", 7)]) rfl nd (si_zip (by rfl) T.n_zip (sa_cons (snd_var 4 rfl (by first | exact .inl rfl | exact .inr (.inl rfl) | exact .inr (.inr rfl))) (sa_cons (snd_sl (snd_var 4 rfl (by first | exact .inl rfl | exact .inr (.inl rfl) | exact .inr (.inr rfl))) (sp_some snd_int) sp_none) sa_nil))) (blkOk_by (by kernel_rfl)) (fun _ _ _ _ _ => (sg_tup rfl (sg_cons (sg_name nd rfl (by first | exact .inl rfl | exact .inr rfl)) (sg_cons (sg_name nd rfl (by first | exact .inl rfl | exact .inr rfl)) sg_nil)))) (fun _ _ _ _ _ => sts_nil) (fun _ _ _ _ _ => (snd_cmp so_ge (snd_var 6 rfl (by first | exact .inl rfl | exact .inr (.inl rfl) | exact .inr (.inr rfl))) (snd_var 7 rfl (by first | exact .inl rfl | exact .inr (.inl rfl) | exact .inr (.inr rfl))) (by rfl)))) sa_nil)))))) (sb_one (ss_ret snd_bl)) sb_nil)
    (sb_cons (ss_if (SndW.t (sw_or (st_cmp so_lt (snd_ix hu1 (snd_var 4 rfl (by first | exact .inl rfl | exact .inr (.inl rfl) | exact .inr (.inr rfl))) snd_int (fun _ _ => rfl)) snd_int (by rfl)) (sw_or (st_cmp so_ge (snd_ix hu1 (snd_var 4 rfl (by first | exact .inl rfl | exact .inr (.inl rfl) | exact .inr (.inr rfl))) (snd_neg snd_int) (fun _ _ => rfl)) (snd_var 5 rfl (by first | exact .inl rfl | exact .inr (.inl rfl) | exact .inr (.inr rfl))) (by rfl)) (sw_or1 (st_val (snd_callB (sc_any rfl) (by rfl) T.n_any bo_any (sa_cons (snd_lc (own := [("one", 6)]) rfl nd (si_seq (snd_var 4 rfl (by first | exact .inl rfl | exact .inr (.inl rfl) | exact .inr (.inr rfl)))) (blkOk_by (by kernel_rfl)) (fun _ _ _ _ _ => (sg_name nd rfl (by first | exact .inl rfl | exact .inr rfl))) (fun _ _ _ _ _ => sts_nil) (fun _ _ _ _ _ => (snd_cmp so_gt (snd_ix hu1 (snd_ix hu1 (snd_ix hu1 (snd_var 1 rfl (by first | exact .inl rfl | exact .inr (.inl rfl) | exact .inr (.inr rfl))) (snd_var 6 rfl (by first | exact .inl rfl | exact .inr (.inl rfl) | exact .inr (.inr rfl))) (fun _ _ => rfl)) snd_int (fun _ _ => rfl)) (snd_var 3 rfl (by first | exact .inl rfl | exact .inr (.inl rfl) | exact .inr (.inr rfl))) (fun _ _ => rfl)) snd_int (by rfl)))) sa_nil))))))) (sb_one (ss_ret snd_bl)) sb_nil)
    (sb_cons (by first | exact ss_setLc (own := [("other", 7)]) rfl nd rfl rfl rfl (si_range1 (by rfl) T.n_range (sa_cons (snd_var 5 rfl (by first | exact .inl rfl | exact .inr (.inl rfl) | exact .inr (.inr rfl))) sa_nil)) (blkOk_by (by kernel_rfl)) (fun _ _ _ _ _ => (sg_name nd rfl (by first | exact .inl rfl | exact .inr rfl))) (fun _ _ _ _ _ => (sts_one (st_cmp (so_notIn hu65) (snd_var 7 rfl (by first | exact .inl rfl | exact .inr (.inl rfl) | exact .inr (.inr rfl))) (snd_var 4 rfl (by first | exact .inl rfl | exact .inr (.inl rfl) | exact .inr (.inr rfl))) (by rfl)))) (fun _ _ _ _ _ => (snd_var 7 rfl (by first | exact .inl rfl | exact .inr (.inl rfl) | exact .inr (.inr rfl)))) | exact ss_set (snd_lc (own := [("other", 7)]) rfl nd (si_range1 (by rfl) T.n_range (sa_cons (snd_var 5 rfl (by first | exact .inl rfl | exact .inr (.inl rfl) | exact .inr (.inr rfl))) sa_nil)) (blkOk_by (by kernel_rfl)) (fun _ _ _ _ _ => (sg_name nd rfl (by first | exact .inl rfl | exact .inr rfl))) (fun _ _ _ _ _ => (sts_one (st_cmp (so_notIn hu65) (snd_var 7 rfl (by first | exact .inl rfl | exact .inr (.inl rfl) | exact .inr (.inr rfl))) (snd_var 4 rfl (by first | exact .inl rfl | exact .inr (.inl rfl) | exact .inr (.inr rfl))) (by rfl)))) (fun _ _ _ _ _ => (snd_var 7 rfl (by first | exact .inl rfl | exact .inr (.inl rfl) | exact .inr (.inr rfl))))) nd rfl (by first | exact .inl rfl | exact .inr rfl))
    (sb_one (ss_ret (snd_not (snd_callB (sc_any rfl) (by rfl) T.n_any bo_any (sa_cons (snd_lc (own := [("one", 6)]) rfl nd (si_seq (snd_var 4 rfl (by first | exact .inl rfl | exact .inr (.inl rfl) | exact .inr (.inr rfl)))) (blkOk_by (by kernel_rfl)) (fun _ _ _ _ _ => (sg_name nd rfl (by first | exact .inl rfl | exact .inr rfl))) (fun _ _ _ _ _ => sts_nil) (fun _ _ _ _ _ => (snd_callB (sc_any rfl) (by rfl) T.n_any bo_any (sa_cons (snd_lc (own := [("other", 7)]) rfl nd (si_seq (snd_var 8 rfl (by first | exact .inl rfl | exact .inr (.inl rfl) | exact .inr (.inr rfl)))) (blkOk_by (by kernel_rfl)) (fun _ _ _ _ _ => (sg_name nd rfl (by first | exact .inl rfl | exact .inr rfl))) (fun _ _ _ _ _ => sts_nil) (fun _ _ _ _ _ => (snd_cmp so_isNot (snd_call a_gift_between takes_0 hr (by decide) (by rfl) (sa_cons (snd_var 1 rfl (by first | exact .inl rfl | exact .inr (.inl rfl) | exact .inr (.inr rfl))) (sa_cons (snd_var 6 rfl (by first | exact .inl rfl | exact .inr (.inl rfl) | exact .inr (.inr rfl))) (sa_cons (snd_var 7 rfl (by first | exact .inl rfl | exact .inr (.inl rfl) | exact .inr (.inr rfl))) sa_nil))) rfl) snd_non (by rfl)))) sa_nil)))) sa_nil)))))))))
theorem sc_Most_init : FnScope ["self", "gifts", "prices", "kinds"] ["self", "gifts", "prices", "kinds"] (defScope st_Most_init) := ⟨rfl, rfl, rfl, by decide +kernel, rfl, by decide +kernel, by decide +kernel⟩
set_option maxHeartbeats 0 in
theorem ok_Most_init {f : Addr} {fd : FuncData} (F : Fun K "__init__" "Most.__init__" st_Most_init f fd) (T : Txt K mg ct) :
    FnOk P w K mg base (L2.CX P w) 1 f fd ["self", "gifts", "prices", "kinds"] (spOf ct 4 f_Most_init) := by
  refine def_ok (k := 0) (Ns := ["self", "gifts", "prices", "kinds"]) F sc_Most_init fun cdv A outer s H E hr => ?_
  have hu65 := units_65 hr
  have hu64 := units_64 hr
  have hu1 := units_1 hr
  have nd := sc_Most_init.nd
  have tk : Takes (bodyX P w K mg base ["self", "gifts", "prices", "kinds"] "Most.__init__" st_Most_init f cdv A outer s H E) (fun cls d _ H => E cls d H) := takes_of rfl rfl rfl rfl
  have ps : PassesOwn (model P w) (bodyX P w K mg base ["self", "gifts", "prices", "kinds"] "Most.__init__" st_Most_init f cdv A outer s H E).A (bodyX P w K mg base ["self", "gifts", "prices", "kinds"] "Most.__init__" st_Most_init f cdv A outer s H E).env (bodyX P w K mg base ["self", "gifts", "prices", "kinds"] "Most.__init__" st_Most_init f cdv A outer s H E).xe := passes_of rfl
  unfold d_Most_init
  exact (sb_cons (ss_fld (snd_var 0 rfl (by first | exact .inl rfl | exact .inr (.inl rfl) | exact .inr (.inr rfl))) (snd_callTy sc_listM (by rfl) T.n_list bo_list (sa_cons (snd_var 1 rfl (by first | exact .inl rfl | exact .inr (.inl rfl) | exact .inr (.inr rfl))) sa_nil)) (flds_cons T.f_Ring_gifts (flds_cons T.f_Most_gifts flds_nil)))
    (sb_cons (ss_fld (snd_var 0 rfl (by first | exact .inl rfl | exact .inr (.inl rfl) | exact .inr (.inr rfl))) (snd_callTy sc_listM (by rfl) T.n_list bo_list (sa_cons (snd_var 2 rfl (by first | exact .inl rfl | exact .inr (.inl rfl) | exact .inr (.inr rfl))) sa_nil)) (flds_cons T.f_Most_prices flds_nil))
    (sb_one (ss_fld (snd_var 0 rfl (by first | exact .inl rfl | exact .inr (.inl rfl) | exact .inr (.inr rfl))) (snd_callTy sc_listM (by rfl) T.n_list bo_list (sa_cons (snd_var 3 rfl (by first | exact .inl rfl | exact .inr (.inl rfl) | exact .inr (.inr rfl))) sa_nil)) (flds_cons T.f_Most_kinds flds_nil)))))
theorem sc_Most_shows : FnScope ["self", "albums"] ["self", "albums"] (defScope st_Most_shows) := ⟨rfl, rfl, rfl, by decide +kernel, rfl, by decide +kernel, by decide +kernel⟩
set_option maxHeartbeats 0 in
theorem ok_Most_shows {f : Addr} {fd : FuncData} (F : Fun K "shows" "Most.shows" st_Most_shows f fd) (T : Txt K mg ct) (a_fits : FnAt P w K mg base ct "fits" 2 2 f_fits) (a_is_even : FnAt P w K mg base ct "is_even" 1 1 f_is_even) (a_worth : FnAt P w K mg base ct "worth" 1 3 f_worth) :
    FnOk P w K mg base (L2.CX P w) 3 f fd ["self", "albums"] (spOf ct 2 f_Most_shows) := by
  refine def_ok (k := 2) (Ns := ["self", "albums"]) F sc_Most_shows fun cdv A outer s H E hr => ?_
  have hu65 := units_65 hr
  have hu64 := units_64 hr
  have hu1 := units_1 hr
  have nd := sc_Most_shows.nd
  have tk : Takes (bodyX P w K mg base ["self", "albums"] "Most.shows" st_Most_shows f cdv A outer s H E) (fun cls d _ H => E cls d H) := takes_of rfl rfl rfl rfl
  have ps : PassesOwn (model P w) (bodyX P w K mg base ["self", "albums"] "Most.shows" st_Most_shows f cdv A outer s H E).A (bodyX P w K mg base ["self", "albums"] "Most.shows" st_Most_shows f cdv A outer s H E).env (bodyX P w K mg base ["self", "albums"] "Most.shows" st_Most_shows f cdv A outer s H E).xe := passes_of rfl
  unfold d_Most_shows
  exact (sb_cons (ss_if (SndW.t (sw_or (st_not (st_val (snd_call a_fits tk hr (by decide) (by rfl) (sa_cons (snd_var 1 rfl (by first | exact .inl rfl | exact .inr (.inl rfl) | exact .inr (.inr rfl))) (sa_cons (snd_fld (snd_var 0 rfl (by first | exact .inl rfl | exact .inr (.inl rfl) | exact .inr (.inr rfl))) (flds_cons T.f_Ring_gifts (flds_cons T.f_Most_gifts flds_nil)) rfl) sa_nil)) rfl))) (sw_or1 (st_not (st_val (snd_call a_is_even tk hr (by decide) (by rfl) (sa_cons (snd_fld (snd_var 0 rfl (by first | exact .inl rfl | exact .inr (.inl rfl) | exact .inr (.inr rfl))) (flds_cons T.f_Ring_gifts (flds_cons T.f_Most_gifts flds_nil)) rfl) sa_nil) rfl)))))) (sb_one (ss_ret snd_bl)) sb_nil)
    (sb_cons (ss_if (SndW.t (sw_or (st_cmp (so_ne hu64) (snd_callB sc_len (by rfl) T.n_len bo_len (sa_cons (snd_fld (snd_var 0 rfl (by first | exact .inl rfl | exact .inr (.inl rfl) | exact .inr (.inr rfl))) (flds_cons T.f_Most_prices flds_nil) rfl) sa_nil)) (snd_callB sc_len (by rfl) T.n_len bo_len (sa_cons (snd_var 1 rfl (by first | exact .inl rfl | exact .inr (.inl rfl) | exact .inr (.inr rfl))) sa_nil)) (by rfl)) (sw_or1 (st_cmp (so_ne hu64) (snd_callB sc_len (by rfl) T.n_len bo_len (sa_cons (snd_fld (snd_var 0 rfl (by first | exact .inl rfl | exact .inr (.inl rfl) | exact .inr (.inr rfl))) (flds_cons T.f_Most_kinds flds_nil) rfl) sa_nil)) (snd_callB sc_len (by rfl) T.n_len bo_len (sa_cons (snd_ix hu1 (snd_ix hu1 (snd_var 1 rfl (by first | exact .inl rfl | exact .inr (.inl rfl) | exact .inr (.inr rfl))) snd_int (fun _ _ => rfl)) snd_int (fun _ _ => rfl)) sa_nil)) (by rfl))))) (sb_one (ss_ret snd_bl)) sb_nil)
    (sb_one (ss_ret (snd_cmp (so_eq hu64) (snd_call a_worth tk hr (by decide) (by rfl) (sa_cons (snd_var 1 rfl (by first | exact .inl rfl | exact .inr (.inl rfl) | exact .inr (.inr rfl))) (sa_cons (snd_fld (snd_var 0 rfl (by first | exact .inl rfl | exact .inr (.inl rfl) | exact .inr (.inr rfl))) (flds_cons T.f_Most_prices flds_nil) rfl) (sa_cons (snd_fld (snd_var 0 rfl (by first | exact .inl rfl | exact .inr (.inl rfl) | exact .inr (.inr rfl))) (flds_cons T.f_Most_kinds flds_nil) rfl) sa_nil))) rfl) (snd_callB sc_len (by rfl) T.n_len bo_len (sa_cons (snd_fld (snd_var 0 rfl (by first | exact .inl rfl | exact .inr (.inl rfl) | exact .inr (.inr rfl))) (flds_cons T.f_Ring_gifts (flds_cons T.f_Most_gifts flds_nil)) rfl) sa_nil)) (by rfl))))))
theorem sc_ring : FnScope ["albums", "collector", "kind", "gifts", "some"] ["albums", "collector", "kind"] (defScope st_ring) := ⟨rfl, rfl, rfl, by decide +kernel, rfl, by decide +kernel, by decide +kernel⟩
set_option maxHeartbeats 0 in
theorem ok_ring {f : Addr} {fd : FuncData} (F : Fun K "ring" "ring" st_ring f fd) (T : Txt K mg ct) (m_Never_init : MakeAt P w K mg base ct 14 "Never" 1 2 f_Never_init) (m_Ring_init : MakeAt P w K mg base ct 13 "Ring" 1 2 f_Ring_init) (a_check_albums : FnAt P w K mg base ct "check_albums" 4 1 f_check_albums) (a_is_count : FnAt P w K mg base ct "is_count" 1 3 f_is_count) (a_ring_for : FnAt P w K mg base ct "ring_for" 3 3 f_ring_for) :
    FnOk P w K mg base (L2.CX P w) 5 f fd ["albums", "collector", "kind"] (spOf ct 3 f_ring) := by
  refine def_ok (k := 4) (Ns := ["albums", "collector", "kind", "gifts", "some"]) F sc_ring fun cdv A outer s H E hr => ?_
  have hu65 := units_65 hr
  have hu64 := units_64 hr
  have hu1 := units_1 hr
  have nd := sc_ring.nd
  have tk : Takes (bodyX P w K mg base ["albums", "collector", "kind", "gifts", "some"] "ring" st_ring f cdv A outer s H E) (fun cls d _ H => E cls d H) := takes_of rfl rfl rfl rfl
  have ps : PassesOwn (model P w) (bodyX P w K mg base ["albums", "collector", "kind", "gifts", "some"] "ring" st_ring f cdv A outer s H E).A (bodyX P w K mg base ["albums", "collector", "kind", "gifts", "some"] "ring" st_ring f cdv A outer s H E).env (bodyX P w K mg base ["albums", "collector", "kind", "gifts", "some"] "ring" st_ring f cdv A outer s H E).xe := passes_of rfl
  unfold d_ring
  exact (sb_cons (ss_expr (snd_call a_check_albums tk hr (by decide) (by rfl) (sa_cons (snd_var 0 rfl (by first | exact .inl rfl | exact .inr (.inl rfl) | exact .inr (.inr rfl))) sa_nil) rfl))
    (sb_cons (ss_if (st_not (st_val (snd_call a_is_count tk hr (by decide) (by rfl) (sa_cons (snd_var 1 rfl (by first | exact .inl rfl | exact .inr (.inl rfl) | exact .inr (.inr rfl))) (sa_cons snd_int (sa_cons (snd_bin so_sub (snd_callB sc_len (by rfl) T.n_len bo_len (sa_cons (snd_var 0 rfl (by first | exact .inl rfl | exact .inr (.inl rfl) | exact .inr (.inr rfl))) sa_nil)) snd_int) sa_nil))) rfl))) (sb_one (ss_raise T.e_BadCollector rfl tk (by rfl))) sb_nil)
    (sb_cons (ss_if (SndW.t (sw_or (st_not (st_val (snd_call a_is_count tk hr (by decide) (by rfl) (sa_cons (snd_var 2 rfl (by first | exact .inl rfl | exact .inr (.inl rfl) | exact .inr (.inr rfl))) (sa_cons snd_int (sa_cons (snd_bin so_sub (snd_callB sc_len (by rfl) T.n_len bo_len (sa_cons (snd_ix hu1 (snd_ix hu1 (snd_var 0 rfl (by first | exact .inl rfl | exact .inr (.inl rfl) | exact .inr (.inr rfl))) snd_int (fun _ _ => rfl)) snd_int (fun _ _ => rfl)) sa_nil)) snd_int) sa_nil))) rfl))) (sw_or1 (st_cmp (so_eq hu64) (snd_ix hu1 (snd_ix hu1 (snd_ix hu1 (snd_var 0 rfl (by first | exact .inl rfl | exact .inr (.inl rfl) | exact .inr (.inr rfl))) (snd_var 1 rfl (by first | exact .inl rfl | exact .inr (.inl rfl) | exact .inr (.inr rfl))) (fun _ _ => rfl)) snd_int (fun _ _ => rfl)) (snd_var 2 rfl (by first | exact .inl rfl | exact .inr (.inl rfl) | exact .inr (.inr rfl))) (fun _ _ => rfl)) snd_int (by rfl))))) (sb_one (ss_raise T.e_BadKind rfl tk (by rfl))) sb_nil)
    (sb_cons (ss_asg (snd_call a_ring_for tk hr (by decide) (by rfl) (sa_cons (snd_var 0 rfl (by first | exact .inl rfl | exact .inr (.inl rfl) | exact .inr (.inr rfl))) (sa_cons (snd_var 1 rfl (by first | exact .inl rfl | exact .inr (.inl rfl) | exact .inr (.inr rfl))) (sa_cons (snd_var 2 rfl (by first | exact .inl rfl | exact .inr (.inl rfl) | exact .inr (.inr rfl))) sa_nil))) rfl) (sg_tup rfl (sg_cons (sg_name nd rfl (by first | exact .inl rfl | exact .inr rfl)) (sg_cons (sg_name nd rfl (by first | exact .inl rfl | exact .inr rfl)) sg_nil))))
    (sb_one (ss_ret (snd_ifExp (st_cmp so_isNot (snd_var 3 rfl (by first | exact .inl rfl | exact .inr (.inl rfl) | exact .inr (.inr rfl))) snd_non (by rfl)) (snd_make m_Ring_init tk hr (by decide) (by rfl) (sa_cons (snd_var 3 rfl (by first | exact .inl rfl | exact .inr (.inl rfl) | exact .inr (.inr rfl))) sa_nil) rfl) (snd_make m_Never_init tk hr (by decide) (by rfl) (sa_cons (snd_var 4 rfl (by first | exact .inl rfl | exact .inr (.inl rfl) | exact .inr (.inr rfl))) sa_nil) rfl))))))))
theorem sc_most : FnScope ["albums", "flow", "far", "back", "last"] ["albums"] (defScope st_most) := ⟨rfl, rfl, rfl, by decide +kernel, rfl, by decide +kernel, by decide +kernel⟩
set_option maxHeartbeats 0 in
theorem ok_most {f : Addr} {fd : FuncData} (F : Fun K "most" "most" st_most f fd) (T : Txt K mg ct) (e_Flow_far : MethAt P w K mg base ct 16 "far" 2 1 f_Flow_far) (e_Flow_given : MethAt P w K mg base ct 16 "given" 1 1 f_Flow_given) (m_Flow_init : MakeAt P w K mg base ct 16 "Flow" 4 2 f_Flow_init) (m_Most_init : MakeAt P w K mg base ct 15 "Most" 1 4 f_Most_init) (a_check_albums : FnAt P w K mg base ct "check_albums" 4 1 f_check_albums) :
    FnOk P w K mg base (L2.CX P w) 6 f fd ["albums"] (spOf ct 1 f_most) := by
  refine def_ok (k := 5) (Ns := ["albums", "flow", "far", "back", "last"]) F sc_most fun cdv A outer s H E hr => ?_
  have hu65 := units_65 hr
  have hu64 := units_64 hr
  have hu1 := units_1 hr
  have nd := sc_most.nd
  have tk : Takes (bodyX P w K mg base ["albums", "flow", "far", "back", "last"] "most" st_most f cdv A outer s H E) (fun cls d _ H => E cls d H) := takes_of rfl rfl rfl rfl
  have ps : PassesOwn (model P w) (bodyX P w K mg base ["albums", "flow", "far", "back", "last"] "most" st_most f cdv A outer s H E).A (bodyX P w K mg base ["albums", "flow", "far", "back", "last"] "most" st_most f cdv A outer s H E).env (bodyX P w K mg base ["albums", "flow", "far", "back", "last"] "most" st_most f cdv A outer s H E).xe := passes_of rfl
  unfold d_most
  exact (sb_cons (ss_expr (snd_call a_check_albums tk hr (by decide) (by rfl) (sa_cons (snd_var 0 rfl (by first | exact .inl rfl | exact .inr (.inl rfl) | exact .inr (.inr rfl))) sa_nil) rfl))
    (sb_cons (ss_set (snd_make m_Flow_init tk hr (by decide) (by rfl) (sa_cons (snd_var 0 rfl (by first | exact .inl rfl | exact .inr (.inl rfl) | exact .inr (.inr rfl))) sa_nil) rfl) nd rfl (by first | exact .inl rfl | exact .inr rfl))
    (sb_cons (ss_asg (snd_meth0 (k := 5) (snd_var 1 rfl (by first | exact .inl rfl | exact .inr (.inl rfl) | exact .inr (.inr rfl))) (meths_cons (e_Flow_far.up (by decide)) meths_nil) tk hr (Nat.le_refl _)) (sg_tup rfl (sg_cons (sg_name nd rfl (by first | exact .inl rfl | exact .inr rfl)) (sg_cons (sg_name nd rfl (by first | exact .inl rfl | exact .inr rfl)) (sg_cons (sg_name nd rfl (by first | exact .inl rfl | exact .inr rfl)) sg_nil)))))
    (sb_one (ss_ret (snd_make m_Most_init tk hr (by decide) (by rfl) (sa_cons (snd_meth0 (k := 5) (snd_var 1 rfl (by first | exact .inl rfl | exact .inr (.inl rfl) | exact .inr (.inr rfl))) (meths_cons (e_Flow_given.up (by decide)) meths_nil) tk hr (Nat.le_refl _)) (sa_cons (snd_sl (snd_var 2 rfl (by first | exact .inl rfl | exact .inr (.inl rfl) | exact .inr (.inr rfl))) sp_none (sp_some (snd_callB sc_len (by rfl) T.n_len bo_len (sa_cons (snd_var 0 rfl (by first | exact .inl rfl | exact .inr (.inl rfl) | exact .inr (.inr rfl))) sa_nil)))) (sa_cons (snd_sl (snd_var 2 rfl (by first | exact .inl rfl | exact .inr (.inl rfl) | exact .inr (.inr rfl))) (sp_some (snd_callB sc_len (by rfl) T.n_len bo_len (sa_cons (snd_var 0 rfl (by first | exact .inl rfl | exact .inr (.inl rfl) | exact .inr (.inr rfl))) sa_nil))) sp_none) sa_nil))) rfl))))))
theorem sc_rings : FnScope ["albums", "gifts"] ["albums", "gifts"] (defScope st_rings) := ⟨rfl, rfl, rfl, by decide +kernel, rfl, by decide +kernel, by decide +kernel⟩
set_option maxHeartbeats 0 in
theorem ok_rings {f : Addr} {fd : FuncData} (F : Fun K "rings" "rings" st_rings f fd) (T : Txt K mg ct) (a_check_albums : FnAt P w K mg base ct "check_albums" 4 1 f_check_albums) (a_check_gifts : FnAt P w K mg base ct "check_gifts" 2 2 f_check_gifts) (a_fits : FnAt P w K mg base ct "fits" 2 2 f_fits) (a_is_even : FnAt P w K mg base ct "is_even" 1 1 f_is_even) (a_parted : FnAt P w K mg base ct "parted" 2 1 f_parted) :
    FnOk P w K mg base (L2.CX P w) 5 f fd ["albums", "gifts"] (spOf ct 2 f_rings) := by
  refine def_ok (k := 4) (Ns := ["albums", "gifts"]) F sc_rings fun cdv A outer s H E hr => ?_
  have hu65 := units_65 hr
  have hu64 := units_64 hr
  have hu1 := units_1 hr
  have nd := sc_rings.nd
  have tk : Takes (bodyX P w K mg base ["albums", "gifts"] "rings" st_rings f cdv A outer s H E) (fun cls d _ H => E cls d H) := takes_of rfl rfl rfl rfl
  have ps : PassesOwn (model P w) (bodyX P w K mg base ["albums", "gifts"] "rings" st_rings f cdv A outer s H E).A (bodyX P w K mg base ["albums", "gifts"] "rings" st_rings f cdv A outer s H E).env (bodyX P w K mg base ["albums", "gifts"] "rings" st_rings f cdv A outer s H E).xe := passes_of rfl
  unfold d_rings
  exact (sb_cons (ss_expr (snd_call a_check_albums tk hr (by decide) (by rfl) (sa_cons (snd_var 0 rfl (by first | exact .inl rfl | exact .inr (.inl rfl) | exact .inr (.inr rfl))) sa_nil) rfl))
    (sb_cons (ss_expr (snd_call a_check_gifts tk hr (by decide) (by rfl) (sa_cons (snd_var 0 rfl (by first | exact .inl rfl | exact .inr (.inl rfl) | exact .inr (.inr rfl))) (sa_cons (snd_var 1 rfl (by first | exact .inl rfl | exact .inr (.inl rfl) | exact .inr (.inr rfl))) sa_nil)) rfl))
    (sb_cons (ss_if (st_not (st_val (snd_call a_fits tk hr (by decide) (by rfl) (sa_cons (snd_var 0 rfl (by first | exact .inl rfl | exact .inr (.inl rfl) | exact .inr (.inr rfl))) (sa_cons (snd_var 1 rfl (by first | exact .inl rfl | exact .inr (.inl rfl) | exact .inr (.inr rfl))) sa_nil)) rfl))) (sb_one (ss_raise T.e_Unfit rfl tk (by rfl))) sb_nil)
    (sb_cons (ss_if (st_not (st_val (snd_call a_is_even tk hr (by decide) (by rfl) (sa_cons (snd_var 1 rfl (by first | exact .inl rfl | exact .inr (.inl rfl) | exact .inr (.inr rfl))) sa_nil) rfl))) (sb_one (ss_raise T.e_Uneven rfl tk (by rfl))) sb_nil)
    (sb_one (ss_ret (snd_call a_parted tk hr (by decide) (by rfl) (sa_cons (snd_var 1 rfl (by first | exact .inl rfl | exact .inr (.inl rfl) | exact .inr (.inr rfl))) sa_nil) rfl)))))))
theorem sc_Desk_init : FnScope ["self", "albums", "spares", "wants"] ["self", "albums"] (defScope st_Desk_init) := ⟨rfl, rfl, rfl, by decide +kernel, rfl, by decide +kernel, by decide +kernel⟩
set_option maxHeartbeats 0 in
theorem ok_Desk_init {f : Addr} {fd : FuncData} (F : Fun K "__init__" "Desk.__init__" st_Desk_init f fd) (T : Txt K mg ct) (a_check_albums : FnAt P w K mg base ct "check_albums" 4 1 f_check_albums) :
    FnOk P w K mg base (L2.CX P w) 5 f fd ["self", "albums"] (spOf ct 2 f_Desk_init) := by
  refine def_ok (k := 4) (Ns := ["self", "albums", "spares", "wants"]) F sc_Desk_init fun cdv A outer s H E hr => ?_
  have hu65 := units_65 hr
  have hu64 := units_64 hr
  have hu1 := units_1 hr
  have nd := sc_Desk_init.nd
  have tk : Takes (bodyX P w K mg base ["self", "albums", "spares", "wants"] "Desk.__init__" st_Desk_init f cdv A outer s H E) (fun cls d _ H => E cls d H) := takes_of rfl rfl rfl rfl
  have ps : PassesOwn (model P w) (bodyX P w K mg base ["self", "albums", "spares", "wants"] "Desk.__init__" st_Desk_init f cdv A outer s H E).A (bodyX P w K mg base ["self", "albums", "spares", "wants"] "Desk.__init__" st_Desk_init f cdv A outer s H E).env (bodyX P w K mg base ["self", "albums", "spares", "wants"] "Desk.__init__" st_Desk_init f cdv A outer s H E).xe := passes_of rfl
  unfold d_Desk_init
  exact (sb_cons (ss_expr (snd_call a_check_albums tk hr (by decide) (by rfl) (sa_cons (snd_var 1 rfl (by first | exact .inl rfl | exact .inr (.inl rfl) | exact .inr (.inr rfl))) sa_nil) rfl))
    (sb_cons (ss_fld (snd_var 0 rfl (by first | exact .inl rfl | exact .inr (.inl rfl) | exact .inr (.inr rfl))) (snd_lcM (own := [("spares", 2), ("wants", 3)]) rfl nd (si_seq (snd_var 1 rfl (by first | exact .inl rfl | exact .inr (.inl rfl) | exact .inr (.inr rfl)))) (blkOk_by (by kernel_rfl)) (fun _ _ _ _ _ => (sg_tup rfl (sg_cons (sg_name nd rfl (by first | exact .inl rfl | exact .inr rfl)) (sg_cons (sg_name nd rfl (by first | exact .inl rfl | exact .inr rfl)) sg_nil)))) (fun _ _ _ _ _ => sts_nil) (fun _ _ _ _ _ => (snd_tup (sa_cons (snd_callTy sc_list (by rfl) T.n_list bo_list (sa_cons (snd_var 2 rfl (by first | exact .inl rfl | exact .inr (.inl rfl) | exact .inr (.inr rfl))) sa_nil)) (sa_cons (snd_callTy sc_list (by rfl) T.n_list bo_list (sa_cons (snd_var 3 rfl (by first | exact .inl rfl | exact .inr (.inl rfl) | exact .inr (.inr rfl))) sa_nil)) sa_nil))))) (flds_cons T.f_Desk_albums flds_nil))
    (sb_cons (ss_fld (snd_var 0 rfl (by first | exact .inl rfl | exact .inr (.inl rfl) | exact .inr (.inr rfl))) (snd_lstM sa_nil) (flds_cons T.f_Desk_swaps flds_nil))
    (sb_one (ss_fld (snd_var 0 rfl (by first | exact .inl rfl | exact .inr (.inl rfl) | exact .inr (.inr rfl))) (snd_lstM sa_nil) (flds_cons T.f_Desk_marks flds_nil))))))
theorem sc_Desk_kept : FnScope ["self", "found", "gifts", "marks", "gift", "mark"] ["self"] (defScope st_Desk_kept) := ⟨rfl, rfl, rfl, by decide +kernel, rfl, by decide +kernel, by decide +kernel⟩
set_option maxHeartbeats 0 in
theorem ok_Desk_kept {f : Addr} {fd : FuncData} (F : Fun K "kept" "Desk.kept" st_Desk_kept f fd) (T : Txt K mg ct) :
    FnOk P w K mg base (L2.CX P w) 1 f fd ["self"] (spOf ct 1 f_Desk_kept) := by
  refine def_ok (k := 0) (Ns := ["self", "found", "gifts", "marks", "gift", "mark"]) F sc_Desk_kept fun cdv A outer s H E hr => ?_
  have hu65 := units_65 hr
  have hu64 := units_64 hr
  have hu1 := units_1 hr
  have nd := sc_Desk_kept.nd
  have tk : Takes (bodyX P w K mg base ["self", "found", "gifts", "marks", "gift", "mark"] "Desk.kept" st_Desk_kept f cdv A outer s H E) (fun cls d _ H => E cls d H) := takes_of rfl rfl rfl rfl
  have ps : PassesOwn (model P w) (bodyX P w K mg base ["self", "found", "gifts", "marks", "gift", "mark"] "Desk.kept" st_Desk_kept f cdv A outer s H E).A (bodyX P w K mg base ["self", "found", "gifts", "marks", "gift", "mark"] "Desk.kept" st_Desk_kept f cdv A outer s H E).env (bodyX P w K mg base ["self", "found", "gifts", "marks", "gift", "mark"] "Desk.kept" st_Desk_kept f cdv A outer s H E).xe := passes_of rfl
  unfold d_Desk_kept
  exact (sb_cons (ss_set (snd_lstM sa_nil) nd rfl (by first | exact .inl rfl | exact .inr rfl))
    (sb_cons (ss_for ps rfl (si_zip (by rfl) T.n_zip (sa_cons (snd_fld (snd_var 0 rfl (by first | exact .inl rfl | exact .inr (.inl rfl) | exact .inr (.inr rfl))) (flds_cons T.f_Desk_swaps flds_nil) rfl) (sa_cons (snd_fld (snd_var 0 rfl (by first | exact .inl rfl | exact .inr (.inl rfl) | exact .inr (.inr rfl))) (flds_cons T.f_Desk_marks flds_nil) rfl) sa_nil))) (sg_tup rfl (sg_cons (sg_name nd rfl (by first | exact .inl rfl | exact .inr rfl)) (sg_cons (sg_name nd rfl (by first | exact .inl rfl | exact .inr rfl)) sg_nil))) (sb_one (ss_expr (snd_mt sm_extend PySem.F.slot_list_extend PySem.F.type_list_extend (snd_var 1 rfl (by first | exact .inl rfl | exact .inr (.inl rfl) | exact .inr (.inr rfl))) (sa_cons (snd_lc (own := [("gift", 4), ("mark", 5)]) rfl nd (si_zip (by rfl) T.n_zip (sa_cons (snd_var 2 rfl (by first | exact .inl rfl | exact .inr (.inl rfl) | exact .inr (.inr rfl))) (sa_cons (snd_var 3 rfl (by first | exact .inl rfl | exact .inr (.inl rfl) | exact .inr (.inr rfl))) sa_nil))) (blkOk_by (by kernel_rfl)) (fun _ _ _ _ _ => (sg_tup rfl (sg_cons (sg_name nd rfl (by first | exact .inl rfl | exact .inr rfl)) (sg_cons (sg_name nd rfl (by first | exact .inl rfl | exact .inr rfl)) sg_nil)))) (fun _ _ _ _ _ => (sts_one (st_cmp (so_ne hu64) (snd_var 5 rfl (by first | exact .inl rfl | exact .inr (.inl rfl) | exact .inr (.inr rfl))) snd_str (by rfl)))) (fun _ _ _ _ _ => (snd_var 4 rfl (by first | exact .inl rfl | exact .inr (.inl rfl) | exact .inr (.inr rfl))))) sa_nil)))))
    (sb_one (ss_ret (snd_var 1 rfl (by first | exact .inl rfl | exact .inr (.inl rfl) | exact .inr (.inr rfl)))))))
theorem sc_Desk_free : FnScope ["self"] ["self"] (defScope st_Desk_free) := ⟨rfl, rfl, rfl, by decide +kernel, rfl, by decide +kernel, by decide +kernel⟩
set_option maxHeartbeats 0 in
theorem ok_Desk_free {f : Addr} {fd : FuncData} (F : Fun K "free" "Desk.free" st_Desk_free f fd) (T : Txt K mg ct) (e_Desk_kept : MethAt P w K mg base ct 17 "kept" 1 1 f_Desk_kept) (a_left_of : FnAt P w K mg base ct "left_of" 1 2 f_left_of) :
    FnOk P w K mg base (L2.CX P w) 2 f fd ["self"] (spOf ct 1 f_Desk_free) := by
  refine def_ok (k := 1) (Ns := ["self"]) F sc_Desk_free fun cdv A outer s H E hr => ?_
  have hu65 := units_65 hr
  have hu64 := units_64 hr
  have hu1 := units_1 hr
  have nd := sc_Desk_free.nd
  have tk : Takes (bodyX P w K mg base ["self"] "Desk.free" st_Desk_free f cdv A outer s H E) (fun cls d _ H => E cls d H) := takes_of rfl rfl rfl rfl
  have ps : PassesOwn (model P w) (bodyX P w K mg base ["self"] "Desk.free" st_Desk_free f cdv A outer s H E).A (bodyX P w K mg base ["self"] "Desk.free" st_Desk_free f cdv A outer s H E).env (bodyX P w K mg base ["self"] "Desk.free" st_Desk_free f cdv A outer s H E).xe := passes_of rfl
  unfold d_Desk_free
  exact (sb_one (ss_ret (snd_call a_left_of tk hr (by decide) (by rfl) (sa_cons (snd_fld (snd_var 0 rfl (by first | exact .inl rfl | exact .inr (.inl rfl) | exact .inr (.inr rfl))) (flds_cons T.f_Desk_albums flds_nil) rfl) (sa_cons (snd_meth0 (k := 1) (snd_var 0 rfl (by first | exact .inl rfl | exact .inr (.inl rfl) | exact .inr (.inr rfl))) (meths_cons (e_Desk_kept.up (by decide)) meths_nil) tk hr (Nat.le_refl _)) sa_nil)) rfl)))
theorem sc_Desk_agree : FnScope ["self", "gifts"] ["self", "gifts"] (defScope st_Desk_agree) := ⟨rfl, rfl, rfl, by decide +kernel, rfl, by decide +kernel, by decide +kernel⟩
set_option maxHeartbeats 0 in
theorem ok_Desk_agree {f : Addr} {fd : FuncData} (F : Fun K "agree" "Desk.agree" st_Desk_agree f fd) (T : Txt K mg ct) (e_Desk_free : MethAt P w K mg base ct 17 "free" 2 1 f_Desk_free) (a_check_gifts : FnAt P w K mg base ct "check_gifts" 2 2 f_check_gifts) (a_fits : FnAt P w K mg base ct "fits" 2 2 f_fits) (a_is_ring : FnAt P w K mg base ct "is_ring" 1 1 f_is_ring) :
    FnOk P w K mg base (L2.CX P w) 3 f fd ["self", "gifts"] (spOf ct 2 f_Desk_agree) := by
  refine def_ok (k := 2) (Ns := ["self", "gifts"]) F sc_Desk_agree fun cdv A outer s H E hr => ?_
  have hu65 := units_65 hr
  have hu64 := units_64 hr
  have hu1 := units_1 hr
  have nd := sc_Desk_agree.nd
  have tk : Takes (bodyX P w K mg base ["self", "gifts"] "Desk.agree" st_Desk_agree f cdv A outer s H E) (fun cls d _ H => E cls d H) := takes_of rfl rfl rfl rfl
  have ps : PassesOwn (model P w) (bodyX P w K mg base ["self", "gifts"] "Desk.agree" st_Desk_agree f cdv A outer s H E).A (bodyX P w K mg base ["self", "gifts"] "Desk.agree" st_Desk_agree f cdv A outer s H E).env (bodyX P w K mg base ["self", "gifts"] "Desk.agree" st_Desk_agree f cdv A outer s H E).xe := passes_of rfl
  unfold d_Desk_agree
  exact (sb_cons (ss_expr (snd_call a_check_gifts tk hr (by decide) (by rfl) (sa_cons (snd_fld (snd_var 0 rfl (by first | exact .inl rfl | exact .inr (.inl rfl) | exact .inr (.inr rfl))) (flds_cons T.f_Desk_albums flds_nil) rfl) (sa_cons (snd_var 1 rfl (by first | exact .inl rfl | exact .inr (.inl rfl) | exact .inr (.inr rfl))) sa_nil)) rfl))
    (sb_cons (ss_if (st_not (st_val (snd_call a_is_ring tk hr (by decide) (by rfl) (sa_cons (snd_var 1 rfl (by first | exact .inl rfl | exact .inr (.inl rfl) | exact .inr (.inr rfl))) sa_nil) rfl))) (sb_one (ss_raise T.e_NoRing rfl tk (by rfl))) sb_nil)
    (sb_cons (ss_if (st_not (st_val (snd_call a_fits tk hr (by decide) (by rfl) (sa_cons (snd_meth0 (k := 2) (snd_var 0 rfl (by first | exact .inl rfl | exact .inr (.inl rfl) | exact .inr (.inr rfl))) (meths_cons (e_Desk_free.up (by decide)) meths_nil) tk hr (Nat.le_refl _)) (sa_cons (snd_var 1 rfl (by first | exact .inl rfl | exact .inr (.inl rfl) | exact .inr (.inr rfl))) sa_nil)) rfl))) (sb_one (ss_raise T.e_Unfit rfl tk (by rfl))) sb_nil)
    (sb_cons (ss_if (st_cmp (so_eq hu64) (snd_callB sc_len (by rfl) T.n_len bo_len (sa_cons (snd_fld (snd_var 0 rfl (by first | exact .inl rfl | exact .inr (.inl rfl) | exact .inr (.inr rfl))) (flds_cons T.f_Desk_swaps flds_nil) rfl) sa_nil)) (snd_gint (by rfl) T.i_MOST_SWAPS) (by rfl)) (sb_one (ss_raise T.e_TooMany rfl tk (by rfl))) sb_nil)
    (sb_cons (ss_expr (snd_mt sm_append PySem.F.slot_list_append PySem.F.type_list_append (snd_fld (snd_var 0 rfl (by first | exact .inl rfl | exact .inr (.inl rfl) | exact .inr (.inr rfl))) (flds_cons T.f_Desk_swaps flds_nil) rfl) (sa_cons (snd_callTy sc_list (by rfl) T.n_list bo_list (sa_cons (snd_var 1 rfl (by first | exact .inl rfl | exact .inr (.inl rfl) | exact .inr (.inr rfl))) sa_nil)) sa_nil)))
    (sb_cons (ss_expr (snd_mt sm_append PySem.F.slot_list_append PySem.F.type_list_append (snd_fld (snd_var 0 rfl (by first | exact .inl rfl | exact .inr (.inl rfl) | exact .inr (.inr rfl))) (flds_cons T.f_Desk_marks flds_nil) rfl) (sa_cons (snd_bin so_mulM (snd_lst (sa_cons snd_str sa_nil)) (snd_callB sc_len (by rfl) T.n_len bo_len (sa_cons (snd_var 1 rfl (by first | exact .inl rfl | exact .inr (.inl rfl) | exact .inr (.inr rfl))) sa_nil))) sa_nil)))
    (sb_one (ss_ret (snd_bin so_sub (snd_callB sc_len (by rfl) T.n_len bo_len (sa_cons (snd_fld (snd_var 0 rfl (by first | exact .inl rfl | exact .inr (.inl rfl) | exact .inr (.inr rfl))) (flds_cons T.f_Desk_swaps flds_nil) rfl) sa_nil)) snd_int)))))))))
theorem sc_Desk_look_at : FnScope ["self", "swap"] ["self", "swap"] (defScope st_Desk_look_at) := ⟨rfl, rfl, rfl, by decide +kernel, rfl, by decide +kernel, by decide +kernel⟩
set_option maxHeartbeats 0 in
theorem ok_Desk_look_at {f : Addr} {fd : FuncData} (F : Fun K "look_at" "Desk.look_at" st_Desk_look_at f fd) (T : Txt K mg ct) (a_is_count : FnAt P w K mg base ct "is_count" 1 3 f_is_count) :
    FnOk P w K mg base (L2.CX P w) 2 f fd ["self", "swap"] (spOf ct 2 f_Desk_look_at) := by
  refine def_ok (k := 1) (Ns := ["self", "swap"]) F sc_Desk_look_at fun cdv A outer s H E hr => ?_
  have hu65 := units_65 hr
  have hu64 := units_64 hr
  have hu1 := units_1 hr
  have nd := sc_Desk_look_at.nd
  have tk : Takes (bodyX P w K mg base ["self", "swap"] "Desk.look_at" st_Desk_look_at f cdv A outer s H E) (fun cls d _ H => E cls d H) := takes_of rfl rfl rfl rfl
  have ps : PassesOwn (model P w) (bodyX P w K mg base ["self", "swap"] "Desk.look_at" st_Desk_look_at f cdv A outer s H E).A (bodyX P w K mg base ["self", "swap"] "Desk.look_at" st_Desk_look_at f cdv A outer s H E).env (bodyX P w K mg base ["self", "swap"] "Desk.look_at" st_Desk_look_at f cdv A outer s H E).xe := passes_of rfl
  unfold d_Desk_look_at
  exact (sb_cons (ss_if (st_not (st_val (snd_call a_is_count tk hr (by decide) (by rfl) (sa_cons (snd_var 1 rfl (by first | exact .inl rfl | exact .inr (.inl rfl) | exact .inr (.inr rfl))) (sa_cons snd_int (sa_cons (snd_bin so_sub (snd_callB sc_len (by rfl) T.n_len bo_len (sa_cons (snd_fld (snd_var 0 rfl (by first | exact .inl rfl | exact .inr (.inl rfl) | exact .inr (.inr rfl))) (flds_cons T.f_Desk_swaps flds_nil) rfl) sa_nil)) snd_int) sa_nil))) rfl))) (sb_one (ss_raise T.e_BadSwap rfl tk (by rfl))) sb_nil)
    (sb_one (ss_ret (snd_ix hu1 (snd_fld (snd_var 0 rfl (by first | exact .inl rfl | exact .inr (.inl rfl) | exact .inr (.inr rfl))) (flds_cons T.f_Desk_marks flds_nil) rfl) (snd_var 1 rfl (by first | exact .inl rfl | exact .inr (.inl rfl) | exact .inr (.inr rfl))) (fun _ _ => rfl)))))
theorem sc_Desk_put : FnScope ["self", "swap", "place", "ahead", "mark", "marks"] ["self", "swap", "place", "ahead", "mark"] (defScope st_Desk_put) := ⟨rfl, rfl, rfl, by decide +kernel, rfl, by decide +kernel, by decide +kernel⟩
set_option maxHeartbeats 0 in
theorem ok_Desk_put {f : Addr} {fd : FuncData} (F : Fun K "put" "Desk.put" st_Desk_put f fd) (T : Txt K mg ct) (e_Desk_look_at : MethAt P w K mg base ct 17 "look_at" 2 2 f_Desk_look_at) (a_is_count : FnAt P w K mg base ct "is_count" 1 3 f_is_count) :
    FnOk P w K mg base (L2.CX P w) 3 f fd ["self", "swap", "place", "ahead", "mark"] (spOf ct 5 f_Desk_put) := by
  refine def_ok (k := 2) (Ns := ["self", "swap", "place", "ahead", "mark", "marks"]) F sc_Desk_put fun cdv A outer s H E hr => ?_
  have hu65 := units_65 hr
  have hu64 := units_64 hr
  have hu1 := units_1 hr
  have nd := sc_Desk_put.nd
  have tk : Takes (bodyX P w K mg base ["self", "swap", "place", "ahead", "mark", "marks"] "Desk.put" st_Desk_put f cdv A outer s H E) (fun cls d _ H => E cls d H) := takes_of rfl rfl rfl rfl
  have ps : PassesOwn (model P w) (bodyX P w K mg base ["self", "swap", "place", "ahead", "mark", "marks"] "Desk.put" st_Desk_put f cdv A outer s H E).A (bodyX P w K mg base ["self", "swap", "place", "ahead", "mark", "marks"] "Desk.put" st_Desk_put f cdv A outer s H E).env (bodyX P w K mg base ["self", "swap", "place", "ahead", "mark", "marks"] "Desk.put" st_Desk_put f cdv A outer s H E).xe := passes_of rfl
  unfold d_Desk_put
  exact (sb_cons (ss_set (snd_meth (k := 2) (snd_var 0 rfl (by first | exact .inl rfl | exact .inr (.inl rfl) | exact .inr (.inr rfl))) (meths_cons (e_Desk_look_at.up (by decide)) meths_nil) tk hr (Nat.le_refl _) (sa_cons (snd_var 1 rfl (by first | exact .inl rfl | exact .inr (.inl rfl) | exact .inr (.inr rfl))) sa_nil) rfl) nd rfl (by first | exact .inl rfl | exact .inr rfl))
    (sb_cons (ss_if (st_not (st_val (snd_call a_is_count tk hr (by decide) (by rfl) (sa_cons (snd_var 2 rfl (by first | exact .inl rfl | exact .inr (.inl rfl) | exact .inr (.inr rfl))) (sa_cons snd_int (sa_cons (snd_bin so_sub (snd_callB sc_len (by rfl) T.n_len bo_len (sa_cons (snd_var 5 rfl (by first | exact .inl rfl | exact .inr (.inl rfl) | exact .inr (.inr rfl))) sa_nil)) snd_int) sa_nil))) rfl))) (sb_one (ss_raise T.e_BadPlace rfl tk (by rfl))) sb_nil)
    (sb_cons (ss_if (st_cmp (so_ne hu64) (snd_ix hu1 (snd_var 5 rfl (by first | exact .inl rfl | exact .inr (.inl rfl) | exact .inr (.inr rfl))) (snd_var 2 rfl (by first | exact .inl rfl | exact .inr (.inl rfl) | exact .inr (.inr rfl))) (fun _ _ => rfl)) (snd_var 3 rfl (by first | exact .inl rfl | exact .inr (.inl rfl) | exact .inr (.inr rfl))) (by rfl)) (sb_one (ss_raiseE T.e_NotSo rfl tk (by rfl) (snd_bin so_add (snd_bin so_add snd_str (snd_var 3 rfl (by first | exact .inl rfl | exact .inr (.inl rfl) | exact .inr (.inr rfl)))) snd_str))) sb_nil)
    (sb_cons (ss_sub hu1 (snd_var 5 rfl (by first | exact .inl rfl | exact .inr (.inl rfl) | exact .inr (.inr rfl))) (snd_var 2 rfl (by first | exact .inl rfl | exact .inr (.inl rfl) | exact .inr (.inr rfl))) (snd_var 4 rfl (by first | exact .inl rfl | exact .inr (.inl rfl) | exact .inr (.inr rfl))))
    (sb_one (ss_ret (snd_mt (sm_count hu65) PySem.F.slot_list_count PySem.F.type_list_count (snd_var 5 rfl (by first | exact .inl rfl | exact .inr (.inl rfl) | exact .inr (.inr rfl))) (sa_cons snd_str sa_nil))))))))
theorem sc_Desk_send : FnScope ["self", "swap", "place"] ["self", "swap", "place"] (defScope st_Desk_send) := ⟨rfl, rfl, rfl, by decide +kernel, rfl, by decide +kernel, by decide +kernel⟩
set_option maxHeartbeats 0 in
theorem ok_Desk_send {f : Addr} {fd : FuncData} (F : Fun K "send" "Desk.send" st_Desk_send f fd) (T : Txt K mg ct) (e_Desk_put : MethAt P w K mg base ct 17 "put" 3 5 f_Desk_put) :
    FnOk P w K mg base (L2.CX P w) 4 f fd ["self", "swap", "place"] (spOf ct 3 f_Desk_send) := by
  refine def_ok (k := 3) (Ns := ["self", "swap", "place"]) F sc_Desk_send fun cdv A outer s H E hr => ?_
  have hu65 := units_65 hr
  have hu64 := units_64 hr
  have hu1 := units_1 hr
  have nd := sc_Desk_send.nd
  have tk : Takes (bodyX P w K mg base ["self", "swap", "place"] "Desk.send" st_Desk_send f cdv A outer s H E) (fun cls d _ H => E cls d H) := takes_of rfl rfl rfl rfl
  have ps : PassesOwn (model P w) (bodyX P w K mg base ["self", "swap", "place"] "Desk.send" st_Desk_send f cdv A outer s H E).A (bodyX P w K mg base ["self", "swap", "place"] "Desk.send" st_Desk_send f cdv A outer s H E).env (bodyX P w K mg base ["self", "swap", "place"] "Desk.send" st_Desk_send f cdv A outer s H E).xe := passes_of rfl
  unfold d_Desk_send
  exact (sb_one (ss_ret (snd_meth (k := 3) (snd_var 0 rfl (by first | exact .inl rfl | exact .inr (.inl rfl) | exact .inr (.inr rfl))) (meths_cons (e_Desk_put.up (by decide)) meths_nil) tk hr (Nat.le_refl _) (sa_cons (snd_var 1 rfl (by first | exact .inl rfl | exact .inr (.inl rfl) | exact .inr (.inr rfl))) (sa_cons (snd_var 2 rfl (by first | exact .inl rfl | exact .inr (.inl rfl) | exact .inr (.inr rfl))) (sa_cons snd_str (sa_cons snd_str sa_nil)))) rfl)))
theorem sc_Desk_come : FnScope ["self", "swap", "place"] ["self", "swap", "place"] (defScope st_Desk_come) := ⟨rfl, rfl, rfl, by decide +kernel, rfl, by decide +kernel, by decide +kernel⟩
set_option maxHeartbeats 0 in
theorem ok_Desk_come {f : Addr} {fd : FuncData} (F : Fun K "come" "Desk.come" st_Desk_come f fd) (T : Txt K mg ct) (a_z_wall : FnAt P w K mg base ct "_wall" 1 1 f_z_wall) :
    FnOk P w K mg base (L2.CX P w) 2 f fd ["self", "swap", "place"] (spOf ct 3 f_Desk_come) := by
  refine def_ok (k := 1) (Ns := ["self", "swap", "place"]) F sc_Desk_come fun cdv A outer s H E hr => ?_
  have hu65 := units_65 hr
  have hu64 := units_64 hr
  have hu1 := units_1 hr
  have nd := sc_Desk_come.nd
  have tk : Takes (bodyX P w K mg base ["self", "swap", "place"] "Desk.come" st_Desk_come f cdv A outer s H E) (fun cls d _ H => E cls d H) := takes_of rfl rfl rfl rfl
  have ps : PassesOwn (model P w) (bodyX P w K mg base ["self", "swap", "place"] "Desk.come" st_Desk_come f cdv A outer s H E).A (bodyX P w K mg base ["self", "swap", "place"] "Desk.come" st_Desk_come f cdv A outer s H E).env (bodyX P w K mg base ["self", "swap", "place"] "Desk.come" st_Desk_come f cdv A outer s H E).xe := passes_of rfl
  unfold d_Desk_come
  exact (sb_one (ss_expr (snd_call a_z_wall tk hr (by decide) (by rfl) (sa_cons snd_int sa_nil) rfl)))
theorem sc_Desk_lose : FnScope ["self", "swap", "place"] ["self", "swap", "place"] (defScope st_Desk_lose) := ⟨rfl, rfl, rfl, by decide +kernel, rfl, by decide +kernel, by decide +kernel⟩
set_option maxHeartbeats 0 in
theorem ok_Desk_lose {f : Addr} {fd : FuncData} (F : Fun K "lose" "Desk.lose" st_Desk_lose f fd) (T : Txt K mg ct) (a_z_wall : FnAt P w K mg base ct "_wall" 1 1 f_z_wall) :
    FnOk P w K mg base (L2.CX P w) 2 f fd ["self", "swap", "place"] (spOf ct 3 f_Desk_lose) := by
  refine def_ok (k := 1) (Ns := ["self", "swap", "place"]) F sc_Desk_lose fun cdv A outer s H E hr => ?_
  have hu65 := units_65 hr
  have hu64 := units_64 hr
  have hu1 := units_1 hr
  have nd := sc_Desk_lose.nd
  have tk : Takes (bodyX P w K mg base ["self", "swap", "place"] "Desk.lose" st_Desk_lose f cdv A outer s H E) (fun cls d _ H => E cls d H) := takes_of rfl rfl rfl rfl
  have ps : PassesOwn (model P w) (bodyX P w K mg base ["self", "swap", "place"] "Desk.lose" st_Desk_lose f cdv A outer s H E).A (bodyX P w K mg base ["self", "swap", "place"] "Desk.lose" st_Desk_lose f cdv A outer s H E).env (bodyX P w K mg base ["self", "swap", "place"] "Desk.lose" st_Desk_lose f cdv A outer s H E).xe := passes_of rfl
  unfold d_Desk_lose
  exact (sb_one (ss_expr (snd_call a_z_wall tk hr (by decide) (by rfl) (sa_cons snd_int sa_nil) rfl)))
theorem sc_Desk_drop : FnScope ["self", "swap"] ["self", "swap"] (defScope st_Desk_drop) := ⟨rfl, rfl, rfl, by decide +kernel, rfl, by decide +kernel, by decide +kernel⟩
set_option maxHeartbeats 0 in
theorem ok_Desk_drop {f : Addr} {fd : FuncData} (F : Fun K "drop" "Desk.drop" st_Desk_drop f fd) (T : Txt K mg ct) (a_z_wall : FnAt P w K mg base ct "_wall" 1 1 f_z_wall) :
    FnOk P w K mg base (L2.CX P w) 2 f fd ["self", "swap"] (spOf ct 2 f_Desk_drop) := by
  refine def_ok (k := 1) (Ns := ["self", "swap"]) F sc_Desk_drop fun cdv A outer s H E hr => ?_
  have hu65 := units_65 hr
  have hu64 := units_64 hr
  have hu1 := units_1 hr
  have nd := sc_Desk_drop.nd
  have tk : Takes (bodyX P w K mg base ["self", "swap"] "Desk.drop" st_Desk_drop f cdv A outer s H E) (fun cls d _ H => E cls d H) := takes_of rfl rfl rfl rfl
  have ps : PassesOwn (model P w) (bodyX P w K mg base ["self", "swap"] "Desk.drop" st_Desk_drop f cdv A outer s H E).A (bodyX P w K mg base ["self", "swap"] "Desk.drop" st_Desk_drop f cdv A outer s H E).env (bodyX P w K mg base ["self", "swap"] "Desk.drop" st_Desk_drop f cdv A outer s H E).xe := passes_of rfl
  unfold d_Desk_drop
  exact (sb_one (ss_expr (snd_call a_z_wall tk hr (by decide) (by rfl) (sa_cons snd_int sa_nil) rfl)))
theorem sc_Desk_stands : FnScope ["self", "swap"] ["self", "swap"] (defScope st_Desk_stands) := ⟨rfl, rfl, rfl, by decide +kernel, rfl, by decide +kernel, by decide +kernel⟩
set_option maxHeartbeats 0 in
theorem ok_Desk_stands {f : Addr} {fd : FuncData} (F : Fun K "stands" "Desk.stands" st_Desk_stands f fd) (T : Txt K mg ct) (e_Desk_look_at : MethAt P w K mg base ct 17 "look_at" 2 2 f_Desk_look_at) :
    FnOk P w K mg base (L2.CX P w) 3 f fd ["self", "swap"] (spOf ct 2 f_Desk_stands) := by
  refine def_ok (k := 2) (Ns := ["self", "swap"]) F sc_Desk_stands fun cdv A outer s H E hr => ?_
  have hu65 := units_65 hr
  have hu64 := units_64 hr
  have hu1 := units_1 hr
  have nd := sc_Desk_stands.nd
  have tk : Takes (bodyX P w K mg base ["self", "swap"] "Desk.stands" st_Desk_stands f cdv A outer s H E) (fun cls d _ H => E cls d H) := takes_of rfl rfl rfl rfl
  have ps : PassesOwn (model P w) (bodyX P w K mg base ["self", "swap"] "Desk.stands" st_Desk_stands f cdv A outer s H E).A (bodyX P w K mg base ["self", "swap"] "Desk.stands" st_Desk_stands f cdv A outer s H E).env (bodyX P w K mg base ["self", "swap"] "Desk.stands" st_Desk_stands f cdv A outer s H E).xe := passes_of rfl
  unfold d_Desk_stands
  exact (sb_one (ss_ret (snd_callTy sc_list (by rfl) T.n_list bo_list (sa_cons (snd_meth (k := 2) (snd_var 0 rfl (by first | exact .inl rfl | exact .inr (.inl rfl) | exact .inr (.inr rfl))) (meths_cons (e_Desk_look_at.up (by decide)) meths_nil) tk hr (Nat.le_refl _) (sa_cons (snd_var 1 rfl (by first | exact .inl rfl | exact .inr (.inl rfl) | exact .inr (.inr rfl))) sa_nil) rfl) sa_nil))))
theorem sc_Desk_owed : FnScope ["self"] ["self"] (defScope st_Desk_owed) := ⟨rfl, rfl, rfl, by decide +kernel, rfl, by decide +kernel, by decide +kernel⟩
set_option maxHeartbeats 0 in
theorem ok_Desk_owed {f : Addr} {fd : FuncData} (F : Fun K "owed" "Desk.owed" st_Desk_owed f fd) (T : Txt K mg ct) (a_z_wall : FnAt P w K mg base ct "_wall" 1 1 f_z_wall) :
    FnOk P w K mg base (L2.CX P w) 2 f fd ["self"] (spOf ct 1 f_Desk_owed) := by
  refine def_ok (k := 1) (Ns := ["self"]) F sc_Desk_owed fun cdv A outer s H E hr => ?_
  have hu65 := units_65 hr
  have hu64 := units_64 hr
  have hu1 := units_1 hr
  have nd := sc_Desk_owed.nd
  have tk : Takes (bodyX P w K mg base ["self"] "Desk.owed" st_Desk_owed f cdv A outer s H E) (fun cls d _ H => E cls d H) := takes_of rfl rfl rfl rfl
  have ps : PassesOwn (model P w) (bodyX P w K mg base ["self"] "Desk.owed" st_Desk_owed f cdv A outer s H E).A (bodyX P w K mg base ["self"] "Desk.owed" st_Desk_owed f cdv A outer s H E).env (bodyX P w K mg base ["self"] "Desk.owed" st_Desk_owed f cdv A outer s H E).xe := passes_of rfl
  unfold d_Desk_owed
  exact (sb_one (ss_expr (snd_call a_z_wall tk hr (by decide) (by rfl) (sa_cons snd_int sa_nil) rfl)))
theorem sc_z_cell_at : FnScope ["_law_script", "_law_k"] ["_law_script", "_law_k"] (defScope st_z_cell_at) := ⟨rfl, rfl, rfl, by decide +kernel, rfl, by decide +kernel, by decide +kernel⟩
set_option maxHeartbeats 0 in
theorem ok_z_cell_at {f : Addr} {fd : FuncData} (F : Fun K "_law_cell_at" "_law_cell_at" st_z_cell_at f fd) (T : Txt K mg ct) :
    FnOk P w K mg base (L2.CX P w) 1 f fd ["_law_script", "_law_k"] (spOf ct 2 f_z_cell_at) := by
  refine def_ok (k := 0) (Ns := ["_law_script", "_law_k"]) F sc_z_cell_at fun cdv A outer s H E hr => ?_
  have hu65 := units_65 hr
  have hu64 := units_64 hr
  have hu1 := units_1 hr
  have nd := sc_z_cell_at.nd
  have tk : Takes (bodyX P w K mg base ["_law_script", "_law_k"] "_law_cell_at" st_z_cell_at f cdv A outer s H E) (fun cls d _ H => E cls d H) := takes_of rfl rfl rfl rfl
  have ps : PassesOwn (model P w) (bodyX P w K mg base ["_law_script", "_law_k"] "_law_cell_at" st_z_cell_at f cdv A outer s H E).A (bodyX P w K mg base ["_law_script", "_law_k"] "_law_cell_at" st_z_cell_at f cdv A outer s H E).env (bodyX P w K mg base ["_law_script", "_law_k"] "_law_cell_at" st_z_cell_at f cdv A outer s H E).xe := passes_of rfl
  unfold d_z_cell_at
  exact (sb_cons (ss_if (st_cmp so_lt (snd_var 1 rfl (by first | exact .inl rfl | exact .inr (.inl rfl) | exact .inr (.inr rfl))) (snd_callB sc_len (by rfl) T.n_len bo_len (sa_cons (snd_var 0 rfl (by first | exact .inl rfl | exact .inr (.inl rfl) | exact .inr (.inr rfl))) sa_nil)) (by rfl)) (sb_one (ss_ret (snd_ix hu1 (snd_var 0 rfl (by first | exact .inl rfl | exact .inr (.inl rfl) | exact .inr (.inr rfl))) (snd_var 1 rfl (by first | exact .inl rfl | exact .inr (.inl rfl) | exact .inr (.inr rfl))) (fun _ _ => rfl)))) sb_nil)
    (sb_one (ss_ret snd_int)))
theorem sc_z_copy : FnScope ["_law_thing", "_law_one"] ["_law_thing"] (defScope st_z_copy) := ⟨rfl, rfl, rfl, by decide +kernel, rfl, by decide +kernel, by decide +kernel⟩
set_option maxHeartbeats 0 in
theorem ok_z_copy {f : Addr} {fd : FuncData} (F : Fun K "_law_copy" "_law_copy" st_z_copy f fd) (T : Txt K mg ct) (hm : mg "_law_copy" = some (.ref f)) (hbi : Binds K fd ["_law_thing"] []) :
    ∀ n : Nat, FnOk P w K mg base (L2.CX P w) (n + 1) f fd ["_law_thing"] (spOf ct 1 (f_z_copy n))
  | 0 => def_ok (k := 0) (Ns := ["_law_thing", "_law_one"]) F sc_z_copy fun cdv A outer s H E hr => sb_stuck
  | n + 1 => by
    have h_rec : FnAt P w K mg base ct "_law_copy" (n + 1) 1 (f_z_copy n) := ⟨f, fd, _, ok_z_copy F T hm hbi n, hm, F.kp, hbi⟩
    rw [show n + 1 + 1 = (n + 1) + 1 by omega]
    refine def_ok (k := n + 1) (Ns := ["_law_thing", "_law_one"]) (B := d_z_copy (f_z_copy n)) F sc_z_copy fun cdv A outer s H E hr => ?_
    have hu65 := units_65 hr
    have hu64 := units_64 hr
    have hu1 := units_1 hr
    have nd := sc_z_copy.nd
    have tk : Takes (bodyX P w K mg base ["_law_thing", "_law_one"] "_law_copy" st_z_copy f cdv A outer s H E) (fun cls d _ H => E cls d H) := takes_of rfl rfl rfl rfl
    have ps : PassesOwn (model P w) (bodyX P w K mg base ["_law_thing", "_law_one"] "_law_copy" st_z_copy f cdv A outer s H E).A (bodyX P w K mg base ["_law_thing", "_law_one"] "_law_copy" st_z_copy f cdv A outer s H E).env (bodyX P w K mg base ["_law_thing", "_law_one"] "_law_copy" st_z_copy f cdv A outer s H E).xe := passes_of rfl
    unfold d_z_copy
    exact (sb_cons (ss_if (st_val (snd_isT (snd_var 0 rfl (by first | exact .inl rfl | exact .inr (.inl rfl) | exact .inr (.inr rfl))) tf_list (by rfl) T.n_isinstance (by rfl) T.n_list bo_list)) (sb_one (ss_ret (snd_lcM (own := [("_law_one", 1)]) rfl nd (si_seq (snd_var 0 rfl (by first | exact .inl rfl | exact .inr (.inl rfl) | exact .inr (.inr rfl)))) (blkOk_by (by kernel_rfl)) (fun _ _ _ _ _ => (sg_name nd rfl (by first | exact .inl rfl | exact .inr rfl))) (fun _ _ _ _ _ => sts_nil) (fun _ _ _ _ _ => (snd_call h_rec takes_0 hr (Nat.le_refl _) (by rfl) (sa_cons (snd_var 1 rfl (by first | exact .inl rfl | exact .inr (.inl rfl) | exact .inr (.inr rfl))) sa_nil) rfl))))) sb_nil)
    (sb_cons (ss_if (st_val (snd_isT (snd_var 0 rfl (by first | exact .inl rfl | exact .inr (.inl rfl) | exact .inr (.inr rfl))) tf_tuple (by rfl) T.n_isinstance (by rfl) T.n_tuple bo_tuple)) (sb_one (ss_ret (snd_callTy sc_tuple (by rfl) T.n_tuple bo_tuple (sa_cons (snd_lcM (own := [("_law_one", 1)]) rfl nd (si_seq (snd_var 0 rfl (by first | exact .inl rfl | exact .inr (.inl rfl) | exact .inr (.inr rfl)))) (blkOk_by (by kernel_rfl)) (fun _ _ _ _ _ => (sg_name nd rfl (by first | exact .inl rfl | exact .inr rfl))) (fun _ _ _ _ _ => sts_nil) (fun _ _ _ _ _ => (snd_call h_rec takes_0 hr (Nat.le_refl _) (by rfl) (sa_cons (snd_var 1 rfl (by first | exact .inl rfl | exact .inr (.inl rfl) | exact .inr (.inr rfl))) sa_nil) rfl))) sa_nil)))) sb_nil)
    (sb_one (ss_ret (snd_var 0 rfl (by first | exact .inl rfl | exact .inr (.inl rfl) | exact .inr (.inr rfl)))))))
theorem sc_z_into : FnScope ["_law_handed", "_law_new", "_law_at", "_law_one"] ["_law_handed", "_law_new"] (defScope st_z_into) := ⟨rfl, rfl, rfl, by decide +kernel, rfl, by decide +kernel, by decide +kernel⟩
set_option maxHeartbeats 0 in
theorem ok_z_into {f : Addr} {fd : FuncData} (F : Fun K "_law_into" "_law_into" st_z_into f fd) (T : Txt K mg ct) (hm : mg "_law_into" = some (.ref f)) (hbi : Binds K fd ["_law_handed", "_law_new"] []) (a_z_copy : FnAt P w K mg base ct "_law_copy" 9 1 (f_z_copy 8)) :
    ∀ n : Nat, FnOk P w K mg base (L2.CX P w) (n + 10) f fd ["_law_handed", "_law_new"] (spOf ct 2 (f_z_into n))
  | 0 => def_ok (k := 9) (Ns := ["_law_handed", "_law_new", "_law_at", "_law_one"]) F sc_z_into fun cdv A outer s H E hr => sb_stuck
  | n + 1 => by
    have h_rec : FnAt P w K mg base ct "_law_into" (n + 10) 2 (f_z_into n) := ⟨f, fd, _, ok_z_into F T hm hbi a_z_copy n, hm, F.kp, hbi⟩
    rw [show n + 1 + 10 = (n + 10) + 1 by omega]
    refine def_ok (k := n + 10) (Ns := ["_law_handed", "_law_new", "_law_at", "_law_one"]) (B := d_z_into (f_z_into n)) F sc_z_into fun cdv A outer s H E hr => ?_
    have hu65 := units_65 hr
    have hu64 := units_64 hr
    have hu1 := units_1 hr
    have nd := sc_z_into.nd
    have tk : Takes (bodyX P w K mg base ["_law_handed", "_law_new", "_law_at", "_law_one"] "_law_into" st_z_into f cdv A outer s H E) (fun cls d _ H => E cls d H) := takes_of rfl rfl rfl rfl
    have ps : PassesOwn (model P w) (bodyX P w K mg base ["_law_handed", "_law_new", "_law_at", "_law_one"] "_law_into" st_z_into f cdv A outer s H E).A (bodyX P w K mg base ["_law_handed", "_law_new", "_law_at", "_law_one"] "_law_into" st_z_into f cdv A outer s H E).env (bodyX P w K mg base ["_law_handed", "_law_new", "_law_at", "_law_one"] "_law_into" st_z_into f cdv A outer s H E).xe := passes_of rfl
    unfold d_z_into
    exact (sb_one (ss_for ps rfl (si_enum (by rfl) T.n_enumerate (sa_cons (snd_var 1 rfl (by first | exact .inl rfl | exact .inr (.inl rfl) | exact .inr (.inr rfl))) sa_nil)) (sg_tup rfl (sg_cons (sg_name nd rfl (by first | exact .inl rfl | exact .inr rfl)) (sg_cons (sg_name nd rfl (by first | exact .inl rfl | exact .inr rfl)) sg_nil))) (sb_one (ss_if (SndW.t (sw_and (st_val (snd_isT (snd_var 3 rfl (by first | exact .inl rfl | exact .inr (.inl rfl) | exact .inr (.inr rfl))) tf_list (by rfl) T.n_isinstance (by rfl) T.n_list bo_list)) (sw_and1 (st_cmp (so_eq hu64) (snd_callB sc_len (by rfl) T.n_len bo_len (sa_cons (snd_ix hu1 (snd_var 0 rfl (by first | exact .inl rfl | exact .inr (.inl rfl) | exact .inr (.inr rfl))) (snd_var 2 rfl (by first | exact .inl rfl | exact .inr (.inl rfl) | exact .inr (.inr rfl))) (fun _ _ => rfl)) sa_nil)) (snd_callB sc_len (by rfl) T.n_len bo_len (sa_cons (snd_var 3 rfl (by first | exact .inl rfl | exact .inr (.inl rfl) | exact .inr (.inr rfl))) sa_nil)) (by rfl))))) (sb_one (ss_expr (snd_call h_rec tk hr (Nat.le_refl _) (by rfl) (sa_cons (snd_ix hu1 (snd_var 0 rfl (by first | exact .inl rfl | exact .inr (.inl rfl) | exact .inr (.inr rfl))) (snd_var 2 rfl (by first | exact .inl rfl | exact .inr (.inl rfl) | exact .inr (.inr rfl))) (fun _ _ => rfl)) (sa_cons (snd_var 3 rfl (by first | exact .inl rfl | exact .inr (.inl rfl) | exact .inr (.inr rfl))) sa_nil)) rfl))) (sb_one (ss_sub hu1 (snd_var 0 rfl (by first | exact .inl rfl | exact .inr (.inl rfl) | exact .inr (.inr rfl))) (snd_var 2 rfl (by first | exact .inl rfl | exact .inr (.inl rfl) | exact .inr (.inr rfl))) (snd_call a_z_copy tk hr (by omega) (by rfl) (sa_cons (snd_var 3 rfl (by first | exact .inl rfl | exact .inr (.inl rfl) | exact .inr (.inr rfl))) sa_nil) rfl)))))))
theorem sc_z_spoil : FnScope ["_law_found", "_law_one"] ["_law_found"] (defScope st_z_spoil) := ⟨rfl, rfl, rfl, by decide +kernel, rfl, by decide +kernel, by decide +kernel⟩
set_option maxHeartbeats 0 in
theorem ok_z_spoil {f : Addr} {fd : FuncData} (F : Fun K "_law_spoil" "_law_spoil" st_z_spoil f fd) (T : Txt K mg ct) (hm : mg "_law_spoil" = some (.ref f)) (hbi : Binds K fd ["_law_found"] []) :
    ∀ n : Nat, FnOk P w K mg base (L2.CX P w) (n + 1) f fd ["_law_found"] (spOf ct 1 (f_z_spoil n))
  | 0 => def_ok (k := 0) (Ns := ["_law_found", "_law_one"]) F sc_z_spoil fun cdv A outer s H E hr => sb_stuck
  | n + 1 => by
    have h_rec : FnAt P w K mg base ct "_law_spoil" (n + 1) 1 (f_z_spoil n) := ⟨f, fd, _, ok_z_spoil F T hm hbi n, hm, F.kp, hbi⟩
    rw [show n + 1 + 1 = (n + 1) + 1 by omega]
    refine def_ok (k := n + 1) (Ns := ["_law_found", "_law_one"]) (B := d_z_spoil (f_z_spoil n)) F sc_z_spoil fun cdv A outer s H E hr => ?_
    have hu65 := units_65 hr
    have hu64 := units_64 hr
    have hu1 := units_1 hr
    have nd := sc_z_spoil.nd
    have tk : Takes (bodyX P w K mg base ["_law_found", "_law_one"] "_law_spoil" st_z_spoil f cdv A outer s H E) (fun cls d _ H => E cls d H) := takes_of rfl rfl rfl rfl
    have ps : PassesOwn (model P w) (bodyX P w K mg base ["_law_found", "_law_one"] "_law_spoil" st_z_spoil f cdv A outer s H E).A (bodyX P w K mg base ["_law_found", "_law_one"] "_law_spoil" st_z_spoil f cdv A outer s H E).env (bodyX P w K mg base ["_law_found", "_law_one"] "_law_spoil" st_z_spoil f cdv A outer s H E).xe := passes_of rfl
    unfold d_z_spoil
    exact (sb_cons (ss_if (SndW.t (sw_or (st_val (snd_isT (snd_var 0 rfl (by first | exact .inl rfl | exact .inr (.inl rfl) | exact .inr (.inr rfl))) tf_list (by rfl) T.n_isinstance (by rfl) T.n_list bo_list)) (sw_or1 (st_val (snd_isT (snd_var 0 rfl (by first | exact .inl rfl | exact .inr (.inl rfl) | exact .inr (.inr rfl))) tf_tuple (by rfl) T.n_isinstance (by rfl) T.n_tuple bo_tuple))))) (sb_one (ss_for ps rfl (si_seq (snd_callTy sc_list (by rfl) T.n_list bo_list (sa_cons (snd_var 0 rfl (by first | exact .inl rfl | exact .inr (.inl rfl) | exact .inr (.inr rfl))) sa_nil))) (sg_name nd rfl (by first | exact .inl rfl | exact .inr rfl)) (sb_one (ss_expr (snd_call h_rec tk hr (Nat.le_refl _) (by rfl) (sa_cons (snd_var 1 rfl (by first | exact .inl rfl | exact .inr (.inl rfl) | exact .inr (.inr rfl))) sa_nil) rfl))))) sb_nil)
    (sb_one (ss_if (st_val (snd_isT (snd_var 0 rfl (by first | exact .inl rfl | exact .inr (.inl rfl) | exact .inr (.inr rfl))) tf_list (by rfl) T.n_isinstance (by rfl) T.n_list bo_list)) (sb_one (ss_expr (snd_mt sm_append PySem.F.slot_list_append PySem.F.type_list_append (snd_var 0 rfl (by first | exact .inl rfl | exact .inr (.inl rfl) | exact .inr (.inr rfl))) (sa_cons snd_non sa_nil)))) sb_nil)))
theorem sc_lam_0 : NdefX.NScope ["_law_some"] ["_law_some"] [] (lamI 0).scope := NdefX.nscope_by (by rfl)
set_option maxHeartbeats 0 in
theorem ok_lam_0 (T : Txt K mg ct) (a_ring : FnAt P w K mg base ct "ring" 5 3 f_ring) : LamAt P w K mg base ct 0 6 1 f_lam_0 := by
  refine lam_atL (k := 5) (N := ["_law_some"]) (ps := ["_law_some"]) (L := lamI 0) rfl sc_lam_0 (fun pm cw c us hl => match us, hl with | [_], _ => rfl) fun A outer s H E f c hr => ?_
  have hu65 := units_65 hr
  have hu64 := units_64 hr
  have hu1 := units_1 hr
  have nd := sc_lam_0.nd
  have tk : Takes (NdefX.ncx (L2.CX P w) P w K mg base ["_law_some"] ⟨"<lambda>", (lamI 0).qual, (lamI 0).params, [], (lamI 0).scope, [], c⟩ f A outer s H E) (fun cls d _ H => E cls d H) := takes_of rfl rfl rfl rfl
  unfold d_lam_0
  exact (snd_isC (cc := 13) (snd_call a_ring tk hr (by decide) (by rfl) (sa_cons (snd_ix hu1 (snd_var 0 rfl (by first | exact .inl rfl | exact .inr (.inl rfl) | exact .inr (.inr rfl))) snd_int (fun _ _ => rfl)) (sa_cons snd_int (sa_cons snd_int sa_nil))) rfl) (subs_cons T.c_Flow T.k_Flow_Ring (subs_cons T.c_Answer T.k_Answer_Ring (subs_cons T.c_Ring T.k_Ring_Ring (subs_cons T.c_Never T.k_Never_Ring (subs_cons T.c_Most T.k_Most_Ring (subs_cons T.c_Desk T.k_Desk_Ring subs_nil)))))) (by rfl) T.n_isinstance (by rfl) T.g_Ring)
theorem sc_lam_1 : NdefX.NScope ["_law_some"] ["_law_some"] [] (lamI 1).scope := NdefX.nscope_by (by rfl)
set_option maxHeartbeats 0 in
theorem ok_lam_1 (T : Txt K mg ct) (a_most : FnAt P w K mg base ct "most" 6 1 f_most) : LamAt P w K mg base ct 1 7 1 f_lam_1 := by
  refine lam_atL (k := 6) (N := ["_law_some"]) (ps := ["_law_some"]) (L := lamI 1) rfl sc_lam_1 (fun pm cw c us hl => match us, hl with | [_], _ => rfl) fun A outer s H E f c hr => ?_
  have hu65 := units_65 hr
  have hu64 := units_64 hr
  have hu1 := units_1 hr
  have nd := sc_lam_1.nd
  have tk : Takes (NdefX.ncx (L2.CX P w) P w K mg base ["_law_some"] ⟨"<lambda>", (lamI 1).qual, (lamI 1).params, [], (lamI 1).scope, [], c⟩ f A outer s H E) (fun cls d _ H => E cls d H) := takes_of rfl rfl rfl rfl
  unfold d_lam_1
  exact (snd_callB sc_len (by rfl) T.n_len bo_len (sa_cons (snd_fld (snd_call a_most tk hr (by decide) (by rfl) (sa_cons (snd_ix hu1 (snd_var 0 rfl (by first | exact .inl rfl | exact .inr (.inl rfl) | exact .inr (.inr rfl))) snd_int (fun _ _ => rfl)) sa_nil) rfl) (flds_cons T.f_Ring_gifts (flds_cons T.f_Most_gifts flds_nil)) rfl) sa_nil))
theorem sc_z_ring_twice : FnScope ["_law_some", "_law_kept"] ["_law_some"] (defScope st_z_ring_twice) := ⟨rfl, rfl, rfl, by decide +kernel, rfl, by decide +kernel, by decide +kernel⟩
set_option maxHeartbeats 0 in
theorem ok_z_ring_twice {f : Addr} {fd : FuncData} (F : Fun K "_law_ring_twice" "_law_ring_twice" st_z_ring_twice f fd) (T : Txt K mg ct) (e_Never_shows : MethAt P w K mg base ct 14 "shows" 2 4 f_Never_shows) (e_Ring_shows : MethAt P w K mg base ct 13 "shows" 3 4 f_Ring_shows) (a_ring : FnAt P w K mg base ct "ring" 5 3 f_ring) (a_z_copy : FnAt P w K mg base ct "_law_copy" 9 1 (f_z_copy 8)) :
    FnOk P w K mg base (L2.CX P w) 10 f fd ["_law_some"] (spOf ct 1 f_z_ring_twice) := by
  refine def_ok (k := 9) (Ns := ["_law_some", "_law_kept"]) F sc_z_ring_twice fun cdv A outer s H E hr => ?_
  have hu65 := units_65 hr
  have hu64 := units_64 hr
  have hu1 := units_1 hr
  have nd := sc_z_ring_twice.nd
  have tk : Takes (bodyX P w K mg base ["_law_some", "_law_kept"] "_law_ring_twice" st_z_ring_twice f cdv A outer s H E) (fun cls d _ H => E cls d H) := takes_of rfl rfl rfl rfl
  have ps : PassesOwn (model P w) (bodyX P w K mg base ["_law_some", "_law_kept"] "_law_ring_twice" st_z_ring_twice f cdv A outer s H E).A (bodyX P w K mg base ["_law_some", "_law_kept"] "_law_ring_twice" st_z_ring_twice f cdv A outer s H E).env (bodyX P w K mg base ["_law_some", "_law_kept"] "_law_ring_twice" st_z_ring_twice f cdv A outer s H E).xe := passes_of rfl
  unfold d_z_ring_twice
  exact (sb_cons (ss_set (snd_call a_z_copy tk hr (by decide) (by rfl) (sa_cons (snd_var 0 rfl (by first | exact .inl rfl | exact .inr (.inl rfl) | exact .inr (.inr rfl))) sa_nil) rfl) nd rfl (by first | exact .inl rfl | exact .inr rfl))
    (sb_cons (ss_expr (snd_mt0 sm_clear PySem.F.slot_list_clear PySem.F.type_list_clear (snd_fld (snd_call a_ring tk hr (by decide) (by rfl) (sa_cons (snd_ix hu1 (snd_var 0 rfl (by first | exact .inl rfl | exact .inr (.inl rfl) | exact .inr (.inr rfl))) snd_int (fun _ _ => rfl)) (sa_cons snd_int (sa_cons snd_int sa_nil))) rfl) (flds_cons T.f_Ring_gifts (flds_cons T.f_Most_gifts flds_nil)) rfl)))
    (sb_one (ss_ret (snd_meth (k := 9) (snd_call a_ring tk hr (by decide) (by rfl) (sa_cons (snd_ix hu1 (snd_var 1 rfl (by first | exact .inl rfl | exact .inr (.inl rfl) | exact .inr (.inr rfl))) snd_int (fun _ _ => rfl)) (sa_cons snd_int (sa_cons snd_int sa_nil))) rfl) (meths_cons (e_Ring_shows.up (by decide)) (meths_cons (e_Never_shows.up (by decide)) meths_nil)) tk hr (Nat.le_refl _) (sa_cons (snd_ix hu1 (snd_var 1 rfl (by first | exact .inl rfl | exact .inr (.inl rfl) | exact .inr (.inr rfl))) snd_int (fun _ _ => rfl)) (sa_cons snd_int (sa_cons snd_int sa_nil))) rfl)))))
theorem sc_lam_2 : NdefX.NScope ["_law_some"] ["_law_some"] [] (lamI 2).scope := NdefX.nscope_by (by rfl)
set_option maxHeartbeats 0 in
theorem ok_lam_2 (T : Txt K mg ct) (a_z_ring_twice : FnAt P w K mg base ct "_law_ring_twice" 10 1 f_z_ring_twice) : LamAt P w K mg base ct 2 11 1 f_lam_2 := by
  refine lam_atL (k := 10) (N := ["_law_some"]) (ps := ["_law_some"]) (L := lamI 2) rfl sc_lam_2 (fun pm cw c us hl => match us, hl with | [_], _ => rfl) fun A outer s H E f c hr => ?_
  have hu65 := units_65 hr
  have hu64 := units_64 hr
  have hu1 := units_1 hr
  have nd := sc_lam_2.nd
  have tk : Takes (NdefX.ncx (L2.CX P w) P w K mg base ["_law_some"] ⟨"<lambda>", (lamI 2).qual, (lamI 2).params, [], (lamI 2).scope, [], c⟩ f A outer s H E) (fun cls d _ H => E cls d H) := takes_of rfl rfl rfl rfl
  unfold d_lam_2
  exact (snd_call a_z_ring_twice tk hr (by decide) (by rfl) (sa_cons (snd_var 0 rfl (by first | exact .inl rfl | exact .inr (.inl rfl) | exact .inr (.inr rfl))) sa_nil) rfl)
theorem sc_z_most_twice : FnScope ["_law_some", "_law_kept", "_law_found"] ["_law_some"] (defScope st_z_most_twice) := ⟨rfl, rfl, rfl, by decide +kernel, rfl, by decide +kernel, by decide +kernel⟩
set_option maxHeartbeats 0 in
theorem ok_z_most_twice {f : Addr} {fd : FuncData} (F : Fun K "_law_most_twice" "_law_most_twice" st_z_most_twice f fd) (T : Txt K mg ct) (e_Most_shows : MethAt P w K mg base ct 15 "shows" 3 2 f_Most_shows) (a_most : FnAt P w K mg base ct "most" 6 1 f_most) (a_z_copy : FnAt P w K mg base ct "_law_copy" 9 1 (f_z_copy 8)) :
    FnOk P w K mg base (L2.CX P w) 10 f fd ["_law_some"] (spOf ct 1 f_z_most_twice) := by
  refine def_ok (k := 9) (Ns := ["_law_some", "_law_kept", "_law_found"]) F sc_z_most_twice fun cdv A outer s H E hr => ?_
  have hu65 := units_65 hr
  have hu64 := units_64 hr
  have hu1 := units_1 hr
  have nd := sc_z_most_twice.nd
  have tk : Takes (bodyX P w K mg base ["_law_some", "_law_kept", "_law_found"] "_law_most_twice" st_z_most_twice f cdv A outer s H E) (fun cls d _ H => E cls d H) := takes_of rfl rfl rfl rfl
  have ps : PassesOwn (model P w) (bodyX P w K mg base ["_law_some", "_law_kept", "_law_found"] "_law_most_twice" st_z_most_twice f cdv A outer s H E).A (bodyX P w K mg base ["_law_some", "_law_kept", "_law_found"] "_law_most_twice" st_z_most_twice f cdv A outer s H E).env (bodyX P w K mg base ["_law_some", "_law_kept", "_law_found"] "_law_most_twice" st_z_most_twice f cdv A outer s H E).xe := passes_of rfl
  unfold d_z_most_twice
  exact (sb_cons (ss_set (snd_call a_z_copy tk hr (by decide) (by rfl) (sa_cons (snd_var 0 rfl (by first | exact .inl rfl | exact .inr (.inl rfl) | exact .inr (.inr rfl))) sa_nil) rfl) nd rfl (by first | exact .inl rfl | exact .inr rfl))
    (sb_cons (ss_set (snd_call a_most tk hr (by decide) (by rfl) (sa_cons (snd_ix hu1 (snd_var 0 rfl (by first | exact .inl rfl | exact .inr (.inl rfl) | exact .inr (.inr rfl))) snd_int (fun _ _ => rfl)) sa_nil) rfl) nd rfl (by first | exact .inl rfl | exact .inr rfl))
    (sb_cons (ss_expr (snd_mt0 sm_clear PySem.F.slot_list_clear PySem.F.type_list_clear (snd_fld (snd_var 2 rfl (by first | exact .inl rfl | exact .inr (.inl rfl) | exact .inr (.inr rfl))) (flds_cons T.f_Ring_gifts (flds_cons T.f_Most_gifts flds_nil)) rfl)))
    (sb_cons (ss_expr (snd_mt0 sm_clear PySem.F.slot_list_clear PySem.F.type_list_clear (snd_fld (snd_var 2 rfl (by first | exact .inl rfl | exact .inr (.inl rfl) | exact .inr (.inr rfl))) (flds_cons T.f_Most_prices flds_nil) rfl)))
    (sb_cons (ss_expr (snd_mt0 sm_clear PySem.F.slot_list_clear PySem.F.type_list_clear (snd_fld (snd_var 2 rfl (by first | exact .inl rfl | exact .inr (.inl rfl) | exact .inr (.inr rfl))) (flds_cons T.f_Most_kinds flds_nil) rfl)))
    (sb_one (ss_ret (snd_meth (k := 9) (snd_call a_most tk hr (by decide) (by rfl) (sa_cons (snd_ix hu1 (snd_var 1 rfl (by first | exact .inl rfl | exact .inr (.inl rfl) | exact .inr (.inr rfl))) snd_int (fun _ _ => rfl)) sa_nil) rfl) (meths_cons (e_Most_shows.up (by decide)) meths_nil) tk hr (Nat.le_refl _) (sa_cons (snd_ix hu1 (snd_var 1 rfl (by first | exact .inl rfl | exact .inr (.inl rfl) | exact .inr (.inr rfl))) snd_int (fun _ _ => rfl)) sa_nil) rfl))))))))
theorem sc_lam_3 : NdefX.NScope ["_law_some"] ["_law_some"] [] (lamI 3).scope := NdefX.nscope_by (by rfl)
set_option maxHeartbeats 0 in
theorem ok_lam_3 (T : Txt K mg ct) (a_z_most_twice : FnAt P w K mg base ct "_law_most_twice" 10 1 f_z_most_twice) : LamAt P w K mg base ct 3 11 1 f_lam_3 := by
  refine lam_atL (k := 10) (N := ["_law_some"]) (ps := ["_law_some"]) (L := lamI 3) rfl sc_lam_3 (fun pm cw c us hl => match us, hl with | [_], _ => rfl) fun A outer s H E f c hr => ?_
  have hu65 := units_65 hr
  have hu64 := units_64 hr
  have hu1 := units_1 hr
  have nd := sc_lam_3.nd
  have tk : Takes (NdefX.ncx (L2.CX P w) P w K mg base ["_law_some"] ⟨"<lambda>", (lamI 3).qual, (lamI 3).params, [], (lamI 3).scope, [], c⟩ f A outer s H E) (fun cls d _ H => E cls d H) := takes_of rfl rfl rfl rfl
  unfold d_lam_3
  exact (snd_call a_z_most_twice tk hr (by decide) (by rfl) (sa_cons (snd_var 0 rfl (by first | exact .inl rfl | exact .inr (.inl rfl) | exact .inr (.inr rfl))) sa_nil) rfl)
theorem sc_lam_4 : NdefX.NScope ["_law_some", "_law_one"] ["_law_some"] [] (lamI 4).scope := NdefX.nscope_by (by rfl)
set_option maxHeartbeats 0 in
theorem ok_lam_4 (T : Txt K mg ct) (a_rings : FnAt P w K mg base ct "rings" 5 2 f_rings) : LamAt P w K mg base ct 4 6 1 f_lam_4 := by
  refine lam_atL (k := 5) (N := ["_law_some", "_law_one"]) (ps := ["_law_some"]) (L := lamI 4) rfl sc_lam_4 (fun pm cw c us hl => match us, hl with | [_], _ => rfl) fun A outer s H E f c hr => ?_
  have hu65 := units_65 hr
  have hu64 := units_64 hr
  have hu1 := units_1 hr
  have nd := sc_lam_4.nd
  have tk : Takes (NdefX.ncx (L2.CX P w) P w K mg base ["_law_some", "_law_one"] ⟨"<lambda>", (lamI 4).qual, (lamI 4).params, [], (lamI 4).scope, [], c⟩ f A outer s H E) (fun cls d _ H => E cls d H) := takes_of rfl rfl rfl rfl
  unfold d_lam_4
  exact (snd_callB sc_sorted1M (by rfl) T.n_sorted bo_sorted (sa_cons (snd_lc (own := [("_law_one", 1)]) rfl nd (si_seq (snd_call a_rings tk hr (by decide) (by rfl) (sa_cons (snd_ix hu1 (snd_var 0 rfl (by first | exact .inl rfl | exact .inr (.inl rfl) | exact .inr (.inr rfl))) snd_int (fun _ _ => rfl)) (sa_cons (snd_ix hu1 (snd_var 0 rfl (by first | exact .inl rfl | exact .inr (.inl rfl) | exact .inr (.inr rfl))) snd_int (fun _ _ => rfl)) sa_nil)) rfl)) (blkOk_by (by kernel_rfl)) (fun _ _ _ _ _ => (sg_name nd rfl (by first | exact .inl rfl | exact .inr rfl))) (fun _ _ _ _ _ => sts_nil) (fun _ _ _ _ _ => (snd_callB sc_sortedTM (by rfl) T.n_sorted bo_sorted (sa_cons (snd_var 1 rfl (by first | exact .inl rfl | exact .inr (.inl rfl) | exact .inr (.inr rfl))) sa_nil)))) sa_nil))
theorem sc_z_rings_twice : FnScope ["_law_some", "_law_kept", "_law_found", "_law_one"] ["_law_some"] (defScope st_z_rings_twice) := ⟨rfl, rfl, rfl, by decide +kernel, rfl, by decide +kernel, by decide +kernel⟩
set_option maxHeartbeats 0 in
theorem ok_z_rings_twice {f : Addr} {fd : FuncData} (F : Fun K "_law_rings_twice" "_law_rings_twice" st_z_rings_twice f fd) (T : Txt K mg ct) (a_rings : FnAt P w K mg base ct "rings" 5 2 f_rings) (a_z_copy : FnAt P w K mg base ct "_law_copy" 9 1 (f_z_copy 8)) :
    FnOk P w K mg base (L2.CX P w) 10 f fd ["_law_some"] (spOf ct 1 f_z_rings_twice) := by
  refine def_ok (k := 9) (Ns := ["_law_some", "_law_kept", "_law_found", "_law_one"]) F sc_z_rings_twice fun cdv A outer s H E hr => ?_
  have hu65 := units_65 hr
  have hu64 := units_64 hr
  have hu1 := units_1 hr
  have nd := sc_z_rings_twice.nd
  have tk : Takes (bodyX P w K mg base ["_law_some", "_law_kept", "_law_found", "_law_one"] "_law_rings_twice" st_z_rings_twice f cdv A outer s H E) (fun cls d _ H => E cls d H) := takes_of rfl rfl rfl rfl
  have ps : PassesOwn (model P w) (bodyX P w K mg base ["_law_some", "_law_kept", "_law_found", "_law_one"] "_law_rings_twice" st_z_rings_twice f cdv A outer s H E).A (bodyX P w K mg base ["_law_some", "_law_kept", "_law_found", "_law_one"] "_law_rings_twice" st_z_rings_twice f cdv A outer s H E).env (bodyX P w K mg base ["_law_some", "_law_kept", "_law_found", "_law_one"] "_law_rings_twice" st_z_rings_twice f cdv A outer s H E).xe := passes_of rfl
  unfold d_z_rings_twice
  exact (sb_cons (ss_set (snd_call a_z_copy tk hr (by decide) (by rfl) (sa_cons (snd_var 0 rfl (by first | exact .inl rfl | exact .inr (.inl rfl) | exact .inr (.inr rfl))) sa_nil) rfl) nd rfl (by first | exact .inl rfl | exact .inr rfl))
    (sb_cons (ss_set (snd_call a_rings tk hr (by decide) (by rfl) (sa_cons (snd_ix hu1 (snd_var 0 rfl (by first | exact .inl rfl | exact .inr (.inl rfl) | exact .inr (.inr rfl))) snd_int (fun _ _ => rfl)) (sa_cons (snd_ix hu1 (snd_var 0 rfl (by first | exact .inl rfl | exact .inr (.inl rfl) | exact .inr (.inr rfl))) snd_int (fun _ _ => rfl)) sa_nil)) rfl) nd rfl (by first | exact .inl rfl | exact .inr rfl))
    (sb_cons (ss_expr (snd_mt0 sm_clear PySem.F.slot_list_clear PySem.F.type_list_clear (snd_ix hu1 (snd_var 2 rfl (by first | exact .inl rfl | exact .inr (.inl rfl) | exact .inr (.inr rfl))) snd_int (fun _ _ => rfl))))
    (sb_cons (ss_expr (snd_mt0 sm_clear PySem.F.slot_list_clear PySem.F.type_list_clear (snd_var 2 rfl (by first | exact .inl rfl | exact .inr (.inl rfl) | exact .inr (.inr rfl)))))
    (sb_one (ss_ret (snd_callB sc_sorted1M (by rfl) T.n_sorted bo_sorted (sa_cons (snd_lc (own := [("_law_one", 3)]) rfl nd (si_seq (snd_call a_rings tk hr (by decide) (by rfl) (sa_cons (snd_ix hu1 (snd_var 1 rfl (by first | exact .inl rfl | exact .inr (.inl rfl) | exact .inr (.inr rfl))) snd_int (fun _ _ => rfl)) (sa_cons (snd_ix hu1 (snd_var 1 rfl (by first | exact .inl rfl | exact .inr (.inl rfl) | exact .inr (.inr rfl))) snd_int (fun _ _ => rfl)) sa_nil)) rfl)) (blkOk_by (by kernel_rfl)) (fun _ _ _ _ _ => (sg_name nd rfl (by first | exact .inl rfl | exact .inr rfl))) (fun _ _ _ _ _ => sts_nil) (fun _ _ _ _ _ => (snd_callB sc_sortedTM (by rfl) T.n_sorted bo_sorted (sa_cons (snd_var 3 rfl (by first | exact .inl rfl | exact .inr (.inl rfl) | exact .inr (.inr rfl))) sa_nil)))) sa_nil))))))))
theorem sc_lam_5 : NdefX.NScope ["_law_some"] ["_law_some"] [] (lamI 5).scope := NdefX.nscope_by (by rfl)
set_option maxHeartbeats 0 in
theorem ok_lam_5 (T : Txt K mg ct) (a_z_rings_twice : FnAt P w K mg base ct "_law_rings_twice" 10 1 f_z_rings_twice) : LamAt P w K mg base ct 5 11 1 f_lam_5 := by
  refine lam_atL (k := 10) (N := ["_law_some"]) (ps := ["_law_some"]) (L := lamI 5) rfl sc_lam_5 (fun pm cw c us hl => match us, hl with | [_], _ => rfl) fun A outer s H E f c hr => ?_
  have hu65 := units_65 hr
  have hu64 := units_64 hr
  have hu1 := units_1 hr
  have nd := sc_lam_5.nd
  have tk : Takes (NdefX.ncx (L2.CX P w) P w K mg base ["_law_some"] ⟨"<lambda>", (lamI 5).qual, (lamI 5).params, [], (lamI 5).scope, [], c⟩ f A outer s H E) (fun cls d _ H => E cls d H) := takes_of rfl rfl rfl rfl
  unfold d_lam_5
  exact (snd_call a_z_rings_twice tk hr (by decide) (by rfl) (sa_cons (snd_var 0 rfl (by first | exact .inl rfl | exact .inr (.inl rfl) | exact .inr (.inr rfl))) sa_nil) rfl)
theorem sc_lam_6 : NdefX.NScope ["_law_some"] ["_law_some"] [] (lamI 6).scope := NdefX.nscope_by (by rfl)
set_option maxHeartbeats 0 in
theorem ok_lam_6 (T : Txt K mg ct) (e_Never_shows : MethAt P w K mg base ct 14 "shows" 2 4 f_Never_shows) (m_Ring_init : MakeAt P w K mg base ct 13 "Ring" 1 2 f_Ring_init) (e_Ring_shows : MethAt P w K mg base ct 13 "shows" 3 4 f_Ring_shows) : LamAt P w K mg base ct 6 4 1 f_lam_6 := by
  refine lam_atL (k := 3) (N := ["_law_some"]) (ps := ["_law_some"]) (L := lamI 6) rfl sc_lam_6 (fun pm cw c us hl => match us, hl with | [_], _ => rfl) fun A outer s H E f c hr => ?_
  have hu65 := units_65 hr
  have hu64 := units_64 hr
  have hu1 := units_1 hr
  have nd := sc_lam_6.nd
  have tk : Takes (NdefX.ncx (L2.CX P w) P w K mg base ["_law_some"] ⟨"<lambda>", (lamI 6).qual, (lamI 6).params, [], (lamI 6).scope, [], c⟩ f A outer s H E) (fun cls d _ H => E cls d H) := takes_of rfl rfl rfl rfl
  unfold d_lam_6
  exact (snd_meth (k := 3) (snd_make m_Ring_init tk hr (by decide) (by rfl) (sa_cons (snd_lst (sa_cons (snd_tup (sa_cons snd_int (sa_cons snd_int (sa_cons snd_int sa_nil)))) (sa_cons (snd_tup (sa_cons snd_int (sa_cons snd_int (sa_cons snd_int sa_nil)))) sa_nil))) sa_nil) rfl) (meths_cons (e_Ring_shows.up (by decide)) (meths_cons (e_Never_shows.up (by decide)) meths_nil)) tk hr (Nat.le_refl _) (sa_cons (snd_ix hu1 (snd_var 0 rfl (by first | exact .inl rfl | exact .inr (.inl rfl) | exact .inr (.inr rfl))) snd_int (fun _ _ => rfl)) (sa_cons snd_int (sa_cons snd_int sa_nil))) rfl)
theorem sc_lam_7 : NdefX.NScope ["_law_some"] ["_law_some"] [] (lamI 7).scope := NdefX.nscope_by (by rfl)
set_option maxHeartbeats 0 in
theorem ok_lam_7 (T : Txt K mg ct) (m_Never_init : MakeAt P w K mg base ct 14 "Never" 1 2 f_Never_init) (e_Never_shows : MethAt P w K mg base ct 14 "shows" 2 4 f_Never_shows) (e_Ring_shows : MethAt P w K mg base ct 13 "shows" 3 4 f_Ring_shows) : LamAt P w K mg base ct 7 4 1 f_lam_7 := by
  refine lam_atL (k := 3) (N := ["_law_some"]) (ps := ["_law_some"]) (L := lamI 7) rfl sc_lam_7 (fun pm cw c us hl => match us, hl with | [_], _ => rfl) fun A outer s H E f c hr => ?_
  have hu65 := units_65 hr
  have hu64 := units_64 hr
  have hu1 := units_1 hr
  have nd := sc_lam_7.nd
  have tk : Takes (NdefX.ncx (L2.CX P w) P w K mg base ["_law_some"] ⟨"<lambda>", (lamI 7).qual, (lamI 7).params, [], (lamI 7).scope, [], c⟩ f A outer s H E) (fun cls d _ H => E cls d H) := takes_of rfl rfl rfl rfl
  unfold d_lam_7
  exact (snd_meth (k := 3) (snd_make m_Never_init tk hr (by decide) (by rfl) (sa_cons (snd_lst (sa_cons snd_int sa_nil)) sa_nil) rfl) (meths_cons (e_Ring_shows.up (by decide)) (meths_cons (e_Never_shows.up (by decide)) meths_nil)) tk hr (Nat.le_refl _) (sa_cons (snd_ix hu1 (snd_var 0 rfl (by first | exact .inl rfl | exact .inr (.inl rfl) | exact .inr (.inr rfl))) snd_int (fun _ _ => rfl)) (sa_cons snd_int (sa_cons snd_int sa_nil))) rfl)
theorem sc_lam_8 : NdefX.NScope ["_law_some"] ["_law_some"] [] (lamI 8).scope := NdefX.nscope_by (by rfl)
set_option maxHeartbeats 0 in
theorem ok_lam_8 (T : Txt K mg ct) (e_Most_shows : MethAt P w K mg base ct 15 "shows" 3 2 f_Most_shows) (a_most : FnAt P w K mg base ct "most" 6 1 f_most) : LamAt P w K mg base ct 8 7 1 f_lam_8 := by
  refine lam_atL (k := 6) (N := ["_law_some"]) (ps := ["_law_some"]) (L := lamI 8) rfl sc_lam_8 (fun pm cw c us hl => match us, hl with | [_], _ => rfl) fun A outer s H E f c hr => ?_
  have hu65 := units_65 hr
  have hu64 := units_64 hr
  have hu1 := units_1 hr
  have nd := sc_lam_8.nd
  have tk : Takes (NdefX.ncx (L2.CX P w) P w K mg base ["_law_some"] ⟨"<lambda>", (lamI 8).qual, (lamI 8).params, [], (lamI 8).scope, [], c⟩ f A outer s H E) (fun cls d _ H => E cls d H) := takes_of rfl rfl rfl rfl
  unfold d_lam_8
  exact (snd_meth (k := 6) (snd_call a_most tk hr (by decide) (by rfl) (sa_cons (snd_lst (sa_cons (snd_tup (sa_cons (snd_lst (sa_cons snd_int (sa_cons snd_int sa_nil))) (sa_cons (snd_lst (sa_cons snd_int (sa_cons snd_int sa_nil))) sa_nil))) (sa_cons (snd_tup (sa_cons (snd_lst (sa_cons snd_int (sa_cons snd_int sa_nil))) (sa_cons (snd_lst (sa_cons snd_int (sa_cons snd_int sa_nil))) sa_nil))) sa_nil))) sa_nil) rfl) (meths_cons (e_Most_shows.up (by decide)) meths_nil) tk hr (Nat.le_refl _) (sa_cons (snd_ix hu1 (snd_var 0 rfl (by first | exact .inl rfl | exact .inr (.inl rfl) | exact .inr (.inr rfl))) snd_int (fun _ _ => rfl)) sa_nil) rfl)
theorem sc_lam_9 : NdefX.NScope ["_law_some"] ["_law_some"] [] (lamI 9).scope := NdefX.nscope_by (by rfl)
set_option maxHeartbeats 0 in
theorem ok_lam_9 (T : Txt K mg ct) (e_Desk_agree : MethAt P w K mg base ct 17 "agree" 3 2 f_Desk_agree) (m_Desk_init : MakeAt P w K mg base ct 17 "Desk" 5 2 f_Desk_init) : LamAt P w K mg base ct 9 7 1 f_lam_9 := by
  refine lam_atL (k := 6) (N := ["_law_some"]) (ps := ["_law_some"]) (L := lamI 9) rfl sc_lam_9 (fun pm cw c us hl => match us, hl with | [_], _ => rfl) fun A outer s H E f c hr => ?_
  have hu65 := units_65 hr
  have hu64 := units_64 hr
  have hu1 := units_1 hr
  have nd := sc_lam_9.nd
  have tk : Takes (NdefX.ncx (L2.CX P w) P w K mg base ["_law_some"] ⟨"<lambda>", (lamI 9).qual, (lamI 9).params, [], (lamI 9).scope, [], c⟩ f A outer s H E) (fun cls d _ H => E cls d H) := takes_of rfl rfl rfl rfl
  unfold d_lam_9
  exact (snd_meth (k := 6) (snd_make m_Desk_init tk hr (by decide) (by rfl) (sa_cons (snd_lst (sa_cons (snd_tup (sa_cons (snd_lst (sa_cons snd_int (sa_cons snd_int sa_nil))) (sa_cons (snd_lst (sa_cons snd_int (sa_cons snd_int sa_nil))) sa_nil))) (sa_cons (snd_tup (sa_cons (snd_lst (sa_cons snd_int (sa_cons snd_int sa_nil))) (sa_cons (snd_lst (sa_cons snd_int (sa_cons snd_int sa_nil))) sa_nil))) sa_nil))) sa_nil) rfl) (meths_cons (e_Desk_agree.up (by decide)) meths_nil) tk hr (Nat.le_refl _) (sa_cons (snd_ix hu1 (snd_var 0 rfl (by first | exact .inl rfl | exact .inr (.inl rfl) | exact .inr (.inr rfl))) snd_int (fun _ _ => rfl)) sa_nil) rfl)
theorem sc_lam_10 : NdefX.NScope ["_law_some", "_law_one"] ["_law_some"] [] (lamI 10).scope := NdefX.nscope_by (by rfl)
set_option maxHeartbeats 0 in
theorem ok_lam_10 (T : Txt K mg ct) (a_rings : FnAt P w K mg base ct "rings" 5 2 f_rings) : LamAt P w K mg base ct 10 6 1 f_lam_10 := by
  refine lam_atL (k := 5) (N := ["_law_some", "_law_one"]) (ps := ["_law_some"]) (L := lamI 10) rfl sc_lam_10 (fun pm cw c us hl => match us, hl with | [_], _ => rfl) fun A outer s H E f c hr => ?_
  have hu65 := units_65 hr
  have hu64 := units_64 hr
  have hu1 := units_1 hr
  have nd := sc_lam_10.nd
  have tk : Takes (NdefX.ncx (L2.CX P w) P w K mg base ["_law_some", "_law_one"] ⟨"<lambda>", (lamI 10).qual, (lamI 10).params, [], (lamI 10).scope, [], c⟩ f A outer s H E) (fun cls d _ H => E cls d H) := takes_of rfl rfl rfl rfl
  unfold d_lam_10
  exact (snd_callB sc_sorted1M (by rfl) T.n_sorted bo_sorted (sa_cons (snd_lc (own := [("_law_one", 1)]) rfl nd (si_seq (snd_call a_rings tk hr (by decide) (by rfl) (sa_cons (snd_ix hu1 (snd_var 0 rfl (by first | exact .inl rfl | exact .inr (.inl rfl) | exact .inr (.inr rfl))) snd_int (fun _ _ => rfl)) (sa_cons (snd_ix hu1 (snd_var 0 rfl (by first | exact .inl rfl | exact .inr (.inl rfl) | exact .inr (.inr rfl))) snd_int (fun _ _ => rfl)) sa_nil)) rfl)) (blkOk_by (by kernel_rfl)) (fun _ _ _ _ _ => (sg_name nd rfl (by first | exact .inl rfl | exact .inr rfl))) (fun _ _ _ _ _ => sts_nil) (fun _ _ _ _ _ => (snd_callB sc_sortedTM (by rfl) T.n_sorted bo_sorted (sa_cons (snd_var 1 rfl (by first | exact .inl rfl | exact .inr (.inl rfl) | exact .inr (.inr rfl))) sa_nil)))) sa_nil))
theorem sc_z_door_right : FnScope ["_law_ask", "_law_first", "_law_second", "_law_handed", "_law_dues", "_law_some", "_law_due", "_law_again", "_law_found"] ["_law_ask", "_law_first", "_law_second"] (defScope st_z_door_right) := ⟨rfl, rfl, rfl, by decide +kernel, rfl, by decide +kernel, by decide +kernel⟩
set_option maxHeartbeats 0 in
theorem ok_z_door_right {f : Addr} {fd : FuncData} (F : Fun K "_law_door_right" "_law_door_right" st_z_door_right f fd) (T : Txt K mg ct) (h_lams : Lams P w K mg base ct 11 1 lamApps) (a_z_copy : FnAt P w K mg base ct "_law_copy" 9 1 (f_z_copy 8)) (a_z_into : FnAt P w K mg base ct "_law_into" 18 2 (f_z_into 8)) (a_z_spoil : FnAt P w K mg base ct "_law_spoil" 9 1 (f_z_spoil 8)) :
    FnOk P w K mg base (L2.CX P w) 19 f fd ["_law_ask", "_law_first", "_law_second"] (spOf ct 3 f_z_door_right) := by
  refine def_ok (k := 18) (Ns := ["_law_ask", "_law_first", "_law_second", "_law_handed", "_law_dues", "_law_some", "_law_due", "_law_again", "_law_found"]) F sc_z_door_right fun cdv A outer s H E hr => ?_
  have hu65 := units_65 hr
  have hu64 := units_64 hr
  have hu1 := units_1 hr
  have nd := sc_z_door_right.nd
  have tk : Takes (bodyX P w K mg base ["_law_ask", "_law_first", "_law_second", "_law_handed", "_law_dues", "_law_some", "_law_due", "_law_again", "_law_found"] "_law_door_right" st_z_door_right f cdv A outer s H E) (fun cls d _ H => E cls d H) := takes_of rfl rfl rfl rfl
  have ps : PassesOwn (model P w) (bodyX P w K mg base ["_law_ask", "_law_first", "_law_second", "_law_handed", "_law_dues", "_law_some", "_law_due", "_law_again", "_law_found"] "_law_door_right" st_z_door_right f cdv A outer s H E).A (bodyX P w K mg base ["_law_ask", "_law_first", "_law_second", "_law_handed", "_law_dues", "_law_some", "_law_due", "_law_again", "_law_found"] "_law_door_right" st_z_door_right f cdv A outer s H E).env (bodyX P w K mg base ["_law_ask", "_law_first", "_law_second", "_law_handed", "_law_dues", "_law_some", "_law_due", "_law_again", "_law_found"] "_law_door_right" st_z_door_right f cdv A outer s H E).xe := passes_of rfl
  unfold d_z_door_right
  exact (sb_cons (by first | exact (ss_par rfl nd rfl rfl (by decide) rfl rfl (sa_cons (snd_call a_z_copy tk hr (by decide) (by rfl) (sa_cons (snd_var 1 rfl (by first | exact .inl rfl | exact .inr (.inl rfl) | exact .inr (.inr rfl))) sa_nil) rfl) (sa_cons (snd_lstM sa_nil) sa_nil)) rfl) | exact ss_parT (ss_asg (snd_tup (sa_cons (snd_call a_z_copy tk hr (by decide) (by rfl) (sa_cons (snd_var 1 rfl (by first | exact .inl rfl | exact .inr (.inl rfl) | exact .inr (.inr rfl))) sa_nil) rfl) (sa_cons (snd_lstM sa_nil) sa_nil))) (sg_tup rfl (sg_cons (sg_name nd rfl (by first | exact .inl rfl | exact .inr rfl)) (sg_cons (sg_name nd rfl (by first | exact .inl rfl | exact .inr rfl)) sg_nil)))))
    (sb_cons (ss_for ps rfl (si_seq (snd_tup (sa_cons (snd_var 1 rfl (by first | exact .inl rfl | exact .inr (.inl rfl) | exact .inr (.inr rfl))) (sa_cons (snd_var 2 rfl (by first | exact .inl rfl | exact .inr (.inl rfl) | exact .inr (.inr rfl))) sa_nil)))) (sg_name nd rfl (by first | exact .inl rfl | exact .inr rfl)) (sb_one (ss_expr (snd_mt sm_append PySem.F.slot_list_append PySem.F.type_list_append (snd_var 4 rfl (by first | exact .inl rfl | exact .inr (.inl rfl) | exact .inr (.inr rfl))) (sa_cons (snd_tup (sa_cons (snd_var 5 rfl (by first | exact .inl rfl | exact .inr (.inl rfl) | exact .inr (.inr rfl))) (sa_cons (snd_call a_z_copy tk hr (by decide) (by rfl) (sa_cons (snd_cut (snd_app h_lams tk hr (by decide) rfl (by first | exact .inl rfl | exact .inr (.inl rfl) | exact .inr (.inr rfl)) (sa_cons (snd_call a_z_copy tk hr (by decide) (by rfl) (sa_cons (snd_var 5 rfl (by first | exact .inl rfl | exact .inr (.inl rfl) | exact .inr (.inr rfl))) sa_nil) rfl) sa_nil) rfl)) sa_nil) rfl) sa_nil))) sa_nil)))))
    (sb_cons (ss_for ps rfl (si_seq (snd_bin so_add (snd_var 4 rfl (by first | exact .inl rfl | exact .inr (.inl rfl) | exact .inr (.inr rfl))) (snd_var 4 rfl (by first | exact .inl rfl | exact .inr (.inl rfl) | exact .inr (.inr rfl))))) (sg_tup rfl (sg_cons (sg_name nd rfl (by first | exact .inl rfl | exact .inr rfl)) (sg_cons (sg_name nd rfl (by first | exact .inl rfl | exact .inr rfl)) sg_nil))) (sb_cons (ss_expr (snd_call a_z_into tk hr (by decide) (by rfl) (sa_cons (snd_var 3 rfl (by first | exact .inl rfl | exact .inr (.inl rfl) | exact .inr (.inr rfl))) (sa_cons (snd_var 5 rfl (by first | exact .inl rfl | exact .inr (.inl rfl) | exact .inr (.inr rfl))) sa_nil)) rfl))
    (sb_one (ss_for ps rfl (si_range1 (by rfl) T.n_range (sa_cons snd_int sa_nil)) (sg_name nd rfl (by first | exact .inl rfl | exact .inr rfl)) (sb_cons (ss_set (snd_cut (snd_app h_lams tk hr (by decide) rfl (by first | exact .inl rfl | exact .inr (.inl rfl) | exact .inr (.inr rfl)) (sa_cons (snd_var 3 rfl (by first | exact .inl rfl | exact .inr (.inl rfl) | exact .inr (.inr rfl))) sa_nil) rfl)) nd rfl (by first | exact .inl rfl | exact .inr rfl))
    (sb_cons (ss_if (SndW.t (sw_or (st_cmp (so_ne hu64) (snd_var 3 rfl (by first | exact .inl rfl | exact .inr (.inl rfl) | exact .inr (.inr rfl))) (snd_var 5 rfl (by first | exact .inl rfl | exact .inr (.inl rfl) | exact .inr (.inr rfl))) (by rfl)) (sw_or1 (st_cmp (so_ne hu64) (snd_var 8 rfl (by first | exact .inl rfl | exact .inr (.inl rfl) | exact .inr (.inr rfl))) (snd_var 6 rfl (by first | exact .inl rfl | exact .inr (.inl rfl) | exact .inr (.inr rfl))) (by rfl))))) (sb_one (ss_ret snd_bl)) sb_nil)
    (sb_one (ss_expr (snd_call a_z_spoil tk hr (by decide) (by rfl) (sa_cons (snd_var 8 rfl (by first | exact .inl rfl | exact .inr (.inl rfl) | exact .inr (.inr rfl))) sa_nil) rfl)))))))))
    (sb_one (ss_ret snd_bl)))))
theorem sc_z_rows_one : FnScope ["_law_rows"] [] (defScope st_z_rows_one) := ⟨rfl, rfl, rfl, by decide +kernel, rfl, by decide +kernel, by decide +kernel⟩
set_option maxHeartbeats 0 in
theorem ok_z_rows_one {f : Addr} {fd : FuncData} (F : Fun K "_law_rows_one" "_law_rows_one" st_z_rows_one f fd) (T : Txt K mg ct) {cc : Addr} (hcc : fd.code = .ref cc) (TB : LamX.TabB base mg cc (ct (100 + 0))) :
    FnOk P w K mg base (L2.CX P w) 1 f fd [] (spOf ct 0 f_z_rows_one) := by
  refine def_okT (k := 0) (Ns := ["_law_rows"]) F hcc sc_z_rows_one fun A outer s H E hr => ?_
  have hu65 := units_65 hr
  have hu64 := units_64 hr
  have hu1 := units_1 hr
  have nd := sc_z_rows_one.nd
  have tk : Takes (bodyX P w K mg base ["_law_rows"] "_law_rows_one" st_z_rows_one f (.ref cc) A outer s H E) (fun cls d _ H => E cls d H) := takes_of rfl rfl rfl rfl
  have ps : PassesOwn (model P w) (bodyX P w K mg base ["_law_rows"] "_law_rows_one" st_z_rows_one f (.ref cc) A outer s H E).A (bodyX P w K mg base ["_law_rows"] "_law_rows_one" st_z_rows_one f (.ref cc) A outer s H E).env (bodyX P w K mg base ["_law_rows"] "_law_rows_one" st_z_rows_one f (.ref cc) A outer s H E).xe := passes_of rfl
  unfold d_z_rows_one
  exact (sb_cons (ss_set (snd_lstM sa_nil) nd rfl (by first | exact .inl rfl | exact .inr rfl))
    (sb_cons (ss_expr (snd_mt sm_append PySem.F.slot_list_append PySem.F.type_list_append (snd_var 0 rfl (by first | exact .inl rfl | exact .inr (.inl rfl) | exact .inr (.inr rfl))) (sa_cons (snd_tup (sa_cons (snd_lamM TB rfl rfl (id := 0) (by rfl) rfl (fun _ => rfl) (by decide)) (sa_cons (snd_lst (sa_cons (snd_lst (sa_cons (snd_tup (sa_cons (snd_lst (sa_cons snd_int (sa_cons snd_int sa_nil))) (sa_cons (snd_lst (sa_cons snd_int (sa_cons snd_int sa_nil))) sa_nil))) (sa_cons (snd_tup (sa_cons (snd_lst (sa_cons snd_int (sa_cons snd_int sa_nil))) (sa_cons (snd_lst (sa_cons snd_int (sa_cons snd_int sa_nil))) sa_nil))) sa_nil))) sa_nil)) (sa_cons (snd_lst (sa_cons (snd_lst (sa_cons (snd_tup (sa_cons (snd_lst (sa_cons snd_int (sa_cons snd_int sa_nil))) (sa_cons (snd_lst (sa_cons snd_int (sa_cons snd_int sa_nil))) sa_nil))) (sa_cons (snd_tup (sa_cons (snd_lst (sa_cons snd_int (sa_cons snd_int sa_nil))) (sa_cons (snd_lst (sa_cons snd_int (sa_cons snd_int sa_nil))) sa_nil))) sa_nil))) sa_nil)) sa_nil)))) sa_nil)))
    (sb_cons (ss_expr (snd_mt sm_append PySem.F.slot_list_append PySem.F.type_list_append (snd_var 0 rfl (by first | exact .inl rfl | exact .inr (.inl rfl) | exact .inr (.inr rfl))) (sa_cons (snd_tup (sa_cons (snd_lamM TB rfl rfl (id := 1) (by rfl) rfl (fun _ => rfl) (by decide)) (sa_cons (snd_lst (sa_cons (snd_lst (sa_cons (snd_tup (sa_cons (snd_lst (sa_cons snd_int (sa_cons snd_int sa_nil))) (sa_cons (snd_lst (sa_cons snd_int (sa_cons snd_int sa_nil))) sa_nil))) (sa_cons (snd_tup (sa_cons (snd_lst (sa_cons snd_int (sa_cons snd_int sa_nil))) (sa_cons (snd_lst (sa_cons snd_int (sa_cons snd_int sa_nil))) sa_nil))) sa_nil))) sa_nil)) (sa_cons (snd_lst (sa_cons (snd_lst (sa_cons (snd_tup (sa_cons (snd_lst (sa_cons snd_int (sa_cons snd_int sa_nil))) (sa_cons (snd_lst (sa_cons snd_int (sa_cons snd_int sa_nil))) sa_nil))) (sa_cons (snd_tup (sa_cons (snd_lst (sa_cons snd_int (sa_cons snd_int sa_nil))) (sa_cons (snd_lst (sa_cons snd_int (sa_cons snd_int sa_nil))) sa_nil))) sa_nil))) sa_nil)) sa_nil)))) sa_nil)))
    (sb_cons (ss_expr (snd_mt sm_append PySem.F.slot_list_append PySem.F.type_list_append (snd_var 0 rfl (by first | exact .inl rfl | exact .inr (.inl rfl) | exact .inr (.inr rfl))) (sa_cons (snd_tup (sa_cons (snd_lamM TB rfl rfl (id := 2) (by rfl) rfl (fun _ => rfl) (by decide)) (sa_cons (snd_lst (sa_cons (snd_lst (sa_cons (snd_tup (sa_cons (snd_lst (sa_cons snd_int (sa_cons snd_int sa_nil))) (sa_cons (snd_lst (sa_cons snd_int (sa_cons snd_int sa_nil))) sa_nil))) (sa_cons (snd_tup (sa_cons (snd_lst (sa_cons snd_int (sa_cons snd_int sa_nil))) (sa_cons (snd_lst (sa_cons snd_int (sa_cons snd_int sa_nil))) sa_nil))) sa_nil))) sa_nil)) (sa_cons (snd_lst (sa_cons (snd_lst (sa_cons (snd_tup (sa_cons (snd_lst (sa_cons snd_int (sa_cons snd_int sa_nil))) (sa_cons (snd_lst (sa_cons snd_int (sa_cons snd_int sa_nil))) sa_nil))) (sa_cons (snd_tup (sa_cons (snd_lst (sa_cons snd_int (sa_cons snd_int sa_nil))) (sa_cons (snd_lst (sa_cons snd_int (sa_cons snd_int sa_nil))) sa_nil))) sa_nil))) sa_nil)) sa_nil)))) sa_nil)))
    (sb_cons (ss_expr (snd_mt sm_append PySem.F.slot_list_append PySem.F.type_list_append (snd_var 0 rfl (by first | exact .inl rfl | exact .inr (.inl rfl) | exact .inr (.inr rfl))) (sa_cons (snd_tup (sa_cons (snd_lamM TB rfl rfl (id := 3) (by rfl) rfl (fun _ => rfl) (by decide)) (sa_cons (snd_lst (sa_cons (snd_lst (sa_cons (snd_tup (sa_cons (snd_lst (sa_cons snd_int (sa_cons snd_int sa_nil))) (sa_cons (snd_lst (sa_cons snd_int (sa_cons snd_int sa_nil))) sa_nil))) (sa_cons (snd_tup (sa_cons (snd_lst (sa_cons snd_int (sa_cons snd_int sa_nil))) (sa_cons (snd_lst (sa_cons snd_int (sa_cons snd_int sa_nil))) sa_nil))) sa_nil))) sa_nil)) (sa_cons (snd_lst (sa_cons (snd_lst (sa_cons (snd_tup (sa_cons (snd_lst (sa_cons snd_int (sa_cons snd_int sa_nil))) (sa_cons (snd_lst (sa_cons snd_int (sa_cons snd_int sa_nil))) sa_nil))) (sa_cons (snd_tup (sa_cons (snd_lst (sa_cons snd_int (sa_cons snd_int sa_nil))) (sa_cons (snd_lst (sa_cons snd_int (sa_cons snd_int sa_nil))) sa_nil))) sa_nil))) sa_nil)) sa_nil)))) sa_nil)))
    (sb_cons (ss_expr (snd_mt sm_append PySem.F.slot_list_append PySem.F.type_list_append (snd_var 0 rfl (by first | exact .inl rfl | exact .inr (.inl rfl) | exact .inr (.inr rfl))) (sa_cons (snd_tup (sa_cons (snd_lamM TB rfl rfl (id := 4) (by rfl) rfl (fun _ => rfl) (by decide)) (sa_cons (snd_lst (sa_cons (snd_lst (sa_cons (snd_tup (sa_cons (snd_lst (sa_cons snd_int (sa_cons snd_int sa_nil))) (sa_cons (snd_lst (sa_cons snd_int (sa_cons snd_int sa_nil))) sa_nil))) (sa_cons (snd_tup (sa_cons (snd_lst (sa_cons snd_int (sa_cons snd_int sa_nil))) (sa_cons (snd_lst (sa_cons snd_int (sa_cons snd_int sa_nil))) sa_nil))) sa_nil))) (sa_cons (snd_lst (sa_cons (snd_tup (sa_cons snd_int (sa_cons snd_int (sa_cons snd_int sa_nil)))) (sa_cons (snd_tup (sa_cons snd_int (sa_cons snd_int (sa_cons snd_int sa_nil)))) sa_nil))) sa_nil))) (sa_cons (snd_lst (sa_cons (snd_lst (sa_cons (snd_tup (sa_cons (snd_lst (sa_cons snd_int (sa_cons snd_int sa_nil))) (sa_cons (snd_lst (sa_cons snd_int (sa_cons snd_int sa_nil))) sa_nil))) (sa_cons (snd_tup (sa_cons (snd_lst (sa_cons snd_int (sa_cons snd_int sa_nil))) (sa_cons (snd_lst (sa_cons snd_int (sa_cons snd_int sa_nil))) sa_nil))) sa_nil))) (sa_cons (snd_lst (sa_cons (snd_tup (sa_cons snd_int (sa_cons snd_int (sa_cons snd_int sa_nil)))) (sa_cons (snd_tup (sa_cons snd_int (sa_cons snd_int (sa_cons snd_int sa_nil)))) sa_nil))) sa_nil))) sa_nil)))) sa_nil)))
    (sb_cons (ss_expr (snd_mt sm_append PySem.F.slot_list_append PySem.F.type_list_append (snd_var 0 rfl (by first | exact .inl rfl | exact .inr (.inl rfl) | exact .inr (.inr rfl))) (sa_cons (snd_tup (sa_cons (snd_lamM TB rfl rfl (id := 5) (by rfl) rfl (fun _ => rfl) (by decide)) (sa_cons (snd_lst (sa_cons (snd_lst (sa_cons (snd_tup (sa_cons (snd_lst (sa_cons snd_int (sa_cons snd_int sa_nil))) (sa_cons (snd_lst (sa_cons snd_int (sa_cons snd_int sa_nil))) sa_nil))) (sa_cons (snd_tup (sa_cons (snd_lst (sa_cons snd_int (sa_cons snd_int sa_nil))) (sa_cons (snd_lst (sa_cons snd_int (sa_cons snd_int sa_nil))) sa_nil))) sa_nil))) (sa_cons (snd_lst (sa_cons (snd_tup (sa_cons snd_int (sa_cons snd_int (sa_cons snd_int sa_nil)))) (sa_cons (snd_tup (sa_cons snd_int (sa_cons snd_int (sa_cons snd_int sa_nil)))) sa_nil))) sa_nil))) (sa_cons (snd_lst (sa_cons (snd_lst (sa_cons (snd_tup (sa_cons (snd_lst (sa_cons snd_int (sa_cons snd_int sa_nil))) (sa_cons (snd_lst (sa_cons snd_int (sa_cons snd_int sa_nil))) sa_nil))) (sa_cons (snd_tup (sa_cons (snd_lst (sa_cons snd_int (sa_cons snd_int sa_nil))) (sa_cons (snd_lst (sa_cons snd_int (sa_cons snd_int sa_nil))) sa_nil))) sa_nil))) (sa_cons (snd_lst (sa_cons (snd_tup (sa_cons snd_int (sa_cons snd_int (sa_cons snd_int sa_nil)))) (sa_cons (snd_tup (sa_cons snd_int (sa_cons snd_int (sa_cons snd_int sa_nil)))) sa_nil))) sa_nil))) sa_nil)))) sa_nil)))
    (sb_cons (ss_expr (snd_mt sm_append PySem.F.slot_list_append PySem.F.type_list_append (snd_var 0 rfl (by first | exact .inl rfl | exact .inr (.inl rfl) | exact .inr (.inr rfl))) (sa_cons (snd_tup (sa_cons (snd_lamM TB rfl rfl (id := 6) (by rfl) rfl (fun _ => rfl) (by decide)) (sa_cons (snd_lst (sa_cons (snd_lst (sa_cons (snd_tup (sa_cons (snd_lst (sa_cons snd_int (sa_cons snd_int sa_nil))) (sa_cons (snd_lst (sa_cons snd_int (sa_cons snd_int sa_nil))) sa_nil))) (sa_cons (snd_tup (sa_cons (snd_lst (sa_cons snd_int (sa_cons snd_int sa_nil))) (sa_cons (snd_lst (sa_cons snd_int (sa_cons snd_int sa_nil))) sa_nil))) sa_nil))) sa_nil)) (sa_cons (snd_lst (sa_cons (snd_lst (sa_cons (snd_tup (sa_cons (snd_lst (sa_cons snd_int (sa_cons snd_int sa_nil))) (sa_cons (snd_lst (sa_cons snd_int (sa_cons snd_int sa_nil))) sa_nil))) (sa_cons (snd_tup (sa_cons (snd_lst (sa_cons snd_int (sa_cons snd_int sa_nil))) (sa_cons (snd_lst (sa_cons snd_int (sa_cons snd_int sa_nil))) sa_nil))) sa_nil))) sa_nil)) sa_nil)))) sa_nil)))
    (sb_cons (ss_expr (snd_mt sm_append PySem.F.slot_list_append PySem.F.type_list_append (snd_var 0 rfl (by first | exact .inl rfl | exact .inr (.inl rfl) | exact .inr (.inr rfl))) (sa_cons (snd_tup (sa_cons (snd_lamM TB rfl rfl (id := 7) (by rfl) rfl (fun _ => rfl) (by decide)) (sa_cons (snd_lst (sa_cons (snd_lst (sa_cons (snd_tup (sa_cons (snd_lst (sa_cons snd_int (sa_cons snd_int sa_nil))) (sa_cons (snd_lst (sa_cons snd_int (sa_cons snd_int sa_nil))) sa_nil))) (sa_cons (snd_tup (sa_cons (snd_lst (sa_cons snd_int (sa_cons snd_int sa_nil))) (sa_cons (snd_lst (sa_cons snd_int (sa_cons snd_int sa_nil))) sa_nil))) sa_nil))) sa_nil)) (sa_cons (snd_lst (sa_cons (snd_lst (sa_cons (snd_tup (sa_cons (snd_lst (sa_cons snd_int (sa_cons snd_int sa_nil))) (sa_cons (snd_lst (sa_cons snd_int (sa_cons snd_int sa_nil))) sa_nil))) (sa_cons (snd_tup (sa_cons (snd_lst (sa_cons snd_int (sa_cons snd_int sa_nil))) (sa_cons (snd_lst (sa_cons snd_int (sa_cons snd_int sa_nil))) sa_nil))) sa_nil))) sa_nil)) sa_nil)))) sa_nil)))
    (sb_cons (ss_expr (snd_mt sm_append PySem.F.slot_list_append PySem.F.type_list_append (snd_var 0 rfl (by first | exact .inl rfl | exact .inr (.inl rfl) | exact .inr (.inr rfl))) (sa_cons (snd_tup (sa_cons (snd_lamM TB rfl rfl (id := 8) (by rfl) rfl (fun _ => rfl) (by decide)) (sa_cons (snd_lst (sa_cons (snd_lst (sa_cons (snd_tup (sa_cons (snd_lst (sa_cons snd_int (sa_cons snd_int sa_nil))) (sa_cons (snd_lst (sa_cons snd_int (sa_cons snd_int sa_nil))) sa_nil))) (sa_cons (snd_tup (sa_cons (snd_lst (sa_cons snd_int (sa_cons snd_int sa_nil))) (sa_cons (snd_lst (sa_cons snd_int (sa_cons snd_int sa_nil))) sa_nil))) sa_nil))) sa_nil)) (sa_cons (snd_lst (sa_cons (snd_lst (sa_cons (snd_tup (sa_cons (snd_lst (sa_cons snd_int (sa_cons snd_int sa_nil))) (sa_cons (snd_lst (sa_cons snd_int (sa_cons snd_int sa_nil))) sa_nil))) (sa_cons (snd_tup (sa_cons (snd_lst (sa_cons snd_int (sa_cons snd_int sa_nil))) (sa_cons (snd_lst (sa_cons snd_int (sa_cons snd_int sa_nil))) sa_nil))) sa_nil))) sa_nil)) sa_nil)))) sa_nil)))
    (sb_cons (ss_expr (snd_mt sm_append PySem.F.slot_list_append PySem.F.type_list_append (snd_var 0 rfl (by first | exact .inl rfl | exact .inr (.inl rfl) | exact .inr (.inr rfl))) (sa_cons (snd_tup (sa_cons (snd_lamM TB rfl rfl (id := 9) (by rfl) rfl (fun _ => rfl) (by decide)) (sa_cons (snd_lst (sa_cons (snd_lst (sa_cons (snd_tup (sa_cons snd_int (sa_cons snd_int (sa_cons snd_int sa_nil)))) (sa_cons (snd_tup (sa_cons snd_int (sa_cons snd_int (sa_cons snd_int sa_nil)))) sa_nil))) sa_nil)) (sa_cons (snd_lst (sa_cons (snd_lst (sa_cons (snd_tup (sa_cons snd_int (sa_cons snd_int (sa_cons snd_int sa_nil)))) (sa_cons (snd_tup (sa_cons snd_int (sa_cons snd_int (sa_cons snd_int sa_nil)))) sa_nil))) sa_nil)) sa_nil)))) sa_nil)))
    (sb_cons (ss_expr (snd_mt sm_append PySem.F.slot_list_append PySem.F.type_list_append (snd_var 0 rfl (by first | exact .inl rfl | exact .inr (.inl rfl) | exact .inr (.inr rfl))) (sa_cons (snd_tup (sa_cons (snd_lamM TB rfl rfl (id := 10) (by rfl) rfl (fun _ => rfl) (by decide)) (sa_cons (snd_lst (sa_cons (snd_lst (sa_cons (snd_tup (sa_cons (snd_lst (sa_cons snd_int (sa_cons snd_int sa_nil))) (sa_cons (snd_lst (sa_cons snd_int (sa_cons snd_int sa_nil))) sa_nil))) (sa_cons (snd_tup (sa_cons (snd_lst (sa_cons snd_int (sa_cons snd_int sa_nil))) (sa_cons (snd_lst (sa_cons snd_int (sa_cons snd_int sa_nil))) sa_nil))) sa_nil))) (sa_cons (snd_lst (sa_cons (snd_tup (sa_cons snd_int (sa_cons snd_int (sa_cons snd_int sa_nil)))) (sa_cons (snd_tup (sa_cons snd_int (sa_cons snd_int (sa_cons snd_int sa_nil)))) sa_nil))) sa_nil))) (sa_cons (snd_lst (sa_cons (snd_lst (sa_cons (snd_tup (sa_cons (snd_lst (sa_cons snd_int (sa_cons snd_int sa_nil))) (sa_cons (snd_lst (sa_cons snd_int (sa_cons snd_int sa_nil))) sa_nil))) (sa_cons (snd_tup (sa_cons (snd_lst (sa_cons snd_int (sa_cons snd_int sa_nil))) (sa_cons (snd_lst (sa_cons snd_int (sa_cons snd_int sa_nil))) sa_nil))) sa_nil))) (sa_cons (snd_lst (sa_cons (snd_tup (sa_cons snd_int (sa_cons snd_int (sa_cons snd_int sa_nil)))) (sa_cons (snd_tup (sa_cons snd_int (sa_cons snd_int (sa_cons snd_int sa_nil)))) sa_nil))) sa_nil))) sa_nil)))) sa_nil)))
    (sb_one (ss_ret (snd_var 0 rfl (by first | exact .inl rfl | exact .inr (.inl rfl) | exact .inr (.inr rfl)))))))))))))))))
theorem sc_z_law : FnScope ["_law_script", "_law_rows", "_law_begin", "_law_ask", "_law_first", "_law_second"] ["_law_script"] (defScope st_z_law) := ⟨rfl, rfl, rfl, by decide +kernel, rfl, by decide +kernel, by decide +kernel⟩
set_option maxHeartbeats 0 in
theorem ok_z_law {f : Addr} {fd : FuncData} (F : Fun K "law" "law" st_z_law f fd) (T : Txt K mg ct) (a_z_cell_at : FnAt P w K mg base ct "_law_cell_at" 1 2 f_z_cell_at) (a_z_door_right : FnAt P w K mg base ct "_law_door_right" 19 3 f_z_door_right) (a_z_rows_one : FnAt P w K mg base ct "_law_rows_one" 1 0 f_z_rows_one) :
    FnOk P w K mg base (L2.CX P w) 20 f fd ["_law_script"] (spOf ct 1 f_z_law) := by
  refine def_ok (k := 19) (Ns := ["_law_script", "_law_rows", "_law_begin", "_law_ask", "_law_first", "_law_second"]) F sc_z_law fun cdv A outer s H E hr => ?_
  have hu65 := units_65 hr
  have hu64 := units_64 hr
  have hu1 := units_1 hr
  have nd := sc_z_law.nd
  have tk : Takes (bodyX P w K mg base ["_law_script", "_law_rows", "_law_begin", "_law_ask", "_law_first", "_law_second"] "law" st_z_law f cdv A outer s H E) (fun cls d _ H => E cls d H) := takes_of rfl rfl rfl rfl
  have ps : PassesOwn (model P w) (bodyX P w K mg base ["_law_script", "_law_rows", "_law_begin", "_law_ask", "_law_first", "_law_second"] "law" st_z_law f cdv A outer s H E).A (bodyX P w K mg base ["_law_script", "_law_rows", "_law_begin", "_law_ask", "_law_first", "_law_second"] "law" st_z_law f cdv A outer s H E).env (bodyX P w K mg base ["_law_script", "_law_rows", "_law_begin", "_law_ask", "_law_first", "_law_second"] "law" st_z_law f cdv A outer s H E).xe := passes_of rfl
  unfold d_z_law
  exact (sb_cons (ss_set (snd_sl (snd_var 0 rfl (by first | exact .inl rfl | exact .inr (.inl rfl) | exact .inr (.inr rfl))) sp_none (sp_some snd_int)) nd rfl (by first | exact .inl rfl | exact .inr rfl))
    (sb_cons (ss_set (snd_call0 a_z_rows_one tk hr (by decide) (by rfl)) nd rfl (by first | exact .inl rfl | exact .inr rfl))
    (sb_cons (ss_set (snd_bin so_mod (snd_callB sc_abs (by rfl) T.n_abs bo_abs (sa_cons (snd_call a_z_cell_at tk hr (by decide) (by rfl) (sa_cons (snd_var 0 rfl (by first | exact .inl rfl | exact .inr (.inl rfl) | exact .inr (.inr rfl))) (sa_cons snd_int sa_nil)) rfl) sa_nil)) (snd_callB sc_len (by rfl) T.n_len bo_len (sa_cons (snd_var 1 rfl (by first | exact .inl rfl | exact .inr (.inl rfl) | exact .inr (.inr rfl))) sa_nil))) nd rfl (by first | exact .inl rfl | exact .inr rfl))
    (sb_cons (ss_for ps rfl (si_seq (snd_bin so_add (snd_sl (snd_var 1 rfl (by first | exact .inl rfl | exact .inr (.inl rfl) | exact .inr (.inr rfl))) (sp_some (snd_var 2 rfl (by first | exact .inl rfl | exact .inr (.inl rfl) | exact .inr (.inr rfl)))) sp_none) (snd_sl (snd_var 1 rfl (by first | exact .inl rfl | exact .inr (.inl rfl) | exact .inr (.inr rfl))) sp_none (sp_some (snd_var 2 rfl (by first | exact .inl rfl | exact .inr (.inl rfl) | exact .inr (.inr rfl))))))) (sg_tup rfl (sg_cons (sg_name nd rfl (by first | exact .inl rfl | exact .inr rfl)) (sg_cons (sg_name nd rfl (by first | exact .inl rfl | exact .inr rfl)) (sg_cons (sg_name nd rfl (by first | exact .inl rfl | exact .inr rfl)) sg_nil)))) (sb_cutT [0] (sb_one (ss_if (st_not (st_val (snd_call a_z_door_right tk hr (by decide) (by rfl) (sa_cons (snd_var 3 rfl (by first | exact .inl rfl | exact .inr (.inl rfl) | exact .inr (.inr rfl))) (sa_cons (snd_var 4 rfl (by first | exact .inl rfl | exact .inr (.inl rfl) | exact .inr (.inr rfl))) (sa_cons (snd_var 5 rfl (by first | exact .inl rfl | exact .inr (.inl rfl) | exact .inr (.inr rfl))) sa_nil))) rfl))) (sb_one (ss_ret snd_bl)) sb_nil))))
    (sb_one (ss_ret snd_bl))))))
end
end L2.VE.T
/-! VS1: how a reading is worked out. -/
namespace L2.VE
open PySem PySem.Spec PyProof.Rows
/-! ### what each combinator does -/
section
variable {d e : D} {S S1 : Store} {G G1 : Gm} {i n : Nat} {f fa fb fc ft : Ev} {g : Av} {o : Op2} {o1 : Op1} {k l : Int} {b c : Bool} {u v : Blk} {xs ys : List D}
@[simp] theorem eC_ap : eC d G S = .ok d S := rfl
theorem eVar_ap (h : G[i]? = some (some d)) : eVar i G S = .ok d S := by
  unfold eVar
  rw [h]
@[simp] theorem eVar_0 : eVar 0 (some d :: G) S = .ok d S := rfl
@[simp] theorem eVar_s {x : Option D} : eVar (n + 1) (x :: G) S = eVar n G S := by
  unfold eVar
  rw [List.getElem?_cons_succ]
@[simp] theorem eOp_ap : eOp o fa fb G S = (fa G S).bind fun x S1 => (fb G S1).bind fun y S2 => o x y S2 := rfl
@[simp] theorem eOp1_ap : eOp1 o1 f G S = (f G S).bind o1 := rfl
@[simp] theorem eIx_ap : eIx fa fb G S = (fa G S).bind fun x S1 => (fb G S1).bind fun y S2 => opIx x y S2 := rfl
@[simp] theorem eAnd_ap : eAnd fa fb G S = (fa G S).bind fun d S1 => match d with | .bl true => fb G S1 | .bl false => .ok (.bl false) S1 | _ => .stuck := rfl
@[simp] theorem eOr_ap : eOr fa fb G S = (fa G S).bind fun d S1 => match d with | .bl true => .ok (.bl true) S1 | .bl false => fb G S1 | _ => .stuck := rfl
@[simp] theorem eIf_ap : eIf ft fa fb G S = (ft G S).bind fun d S1 => match d with | .bl true => fa G S1 | .bl false => fb G S1 | _ => .stuck := rfl
@[simp] theorem eChain_ap {o o' : Op2} : eChain o o' fa fb fc G S = (fa G S).bind fun x S1 => (fb G S1).bind fun y S2 => (o x y S2).bind fun z S3 => match z with
  | .bl true => (fc G S3).bind fun w S4 => o' y w S4
  | .bl false => .ok (.bl false) S3
  | _ => .stuck := rfl
@[simp] theorem eaNil_ap : eaNil G S = .ok [] S := rfl
@[simp] theorem eaCons_ap : eaCons f g G S = match f G S with
  | .ok d S1 => (match g G S1 with
    | .ok ds S2 => .ok (d :: ds) S2
    | .xc c S2 => .xc c S2
    | .stuck => .stuck)
  | .xc c S1 => .xc c S1
  | .stuck => .stuck := rfl
@[simp] theorem eCall_ap {o : OpN} : eCall o g G S = (g G S).bind o := rfl
@[simp] theorem eTup_ap : eTup g G S = (g G S).bind fun ds S1 => if ds.length ≤ 100000 then .ok (.tup ds) S1 else .stuck := rfl
@[simp] theorem eLst_ap : eLst g G S = (g G S).bind fun ds S1 => if ds.length ≤ 100000 then .ok (.lst ds) S1 else .stuck := rfl
@[simp] theorem eLstM_ap : eLstM g G S = (g G S).bind fun ds S1 => if ds.length ≤ 100000 then .ok (.ref S1.length) (S1 ++ [.lst ds]) else .stuck := rfl
@[simp] theorem opAdd_int : opAdd (.int k) (.int l) S = .ok (.int (k + l)) S := rfl
@[simp] theorem opSub_int : opSub (.int k) (.int l) S = .ok (.int (k - l)) S := rfl
@[simp] theorem opMod_int : opMod (.int k) (.int l) S = if 0 < l then .ok (.int (k % l)) S else .stuck := rfl
@[simp] theorem opFdiv_int : opFdiv (.int k) (.int l) S = if 0 < l ∧ l.natAbs.log2 < 9000 then .ok (.int (k / l)) S else .stuck := rfl
@[simp] theorem opLt_int : opLt (.int k) (.int l) S = .ok (.bl (decide (k < l))) S := rfl
@[simp] theorem opLe_int : opLe (.int k) (.int l) S = .ok (.bl (decide (k ≤ l))) S := rfl
@[simp] theorem opGt_int : opGt (.int k) (.int l) S = .ok (.bl (decide (l < k))) S := rfl
@[simp] theorem opGe_int : opGe (.int k) (.int l) S = .ok (.bl (decide (l ≤ k))) S := rfl
@[simp] theorem opNot_bl : opNot (.bl b) S = .ok (.bl (!b)) S := rfl
@[simp] theorem opNeg_int : opNeg (.int k) S = .ok (.int (-k)) S := rfl
@[simp] theorem opIsT_int {T : String} : opIsT T (.int k) S = .ok (.bl (isB "int" T)) S := rfl
@[simp] theorem opIsT_tup {T : String} : opIsT T (.tup xs) S = .ok (.bl (isB "tuple" T)) S := rfl
@[simp] theorem opIsT_bl {T : String} : opIsT T (.bl b) S = .ok (.bl (isB "bool" T)) S := rfl
theorem isB_ii : isB "int" "int" = true := by decide
theorem isB_ib : isB "int" "bool" = false := by decide
theorem isB_bb : isB "bool" "bool" = true := by decide
theorem isB_tt : isB "tuple" "tuple" = true := by decide
theorem isB_ll : isB "list" "list" = true := by decide
theorem opIsT_ls {T : String} (h : lsOf S d = some xs) : opIsT T d S = .ok (.bl (isB "list" T)) S := by
  unfold lsOf at h
  split at h
  · rfl
  · rename_i n
    unfold opIsT
    split at h
    · rename_i ys e
      simp only [e]
    · cases h
  · cases h
@[simp] theorem bMax2_int : bMax2 [.int k, .int l] S = .ok (.int (if k < l then l else k)) S := rfl
@[simp] theorem bMin2_int : bMin2 [.int k, .int l] S = .ok (.int (if l < k then l else k)) S := rfl
theorem seqOf_ls (h : lsOf S d = some xs) : seqOf S d = some xs := by
  unfold lsOf at h
  unfold seqOf
  split at h
  · exact h
  · exact h
  · cases h
theorem bLen_ls (h : lsOf S d = some xs) : bLen [d] S = .ok (.int xs.length) S := by
  unfold bLen
  simp only [seqOf_ls h]
@[simp] theorem bLen_tup : bLen [.tup xs] S = .ok (.int xs.length) S := rfl
@[simp] theorem bLen_lst : bLen [.lst xs] S = .ok (.int xs.length) S := rfl
theorem bListM_ls (h : lsOf S d = some xs) : bListM [d] S = .ok (.ref S.length) (S ++ [.lst xs]) := by
  unfold bListM
  simp only [seqOf_ls h]
theorem bInts_ls {ns : List Int} {q : List Int → Store → ER} (h : lsOf S d = some (ns.map D.int)) : bInts q [d] S = q ns S := by
  unfold bInts
  simp only [h, intsOf_map]
theorem bBls_ls {ns : List Bool} {q : List Bool → Bool} (h : lsOf S d = some (ns.map D.bl)) : bBls q [d] S = .ok (.bl (q ns)) S := by
  unfold bBls
  simp only [h, blsOf_map]
@[simp] theorem lsOf_lst : lsOf S (.lst xs) = some xs := rfl
/-- the place of an int from the left -/
theorem atI_nat {j : Nat} {x : D} (h : xs[j]? = some x) : L2.atI xs (j : Int) = some x := by
  have hl : j < xs.length := (List.getElem?_eq_some_iff.mp h).1
  have e : ixN xs.length (j : Int) = some j := by
    unfold ixN
    rw [if_pos (by omega), if_pos (by omega)]
    simp
  unfold L2.atI
  rw [e]
  exact h
theorem opIx_ls {x : D} (h : lsOf S d = some xs) (hx : L2.atI xs k = some x) : opIx d (.int k) S = .ok x S := by
  unfold lsOf at h
  split at h
  · cases h
    unfold opIx
    simp only [hx]
  · rename_i n
    split at h
    · rename_i ys e
      cases h
      unfold opIx
      simp only [e, hx]
    · cases h
  · cases h
theorem opIx_tup {x : D} (hx : L2.atI xs k = some x) : opIx (.tup xs) (.int k) S = .ok x S := by
  unfold opIx
  simp only [hx]
@[simp] theorem opIx_tup0 {x : D} : opIx (.tup (x :: xs)) (.int 0) S = .ok x S := opIx_tup (atI_nat (j := 0) rfl)
@[simp] theorem opIx_tup1 {w x : D} : opIx (.tup (w :: x :: xs)) (.int 1) S = .ok x S := opIx_tup (atI_nat (j := 1) rfl)
@[simp] theorem opIx_tup2 {z w x : D} : opIx (.tup (z :: w :: x :: xs)) (.int 2) S = .ok x S := opIx_tup (atI_nat (j := 2) rfl)
/-! statements -/
@[simp] theorem bNil_ap : bNil G S = .nx G S := rfl
@[simp] theorem bCons_ap : bCons u v G S = match u G S with | .nx G1 S1 => v G1 S1 | o => o := rfl
@[simp] theorem sRet_ap : sRet f G S = toOut (f G S) G fun d S1 => .rt d S1 := rfl
@[simp] theorem sExpr_ap : sExpr f G S = toOut (f G S) G fun _ S1 => .nx G S1 := rfl
@[simp] theorem sIf_ap : sIf ft u v G S = toOut (ft G S) G fun d S1 => match d with | .bl true => u G S1 | .bl false => v G S1 | _ => .stuck := rfl
@[simp] theorem sAsg_nm : sAsg (.nm i) f G S = toOut (f G S) G fun d S1 => .nx (G.set i (some d)) S1 := by
  unfold sAsg
  simp only [tgD]
@[simp] theorem sAsg_tup {ts : List Tg} : sAsg (.tup ts) f G S = toOut (f G S) G fun d S1 => match tgD (.tup ts) d G with | some G1 => .nx G1 S1 | none => .stuck := rfl
@[simp] theorem sPar_ap {is : List Nat} : sPar is g G S = toOutA (g G S) G fun ds S1 => match tgDs (is.map .nm) ds G with | some G1 => .nx G1 S1 | none => .stuck := rfl
@[simp] theorem tgD_nm : tgD (.nm i) d G = some (G.set i (some d)) := by rw [tgD]
@[simp] theorem tgD_tup {ts : List Tg} : tgD (.tup ts) (.tup xs) G = tgDs ts xs G := by rw [tgD]
@[simp] theorem tgDs_nil : tgDs [] [] G = some G := by rw [tgDs]
@[simp] theorem tgDs_cons {t : Tg} {ts : List Tg} : tgDs (t :: ts) (d :: xs) G = match tgD t d G with | some G1 => tgDs ts xs G1 | none => none := by
  rw [tgDs] <;> cases tgD t d G <;> rfl
@[simp] theorem sRaise_ap : sRaise n G S = .xc n G S := rfl
end

/-! ### stores that grow -/
theorem getElem?_grow {S T : Store} {n : Nat} {c : Cell} (h : S[n]? = some c) : (S ++ T)[n]? = some c := by
  rw [List.getElem?_append_left (List.getElem?_eq_some_iff.mp h).1]
  exact h
theorem lsOf_grow {S : Store} (T : Store) {d : D} {xs : List D} (h : lsOf S d = some xs) : lsOf (S ++ T) d = some xs := by
  unfold lsOf at h ⊢
  split at h
  · exact h
  · rename_i n
    split at h
    · rename_i ys e
      simp only [getElem?_grow e]
      exact h
    · cases h
  · cases h
/-! ### walks -/
/-- what is walked: the items, whatever the store that grew -/
structure Wk (fi : IR) (xs : List D) (S : Store) (P : Store → Prop) : Prop where
  mk ::
  w : ∃ item fin, fi = .ok xs.length item fin S ∧ ∀ S', P S' → (∀ i x, xs[i]? = some x → item i S' = some x) ∧ fin S' = true
theorem wk_lst {S : Store} {P : Store → Prop} {xs : List D} {f : Ev} {G : Gm} {S0 : Store} (h : f G S0 = .ok (.lst xs) S) : Wk (iSeq f G S0) xs S P := ⟨_, _, by unfold iSeq; rw [h]; rfl, fun S' _ => ⟨fun i x hx => hx, rfl⟩⟩
theorem wk_tup {S : Store} {P : Store → Prop} {xs : List D} {f : Ev} {G : Gm} {S0 : Store} (h : f G S0 = .ok (.tup xs) S) : Wk (iSeq f G S0) xs S P := ⟨_, _, by unfold iSeq; rw [h]; rfl, fun S' _ => ⟨fun i x hx => hx, rfl⟩⟩
theorem wk_ls {S : Store} {d : D} {P : Store → Prop} {xs : List D} {f : Ev} {G : Gm} {S0 : Store} (h : f G S0 = .ok d S) (hl : lsOf S d = some xs) (hP : ∀ S', P S' → lsOf S' d = some xs) : Wk (iSeq f G S0) xs S P := by
  unfold lsOf at hl
  split at hl
  · cases hl
    exact wk_lst h
  · rename_i n
    split at hl
    · rename_i ys e
      cases hl
      refine ⟨itemC n xs.length, finC n xs.length, ?_, fun S' hS => ?_⟩
      · unfold iSeq seqI
        rw [h]
        dsimp only
        rw [e]
      · have q := hP S' hS
        unfold lsOf at q
        dsimp only at q
        split at q
        · rename_i zs e2
          cases q
          refine ⟨fun i x hx => ?_, ?_⟩
          · unfold itemC
            rw [e2]
            dsimp only
            rw [if_pos rfl]
            exact hx
          · unfold finC
            rw [e2]
            exact decide_eq_true rfl
        · cases q
    · cases hl
  · cases hl
theorem wk_range1 {S S0 : Store} {P : Store → Prop} {g : Av} {G : Gm} {n : Nat} (h : g G S0 = .ok [.int n] S) (hn : n ≤ 1000000) : Wk (iArgs rangeI g G S0) ((List.range n).map fun i => D.int (i : Nat)) S P := by
  refine ⟨fun i _ => some (.int i), fun _ => true, ?_, fun S' _ => ⟨fun i x hx => ?_, rfl⟩⟩
  · unfold iArgs
    rw [h]
    unfold rangeI
    dsimp only
    rw [if_pos (by omega)]
    simp
  · rw [List.getElem?_map] at hx
    cases e : (List.range n)[i]? with
    | none =>
      rw [e] at hx
      cases hx
    | some j =>
      rw [e] at hx
      have := List.getElem?_range (n := n) (i := i) (by
        have := (List.getElem?_eq_some_iff.mp e).1
        simpa using this)
      rw [this] at e
      cases e
      exact hx
def enumD (xs : List D) : List D := (List.range xs.length).zipWith (fun i x => D.tup [.int (i : Nat), x]) xs
def zipD (xs ys : List D) : List D := xs.zipWith (fun x y => D.tup [x, y]) ys
/-- the rule of a for -/
theorem forD_rule {fi : IR} {xs : List D} {S0 : Store} {P : Store → Prop} (w : Wk fi xs S0 P) {t : Tg} {kill : List Nat} {u : Blk} {Gx : Gm} (I : Nat → Gm → Store → Prop) (R : Out → Prop) (h0 : I 0 Gx S0)
    (hp : ∀ i G S, I i G S → P S)
    (step : ∀ i x G S, xs[i]? = some x → I i G S → ∃ G1, tgD t x G = some G1 ∧ (match u G1 S with
      | .nx G2 S2 => I (i + 1) (wipeG G2 kill) S2
      | .ct G2 S2 => I (i + 1) (wipeG G2 kill) S2
      | .bk G2 S2 => R (.nx (wipeG G2 kill) S2)
      | o => R o))
    (last : ∀ G S, I xs.length G S → R (.nx G S)) {fI : Iv} {S1 : Store} (e : fI Gx S1 = fi) : R (sFor fI t kill u Gx S1) := by
  obtain ⟨item, fin, rfl, hw⟩ := w.w
  unfold sFor
  rw [e]
  dsimp only
  have go : ∀ r i G S, r = xs.length - i → i ≤ xs.length → I i G S → R (forD item fin t kill u r i G S) := by
    intro r
    induction r with
    | zero =>
      intro i G S hr hi hI
      have ei : i = xs.length := by omega
      subst ei
      unfold forD
      rw [if_pos (hw S (hp _ _ _ hI)).2]
      exact last G S hI
    | succ r ih =>
      intro i G S hr hi hI
      have hl : i < xs.length := by omega
      obtain ⟨G1, e1, h1⟩ := step i xs[i] G S (List.getElem?_eq_getElem hl) hI
      unfold forD
      rw [(hw S (hp _ _ _ hI)).1 i _ (List.getElem?_eq_getElem hl)]
      dsimp only
      rw [e1]
      dsimp only
      cases e2 : u G1 S with
      | nx G2 S2 =>
        rw [e2] at h1
        exact ih (i + 1) _ _ (by omega) (by omega) h1
      | ct G2 S2 =>
        rw [e2] at h1
        exact ih (i + 1) _ _ (by omega) (by omega) h1
      | bk G2 S2 =>
        rw [e2] at h1
        exact h1
      | rt d S2 =>
        rw [e2] at h1
        exact h1
      | xc c G2 S2 =>
        rw [e2] at h1
        exact h1
      | stuck =>
        rw [e2] at h1
        exact h1
  exact go xs.length 0 Gx S0 (by omega) (by omega) h0
/-- a comprehension of nothing but looking -/
theorem eLc_on {τ : Type} {fi : Iv} {ts : List τ} {r : τ → D} {S0 S1 : Store} {G : Gm} {vs : List Nat} {t : Tg} {ft fe : Ev} (w : Wk (fi G S1) (ts.map r) S0 (fun S => S = S0)) (hv : tgIn vs t = true) (p : τ → Bool) (g : τ → D) (hz : ts.length ≤ 100000)
    (step : ∀ (i : Nat) (x : τ), ts[i]? = some x → ∃ G1, tgD t (r x) (wipeG G vs) = some G1 ∧ ft G1 S0 = .ok (.bl (p x)) S0 ∧ (p x = true → fe G1 S0 = .ok (g x) S0)) : eLc fi vs t ft fe G S1 = .ok (.lst ((ts.filter p).map g)) S0 := by
  obtain ⟨item, fin, e, hw⟩ := w.w
  unfold eLc
  rw [e]
  dsimp only
  rw [if_pos hv, List.length_map]
  have go : ∀ n i acc, n = ts.length - i → i ≤ ts.length → acc = ((ts.take i).filter p).map g → compD item fin t ft fe (wipeG G vs) n i S0 acc = .ok (.lst ((ts.filter p).map g)) S0 := by
    intro n
    induction n with
    | zero =>
      intro i acc hr hi ha
      have ei : i = ts.length := by omega
      subst ei
      unfold compD
      rw [if_pos (hw S0 rfl).2, ha, List.take_length]
    | succ n ih =>
      intro i acc hr hi ha
      have hl : i < ts.length := by omega
      have hx : ts[i]? = some ts[i] := List.getElem?_eq_getElem hl
      obtain ⟨G1, e1, e2, e3⟩ := step i ts[i] hx
      unfold compD
      rw [(hw S0 rfl).1 i (r ts[i]) (by rw [List.getElem?_map, hx]; rfl)]
      dsimp only
      rw [e1]
      dsimp only
      rw [e2]
      have et : ts.take (i + 1) = ts.take i ++ [ts[i]] := by rw [List.take_add_one, hx]; rfl
      cases ep : p ts[i] with
      | true =>
        dsimp only
        rw [e3 ep]
        dsimp only
        have hlen : acc.length < 100000 := by
          rw [ha, List.length_map]
          have := List.length_filter_le p (ts.take i)
          rw [List.length_take] at this
          omega
        rw [if_pos hlen]
        refine ih (i + 1) _ (by omega) (by omega) ?_
        rw [ha, et, List.filter_append, List.map_append]
        simp [ep]
      | false =>
        dsimp only
        refine ih (i + 1) _ (by omega) (by omega) ?_
        rw [ha, et, List.filter_append, List.map_append]
        simp [ep]
  exact go ts.length 0 [] (by omega) (by omega) (by simp)
theorem eLc_map {τ : Type} {fi : Iv} {ts : List τ} {r : τ → D} {S0 S1 : Store} {G : Gm} {vs : List Nat} {t : Tg} {fe : Ev} (w : Wk (fi G S1) (ts.map r) S0 (fun S => S = S0)) (hv : tgIn vs t = true) (g : τ → D) (hz : ts.length ≤ 100000)
    (step : ∀ (i : Nat) (x : τ), ts[i]? = some x → ∃ G1, tgD t (r x) (wipeG G vs) = some G1 ∧ fe G1 S0 = .ok (g x) S0) : eLc fi vs t (eC (.bl true)) fe G S1 = .ok (.lst (ts.map g)) S0 := by
  have q := eLc_on (ft := eC (.bl true)) w hv (fun _ => true) g hz fun i x hx => let ⟨G1, a, b⟩ := step i x hx; ⟨G1, a, rfl, fun _ => b⟩
  rw [q, List.filter_eq_self.mpr (fun _ _ => rfl)]
end L2.VE
/-! VS2: enumerate and zip, cells that change. -/
namespace L2.VE
open PySem PySem.Spec PyProof.Rows
/-- a list, by its items, at stores of P -/
theorem seqI_ls {S : Store} {d : D} {P : Store → Prop} {xs : List D} (hl : lsOf S d = some xs) (hP : ∀ S', P S' → lsOf S' d = some xs) :
    ∃ item fin, (∀ k : Nat → (Nat → Store → Option D) → (Store → Bool) → IR, seqI d S k = k xs.length item fin) ∧ (∀ S', P S' → (∀ i x, xs[i]? = some x → item i S' = some x) ∧ fin S' = true) ∧ ∀ ds, d ≠ .tup ds := by
  unfold lsOf at hl
  split at hl
  · cases hl
    exact ⟨_, _, fun k => rfl, fun S' _ => ⟨fun i x hx => hx, rfl⟩, fun ds z => by cases z⟩
  · rename_i n
    split at hl
    · rename_i ys e
      cases hl
      refine ⟨itemC n xs.length, finC n xs.length, fun k => ?_, fun S' hS => ?_, fun ds z => by cases z⟩
      · unfold seqI
        dsimp only
        rw [e]
      · have q := hP S' hS
        unfold lsOf at q
        dsimp only at q
        split at q
        · rename_i zs e2
          cases q
          refine ⟨fun i x hx => ?_, ?_⟩
          · unfold itemC
            rw [e2]
            dsimp only
            rw [if_pos rfl]
            exact hx
          · unfold finC
            rw [e2]
            exact decide_eq_true rfl
        · cases q
    · cases hl
  · cases hl
def enumT {τ : Type} (ts : List τ) : List (Nat × τ) := (List.range ts.length).zip ts
theorem enumT_get {τ : Type} {ts : List τ} {i : Nat} {p : Nat × τ} (h : (enumT ts)[i]? = some p) : p.1 = i ∧ ts[i]? = some p.2 := by
  unfold enumT at h
  rw [List.getElem?_zip_eq_some] at h
  obtain ⟨h1, h2⟩ := h
  have hl : i < ts.length := (List.getElem?_eq_some_iff.mp h2).1
  rw [List.getElem?_range hl] at h1
  exact ⟨(Option.some.inj h1).symm, h2⟩
theorem enumT_at {τ : Type} {ts : List τ} {i : Nat} {t : τ} (h : ts[i]? = some t) : (enumT ts)[i]? = some (i, t) := by
  unfold enumT
  rw [List.getElem?_zip_eq_some]
  have hl : i < ts.length := (List.getElem?_eq_some_iff.mp h).1
  exact ⟨List.getElem?_range hl, h⟩
theorem enumT_length {τ : Type} (ts : List τ) : (enumT ts).length = ts.length := by
  unfold enumT
  simp
theorem wk_enum {τ : Type} {ts : List τ} {r : τ → D} {S S0 : Store} {d : D} {P : Store → Prop} {g : Av} {G : Gm} (h : g G S0 = .ok [d] S) (hl : lsOf S d = some (ts.map r)) (hP : ∀ S', P S' → lsOf S' d = some (ts.map r)) :
    Wk (iArgs enumI g G S0) ((enumT ts).map fun p => D.tup [.int (p.1 : Nat), r p.2]) S P := by
  obtain ⟨item, fin, e1, e2, e3⟩ := seqI_ls hl hP
  have eN : ((enumT ts).map fun p => D.tup [.int (p.1 : Nat), r p.2]).length = (ts.map r).length := by rw [List.length_map, List.length_map, enumT_length]
  have eI : enumI [d] S = seqI d S fun n it fin => .ok n (fun i S => match it i S with | some x => some (.tup [.int i, x]) | none => none) fin S := by
    unfold enumI
    split
    · rename_i z
      injection z with z1 z2
      exact absurd z1 (e3 _)
    · rename_i z
      injection z with z1 z2
      subst z1
      rfl
    · rename_i _ z
      exact absurd rfl (z d)
  refine ⟨fun i S => (match item i S with | some x => some (.tup [.int (i : Nat), x]) | none => none), fin, ?_, fun S' hS => ⟨fun i x hx => ?_, (e2 S' hS).2⟩⟩
  · unfold iArgs
    rw [h]
    dsimp only
    rw [eI, e1, eN]
    all_goals rfl
  · rw [List.getElem?_map] at hx
    cases e : (enumT ts)[i]? with
    | none =>
      rw [e] at hx
      cases hx
    | some p =>
      rw [e] at hx
      obtain ⟨q1, q2⟩ := enumT_get e
      cases hx
      have := (e2 S' hS).1 i (r p.2) (by rw [List.getElem?_map, q2]; rfl)
      dsimp only
      rw [this, q1]
theorem wk_zip {τ υ : Type} {ts : List τ} {us : List υ} {r : τ → D} {q : υ → D} {S S0 : Store} {d e : D} {P : Store → Prop} {g : Av} {G : Gm} (h : g G S0 = .ok [d, e] S) (hd : lsOf S d = some (ts.map r)) (he : lsOf S e = some (us.map q))
    (hP : ∀ S', P S' → lsOf S' d = some (ts.map r) ∧ lsOf S' e = some (us.map q)) : Wk (iArgs zipI g G S0) ((ts.zip us).map fun p => D.tup [r p.1, q p.2]) S P := by
  obtain ⟨item, fin, e1, e2, e3⟩ := seqI_ls hd fun S' z => (hP S' z).1
  obtain ⟨item', fin', e1', e2', e3'⟩ := seqI_ls he fun S' z => (hP S' z).2
  have eN : ((ts.zip us).map fun p => D.tup [r p.1, q p.2]).length = min (ts.map r).length (us.map q).length := by simp
  have ez : zipI [d, e] S = seqI d S fun n it fin => seqI e S fun n' it' fin' => .ok (min n n') (fun i S => match it i S, it' i S with | some x, some y => some (.tup [x, y]) | _, _ => none) (fun S => fin S && fin' S) S := by
    unfold zipI
    split
    · rename_i z
      injection z with z1 z2
      exact absurd z1 (e3 _)
    · rename_i z
      injection z with z1 z2
      injection z2 with z2 z3
      exact absurd z2 (e3' _)
    · rename_i z
      injection z with z1 z2
      injection z2 with z2 z3
      subst z1 z2
      rfl
    · rename_i _ _ z
      exact absurd rfl (z d e)
  refine ⟨fun i S => (match item i S, item' i S with | some x, some y => some (.tup [x, y]) | _, _ => none), fun S => fin S && fin' S, ?_, fun S' hS => ⟨fun i x hx => ?_, ?_⟩⟩
  · unfold iArgs
    rw [h]
    dsimp only
    rw [ez, e1, e1', eN]
    all_goals rfl
  · rw [List.getElem?_map] at hx
    cases ee : (ts.zip us)[i]? with
    | none =>
      rw [ee] at hx
      cases hx
    | some p =>
      rw [ee] at hx
      rw [List.getElem?_zip_eq_some] at ee
      cases hx
      have h1 := (e2 S' hS).1 i (r p.1) (by rw [List.getElem?_map, ee.1]; rfl)
      have h2 := (e2' S' hS).1 i (q p.2) (by rw [List.getElem?_map, ee.2]; rfl)
      dsimp only
      rw [h1, h2]
  · dsimp only
    rw [(e2 S' hS).2, (e2' S' hS).2]
    rfl
end L2.VE
/-! VS3: what stands there as data; lists of cells. -/
namespace L2.VE
open PySem PySem.Spec PyProof.Rows PySem.SeqAt PySem.W
/-- a gift -/
structure Gf where
  g : Int
  k : Int
  t : Int
  deriving DecidableEq
def gD (x : Gf) : D := .tup [.int x.g, .int x.k, .int x.t]
instance : Datum Gf where
  toD x := .tuple [.int x.g, .int x.k, .int x.t]
  plain _ := rfl
  eqv a b := by
    obtain ⟨a1, a2, a3⟩ := a
    obtain ⟨b1, b2, b3⟩ := b
    simp only [PyData.eqv, PyData.eqvAll, Bool.and_true, Gf.mk.injEq]
    simp only [beq_decide]
    by_cases h1 : a1 = b1 <;> by_cases h2 : a2 = b2 <;> by_cases h3 : a3 = b3 <;> simp [h1, h2, h3]
  depth := 1
  depth_le _ := by simp [PyData.depth, PyData.depthAll]
section
variable {S T : Store} {d e : D} {ns : List Int} {n : Nat}
variable {α β : Type} [DecidableEq α] [DecidableEq β] [Datum α] [Datum β]
theorem pyL_map {τ : Type} {f : D → Option PyData} {ts : List τ} {r : τ → D} {q : τ → PyData} (h : ∀ t ∈ ts, f (r t) = some (q t)) : pyL f (ts.map r) = some (ts.map q) := by
  induction ts with
  | nil => rfl
  | cons t ts ih =>
    rw [List.map_cons, pyL, h t List.mem_cons_self, ih fun x hx => h x (List.mem_cons_of_mem _ hx)]
    rfl
theorem pyD_int {k : Int} : pyD S n (.int k) = some (Datum.toD k) := by
  cases n <;> rfl
theorem pyD_bl {b : Bool} : pyD S n (.bl b) = some (Datum.toD b) := by
  cases n <;> rfl
theorem pyD_gf {x : Gf} : pyD S (n + 1) (gD x) = some (Datum.toD x) := by
  unfold gD
  rw [pyD]
  simp only [pyL, pyD_int]
  rfl
/-- a list as data -/
theorem pyD_ls {xs : List D} {ps : List PyData} (h : lsOf S d = some xs) (hp : pyL (pyD S n) xs = some ps) : pyD S (n + 1) d = some (.list ps) := by
  unfold lsOf at h
  split at h
  · cases h
    rw [pyD, hp]
  · rename_i k
    split at h
    · rename_i ys e
      cases h
      rw [pyD, e]
      dsimp only
      rw [hp]
    · cases h
  · cases h
theorem pyD_list {ts : List α} {r : α → D} (h : lsOf S d = some (ts.map r)) (hr : ∀ t ∈ ts, pyD S n (r t) = some (Datum.toD t)) : pyD S (n + 1) d = some (Datum.toD ts) := pyD_ls h (pyL_map hr)
theorem pyD_ints (h : lsOf S d = some (ns.map D.int)) : pyD S (n + 1) d = some (Datum.toD ns) := pyD_list h fun _ _ => pyD_int
theorem pyD_gfs {gs : List Gf} (h : lsOf S d = some (gs.map gD)) : pyD S (n + 2) d = some (Datum.toD gs) := pyD_list h fun _ _ => pyD_gf
theorem pyD_pair {a b : D} {x : α} {y : β} (h1 : pyD S n a = some (Datum.toD x)) (h2 : pyD S n b = some (Datum.toD y)) : pyD S (n + 1) (.tup [a, b]) = some (Datum.toD (x, y)) := by
  rw [pyD]
  simp only [pyL, h1, h2]
  rfl
theorem opEq_data {neg : Bool} {x y : α} (h1 : pyD S 8 d = some (Datum.toD x)) (h2 : pyD S 8 e = some (Datum.toD y)) : opEq neg d e S = .ok (.bl (if neg then !decide (x = y) else decide (x = y))) S := by
  unfold opEq
  rw [h1, h2]
  dsimp only
  rw [Datum.eqv]
theorem opIn_ls {neg : Bool} {xs : List D} {ps : List PyData} {p : PyData} (h : lsOf S e = some xs) (h1 : pyD S 8 d = some p) (h2 : pyL (pyD S 8) xs = some ps) : opIn neg d e S = .ok (.bl (if neg then !(ps.any fun z => PyData.eqv z p) else ps.any fun z => PyData.eqv z p)) S := by
  unfold lsOf at h
  split at h
  · cases h
    unfold opIn
    dsimp only
    rw [h1, h2]
  · rename_i k
    split at h
    · rename_i ys e0
      cases h
      unfold opIn
      dsimp only
      rw [e0]
      dsimp only
      rw [h1, h2]
    · cases h
  · cases h
theorem any_data {ts : List α} {x : α} : (ts.map Datum.toD).any (fun z => PyData.eqv z (Datum.toD x)) = decide (x ∈ ts) := by
  induction ts with
  | nil => simp
  | cons t ts ih =>
    rw [List.map_cons, List.any_cons, ih, Datum.eqv]
    by_cases h : t = x
    · subst h
      simp
    · have h' : ¬ x = t := fun z => h z.symm
      simp [h, h']
theorem opIn_data {neg : Bool} {ts : List α} {r : α → D} {x : α} (h : lsOf S e = some (ts.map r)) (h1 : pyD S 8 d = some (Datum.toD x)) (hr : ∀ t ∈ ts, pyD S 8 (r t) = some (Datum.toD t)) : opIn neg d e S = .ok (.bl (if neg then !decide (x ∈ ts) else decide (x ∈ ts))) S := by
  rw [opIn_ls h h1 (pyL_map hr), any_data]
theorem opIn_ints {neg : Bool} {k : Int} (h : lsOf S e = some (ns.map D.int)) : opIn neg (.int k) e S = .ok (.bl (if neg then !decide (k ∈ ns) else decide (k ∈ ns))) S := opIn_data h pyD_int fun _ _ => pyD_int
end
end L2.VE
/-! VS4: albums as they stand, copied, changed by place. -/
namespace L2.VE
open PySem PySem.Spec PyProof.Rows PySem.SeqAt PySem.W
abbrev Alb := List (List Int × List Int)
def RI (S : Store) (d : D) (ns : List Int) : Prop := lsOf S d = some (ns.map D.int)
def RPair (S : Store) (x : D) (p : List Int × List Int) : Prop := ∃ a b, x = .tup [a, b] ∧ RI S a p.1 ∧ RI S b p.2
def RAlb (S : Store) (d : D) (A : Alb) : Prop := ∃ xs, lsOf S d = some xs ∧ xs.length = A.length ∧ ∀ (i : Nat) (p : List Int × List Int), A[i]? = some p → ∃ x, xs[i]? = some x ∧ RPair S x p
section
variable {S T : Store} {d e : D} {ns : List Int} {A B : Alb} {p : List Int × List Int}
theorem RI.grow (h : RI S d ns) : RI (S ++ T) d ns := lsOf_grow T h
theorem RPair.grow (h : RPair S d p) : RPair (S ++ T) d p := let ⟨a, b, e, h1, h2⟩ := h; ⟨a, b, e, h1.grow, h2.grow⟩
theorem RAlb.grow (h : RAlb S d A) : RAlb (S ++ T) d A := by
  obtain ⟨xs, h1, h2, h3⟩ := h
  exact ⟨xs, lsOf_grow T h1, h2, fun i p hp => let ⟨x, a, b⟩ := h3 i p hp; ⟨x, a, b.grow⟩⟩
theorem RI.ix (h : RI S d ns) {j : Nat} {v : Int} (hv : ns[j]? = some v) : opIx d (.int (j : Nat)) S = .ok (.int v) S := opIx_ls h (atI_nat (by rw [List.getElem?_map, hv]; rfl))
theorem RI.len (h : RI S d ns) : bLen [d] S = .ok (.int ns.length) S := by
  rw [bLen_ls h, List.length_map]
theorem RAlb.len (h : RAlb S d A) : bLen [d] S = .ok (.int A.length) S := by
  obtain ⟨xs, h1, h2, h3⟩ := h
  rw [bLen_ls h1, h2]
theorem RAlb.ix (h : RAlb S d A) {i : Nat} (hp : A[i]? = some p) : ∃ a b, opIx d (.int (i : Nat)) S = .ok (.tup [a, b]) S ∧ RI S a p.1 ∧ RI S b p.2 := by
  obtain ⟨xs, h1, h2, h3⟩ := h
  obtain ⟨x, hx, a, b, rfl, r1, r2⟩ := h3 i p hp
  exact ⟨a, b, opIx_ls h1 (atI_nat hx), r1, r2⟩
/-- the albums, one by one -/
theorem RAlb.list (h : RAlb S d A) : ∃ ts : List (D × D × (List Int × List Int)), lsOf S d = some (ts.map fun t => D.tup [t.1, t.2.1]) ∧ ts.map (·.2.2) = A ∧ ∀ t ∈ ts, RI S t.1 t.2.2.1 ∧ RI S t.2.1 t.2.2.2 := by
  obtain ⟨xs, h1, h2, h3⟩ := h
  have key : ∀ (xs : List D) (A : Alb), xs.length = A.length → (∀ (i : Nat) (p : List Int × List Int), A[i]? = some p → ∃ x, xs[i]? = some x ∧ RPair S x p) →
      ∃ ts : List (D × D × (List Int × List Int)), xs = ts.map (fun t => D.tup [t.1, t.2.1]) ∧ ts.map (·.2.2) = A ∧ ∀ t ∈ ts, RI S t.1 t.2.2.1 ∧ RI S t.2.1 t.2.2.2 := by
    intro xs
    induction xs with
    | nil =>
      intro A hl _
      cases A with
      | nil => exact ⟨[], rfl, rfl, fun t ht => by cases ht⟩
      | cons p A => simp at hl
    | cons x xs ih =>
      intro A hl hA
      cases A with
      | nil => simp at hl
      | cons p A =>
        obtain ⟨x', hx, a, b, e, r1, r2⟩ := hA 0 p rfl
        simp at hx
        subst hx
        obtain ⟨ts, q1, q2, q3⟩ := ih A (by simpa using hl) fun i p hp => by simpa using hA (i + 1) p (by simpa using hp)
        refine ⟨(a, b, p) :: ts, by rw [List.map_cons, ← q1, e], by rw [List.map_cons, q2], fun t ht => ?_⟩
        rcases List.mem_cons.mp ht with e2 | ht
        · subst e2
          exact ⟨r1, r2⟩
        · exact q3 t ht
  obtain ⟨ts, q1, q2, q3⟩ := key xs A h2 h3
  exact ⟨ts, by rw [h1, q1], q2, q3⟩
theorem RAlb.data (h : RAlb S d A) {n : Nat} : pyD S (n + 3) d = some (Datum.toD A) := by
  obtain ⟨ts, t1, t2, t3⟩ := h.list
  have q := pyD_ls (n := n + 2) t1 (pyL_map (q := fun t => Datum.toD t.2.2) fun t ht => pyD_pair (pyD_ints (t3 t ht).1) (pyD_ints (t3 t ht).2))
  rw [q, ← t2]
  show _ = some (PyData.list ((ts.map (·.2.2)).map Datum.toD))
  rw [List.map_map]
  rfl
/-! ### fresh lists of ints, two for each album -/
def cellsA (A : Alb) : Store := A.flatMap fun p => [.lst (p.1.map D.int), .lst (p.2.map D.int)]
def refsA (n m : Nat) : List D := (List.range m).map fun i => .tup [.ref (n + 2 * i), .ref (n + 2 * i + 1)]
theorem cellsA_nil : cellsA [] = [] := rfl
theorem cellsA_cons : cellsA (p :: A) = .lst (p.1.map D.int) :: .lst (p.2.map D.int) :: cellsA A := rfl
theorem cellsA_length : ∀ A : Alb, (cellsA A).length = 2 * A.length
  | [] => rfl
  | p :: A => by
    rw [cellsA_cons, List.length_cons, List.length_cons, List.length_cons, cellsA_length A]
    omega
theorem cellsA_append : ∀ A B : Alb, cellsA (A ++ B) = cellsA A ++ cellsA B
  | [], B => rfl
  | p :: A, B => by
    rw [List.cons_append, cellsA_cons, cellsA_cons, cellsA_append A B]
    rfl
theorem cellsA_get1 : ∀ {A : Alb} {i : Nat} {p : List Int × List Int}, A[i]? = some p → (cellsA A)[2 * i]? = some (.lst (p.1.map D.int))
  | [], _, _, h => by simp at h
  | q :: A, 0, p, h => by
    simp at h
    subst h
    rfl
  | q :: A, i + 1, p, h => by
    rw [cellsA_cons, show 2 * (i + 1) = 2 * i + 1 + 1 by omega, List.getElem?_cons_succ, List.getElem?_cons_succ]
    exact cellsA_get1 (by simpa using h)
theorem cellsA_get2 : ∀ {A : Alb} {i : Nat} {p : List Int × List Int}, A[i]? = some p → (cellsA A)[2 * i + 1]? = some (.lst (p.2.map D.int))
  | [], _, _, h => by simp at h
  | q :: A, 0, p, h => by
    simp at h
    subst h
    rfl
  | q :: A, i + 1, p, h => by
    rw [cellsA_cons, show 2 * (i + 1) + 1 = 2 * i + 1 + 1 + 1 by omega, List.getElem?_cons_succ, List.getElem?_cons_succ]
    exact cellsA_get2 (by simpa using h)
theorem cellsA_set1 : ∀ {A : Alb} {i : Nat} {p : List Int × List Int}, A[i]? = some p → (cellsA A).set (2 * i) (.lst (ns.map D.int)) = cellsA (A.set i (ns, p.2))
  | [], _, _, h => by simp at h
  | q :: A, 0, p, h => by
    simp at h
    subst h
    rfl
  | q :: A, i + 1, p, h => by
    rw [cellsA_cons, show 2 * (i + 1) = 2 * i + 1 + 1 by omega, List.set_cons_succ, List.set_cons_succ, List.set_cons_succ, cellsA_cons, cellsA_set1 (by simpa using h)]
theorem cellsA_set2 : ∀ {A : Alb} {i : Nat} {p : List Int × List Int}, A[i]? = some p → (cellsA A).set (2 * i + 1) (.lst (ns.map D.int)) = cellsA (A.set i (p.1, ns))
  | [], _, _, h => by simp at h
  | q :: A, 0, p, h => by
    simp at h
    subst h
    rfl
  | q :: A, i + 1, p, h => by
    rw [cellsA_cons, show 2 * (i + 1) + 1 = 2 * i + 1 + 1 + 1 by omega, List.set_cons_succ, List.set_cons_succ, List.set_cons_succ, cellsA_cons, cellsA_set2 (by simpa using h)]
theorem getElem?_mid {U : Store} {n : Nat} {c : Cell} (h : U[n]? = some c) : (S ++ U ++ T)[S.length + n]? = some c := by
  rw [List.append_assoc, List.getElem?_append_right (Nat.le_add_right _ _), Nat.add_sub_cancel_left]
  exact getElem?_grow h
theorem refsA_get {n m i : Nat} (h : i < m) : (refsA n m)[i]? = some (.tup [.ref (n + 2 * i), .ref (n + 2 * i + 1)]) := by
  unfold refsA
  rw [List.getElem?_map, List.getElem?_range h]
  rfl
theorem refsA_length {n m : Nat} : (refsA n m).length = m := by
  unfold refsA
  simp
theorem ralb_cells (h : lsOf (S ++ cellsA A ++ T) d = some (refsA S.length A.length)) : RAlb (S ++ cellsA A ++ T) d A := by
  refine ⟨_, h, refsA_length, fun i p hp => ⟨_, refsA_get (List.getElem?_eq_some_iff.mp hp).1, .ref (S.length + 2 * i), .ref (S.length + 2 * i + 1), rfl, ?_, ?_⟩⟩
  · unfold RI lsOf
    dsimp only
    rw [getElem?_mid (cellsA_get1 hp)]
  · unfold RI lsOf
    dsimp only
    rw [Nat.add_assoc, getElem?_mid (cellsA_get2 hp)]
end
/-- a comprehension that makes cells -/
theorem eLc_rule {fi : Iv} {xs : List D} {S0 S1 : Store} {P : Store → Prop} {G : Gm} {vs : List Nat} {t : Tg} {ft fe : Ev} (w : Wk (fi G S1) xs S0 P) (hv : tgIn vs t = true) (I : Nat → Store → List D → Prop) (h0 : I 0 S0 [])
    (hP : ∀ i S acc, I i S acc → P S) (hz : ∀ i S acc, I i S acc → acc.length < 100000)
    (step : ∀ i x S acc, xs[i]? = some x → I i S acc → ∃ G1, tgD t x (wipeG G vs) = some G1 ∧ ∃ b S2, ft G1 S = .ok (.bl b) S2 ∧ (if b = true then ∃ y S3, fe G1 S2 = .ok y S3 ∧ I (i + 1) S3 (acc ++ [y]) else I (i + 1) S2 acc)) :
    ∃ acc S, eLc fi vs t ft fe G S1 = .ok (.lst acc) S ∧ I xs.length S acc := by
  obtain ⟨item, fin, e, hw⟩ := w.w
  unfold eLc
  rw [e]
  dsimp only
  rw [if_pos hv]
  have go : ∀ n i S acc, n = xs.length - i → i ≤ xs.length → I i S acc → ∃ acc' S', compD item fin t ft fe (wipeG G vs) n i S acc = .ok (.lst acc') S' ∧ I xs.length S' acc' := by
    intro n
    induction n with
    | zero =>
      intro i S acc hr hi hI
      have ei : i = xs.length := by omega
      subst ei
      unfold compD
      rw [if_pos (hw S (hP _ _ _ hI)).2]
      exact ⟨acc, S, rfl, hI⟩
    | succ n ih =>
      intro i S acc hr hi hI
      have hl : i < xs.length := by omega
      have hx : xs[i]? = some xs[i] := List.getElem?_eq_getElem hl
      obtain ⟨G1, e1, b, S2, e2, h2⟩ := step i xs[i] S acc hx hI
      unfold compD
      rw [(hw S (hP _ _ _ hI)).1 i _ hx]
      dsimp only
      rw [e1]
      dsimp only
      rw [e2]
      cases b with
      | true =>
        rw [if_pos rfl] at h2
        obtain ⟨y, S3, e3, h3⟩ := h2
        dsimp only
        rw [e3]
        dsimp only
        rw [if_pos (hz _ _ _ hI)]
        exact ih (i + 1) _ _ (by omega) (by omega) h3
      | false =>
        rw [if_neg Bool.false_ne_true] at h2
        exact ih (i + 1) _ _ (by omega) (by omega) h2
  exact go xs.length 0 S0 [] (by omega) (by omega) h0
theorem eVar_set1 {G : Gm} {i j : Nat} {a b : D} {S : Store} (hij : i ≠ j) (hi : i < G.length) : eVar i ((G.set i (some a)).set j (some b)) S = .ok a S := by
  apply eVar_ap
  rw [List.getElem?_set_ne (Ne.symm hij), List.getElem?_set_self hi]
theorem eVar_set2 {G : Gm} {i j : Nat} {a b : D} {S : Store} (hj : j < G.length) : eVar j ((G.set i (some a)).set j (some b)) S = .ok b S := by
  apply eVar_ap
  rw [List.getElem?_set_self (by rw [List.length_set]; exact hj)]
/-- [(list(x), list(y)) for x, y in albums] -/
theorem copy_ok {S : Store} {d : D} {A : Alb} {G : Gm} {f : Ev} {i j : Nat} {S1 : Store} (h : RAlb S d A) (hz : A.length < 1000) (hf : f G S1 = .ok d S) (hij : i ≠ j) (hi : i < G.length) (hj : j < G.length) :
    eLc (iSeq f) [i, j] (.tup [.nm i, .nm j]) (eC (.bl true)) (eTup (eaCons (eCall bListM (eaCons (eVar i) eaNil)) (eaCons (eCall bListM (eaCons (eVar j) eaNil)) eaNil))) G S1 = .ok (.lst (refsA S.length A.length)) (S ++ cellsA A) := by
  obtain ⟨ts, t1, t2, t3⟩ := h.list
  have tl : ts.length = A.length := by rw [← t2, List.length_map]
  obtain ⟨acc, S', e, q1, q2⟩ := eLc_rule (xs := ts.map fun t => D.tup [t.1, t.2.1]) (P := fun S' => ∃ T, S' = S ++ T) (fi := iSeq f) (G := G) (S1 := S1) (vs := [i, j]) (t := .tup [.nm i, .nm j]) (ft := eC (.bl true)) (fe := eTup (eaCons (eCall bListM (eaCons (eVar i) eaNil)) (eaCons (eCall bListM (eaCons (eVar j) eaNil)) eaNil)))
    (wk_ls hf t1 fun S' ⟨T, e⟩ => by rw [e]; exact lsOf_grow T t1) (by simp [tgIn, tgsIn]) (fun k S' acc => k ≤ ts.length ∧ S' = S ++ cellsA (A.take k) ∧ acc = refsA S.length k) ⟨Nat.zero_le _, by simp [cellsA_nil], rfl⟩ (fun k S' acc hI => ⟨_, hI.2.1⟩)
    (fun k S' acc hI => by rw [hI.2.2, refsA_length]; omega) (fun k x S' acc hx hI => by
      obtain ⟨hk, rfl, rfl⟩ := hI
      rw [List.getElem?_map] at hx
      cases ht : ts[k]? with
      | none =>
        rw [ht] at hx
        cases hx
      | some t =>
        rw [ht] at hx
        cases hx
        obtain ⟨r1, r2⟩ := t3 t (List.mem_of_getElem? ht)
        have hkl : k < ts.length := (List.getElem?_eq_some_iff.mp ht).1
        have hA : A[k]? = some t.2.2 := by rw [← t2, List.getElem?_map, ht]; rfl
        have lw : (wipeG G [i, j]).length = G.length := wipeG_length ..
        refine ⟨((wipeG G [i, j]).set i (some t.1)).set j (some t.2.1), by simp, true, _, rfl, ?_⟩
        rw [if_pos rfl]
        have e1 : ∀ S, eVar i (((wipeG G [i, j]).set i (some t.1)).set j (some t.2.1)) S = .ok t.1 S := fun S => eVar_set1 hij (by rw [lw]; exact hi)
        have e2 : ∀ S, eVar j (((wipeG G [i, j]).set i (some t.1)).set j (some t.2.1)) S = .ok t.2.1 S := fun S => eVar_set2 (by rw [lw]; exact hj)
        have l0 : (S ++ cellsA (A.take k)).length = S.length + 2 * k := by
          rw [List.length_append, cellsA_length, List.length_take]
          omega
        have b1 := bListM_ls (S := S ++ cellsA (A.take k)) (r1.grow (T := cellsA (A.take k)))
        have b2 := bListM_ls (S := S ++ cellsA (A.take k) ++ [Cell.lst (t.2.2.1.map D.int)]) ((r2.grow (T := cellsA (A.take k))).grow (T := [Cell.lst (t.2.2.1.map D.int)]))
        refine ⟨.tup [.ref (S.length + 2 * k), .ref (S.length + 2 * k + 1)], S ++ cellsA (A.take (k + 1)), ?_, by omega, rfl, ?_⟩
        · have et : A.take (k + 1) = A.take k ++ [t.2.2] := by rw [List.take_add_one, hA]; rfl
          rw [et, cellsA_append]
          simp only [eTup_ap, eaCons_ap, eCall_ap, eaNil_ap, e1, e2, AR.bind_ok, b1, b2]
          rw [if_pos (by simp)]
          have l1 : (S ++ cellsA (A.take k) ++ [Cell.lst (t.2.2.1.map D.int)]).length = S.length + 2 * k + 1 := by rw [List.length_append, l0]; rfl
          rw [l0, l1]
          simp [cellsA]
        · unfold refsA
          rw [List.range_succ, List.map_append]
          rfl)
  rw [e, q2.1, q2.2]
  simp [tl]
end L2.VE
/-! VS5: loops of checks. -/
namespace L2.VE
open PySem PySem.Spec PyProof.Rows PySem.SeqAt PySem.W
theorem all_range_succ {c : Nat → Bool} {i : Nat} : (List.range (i + 1)).all c = ((List.range i).all c && c i) := by
  rw [List.range_succ, List.all_append]
  simp
theorem all_range_false {c : Nat → Bool} {i n : Nat} (h : i < n) (hc : c i = false) : (List.range n).all c = false := by
  rw [List.all_eq_false]
  exact ⟨i, List.mem_range.mpr h, by simp [hc]⟩
theorem for_checks {fi : IR} {xs : List D} {S0 S1 : Store} {P E : Store → Prop} {t : Tg} {kill : List Nat} {u : Blk} {Gx : Gm} {fI : Iv} (w : Wk fi xs S0 P) (I : Gm → Store → Prop) (c : Nat → Bool) (h0 : I Gx S0) (hP : ∀ G S, I G S → P S)
    (step : ∀ i x G S, xs[i]? = some x → I G S → ∃ G1, tgD t x G = some G1 ∧ (if c i = true then ∃ G2 S2, (u G1 S = .nx G2 S2 ∨ u G1 S = .ct G2 S2) ∧ I (wipeG G2 kill) S2 else ∃ S2, u G1 S = .rt (.bl false) S2 ∧ E S2)) (e : fI Gx S1 = fi) :
    if (List.range xs.length).all c = true then ∃ G2 S2, sFor fI t kill u Gx S1 = .nx G2 S2 ∧ I G2 S2 else ∃ S2, sFor fI t kill u Gx S1 = .rt (.bl false) S2 ∧ E S2 := by
  refine forD_rule w (fun i G S => I G S ∧ (List.range i).all c = true) (fun o => if (List.range xs.length).all c = true then ∃ G2 S2, o = .nx G2 S2 ∧ I G2 S2 else ∃ S2, o = .rt (.bl false) S2 ∧ E S2)
    ⟨h0, rfl⟩ (fun i G S h => hP G S h.1) (fun i x G S hx hI => ?_) (fun G S hI => ?_) e
  · obtain ⟨G1, e1, h1⟩ := step i x G S hx hI.1
    refine ⟨G1, e1, ?_⟩
    have hl : i < xs.length := (List.getElem?_eq_some_iff.mp hx).1
    cases hc : c i with
    | true =>
      rw [if_pos hc] at h1
      obtain ⟨G2, S2, h2 | h2, h3⟩ := h1
      · rw [h2]
        exact ⟨h3, by rw [all_range_succ, hI.2, hc]; rfl⟩
      · rw [h2]
        exact ⟨h3, by rw [all_range_succ, hI.2, hc]; rfl⟩
    | false =>
      rw [if_neg (by rw [hc]; exact Bool.false_ne_true)] at h1
      obtain ⟨S2, h2, h3⟩ := h1
      rw [h2]
      dsimp only
      rw [if_neg (by rw [all_range_false hl hc]; exact Bool.false_ne_true)]
      exact ⟨S2, rfl, h3⟩
  · rw [if_pos hI.2]
    exact ⟨G, S, rfl, hI.1⟩
theorem all_enum {τ : Type} {ts : List τ} {c : τ → Bool} : (List.range ts.length).all (fun i => match ts[i]? with | some t => c t | none => true) = ts.all c := by
  rw [Bool.eq_iff_iff, List.all_eq_true, List.all_eq_true]
  constructor
  · intro h t ht
    obtain ⟨i, hi, e⟩ := List.getElem_of_mem ht
    have := h i (List.mem_range.mpr hi)
    rw [List.getElem?_eq_getElem hi] at this
    rw [← e]
    exact this
  · intro h i hi
    have hl := List.mem_range.mp hi
    rw [List.getElem?_eq_getElem hl]
    exact h _ (List.getElem_mem hl)
/-- the same over typed items -/
theorem for_all {τ : Type} {ts : List τ} {r : τ → D} {fi : IR} {S0 S1 : Store} {P E : Store → Prop} {t : Tg} {kill : List Nat} {u : Blk} {Gx : Gm} {fI : Iv} (w : Wk fi (ts.map r) S0 P) (I : Gm → Store → Prop) (c : τ → Bool) (h0 : I Gx S0) (hP : ∀ G S, I G S → P S)
    (step : ∀ (i : Nat) x G S, ts[i]? = some x → I G S → ∃ G1, tgD t (r x) G = some G1 ∧ (if c x = true then ∃ G2 S2, (u G1 S = .nx G2 S2 ∨ u G1 S = .ct G2 S2) ∧ I (wipeG G2 kill) S2 else ∃ S2, u G1 S = .rt (.bl false) S2 ∧ E S2)) (e : fI Gx S1 = fi) :
    if ts.all c = true then ∃ G2 S2, sFor fI t kill u Gx S1 = .nx G2 S2 ∧ I G2 S2 else ∃ S2, sFor fI t kill u Gx S1 = .rt (.bl false) S2 ∧ E S2 := by
  have q := for_checks (t := t) (kill := kill) (u := u) (E := E) (Gx := Gx) (fI := fI) (S1 := S1) w I (fun i => match ts[i]? with | some t => c t | none => true) h0 hP (fun i x G S hx hI => by
    rw [List.getElem?_map] at hx
    cases ht : ts[i]? with
    | none =>
      rw [ht] at hx
      cases hx
    | some y =>
      rw [ht] at hx
      cases hx
      exact step i y G S ht hI) e
  rw [List.length_map, all_enum] at q
  exact q
end L2.VE
/-! VS6: while, dicts. -/
namespace L2.VE
open PySem PySem.Spec PyProof.Rows PySem.SeqAt PySem.W
theorem while_rule {ft : Ev} {u : Blk} {kill : List Nat} {n : Nat} (I : Nat → Gm → Store → Prop) (R : Out → Prop)
    (step : ∀ k G S, I k G S → ∃ b S1, ft G S = .ok (.bl b) S1 ∧ (if b = true then (match u G S1 with
      | .nx G2 S2 => ∃ k', k' < k ∧ I k' (wipeG G2 kill) S2
      | .ct G2 S2 => ∃ k', k' < k ∧ I k' (wipeG G2 kill) S2
      | .bk G2 S2 => R (.nx (wipeG G2 kill) S2)
      | o => R o) else R (.nx G S1))) {k : Nat} {G : Gm} {S : Store} (h : I k G S) (hn : k < n) : R (sWhile ft u kill n G S) := by
  unfold sWhile
  have go : ∀ n k G S, I k G S → k < n → R (whileD ft u kill n G S) := by
    intro n
    induction n with
    | zero => intro k G S _ h; exact absurd h (Nat.not_lt_zero _)
    | succ n ih =>
      intro k G S hI hm
      obtain ⟨b, S1, e1, h1⟩ := step k G S hI
      unfold whileD
      rw [e1, toOut_ok]
      cases b with
      | false =>
        rw [if_neg Bool.false_ne_true] at h1
        exact h1
      | true =>
        rw [if_pos rfl] at h1
        dsimp only
        cases e2 : u G S1 with
        | nx G2 S2 =>
          rw [e2] at h1
          obtain ⟨k', h3, h4⟩ := h1
          exact ih _ _ _ h4 (by omega)
        | ct G2 S2 =>
          rw [e2] at h1
          obtain ⟨k', h3, h4⟩ := h1
          exact ih _ _ _ h4 (by omega)
        | bk G2 S2 =>
          rw [e2] at h1
          exact h1
        | rt d S2 =>
          rw [e2] at h1
          exact h1
        | xc c G2 S2 =>
          rw [e2] at h1
          exact h1
        | stuck =>
          rw [e2] at h1
          exact h1
  exact go n k G S h hn
section
variable {S T : Store} {n : Nat} {kvs : List (Int × D)} {i : Int} {d : D}
theorem opIn_dic {neg : Bool} (h : S[n]? = some (.dic kvs)) : opIn neg (.int i) (.ref n) S = .ok (.bl (if neg then !(kvs.lookup i).isSome else (kvs.lookup i).isSome)) S := by
  unfold opIn
  dsimp only
  rw [h]
theorem opIx_dic {x : D} (h : S[n]? = some (.dic kvs)) (hx : kvs.lookup i = some x) : opIx (.ref n) (.int i) S = .ok x S := by
  unfold opIx
  dsimp only
  rw [h]
  dsimp only
  rw [hx]
theorem setD_dic (h : S[n]? = some (.dic kvs)) (hz : kvs.length < 1000) : setD (.ref n) (.int i) d S = some (S.set n (.dic (putI i d kvs))) := by
  unfold setD
  dsimp only
  rw [h]
  dsimp only
  rw [if_pos hz]
theorem lookup_none_any : ∀ {kvs : List (Int × D)}, kvs.lookup i = none → (kvs.any fun kv => decide (kv.1 = i)) = false
  | [], _ => rfl
  | (k, x) :: kvs, h => by
    rw [List.lookup_cons] at h
    cases e : i == k with
    | true =>
      rw [e] at h
      cases h
    | false =>
      rw [e] at h
      rw [List.any_cons, lookup_none_any h]
      have : ¬ k = i := fun z => by
        subst z
        simp at e
      simp [this]
theorem putI_new (h : kvs.lookup i = none) : putI i d kvs = kvs ++ [(i, d)] := by
  unfold putI
  rw [if_neg (by rw [lookup_none_any h]; exact Bool.false_ne_true)]
theorem bSortedD_ok (h : S[n]? = some (.dic kvs)) (hz : kvs.length < 64) : bSortedD [.ref n] S = .ok (.lst ((sortI (kvs.map (·.1))).map D.int)) S := by
  unfold bSortedD
  dsimp only
  rw [h]
  dsimp only
  rw [if_pos hz]
end
end L2.VE
/-! VS7: the law's own range, the outcome True. -/
namespace L2.VE
open PySem PySem.Spec PyProof.Rows
theorem rangeI_two (J : Nat) (h1 : 1 ≤ J) (h9 : J ≤ 9) (S : Store) : rangeI [.int 0, .int (J : Nat), .int 2] S = .ok ((J + 1) / 2) (fun k _ => some (.int (0 + k * 2))) (fun _ => true) S := by
  have : J = 1 ∨ J = 2 ∨ J = 3 ∨ J = 4 ∨ J = 5 ∨ J = 6 ∨ J = 7 ∨ J = 8 ∨ J = 9 := by omega
  rcases this with h | h | h | h | h | h | h | h | h <;> subst h <;> rfl
theorem wk_two {g : Av} {G : Gm} {S S0 : Store} {P : Store → Prop} (J : Nat) (h1 : 1 ≤ J) (h9 : J ≤ 9) (h : g G S0 = .ok [.int 0, .int (J : Nat), .int 2] S) : Wk (iArgs rangeI g G S0) ((List.range ((J + 1) / 2)).map fun i => D.int ((2 * i : Nat))) S P := by
  refine ⟨fun k _ => some (.int (0 + k * 2)), fun _ => true, ?_, fun S' _ => ⟨fun i x hx => ?_, rfl⟩⟩
  · unfold iArgs
    rw [h]
    dsimp only
    rw [rangeI_two J h1 h9]
    simp
  · rw [List.getElem?_map] at hx
    cases e : (List.range ((J + 1) / 2))[i]? with
    | none =>
      rw [e] at hx
      cases hx
    | some j =>
      rw [e] at hx
      have hl := (List.getElem?_eq_some_iff.mp e).1
      rw [List.getElem?_range (by simpa using hl)] at e
      cases e
      cases hx
      simp
      omega
/-- max(1, min(K, len)) -/
theorem upto {K n : Nat} (hK : 1 ≤ K) : ∃ J : Nat, 1 ≤ J ∧ J ≤ K ∧ ∀ {G : Gm} {S : Store} {f : Ev}, f G S = .ok (.int (n : Nat)) S → eCall bMax2 (eaCons (eC (.int 1)) (eaCons (eCall bMin2 (eaCons (eC (.int (K : Nat))) (eaCons f eaNil))) eaNil)) G S = .ok (.int (J : Nat)) S := by
  refine ⟨max 1 (min K n), by omega, by omega, fun {G S f} hf => ?_⟩
  simp only [eCall_ap, eaCons_ap, eC_ap, hf, eaNil_ap, AR.bind_ok, bMin2_int, bMax2_int]
  congr 2
  split <;> split <;> omega
def isT : Out → Bool
  | .rt (.bl true) _ => true
  | _ => false
theorem isT_ex {o : Out} (h : isT o = true) : ∃ S2, o = .rt (.bl true) S2 := by
  unfold isT at h
  split at h
  · exact ⟨_, rfl⟩
  · cases h
theorem RAlb.rev {S : Store} {d : D} {A : Alb} (h : RAlb S d A) : ∃ e, opRev d S = .ok e S ∧ RAlb S e A.reverse := by
  obtain ⟨xs, h1, h2, h3⟩ := h
  refine ⟨.lst xs.reverse, by unfold opRev; rw [h1], xs.reverse, rfl, by rw [List.length_reverse, List.length_reverse, h2], fun i p hp => ?_⟩
  have hi : i < A.length := by
    have := (List.getElem?_eq_some_iff.mp hp).1
    rwa [List.length_reverse] at this
  rw [List.getElem?_reverse hi] at hp
  obtain ⟨x, hx, q⟩ := h3 _ p hp
  exact ⟨x, by rw [List.getElem?_reverse (by omega), h2]; exact hx, q⟩
end L2.VE
/-! VS8: comprehensions under which the store grows. -/
namespace L2.VE
open PySem PySem.Spec PyProof.Rows PySem.SeqAt PySem.W
theorem eLc_grow {τ : Type} {fi : Iv} {ts : List τ} {r : τ → D} {S0 S1 : Store} {G : Gm} {vs : List Nat} {t : Tg} {fe : Ev} (w : Wk (fi G S1) (ts.map r) S0 (fun S => ∃ T, S = S0 ++ T)) (hv : tgIn vs t = true) (hz : ts.length ≤ 1000) (v : τ → D)
    (step : ∀ (i : Nat) (x : τ) (T : Store), ts[i]? = some x → ∃ G1, tgD t (r x) (wipeG G vs) = some G1 ∧ ∃ T', fe G1 (S0 ++ T) = .ok (v x) (S0 ++ T ++ T')) : ∃ T, eLc fi vs t (eC (.bl true)) fe G S1 = .ok (.lst (ts.map v)) (S0 ++ T) := by
  obtain ⟨acc, S', e, ⟨T, hT⟩, q⟩ := eLc_rule (ft := eC (.bl true)) w hv (fun i S' acc => (∃ T, S' = S0 ++ T) ∧ i ≤ ts.length ∧ acc = (ts.take i).map v) ⟨⟨[], by simp⟩, Nat.zero_le _, rfl⟩ (fun i S acc hI => hI.1) (fun i S acc hI => by
    rw [hI.2.2, List.length_map, List.length_take]
    omega) (fun i x S' acc hx hI => by
    obtain ⟨⟨T, rfl⟩, hi, rfl⟩ := hI
    rw [List.getElem?_map] at hx
    cases ht : ts[i]? with
    | none =>
      rw [ht] at hx
      cases hx
    | some y =>
      rw [ht] at hx
      cases hx
      obtain ⟨G1, e1, T', e2⟩ := step i y T ht
      refine ⟨G1, e1, true, _, rfl, ?_⟩
      rw [if_pos rfl]
      refine ⟨_, _, e2, ⟨T ++ T', by rw [List.append_assoc]⟩, (List.getElem?_eq_some_iff.mp ht).1, ?_⟩
      rw [List.take_add_one, ht, List.map_append]
      rfl)
  rw [hT] at e
  obtain ⟨q1, q2⟩ := q
  rw [List.length_map] at q2
  exact ⟨T, by rw [e, q2, List.take_length]⟩
/-- all([.. for x in ts]) of Trues -/
theorem all_grow {τ : Type} {fi : Iv} {ts : List τ} {r : τ → D} {S0 S1 : Store} {G : Gm} {vs : List Nat} {t : Tg} {fe : Ev} (w : Wk (fi G S1) (ts.map r) S0 (fun S => ∃ T, S = S0 ++ T)) (hv : tgIn vs t = true) (hz : ts.length ≤ 1000)
    (step : ∀ (i : Nat) (x : τ) (T : Store), ts[i]? = some x → ∃ G1, tgD t (r x) (wipeG G vs) = some G1 ∧ ∃ T', fe G1 (S0 ++ T) = .ok (.bl true) (S0 ++ T ++ T')) : ∃ T, eCall bAll (eaCons (eLc fi vs t (eC (.bl true)) fe) eaNil) G S1 = .ok (.bl true) (S0 ++ T) := by
  obtain ⟨T, e⟩ := eLc_grow w hv hz (fun _ => .bl true) step
  refine ⟨T, ?_⟩
  simp only [eCall_ap, eaCons_ap, e, eaNil_ap, AR.bind_ok]
  have e1 : ts.map (fun _ => D.bl true) = (ts.map fun _ => true).map D.bl := by rw [List.map_map]; rfl
  rw [e1]
  unfold bAll
  rw [bBls_ls (ns := ts.map fun _ => true) rfl]
  simp [List.all_map, Function.comp_def]
/-- a walk whose turns all go on -/
theorem for_grow {τ : Type} {ts : List τ} {r : τ → D} {S0 S1 : Store} {t : Tg} {kill : List Nat} {u : Blk} {Gx : Gm} {fI : Iv} (w : Wk (fI Gx S1) (ts.map r) S0 (fun S => ∃ T, S = S0 ++ T))
    (I : Gm → Prop) (h0 : I Gx) (step : ∀ (i : Nat) (x : τ) (G : Gm) (T : Store), ts[i]? = some x → I G → ∃ G1, tgD t (r x) G = some G1 ∧ ∃ G2 T', u G1 (S0 ++ T) = .nx G2 (S0 ++ T ++ T') ∧ I (wipeG G2 kill)) :
    ∃ G T, sFor fI t kill u Gx S1 = .nx G (S0 ++ T) ∧ I G := by
  refine forD_rule w (fun i G S' => (∃ T, S' = S0 ++ T) ∧ I G) (fun o => ∃ G T, o = .nx G (S0 ++ T) ∧ I G) ⟨⟨[], by simp⟩, h0⟩ (fun i G S' hI => hI.1) (fun i x G S' hx hI => ?_) (fun G S' hI => ?_) rfl
  · obtain ⟨⟨T, rfl⟩, hI⟩ := hI
    rw [List.getElem?_map] at hx
    cases ht : ts[i]? with
    | none =>
      rw [ht] at hx
      cases hx
    | some y =>
      rw [ht] at hx
      cases hx
      obtain ⟨G1, e1, G2, T', e2, h2⟩ := step i y G T ht hI
      refine ⟨G1, e1, ?_⟩
      rw [e2]
      exact ⟨⟨T ++ T', by rw [List.append_assoc]⟩, h2⟩
  · obtain ⟨⟨T, rfl⟩, hI⟩ := hI
    exact ⟨G, T, rfl, hI⟩
end L2.VE
/-! VS9: cells that grow, are set. -/
namespace L2.VE
open PySem PySem.Spec PyProof.Rows PySem.SeqAt PySem.W
section
variable {S T U V : Store} {n : Nat}
theorem app_cell {n : Nat} {xs : List D} {w : D} (h : U[n]? = some (.lst xs)) (hz : xs.length < 100000) : mAppend (.ref n) [w] U = .ok .non (U.set n (.lst (xs ++ [w]))) := by
  unfold mAppend oCell
  dsimp only
  rw [h]
  dsimp only
  rw [if_pos hz]
theorem eMt_app {G : Gm} {n : Nat} {xs : List D} {w : D} {fo f : Ev} (ho : fo G U = .ok (.ref n) U) (hf : f G U = .ok w V) (h0 : U[n]? = some (.lst xs)) (h : V[n]? = some (.lst xs)) (hz : xs.length < 100000) :
    sExpr (eMt mAppend fo (eaCons f eaNil)) G U = .nx G (V.set n (.lst (xs ++ [w]))) := by
  have e : (lsOf U (.ref n)).isSome = true := by
    unfold lsOf
    dsimp only
    rw [h0]
    rfl
  rw [sExpr_ap]
  unfold eMt
  rw [ho, ER.bind_ok, if_pos e, eaCons_ap, hf]
  simp only [eaNil_ap, AR.bind_ok, app_cell h hz, toOut_ok]
theorem eMt_ext {xs ys : List D} {G : Gm} {fo f : Ev} {e : D} (ho : fo G U = .ok (.ref n) U) (hf : f G U = .ok e V) (he : lsOf V e = some ys) (h0 : U[n]? = some (.lst xs)) (h : V[n]? = some (.lst xs)) (hz : xs.length + ys.length ≤ 100000) :
    sExpr (eMt mExtend fo (eaCons f eaNil)) G U = .nx G (V.set n (.lst (xs ++ ys))) := by
  have e0 : (lsOf U (.ref n)).isSome = true := by
    unfold lsOf
    dsimp only
    rw [h0]
    rfl
  rw [sExpr_ap]
  unfold eMt
  rw [ho, ER.bind_ok, if_pos e0, eaCons_ap, hf]
  simp only [eaNil_ap, AR.bind_ok]
  have e1 : mExtend (.ref n) [e] V = .ok .non (V.set n (.lst (xs ++ ys))) := by
    unfold mExtend oCell
    dsimp only
    rw [h]
    dsimp only
    rw [he]
    dsimp only
    rw [if_pos hz]
  rw [e1, toOut_ok]
theorem opMul_rep {d : D} {xs : List D} {k : Nat} (h : lsOf S d = some xs) (hk : k ≤ 1000) (hz : xs.length ≤ 100) : opMul d (.int (k : Nat)) S = .ok (.lst (repD k xs)) S := by
  have h0 : ∀ i, d ≠ .int i := fun i z => by rw [z] at h; cases h
  cases d with
  | int i => exact absurd rfl (h0 i)
  | _ =>
    unfold opMul
    dsimp only
    rw [h]
    dsimp only
    rw [if_pos ⟨by omega, by omega, hz⟩]
    simp
theorem opMulM_rep {d : D} {xs : List D} {k : Nat} (h : lsOf S d = some xs) (hk : k ≤ 1000) (hz : xs.length ≤ 100) : opMulM d (.int (k : Nat)) S = .ok (.ref S.length) (S ++ [.lst (repD k xs)]) := by
  unfold opMulM
  dsimp only
  rw [h]
  dsimp only
  rw [if_pos ⟨by omega, by omega, hz⟩]
  simp
theorem repD_one {x : D} : ∀ k, repD k [x] = List.replicate k x
  | 0 => rfl
  | k + 1 => by
    have := repD_one (x := x) k
    unfold repD at this ⊢
    rw [List.replicate_succ, List.flatten_cons, this, List.replicate_succ]
    rfl
end
end L2.VE
/-! ML1: albums. -/
namespace L2.VE.T
open PySem PySem.Spec PyProof.Rows PySem.SeqAt PySem.W L2 L2.VE
/-- a def run -/
theorem fnD_rt {n : Nat} {B : Blk} {ds : List D} {S S' : Store} {d : D} (h : B (ds.map some ++ List.replicate (n - ds.length) none) S = .rt d S') : fnD n B ds S = .ok d S' := by
  unfold fnD
  rw [h]
theorem fnD_nx {n : Nat} {B : Blk} {ds : List D} {S S' : Store} {G : Gm} (h : B (ds.map some ++ List.replicate (n - ds.length) none) S = .nx G S') : fnD n B ds S = .ok .non S' := by
  unfold fnD
  rw [h]
theorem fnD_xc {n : Nat} {B : Blk} {ds : List D} {S S' : Store} {G : Gm} {c : Nat} (h : B (ds.map some ++ List.replicate (n - ds.length) none) S = .xc c G S') : fnD n B ds S = .xc c S' := by
  unfold fnD
  rw [h]
theorem is_count_ok {x l m : Int} {S : Store} : f_is_count [.int x, .int l, .int m] S = .ok (.bl (decide (l ≤ x) && decide (x ≤ m))) S := by
  refine fnD_rt ?_
  unfold d_is_count
  simp [isB_ii, isB_ib]
  cases h : decide (l ≤ x) <;> simp
theorem opEq_int {neg : Bool} {k l : Int} {S : Store} : opEq neg (.int k) (.int l) S = .ok (.bl (if neg then !decide (k = l) else decide (k = l))) S := by
  unfold opEq pyD
  dsimp only
  have e : PyData.eqv (.int k) (.int l) = decide (k = l) := by
    by_cases h : k = l
    · subst h
      simp [PyData.eqv]
    · simp [PyData.eqv, h]
  rw [e]
@[simp] theorem opEq_intF {k l : Int} {S : Store} : opEq false (.int k) (.int l) S = .ok (.bl (decide (k = l))) S := opEq_int
@[simp] theorem opEq_intT {k l : Int} {S : Store} : opEq true (.int k) (.int l) S = .ok (.bl (!decide (k = l))) S := opEq_int
section
variable {S T : Store} {d e : D} {ns : List Int} {A : Alb} {p : List Int × List Int}
def small (n : Int) : Bool := decide (0 ≤ n) && decide (n ≤ 2)
theorem bAll_map {τ : Type} {ts : List τ} {p : τ → Bool} : bAll [.lst (ts.map fun t => D.bl (p t))] S = .ok (.bl (ts.all p)) S := by
  have e : ts.map (fun t => D.bl (p t)) = (ts.map p).map D.bl := by rw [List.map_map]; rfl
  rw [e]
  unfold bAll
  rw [bBls_ls (ns := ts.map p) rfl]
  simp [List.all_map, Function.comp_def]
theorem bAny_map {τ : Type} {ts : List τ} {p : τ → Bool} : bAny [.lst (ts.map fun t => D.bl (p t))] S = .ok (.bl (ts.any p)) S := by
  have e : ts.map (fun t => D.bl (p t)) = (ts.map p).map D.bl := by rw [List.map_map]; rfl
  rw [e]
  unfold bAny
  rw [bBls_ls (ns := ts.map p) rfl]
  simp [List.any_map, Function.comp_def]
def counts (k : Int) (ns : List Int) : Bool := decide ((ns.length : Int) = k) && ns.all small
theorem are_counts_ok {k : Int} (h : RI S d ns) (hz : ns.length ≤ 1000) : f_are_counts [d, .int k] S = .ok (.bl (counts k ns)) S := by
  refine fnD_rt ?_
  unfold counts
  unfold d_are_counts
  have hc : eLc (iSeq (eVar 0)) [2] (.nm 2) (eC (.bl true)) (eCall f_is_count (eaCons (eVar 2) (eaCons (eC (.int 0)) (eaCons (eC (.int 2)) eaNil)))) [some d, some (.int k), none] S = .ok (.lst (ns.map fun n => D.bl (small n))) S := by
    refine eLc_map (wk_ls (d := d) (by simp) h (fun S' e => by rw [e]; exact h)) rfl _ (by omega) fun i n hn => ⟨_, by simp [wipeG]; rfl, ?_⟩
    simp [is_count_ok, small]
  simp only [List.length_cons, List.length_nil, List.map_cons, List.map_nil, List.cons_append, List.nil_append, List.replicate]
  simp only [sRet_ap, eAnd_ap, eOp1_ap, eVar_0, ER.bind_ok, opIsT_ls h, isB_ll, eOp_ap, eCall_ap, eaCons_ap, eaNil_ap, AR.bind_ok, h.len, eVar_s, opEq_intF]
  by_cases hl : (ns.length : Int) = k
  · simp only [hl, decide_true, hc, AR.bind_ok, bAll_map, toOut_ok, Bool.true_and]
  · simp only [hl, decide_false, toOut_ok, Bool.false_and]
def clear1 (p : Int × Int) : Bool := decide (p.1 = 0) || decide (p.2 = 0)
def okPair (k : Int) (p : List Int × List Int) : Bool := counts k p.1 && counts k p.2 && (p.1.zip p.2).all clear1
/-- the start of a def's run: its slots -/
theorem startL {n : Nat} {ds : List D} : ds.map some ++ List.replicate (n - ds.length) none = ds.map some ++ List.replicate (n - ds.length) none := rfl
theorem is_album_ok {k : Int} {a b : D} (h1 : RI S a p.1) (h2 : RI S b p.2) (z1 : p.1.length ≤ 1000) (z2 : p.2.length ≤ 1000) : f_is_album [.tup [a, b], .int k] S = .ok (.bl (okPair k p)) S := by
  refine fnD_rt ?_
  unfold d_is_album
  have hc : eLc (iArgs zipI (eaCons (eIx (eVar 0) (eC (.int 0))) (eaCons (eIx (eVar 0) (eC (.int 1))) eaNil))) [2, 3] (.tup [.nm 2, .nm 3]) (eC (.bl true)) (eOr (eOp (opEq false) (eVar 2) (eC (.int 0))) (eOp (opEq false) (eVar 3) (eC (.int 0)))) [some (.tup [a, b]), some (.int k), none, none] S = .ok (.lst ((p.1.zip p.2).map fun q => D.bl (clear1 q))) S := by
    refine eLc_map (wk_zip (d := a) (e := b) (r := D.int) (q := D.int) (by simp) h1 h2 (fun S' e => by rw [e]; exact ⟨h1, h2⟩)) rfl _ (by simp; omega) fun i n hn => ⟨_, by simp [wipeG]; rfl, ?_⟩
    simp [clear1]
    cases decide (n.1 = 0) <;> simp
  simp only [List.length_cons, List.length_nil, List.map_cons, List.map_nil, List.cons_append, List.nil_append, List.replicate]
  simp [isB_tt, are_counts_ok h1 z1, are_counts_ok h2 z2, okPair]
  cases counts k p.1 <;> cases counts k p.2 <;> simp [hc, bAll_map]
structure OkA (A : Alb) (k : Nat) : Prop where
  n1 : 1 ≤ A.length
  n4 : A.length ≤ 4
  k1 : 1 ≤ k
  k4 : k ≤ 4
  ok : ∀ (i : Nat) (p : List Int × List Int), A[i]? = some p → okPair k p = true
theorem okPair_len {k : Nat} (h : okPair k p = true) : p.1.length = k ∧ p.2.length = k := by
  unfold okPair counts at h
  simp only [Bool.and_eq_true, decide_eq_true_eq] at h
  omega
theorem check_albums_ok {k : Nat} (h : RAlb S d A) (o : OkA A k) : f_check_albums [d] S = .ok .non S := by
  have hA : A[0]? = some (A[0]'(by have := o.n1; omega)) := List.getElem?_eq_getElem _
  obtain ⟨a0, b0, q0, r1, r2⟩ := h.ix hA
  generalize A[0]'(by have := o.n1; omega) = p0 at hA r1 r2
  have hl0 := okPair_len (o.ok 0 p0 hA)
  obtain ⟨ts, t1, t2, t3⟩ := h.list
  have tl : ts.length = A.length := by rw [← t2, List.length_map]
  have hc : eLc (iSeq (eVar 0)) [3] (.nm 3) (eC (.bl true)) (eCall f_is_album (eaCons (eVar 3) (eaCons (eVar 2) eaNil))) [some d, some (.tup [a0, b0]), some (.int k), none] S = .ok (.lst (ts.map fun t => D.bl (okPair k t.2.2))) S := by
    refine eLc_map (wk_ls (d := d) (by simp) t1 (fun S' e => by rw [e]; exact t1)) rfl _ (by have := o.n4; omega) fun i t ht => ⟨_, by simp [wipeG]; rfl, ?_⟩
    have hm := List.mem_of_getElem? ht
    have hi : A[i]? = some t.2.2 := by rw [← t2, List.getElem?_map, ht]; rfl
    have hl := okPair_len (o.ok i _ hi)
    have k4 := o.k4
    simp [is_album_ok (t3 t hm).1 (t3 t hm).2 (by omega) (by omega)]
  have hall : ts.all (fun t => okPair k t.2.2) = true := List.all_eq_true.mpr fun t ht => by
    obtain ⟨i, hi, e⟩ := List.getElem_of_mem ht
    exact o.ok i _ (by rw [← t2, List.getElem?_map, List.getElem?_eq_getElem hi, e]; rfl)
  have n1 := o.n1
  have n4 := o.n4
  have k1 := o.k1
  have k4 := o.k4
  obtain ⟨xs, hx, _, _⟩ := id h
  refine fnD_nx (G := [some d, some (.tup [a0, b0]), some (.int k), none]) ?_
  unfold d_check_albums
  have e1 : (decide ((1 : Int) ≤ (A.length : Int))) = true := decide_eq_true (by omega)
  have e2 : (decide ((A.length : Int) ≤ 4)) = true := decide_eq_true (by omega)
  have e3 : (decide ((1 : Int) ≤ (k : Int))) = true := decide_eq_true (by omega)
  have e4 : (decide ((k : Int) ≤ 4)) = true := decide_eq_true (by omega)
  have q0' : opIx d (.int 0) S = .ok (.tup [a0, b0]) S := q0
  simp only [List.length_cons, List.length_nil, List.map_cons, List.map_nil, List.cons_append, List.nil_append, List.replicate]
  have hlen0 : bLen [a0] S = .ok (.int k) S := by rw [r1.len, hl0.1]
  simp [isB_ll, isB_tt, opIsT_ls hx, h.len, q0', e1, e2, e3, e4, hlen0, opIsT_ls r1, hc, bAll_map, hall]
end
end L2.VE.T
/-! ML2: gifts. -/
namespace L2.VE.T
open PySem PySem.Spec PyProof.Rows PySem.SeqAt PySem.W L2 L2.VE
section
variable {S T : Store} {d e gd : D} {ns : List Int} {A : Alb} {p : List Int × List Int} {gs : List Gf}
/-- albums of k kinds each -/
def Kinds (A : Alb) (k : Nat) : Prop := ∀ (i : Nat) (p : List Int × List Int), A[i]? = some p → p.1.length = k ∧ p.2.length = k
def RG (S : Store) (d : D) (gs : List Gf) : Prop := lsOf S d = some (gs.map gD)
theorem rg_grow (h : RG S gd gs) : RG (S ++ T) gd gs := lsOf_grow T h
def isGift (n k : Nat) (x : Gf) : Bool := (decide (0 ≤ x.g) && decide (x.g < n)) && ((decide (0 ≤ x.t) && decide (x.t < n)) && (!decide (x.g = x.t) && (decide (0 ≤ x.k) && decide (x.k < k))))
theorem ralb_first (h : RAlb S d A) (n1 : 1 ≤ A.length) {k : Nat} (hk : Kinds A k) : ∃ a b p, opIx d (.int 0) S = .ok (.tup [a, b]) S ∧ A[0]? = some p ∧ RI S a p.1 ∧ RI S b p.2 ∧ p.1.length = k ∧ p.2.length = k ∧ bLen [a] S = .ok (.int k) S := by
  have hA : A[0]? = some (A[0]'(by omega)) := List.getElem?_eq_getElem _
  obtain ⟨a0, b0, q0, r1, r2⟩ := h.ix hA
  have hl := hk 0 _ hA
  exact ⟨a0, b0, _, q0, hA, r1, r2, hl.1, hl.2, by rw [r1.len, hl.1]⟩
theorem is_gift_ok {k : Nat} (h : RAlb S d A) (n1 : 1 ≤ A.length) (hk : Kinds A k) (x : Gf) : f_is_gift [d, gD x] S = .ok (.bl (isGift A.length k x)) S := by
  obtain ⟨a, b, p0, q0, _, r1, r2, l1, l2, hb⟩ := ralb_first h n1 hk
  refine fnD_rt ?_
  unfold d_is_gift isGift gD
  simp only [List.length_cons, List.length_nil, List.map_cons, List.map_nil, List.cons_append, List.nil_append, List.replicate]
  simp [h.len, q0, hb]
  cases decide (0 ≤ x.g) <;> cases decide (x.g < A.length) <;> cases decide (0 ≤ x.t) <;> cases decide (x.t < A.length) <;> cases decide (x.g = x.t) <;> cases decide (0 ≤ x.k) <;> simp
/-! ### what is left -/
def at_ (B : Alb) (i : Nat) : List Int × List Int := B.getD i ([], [])
def giveA (B : Alb) (i j : Nat) : Alb := B.set i ((at_ B i).1.set j ((at_ B i).1.getD j 0 - 1), (at_ B i).2)
def takeA (B : Alb) (i j : Nat) : Alb := B.set i ((at_ B i).1, (at_ B i).2.set j ((at_ B i).2.getD j 0 - 1))
def lessA (B : Alb) (x : Gf) : Alb := takeA (giveA B x.g.toNat x.k.toNat) x.t.toNat x.k.toNat
def leftA (A : Alb) (gs : List Gf) : Alb := gs.foldl lessA A
theorem at_get {B : Alb} {i : Nat} (h : i < B.length) : B[i]? = some (at_ B i) := by
  unfold at_
  rw [List.getD_eq_getElem?_getD, List.getElem?_eq_getElem h]
  rfl
theorem kinds_at {B : Alb} {k i : Nat} (hk : Kinds B k) (h : i < B.length) : (at_ B i).1.length = k ∧ (at_ B i).2.length = k := hk i _ (at_get h)
theorem giveA_length {B : Alb} {i j : Nat} : (giveA B i j).length = B.length := List.length_set ..
theorem takeA_length {B : Alb} {i j : Nat} : (takeA B i j).length = B.length := List.length_set ..
theorem lessA_length {B : Alb} {x : Gf} : (lessA B x).length = B.length := by rw [lessA, takeA_length, giveA_length]
theorem set_kinds {B : Alb} {k i : Nat} {q : List Int × List Int} (hk : Kinds B k) (hq : q.1.length = k ∧ q.2.length = k) : Kinds (B.set i q) k := fun m p hp => by
  by_cases e : i = m
  · subst e
    have hl : i < (B.set i q).length := (List.getElem?_eq_some_iff.mp hp).1
    rw [List.length_set] at hl
    rw [List.getElem?_set_self hl] at hp
    cases hp
    exact hq
  · rw [List.getElem?_set_ne e] at hp
    exact hk m p hp
theorem giveA_kinds {B : Alb} {k i j : Nat} (hk : Kinds B k) (h : i < B.length) : Kinds (giveA B i j) k := set_kinds hk (by simpa using kinds_at hk h)
theorem takeA_kinds {B : Alb} {k i j : Nat} (hk : Kinds B k) (h : i < B.length) : Kinds (takeA B i j) k := set_kinds hk (by simpa using kinds_at hk h)
theorem atI_set {xs : List Int} {j : Nat} (h : j < xs.length) : L2.atI (xs.map D.int) (j : Nat) = some (.int (xs.getD j 0)) := by
  refine atI_nat ?_
  rw [List.getElem?_map, List.getElem?_eq_getElem h, List.getD_eq_getElem?_getD, List.getElem?_eq_getElem h]
  rfl
theorem ixN_nat {n j : Nat} (h : j < n) : ixN n (j : Int) = some j := by
  unfold ixN
  rw [if_pos (by omega), if_pos (by omega)]
  simp
/-- o[j] -= 1 of a list that is a cell -/
theorem aug_cell {G : Gm} {U : Store} {n : Nat} {xs : List Int} {j : Nat} {fo fi : Ev} (ho : fo G U = .ok (.ref n) U) (hi : fi G U = .ok (.int (j : Nat)) U) (hc : U[n]? = some (.lst (xs.map D.int))) (hj : j < xs.length) :
    sAugS (fun a b => a - b) fo fi (eC (.int 1)) G U = .nx G (U.set n (.lst ((xs.set j (xs.getD j 0 - 1)).map D.int))) := by
  unfold sAugS
  rw [ho, toOut_ok, hi, toOut_ok]
  have e1 : opIxC (.ref n) (.int (j : Nat)) U = .ok (.int (xs.getD j 0)) U := by
    unfold opIxC
    dsimp only
    rw [hc]
    dsimp only
    rw [atI_set hj]
  rw [e1, toOut_ok, eC_ap, toOut_ok]
  dsimp only
  have e2 : setD (.ref n) (.int (j : Nat)) (.int (xs.getD j 0 - 1)) U = some (U.set n (.lst ((xs.set j (xs.getD j 0 - 1)).map D.int))) := by
    unfold setD
    dsimp only
    rw [hc]
    dsimp only
    rw [List.length_map, ixN_nat hj]
    dsimp only
    rw [List.map_set]
  rw [e2]
theorem set_mid {c : Cell} {U : Store} {n : Nat} (h : n < U.length) : (S ++ U).set (S.length + n) c = S ++ U.set n c := by
  rw [List.set_append_right _ _ (Nat.le_add_right _ _), Nat.add_sub_cancel_left]
theorem getElem?_end {U : Store} {n : Nat} : (S ++ U)[S.length + n]? = U[n]? := by
  rw [List.getElem?_append_right (Nat.le_add_right _ _), Nat.add_sub_cancel_left]
theorem isGift_nat {n k : Nat} {x : Gf} (h : isGift n k x = true) : ∃ i j m : Nat, x.g = i ∧ x.k = j ∧ x.t = m ∧ i < n ∧ j < k ∧ m < n ∧ i ≠ m := by
  unfold isGift at h
  simp only [Bool.and_eq_true, decide_eq_true_eq, Bool.not_eq_true', decide_eq_false_iff_not] at h
  refine ⟨x.g.toNat, x.k.toNat, x.t.toNat, ?_⟩
  omega
/-- found[i][0], found[i][1] -/
theorem found_ix {m : Nat} {U : Store} {i : Nat} {G : Gm} {w : D} (h : lsOf U w = some (refsA S.length m)) (hi : i < m) : opIx w (.int (i : Nat)) U = .ok (.tup [.ref (S.length + 2 * i), .ref (S.length + 2 * i + 1)]) U := opIx_ls h (atI_nat (refsA_get hi))
theorem left_step {B : Alb} {k i j m : Nat} {x : Gf} {G : Gm} (hk : Kinds B k) (hG : G.length = 8) (h2 : G[2]? = some (some (.lst (refsA S.length B.length)))) (e1 : x.g = i) (e2 : x.k = j) (e3 : x.t = m) (hi : i < B.length) (hj : j < k) (hm : m < B.length) (him : i ≠ m)
    (g5 : G[5]? = some (some (.int x.g))) (g6 : G[6]? = some (some (.int x.k))) (g7 : G[7]? = some (some (.int x.t))) :
    bCons (sAugS (fun a b => a - b) (eIx (eIx (eVar 2) (eVar 5)) (eC (.int 0))) (eVar 6) (eC (.int 1))) (sAugS (fun a b => a - b) (eIx (eIx (eVar 2) (eVar 7)) (eC (.int 1))) (eVar 6) (eC (.int 1))) G (S ++ cellsA B) = .nx G (S ++ cellsA (lessA B x)) := by
  have hl := kinds_at hk hi
  have a1 : (S ++ cellsA B)[S.length + 2 * i]? = some (.lst ((at_ B i).1.map D.int)) := by rw [getElem?_end, cellsA_get1 (at_get hi)]
  have o1 : eIx (eIx (eVar 2) (eVar 5)) (eC (.int 0)) G (S ++ cellsA B) = .ok (.ref (S.length + 2 * i)) (S ++ cellsA B) := by
    simp only [eIx_ap, eVar_ap h2, eVar_ap g5, ER.bind_ok, eC_ap, e1]
    rw [opIx_ls lsOf_lst (atI_nat (refsA_get hi)), ER.bind_ok, opIx_tup0]
  have q1 := aug_cell (j := j) (fi := eVar 6) o1 (by rw [eVar_ap g6, e2]) a1 (by omega)
  rw [bCons_ap, q1]
  dsimp only
  have ec : (S ++ cellsA B).set (S.length + 2 * i) (.lst (((at_ B i).1.set j ((at_ B i).1.getD j 0 - 1)).map D.int)) = S ++ cellsA (giveA B i j) := by
    rw [set_mid (by rw [cellsA_length]; omega), cellsA_set1 (at_get hi)]
    rfl
  rw [ec]
  have hl2 := kinds_at (giveA_kinds (j := j) hk hi) (i := m) (by rw [giveA_length]; exact hm)
  have a2 : (S ++ cellsA (giveA B i j))[S.length + 2 * m + 1]? = some (.lst ((at_ (giveA B i j) m).2.map D.int)) := by rw [Nat.add_assoc, getElem?_end, cellsA_get2 (at_get (by rw [giveA_length]; exact hm))]
  have o2 : eIx (eIx (eVar 2) (eVar 7)) (eC (.int 1)) G (S ++ cellsA (giveA B i j)) = .ok (.ref (S.length + 2 * m + 1)) (S ++ cellsA (giveA B i j)) := by
    simp only [eIx_ap, eVar_ap h2, eVar_ap g7, ER.bind_ok, eC_ap, e3]
    rw [opIx_ls lsOf_lst (atI_nat (refsA_get hm)), ER.bind_ok, opIx_tup1]
  rw [aug_cell (j := j) (fi := eVar 6) o2 (by rw [eVar_ap g6, e2]) a2 (by omega)]
  have ed : (S ++ cellsA (giveA B i j)).set (S.length + 2 * m + 1) (.lst (((at_ (giveA B i j) m).2.set j ((at_ (giveA B i j) m).2.getD j 0 - 1)).map D.int)) = S ++ cellsA (takeA (giveA B i j) m j) := by
    rw [Nat.add_assoc, set_mid (by rw [cellsA_length, giveA_length]; omega), cellsA_set2 (at_get (by rw [giveA_length]; exact hm))]
    rfl
  rw [ed]
  unfold lessA
  rw [e1, e2, e3]
  rfl
theorem lessA_kinds {B : Alb} {k : Nat} {x : Gf} (hk : Kinds B k) (hx : isGift B.length k x = true) : Kinds (lessA B x) k := by
  obtain ⟨i, j, m, e1, e2, e3, hi, hj, hm, _⟩ := isGift_nat hx
  unfold lessA
  rw [e1, e2, e3]
  exact takeA_kinds (giveA_kinds hk (by simpa using hi)) (by rw [giveA_length]; simpa using hm)
theorem leftA_kinds {k : Nat} : ∀ (gs : List Gf) (B : Alb), Kinds B k → (∀ x ∈ gs, isGift B.length k x = true) → Kinds (leftA B gs) k ∧ (leftA B gs).length = B.length
  | [], B, hk, _ => ⟨hk, rfl⟩
  | x :: gs, B, hk, h => by
    have hx := h x List.mem_cons_self
    have q := leftA_kinds gs (lessA B x) (lessA_kinds hk hx) fun y hy => by
      rw [lessA_length]
      exact h y (List.mem_cons_of_mem _ hy)
    rw [lessA_length] at q
    exact q
theorem left_of_ok {k : Nat} (h : RAlb S d A) (hz : A.length < 1000) (hk : Kinds A k) (hg : RG S gd gs) (hall : ∀ x ∈ gs, isGift A.length k x = true) : f_left_of [d, gd] S = .ok (.lst (refsA S.length A.length)) (S ++ cellsA (leftA A gs)) := by
  refine fnD_rt ?_
  unfold d_left_of
  simp only [List.length_cons, List.length_nil, List.map_cons, List.map_nil, List.cons_append, List.nil_append, List.replicate]
  rw [bCons_ap, sAsg_nm, copy_ok (f := eVar 0) h hz (by simp) (by decide) (by simp) (by simp), toOut_ok]
  dsimp only
  rw [bCons_ap]
  have hgi : ∀ i x, gs[i]? = some x → isGift A.length k x = true := fun i x hx => hall x (List.mem_of_getElem? hx)
  have loop := forD_rule (fI := iSeq (eVar 1)) (t := .tup [.nm 5, .nm 6, .nm 7]) (kill := [5, 6, 7]) (u := bCons (sAugS (fun a b => a - b) (eIx (eIx (eVar 2) (eVar 5)) (eC (.int 0))) (eVar 6) (eC (.int 1))) (sAugS (fun a b => a - b) (eIx (eIx (eVar 2) (eVar 7)) (eC (.int 1))) (eVar 6) (eC (.int 1))))
    (Gx := [some d, some gd, some (.lst (refsA S.length A.length)), none, none, none, none, none]) (S1 := S ++ cellsA A) (xs := gs.map gD) (S0 := S ++ cellsA A) (P := fun S' => ∃ T, S' = S ++ T)
    (wk_ls (d := gd) (by simp) (lsOf_grow _ hg) fun S' ⟨T, e⟩ => by rw [e]; exact lsOf_grow T hg)
    (fun i G S' => i ≤ gs.length ∧ G = [some d, some gd, some (.lst (refsA S.length A.length)), none, none, none, none, none] ∧ S' = S ++ cellsA (leftA A (gs.take i)))
    (fun o => o = .nx [some d, some gd, some (.lst (refsA S.length A.length)), none, none, none, none, none] (S ++ cellsA (leftA A gs)))
    ⟨Nat.zero_le _, rfl, rfl⟩ (fun i G S' hI => ⟨_, hI.2.2⟩) (fun i x G S' hx hI => ?_) (fun G S' hI => ?_) rfl
  · simp only [List.set_cons_zero, List.set_cons_succ]
    rw [loop]
    dsimp only
    simp
  · obtain ⟨hi, rfl, rfl⟩ := hI
    rw [List.getElem?_map] at hx
    cases hg' : gs[i]? with
    | none =>
      rw [hg'] at hx
      cases hx
    | some y =>
      rw [hg'] at hx
      cases hx
      have hl : i < gs.length := (List.getElem?_eq_some_iff.mp hg').1
      have hlk := leftA_kinds (gs.take i) A hk fun z hz => hall z (List.mem_of_mem_take hz)
      obtain ⟨a, b, c, e1, e2, e3, ha, hb, hc, hac⟩ := isGift_nat (hgi i y hg')
      refine ⟨[some d, some gd, some (.lst (refsA S.length A.length)), none, none, some (.int y.g), some (.int y.k), some (.int y.t)], by simp [gD], ?_⟩
      rw [left_step (k := k) (x := y) (B := leftA A (gs.take i)) hlk.1 rfl (by rw [hlk.2]; rfl) e1 e2 e3 (by rw [hlk.2]; exact ha) hb (by rw [hlk.2]; exact hc) hac rfl rfl rfl]
      dsimp only
      refine ⟨hl, by simp [wipeG], ?_⟩
      rw [List.take_add_one, hg']
      unfold leftA
      simp
  · obtain ⟨hi, rfl, rfl⟩ := hI
    rw [List.length_map, List.take_length]
/-! ### fits -/
theorem opAdd_ls {xs ys : List D} (h1 : lsOf S d = some xs) (h2 : lsOf S e = some ys) (hz : xs.length + ys.length ≤ 100000) : opAdd d e S = .ok (.lst (xs ++ ys)) S := by
  have n1 : ∀ i, d ≠ .int i := fun i z => by subst z; cases h1
  have n2 : ∀ i, d ≠ .str i := fun i z => by subst z; cases h1
  have n3 : ∀ i, d ≠ .tup i := fun i z => by subst z; cases h1
  unfold opAdd
  split
  · exact absurd rfl (n1 _)
  · exact absurd rfl (n2 _)
  · exact absurd rfl (n3 _)
  · rw [h1, h2]
    dsimp only
    rw [if_pos hz]
theorem bMin_ls {z : Int} (h : lsOf S d = some ((z :: ns).map D.int)) : bMin [d] S = .ok (.int (minL z ns)) S := by
  unfold bMin
  rw [bInts_ls h]
theorem minL_nonneg {z : Int} {ns : List Int} : decide (0 ≤ minL z ns) = (z :: ns).all fun n => decide (0 ≤ n) := by
  obtain ⟨h1, h2⟩ := minL_mem z ns
  rw [Bool.eq_iff_iff, decide_eq_true_eq, List.all_eq_true]
  constructor
  · intro h y hy
    have := h2 y hy
    exact decide_eq_true (by omega)
  · intro h
    exact of_decide_eq_true (h _ h1)
def noneLess (p : List Int × List Int) : Bool := (p.1 ++ p.2).all fun n => decide (0 ≤ n)
def mFits (A : Alb) (k : Nat) (gs : List Gf) : Bool := gs.all (isGift A.length k) && (leftA A gs).all noneLess
theorem ralb_left (n : Nat) {B : Alb} (hl : B.length = n) : RAlb (S ++ cellsA B) (.lst (refsA S.length n)) B := by
  have q := ralb_cells (S := S) (A := B) (T := []) (d := .lst (refsA S.length B.length)) rfl
  rw [List.append_nil, hl] at q
  exact q
theorem fits_ok {k : Nat} (h : RAlb S d A) (n1 : 1 ≤ A.length) (hz : A.length < 1000) (k1 : 1 ≤ k) (kz : k < 1000) (hk : Kinds A k) (hg : RG S gd gs) (gz : gs.length < 1000) : ∃ T, f_fits [d, gd] S = .ok (.bl (mFits A k gs)) (S ++ T) := by
  have c1 : eLc (iSeq (eVar 1)) [2] (.nm 2) (eC (.bl true)) (eCall f_is_gift (eaCons (eVar 0) (eaCons (eVar 2) eaNil))) [some d, some gd, none, none, none] S = .ok (.lst (gs.map fun x => D.bl (isGift A.length k x))) S := by
    refine eLc_map (wk_ls (d := gd) (by simp) hg (fun S' e => by rw [e]; exact hg)) rfl _ (by omega) fun i t ht => ⟨_, by simp [wipeG]; rfl, ?_⟩
    simp [is_gift_ok h n1 hk]
  cases hall : gs.all (isGift A.length k) with
  | false =>
    refine ⟨[], ?_⟩
    rw [List.append_nil]
    refine fnD_rt ?_
    unfold d_fits mFits
    simp only [List.length_cons, List.length_nil, List.map_cons, List.map_nil, List.cons_append, List.nil_append, List.replicate]
    simp [c1, bAll_map, hall]
  | true =>
    have hl := left_of_ok h hz hk hg (List.all_eq_true.mp hall)
    obtain ⟨lk, ll⟩ := leftA_kinds gs A hk (List.all_eq_true.mp hall)
    have hr : RAlb (S ++ cellsA (leftA A gs)) (.lst (refsA S.length A.length)) (leftA A gs) := ralb_left A.length ll
    refine ⟨cellsA (leftA A gs), ?_⟩
    obtain ⟨ts, t1, t2, t3⟩ := hr.list
    have tl : ts.length = (leftA A gs).length := by rw [← t2, List.length_map]
    have c2 : eLc (iSeq (eCall f_left_of (eaCons (eVar 0) (eaCons (eVar 1) eaNil)))) [3, 4] (.tup [.nm 3, .nm 4]) (eC (.bl true)) (eOp opGe (eCall bMin (eaCons (eOp opAdd (eVar 3) (eVar 4)) eaNil)) (eC (.int 0))) [some d, some gd, none, none, none] S = .ok (.lst (ts.map fun t => D.bl (noneLess t.2.2))) (S ++ cellsA (leftA A gs)) := by
      refine eLc_map (wk_ls (by simp [hl]) t1 (fun S' e => by rw [e]; exact t1)) rfl _ (by omega) fun i t ht => ⟨_, by simp [wipeG]; rfl, ?_⟩
      obtain ⟨r1, r2⟩ := t3 t (List.mem_of_getElem? ht)
      have hi : (leftA A gs)[i]? = some t.2.2 := by rw [← t2, List.getElem?_map, ht]; rfl
      obtain ⟨l1, l2⟩ := lk i _ hi
      obtain ⟨z, zs, ez⟩ : ∃ z zs, t.2.2.1 ++ t.2.2.2 = z :: zs := by
        cases e : t.2.2.1 ++ t.2.2.2 with
        | nil =>
          have := congrArg List.length e
          simp only [List.length_append, List.length_nil] at this
          omega
        | cons z zs => exact ⟨z, zs, rfl⟩
      have eadd := opAdd_ls r1 r2 (by rw [List.length_map, List.length_map]; omega)
      rw [← List.map_append, ez] at eadd
      have emin := bMin_ls (S := S ++ cellsA (leftA A gs)) (d := .lst ((z :: zs).map D.int)) (z := z) (ns := zs) rfl
      have en : noneLess t.2.2 = decide (0 ≤ minL z zs) := by
        rw [minL_nonneg]
        unfold noneLess
        rw [ez]
      simp only [eOp_ap, eCall_ap, eaCons_ap, eaNil_ap, eVar_s, eVar_0, ER.bind_ok, AR.bind_ok, eadd, emin, eC_ap, opGe_int, en]
    refine fnD_rt ?_
    unfold d_fits mFits
    simp only [List.length_cons, List.length_nil, List.map_cons, List.map_nil, List.cons_append, List.nil_append, List.replicate]
    have el : ts.all (fun t => noneLess t.2.2) = (leftA A gs).all noneLess := by rw [← t2, List.all_map]; rfl
    simp [c1, bAll_map, hall, c2, el]
end
end L2.VE.T
/-! ML15: numbers by the cells. -/
namespace L2.VE.T
open PySem PySem.Spec PyProof.Rows PySem.SeqAt PySem.W L2 L2.VE PySem.Builtin.Int
section
variable {S T U V : Store} {d : D} {ns : List Int}
theorem log_bits {x : Int} {m : Nat} (h : intBits x ≤ m) : x.natAbs.log2 ≤ m := by
  unfold intBits at h
  split at h
  · rename_i e
    have : x = 0 := by simpa using e
    subst this
    exact Nat.zero_le _
  · omega
theorem opMul_fit {i j : Int} {m n : Nat} (hi : intBits i ≤ m) (hj : intBits j ≤ n) (h : m + n < 100000000) : opMul (.int i) (.int j) S = .ok (.int (i * j)) S := by
  have h1 := log_bits hi
  have h2 := log_bits hj
  unfold opMul
  dsimp only
  rw [if_pos (by omega)]
theorem bits_lit {x : Int} {m : Nat} (h : x.natAbs < 2 ^ m) : intBits x ≤ m := intBits_le_iff.mpr h
theorem bits_nat {t : Nat} (h : t < 1000) : intBits (t : Int) ≤ 10 := bits_lit (by
  have : (2 : Nat) ^ 10 = 1024 := by decide
  rw [this]
  omega)
theorem cell_at_ok {k : Nat} : f_z_cell_at [.lst (ns.map D.int), .int (k : Nat)] S = .ok (.int (ns.getD k 0)) S := by
  refine fnD_rt ?_
  unfold d_z_cell_at
  simp only [List.length_cons, List.length_nil, List.map_cons, List.map_nil, List.cons_append, List.nil_append, List.replicate]
  simp only [bCons_ap, sIf_ap, eOp_ap, eVar_s, eVar_0, ER.bind_ok, eCall_ap, eaCons_ap, eaNil_ap, AR.bind_ok, bLen_lst, List.length_map, opLt_int, toOut_ok, sRet_ap, eIx_ap, bNil_ap, eC_ap]
  by_cases h : k < ns.length
  · rw [decide_eq_true (by omega : (k : Int) < (ns.length : Int))]
    simp only [opIx_ls (S := S) lsOf_lst (atI_set h), toOut_ok]
  · rw [decide_eq_false (by omega : ¬ (k : Int) < (ns.length : Int))]
    simp only [toOut_ok]
    rw [List.getD_eq_getElem?_getD, List.getElem?_eq_none (by omega)]
    rfl
theorem bits20 {x : Int} (h : x.natAbs < 1048576) : intBits x ≤ 20 := bits_lit (by
  have : (2 : Nat) ^ 20 = 1048576 := by decide
  rw [this]
  exact h)
theorem bits10 {x : Int} (h : x.natAbs < 1024) : intBits x ≤ 10 := bits_lit (by
  have : (2 : Nat) ^ 10 = 1024 := by decide
  rw [this]
  exact h)
def primes : List Int := [1000003, 1000033, 1000037, 1000039, 1000081, 1000099, 1000117, 1000121, 1000133, 1000151, 1000159, 1000171, 1000183, 1000187, 1000193, 1000199]
theorem primes_pos : ∀ j < 16, 0 < primes.getD j 0 := by decide
theorem bits_add1 {x y : Int} {m n : Nat} (hx : intBits x ≤ m) (hy : intBits y ≤ n) : intBits (x + y) ≤ max m n + 1 := intBits_add_le hx hy
end
end L2.VE.T
/-! k12 A1: the doors, seen by the kernel. -/
namespace L2.VE.T
open PySem PySem.Spec PyProof.Rows L2 L2.VE
def rowsD : List D := match f_z_rows_one [] tab0 with
  | .ok _ S => (match (S[1]? : Option Cell) with
    | some (Cell.lst xs) => xs
    | _ => [])
  | _ => []
def S1 : Store := tab0 ++ [.lst rowsD]
def rowN (i : Nat) : D := rowsD.getD i .non
def argN (i j : Nat) : D := match rowN i with
  | .tup ds => ds.getD j .non
  | _ => .non
def seenE : ER → Option (Bool × Store)
  | .ok (.bl b) S => some (b, S.take 2)
  | _ => none
theorem rows_ok : f_z_rows_one [] tab0 = .ok (.ref 1) S1 := by kernel_rfl
theorem rows_all : rowsD = [rowN 0, rowN 1, rowN 2, rowN 3, rowN 4, rowN 5, rowN 6, rowN 7, rowN 8, rowN 9, rowN 10] := by kernel_rfl
theorem rows_flat : S1.all isTab = true := by kernel_rfl
def door (i : Nat) : Option (Bool × Store) := seenE (f_z_door_right [argN i 0, argN i 1, argN i 2] S1)
theorem row_0 : rowN 0 = .tup [argN 0 0, argN 0 1, argN 0 2] := by kernel_rfl
theorem door_0 : door 0 = some (true, S1) := by kernel_rfl
theorem row_1 : rowN 1 = .tup [argN 1 0, argN 1 1, argN 1 2] := by kernel_rfl
theorem door_1 : door 1 = some (true, S1) := by kernel_rfl
theorem row_2 : rowN 2 = .tup [argN 2 0, argN 2 1, argN 2 2] := by kernel_rfl
theorem door_2 : door 2 = some (true, S1) := by kernel_rfl
theorem row_3 : rowN 3 = .tup [argN 3 0, argN 3 1, argN 3 2] := by kernel_rfl
theorem door_3 : door 3 = some (true, S1) := by kernel_rfl
theorem row_4 : rowN 4 = .tup [argN 4 0, argN 4 1, argN 4 2] := by kernel_rfl
theorem door_4 : door 4 = some (true, S1) := by kernel_rfl
theorem row_5 : rowN 5 = .tup [argN 5 0, argN 5 1, argN 5 2] := by kernel_rfl
theorem door_5 : door 5 = some (true, S1) := by kernel_rfl
theorem row_6 : rowN 6 = .tup [argN 6 0, argN 6 1, argN 6 2] := by kernel_rfl
theorem door_6 : door 6 = some (true, S1) := by kernel_rfl
theorem row_7 : rowN 7 = .tup [argN 7 0, argN 7 1, argN 7 2] := by kernel_rfl
theorem door_7 : door 7 = some (true, S1) := by kernel_rfl
theorem row_8 : rowN 8 = .tup [argN 8 0, argN 8 1, argN 8 2] := by kernel_rfl
theorem door_8 : door 8 = some (true, S1) := by kernel_rfl
theorem row_9 : rowN 9 = .tup [argN 9 0, argN 9 1, argN 9 2] := by kernel_rfl
theorem door_9 : door 9 = some (true, S1) := by kernel_rfl
theorem row_10 : rowN 10 = .tup [argN 10 0, argN 10 1, argN 10 2] := by kernel_rfl
theorem door_10 : door 10 = some (true, S1) := by kernel_rfl
theorem turned : ∀ b, b < 11 → ∀ (x0 x3 x4 x5 : Option D), eOp opAdd (eSl (eVar 1) (some (eVar 2)) none) (eSl (eVar 1) none (some (eVar 2))) [x0, some (.ref 1), some (.int (b : Nat)), x3, x4, x5] S1 = .ok (.lst (rowsD.drop b ++ rowsD.take b)) S1
  | 0, _, _, _, _, _ => by kernel_rfl
  | 1, _, _, _, _, _ => by kernel_rfl
  | 2, _, _, _, _, _ => by kernel_rfl
  | 3, _, _, _, _, _ => by kernel_rfl
  | 4, _, _, _, _, _ => by kernel_rfl
  | 5, _, _, _, _, _ => by kernel_rfl
  | 6, _, _, _, _, _ => by kernel_rfl
  | 7, _, _, _, _, _ => by kernel_rfl
  | 8, _, _, _, _, _ => by kernel_rfl
  | 9, _, _, _, _, _ => by kernel_rfl
  | 10, _, _, _, _, _ => by kernel_rfl
  | b + 11, h, _, _, _, _ => absurd h (by omega)
theorem rows_len : bLen [.ref 1] S1 = .ok (.int 11) S1 := by kernel_rfl
end L2.VE.T
/-! k12 A2: the law is true. -/
namespace L2.VE.T
open PySem PySem.Spec PyProof.Rows PySem.SeqAt PySem.W L2 L2.VE PySem.Builtin.Int
theorem noRefs_ints : ∀ ns : List Int, noRefs (ns.map D.int) = true
  | [] => rfl
  | _ :: ns => noRefs_ints ns
theorem row_of : ∀ x ∈ rowsD, ∃ a b c, x = .tup [a, b, c] ∧ seenE (f_z_door_right [a, b, c] S1) = some (true, S1) := fun x hx => by
  rw [rows_all] at hx
  simp only [List.mem_cons, List.not_mem_nil, or_false] at hx
  rcases hx with rfl | rfl | rfl | rfl | rfl | rfl | rfl | rfl | rfl | rfl | rfl
  · exact ⟨_, _, _, row_0, door_0⟩
  · exact ⟨_, _, _, row_1, door_1⟩
  · exact ⟨_, _, _, row_2, door_2⟩
  · exact ⟨_, _, _, row_3, door_3⟩
  · exact ⟨_, _, _, row_4, door_4⟩
  · exact ⟨_, _, _, row_5, door_5⟩
  · exact ⟨_, _, _, row_6, door_6⟩
  · exact ⟨_, _, _, row_7, door_7⟩
  · exact ⟨_, _, _, row_8, door_8⟩
  · exact ⟨_, _, _, row_9, door_9⟩
  · exact ⟨_, _, _, row_10, door_10⟩
theorem law_turn {ns : List Int} {x1 x2 : Option D} {a b c : D} (h : seenE (f_z_door_right [a, b, c] S1) = some (true, S1)) :
    bCutT [0] b_z_law_0 [some (.lst (ns.map D.int)), x1, x2, some a, some b, some c] S1 = .nx [some (.lst (ns.map D.int)), none, none, none, none, none] S1 := by
  cases hr : f_z_door_right [a, b, c] S1 with
  | ok d S2 =>
    rw [hr] at h
    have hd : d = .bl true ∧ S2.take 2 = S1 := by
      unfold seenE at h
      split at h
      · rename_i e
        cases e
        simp only [Option.some.injEq, Prod.mk.injEq] at h
        exact ⟨by rw [h.1], h.2⟩
      · cases h
    obtain ⟨rfl, k4⟩ := hd
    have eb : b_z_law_0 [some (.lst (ns.map D.int)), x1, x2, some a, some b, some c] S1 = .nx [some (.lst (ns.map D.int)), x1, x2, some a, some b, some c] S2 := by
      show sIf _ _ _ _ _ = _
      rw [sIf_ap]
      simp only [eOp1_ap, eCall_ap, eaCons_ap, eVar_s, eVar_0, ER.bind_ok, eaNil_ap, AR.bind_ok, hr, opNot_bl, Bool.not_true, toOut_ok, bNil_ap]
    unfold bCutT
    rw [eb]
    dsimp only
    have tl : S1.length = 2 := rfl
    rw [tl, k4, if_pos rows_flat]
    have eg : cutG [0] [some (.lst (ns.map D.int)), x1, x2, some a, some b, some c] = [some (.lst (ns.map D.int)), none, none, none, none, none] := by
      unfold cutG
      have n1 : noRef (.lst (ns.map D.int)) = true := by
        unfold noRef
        exact noRefs_ints ns
      have e9 : List.range [some (.lst (ns.map D.int)), x1, x2, some a, some b, some c].length = [0, 1, 2, 3, 4, 5] := rfl
      rw [e9]
      simp [n1]
    rw [eg]
  | xc c S2 => rw [hr] at h; cases h
  | stuck => rw [hr] at h; cases h
theorem law_true (ns : List Int) (hl : ns.length ≤ 63) (hb : ∀ z ∈ ns, PySem.Builtin.Int.intBits z ≤ 1048576) : ∃ S2, r_law (some (.lst (ns.map D.int)) :: List.replicate 5 none) tab0 = .rt (.bl true) S2 := by
  have ec := cell_at_ok (S := S1) (ns := ns) (k := 0)
  have ec : f_z_cell_at [.lst (ns.map D.int), .int 0] S1 = .ok (.int (ns.getD 0 0)) S1 := ec
  have ea : ∃ z : Int, bAbs [.int (ns.getD 0 0)] S1 = .ok (.int z) S1 := ⟨_, rfl⟩
  obtain ⟨z, ea⟩ := ea
  obtain ⟨b, hbz, hb11⟩ : ∃ b : Nat, z % 11 = (b : Int) ∧ b < 11 := ⟨(z % 11).toNat, by
    have := Int.emod_nonneg z (b := 11) (by decide)
    omega, by
    have := Int.emod_lt_of_pos z (b := 11) (by decide)
    have := Int.emod_nonneg z (b := 11) (by decide)
    omega⟩
  have s1 : sAsg (.nm 1) (eCall f_z_rows_one eaNil) (some (.lst (ns.map D.int)) :: List.replicate 5 none) tab0 = .nx [some (.lst (ns.map D.int)), some (.ref 1), none, none, none, none] S1 := by
    rw [sAsg_nm]
    simp only [eCall_ap, eaNil_ap, AR.bind_ok, rows_ok, toOut_ok]
    rfl
  have P11 : (0 : Int) < 11 := by decide
  have s2 : sAsg (.nm 2) (eOp opMod (eCall bAbs (eaCons (eCall f_z_cell_at (eaCons (eVar 0) (eaCons (eC (.int 0)) eaNil))) eaNil)) (eCall bLen (eaCons (eVar 1) eaNil))) [some (.lst (ns.map D.int)), some (.ref 1), none, none, none, none] S1 =
      .nx [some (.lst (ns.map D.int)), some (.ref 1), some (.int (b : Nat)), none, none, none] S1 := by
    rw [sAsg_nm]
    simp only [eOp_ap, eCall_ap, eaCons_ap, eVar_s, eVar_0, ER.bind_ok, eC_ap, eaNil_ap, AR.bind_ok, ec, ea, rows_len, opMod_int, if_pos P11, hbz, toOut_ok, List.set_cons_succ, List.set_cons_zero]
  have loop := forD_rule (fI := iSeq (eOp opAdd (eSl (eVar 1) (some (eVar 2)) none) (eSl (eVar 1) none (some (eVar 2))))) (t := .tup [(.nm 3), (.nm 4), (.nm 5)]) (kill := [3, 4, 5]) (u := bCutT [0] b_z_law_0) (Gx := [some (.lst (ns.map D.int)), some (.ref 1), some (.int (b : Nat)), none, none, none]) (S1 := S1) (xs := rowsD.drop b ++ rowsD.take b) (S0 := S1) (P := fun _ => True)
    (wk_lst (turned b hb11 _ _ _ _))
    (fun i G S' => S' = S1 ∧ ∃ x1 x2, G = [some (.lst (ns.map D.int)), x1, x2, none, none, none])
    (fun o => ∃ G, o = .nx G S1) ⟨rfl, _, _, rfl⟩ (fun _ _ _ _ => trivial) (fun i x G S' hx hI => by
      obtain ⟨rfl, x1, x2, rfl⟩ := hI
      have hm : x ∈ rowsD := by
        rcases List.mem_append.mp (List.mem_of_getElem? hx) with h | h
        · exact List.mem_of_mem_drop h
        · exact List.mem_of_mem_take h
      obtain ⟨a, b', c, rfl, hd⟩ := row_of x hm
      refine ⟨[some (.lst (ns.map D.int)), x1, x2, some a, some b', some c], rfl, ?_⟩
      rw [law_turn hd]
      exact ⟨rfl, none, none, rfl⟩)
    (fun G S' hI => by
      obtain ⟨rfl, x1, x2, rfl⟩ := hI
      exact ⟨_, rfl⟩) rfl
  obtain ⟨G2, e3⟩ := loop
  refine ⟨S1, ?_⟩
  unfold r_law
  rw [bCons_ap, s1]
  dsimp only
  rw [bCons_ap, s2]
  dsimp only
  rw [bCons_ap, e3]
  dsimp only
  rw [sRet_ap]
  simp only [eC_ap, toOut_ok]
end L2.VE.T
namespace L2.VE.T
open PySem PySem.Spec PyProof.Rows L2 L2.VE
section
variable {P : Program} {w : World} {K : PySem.W.Frag} {mg : Str → Option Value} {base : Heap} {ct : Nat → Addr}
set_option maxHeartbeats 0 in
theorem ok_law_all {f : Addr} {fd : FuncData} (F : Fun K "law" "law" st_z_law f fd) (T : Txt K mg ct) {tps : List Addr} (tl : tps.length = 1) (tc : ∀ i, i < tps.length → tps[i]? = some (ct (100 + i))) (tn : tps.Nodup) (a_z_cell_at : FnAt P w K mg base ct "_law_cell_at" 1 2 f_z_cell_at) (a_z_door_right : FnAt P w K mg base ct "_law_door_right" 19 3 f_z_door_right) (a_z_rows_one : FnAt P w K mg base ct "_law_rows_one" 1 0 f_z_rows_one) : FnOk P w K mg base (L2.CX P w) 20 f fd ["_law_script"] (spLawT K tps) := by
  refine F.okX sc_z_law (fun vs H Q E h => ?_) fun cdv A outer s H vs Q E hr h => ?_
  · obtain ⟨a, ns, rfl, _⟩ := h
    rfl
  · obtain ⟨a, ns, rfl, hS, hl, hb, hT, hq⟩ := h
    have hu65 := units_65 hr
    have hu64 := units_64 hr
    have hu1 := units_1 hr
    have nd := sc_z_law.nd
    have tk : Takes (bodyX P w K mg base ["_law_script", "_law_rows", "_law_begin", "_law_ask", "_law_first", "_law_second"] "law" st_z_law f cdv A outer s H E) (fun cls d _ H => E cls d H) := takes_of rfl rfl rfl rfl
    have ps : PassesOwn (model P w) (bodyX P w K mg base ["_law_script", "_law_rows", "_law_begin", "_law_ask", "_law_first", "_law_second"] "law" st_z_law f cdv A outer s H E).A (bodyX P w K mg base ["_law_script", "_law_rows", "_law_begin", "_law_ask", "_law_first", "_law_second"] "law" st_z_law f cdv A outer s H E).env (bodyX P w K mg base ["_law_script", "_law_rows", "_law_begin", "_law_ask", "_law_first", "_law_second"] "law" st_z_law f cdv A outer s H E).xe := passes_of rfl
    obtain ⟨S2, hS2⟩ := law_true ns hl hb
    refine ⟨_, pss_cons (ps_set (i := 0) nd rfl (by first | exact .inl rfl | exact .inr rfl) (pe_slice sl_list (pe_var (i := 0) rfl (by first | exact .inl rfl | exact .inr (.inl rfl) | exact .inr (.inr rfl))) po_none (po_some pe_int))) (pss_w (X := (bodyX P w K mg base ["_law_script", "_law_rows", "_law_begin", "_law_ask", "_law_first", "_law_second"] "law" st_z_law f cdv A outer s H E))), ?_⟩
    refine ⟨_, rfl, ⟨_, rfl, a, ns.map V.int, rfl, hS, fun p hp => ?_⟩⟩
    have hcut : cutV (ns.map V.int) none (some 63) = ns.map V.int := cut63 ns hl
    rw [hcut]
    have hrest : SndL ct (bodyX P w K mg base ["_law_script", "_law_rows", "_law_begin", "_law_ask", "_law_first", "_law_second"] "law" st_z_law f cdv A outer s H E) (fun cls d _ H => E cls d H) (defBody st_z_law).tail r_law := by
      unfold r_law
      exact (sl_cons (ss_set (snd_call0 a_z_rows_one tk hr (by decide) (by rfl)) nd rfl (by first | exact .inl rfl | exact .inr rfl))
    (sl_cons (ss_set (snd_bin so_mod (snd_callB sc_abs (by rfl) T.n_abs bo_abs (sa_cons (snd_call a_z_cell_at tk hr (by decide) (by rfl) (sa_cons (snd_var 0 rfl (by first | exact .inl rfl | exact .inr (.inl rfl) | exact .inr (.inr rfl))) (sa_cons snd_int sa_nil)) rfl) sa_nil)) (snd_callB sc_len (by rfl) T.n_len bo_len (sa_cons (snd_var 1 rfl (by first | exact .inl rfl | exact .inr (.inl rfl) | exact .inr (.inr rfl))) sa_nil))) nd rfl (by first | exact .inl rfl | exact .inr rfl))
    (sl_cons (ss_for ps rfl (si_seq (snd_bin so_add (snd_sl (snd_var 1 rfl (by first | exact .inl rfl | exact .inr (.inl rfl) | exact .inr (.inr rfl))) (sp_some (snd_var 2 rfl (by first | exact .inl rfl | exact .inr (.inl rfl) | exact .inr (.inr rfl)))) sp_none) (snd_sl (snd_var 1 rfl (by first | exact .inl rfl | exact .inr (.inl rfl) | exact .inr (.inr rfl))) sp_none (sp_some (snd_var 2 rfl (by first | exact .inl rfl | exact .inr (.inl rfl) | exact .inr (.inr rfl))))))) (sg_tup rfl (sg_cons (sg_name nd rfl (by first | exact .inl rfl | exact .inr rfl)) (sg_cons (sg_name nd rfl (by first | exact .inl rfl | exact .inr rfl)) (sg_cons (sg_name nd rfl (by first | exact .inl rfl | exact .inr rfl)) sg_nil)))) (sb_cutT [0] (sb_one (ss_if (st_not (st_val (snd_call a_z_door_right tk hr (by decide) (by rfl) (sa_cons (snd_var 3 rfl (by first | exact .inl rfl | exact .inr (.inl rfl) | exact .inr (.inr rfl))) (sa_cons (snd_var 4 rfl (by first | exact .inl rfl | exact .inr (.inl rfl) | exact .inr (.inr rfl))) (sa_cons (snd_var 5 rfl (by first | exact .inl rfl | exact .inr (.inl rfl) | exact .inr (.inr rfl))) sa_nil))) rfl))) (sb_one (ss_ret snd_bl)) sb_nil))))
    (sl_of (sb_one (ss_ret snd_bl))))))
    have r0 : Rel ct ⟨fun n => ct (100 + n), []⟩ tab0 H := rel_tabs tl tc tn hT
    exact hrest.run _ _ ⟨fun n => ct (100 + n), []⟩ tab0 _ _ (r0.new hp) (env_lawT r0 hp) (fun H2 => hq _) ⟨S2, hS2⟩
end
theorem all_mk {l : PySem.W.OpenLaw} {q : Program} {w : World} {K : PySem.W.Frag} {h : Heap} {mg : Str → Option Value} {fa : Addr} (X : K.In h) (G : h.Ns mainGlobals mg) (hfa : mg "law" = some (.ref fa)) (TT : TabsTop q K h)
    {C1 C2 C3 C4 C5 C6 C7 C8 C9 C10 C11 C16 C12 C13 C14 C15 C17 q_z_wall q_is_count q_are_counts q_is_album q_check_albums q_is_gift q_check_gifts q_left_of q_fits q_is_even q_is_ring q_Flow_steps q_Flow_far q_Flow_bettered q_Flow_init q_Flow_given q_worth q_gift_between q_led_from q_ring_for q_one_ring q_parted q_brings q_Ring_init q_Ring_shows q_Never_init q_Never_shows q_Most_init q_Most_shows q_ring q_most q_rings q_Desk_init q_Desk_kept q_Desk_free q_Desk_agree q_Desk_look_at q_Desk_put q_Desk_send q_Desk_come q_Desk_lose q_Desk_drop q_Desk_stands q_Desk_owed q_z_cell_at q_z_copy q_z_into q_z_spoil q_z_ring_twice q_z_most_twice q_z_rings_twice q_z_door_right q_z_rows_one q_z_law cc_z_rows_one tp_z_rows_one : Addr}
    {t_MOST_OF_ONE t_MOST_COLLECTORS t_MOST_KINDS t_MOST_SWAPS : Tok}
    {od_z_wall an_z_wall od_is_count an_is_count od_are_counts an_are_counts od_is_album an_is_album od_check_albums an_check_albums od_is_gift an_is_gift od_check_gifts an_check_gifts od_left_of an_left_of od_fits an_fits od_is_even an_is_even od_is_ring an_is_ring od_Flow_steps an_Flow_steps od_Flow_far an_Flow_far od_Flow_bettered an_Flow_bettered od_Flow_init an_Flow_init od_Flow_given an_Flow_given od_worth an_worth od_gift_between an_gift_between od_led_from an_led_from od_ring_for an_ring_for od_one_ring an_one_ring od_parted an_parted od_brings an_brings od_Ring_init an_Ring_init od_Ring_shows an_Ring_shows od_Never_init an_Never_init od_Never_shows an_Never_shows od_Most_init an_Most_init od_Most_shows an_Most_shows od_ring an_ring od_most an_most od_rings an_rings od_Desk_init an_Desk_init od_Desk_kept an_Desk_kept od_Desk_free an_Desk_free od_Desk_agree an_Desk_agree od_Desk_look_at an_Desk_look_at od_Desk_put an_Desk_put od_Desk_send an_Desk_send od_Desk_come an_Desk_come od_Desk_lose an_Desk_lose od_Desk_drop an_Desk_drop od_Desk_stands an_Desk_stands od_Desk_owed an_Desk_owed od_z_cell_at an_z_cell_at od_z_copy an_z_copy od_z_into an_z_into od_z_spoil an_z_spoil od_z_ring_twice an_z_ring_twice od_z_most_twice an_z_most_twice od_z_rings_twice an_z_rings_twice od_z_door_right an_z_door_right od_z_rows_one an_z_rows_one od_z_law an_z_law od2_z_rows_one : Option Addr}
    {sl_z_wall sl_is_count sl_are_counts sl_is_album sl_check_albums sl_is_gift sl_check_gifts sl_left_of sl_fits sl_is_even sl_is_ring sl_Flow_steps sl_Flow_far sl_Flow_bettered sl_Flow_init sl_Flow_given sl_worth sl_gift_between sl_led_from sl_ring_for sl_one_ring sl_parted sl_brings sl_Ring_init sl_Ring_shows sl_Never_init sl_Never_shows sl_Most_init sl_Most_shows sl_ring sl_most sl_rings sl_Desk_init sl_Desk_kept sl_Desk_free sl_Desk_agree sl_Desk_look_at sl_Desk_put sl_Desk_send sl_Desk_come sl_Desk_lose sl_Desk_drop sl_Desk_stands sl_Desk_owed sl_z_cell_at sl_z_copy sl_z_into sl_z_spoil sl_z_ring_twice sl_z_most_twice sl_z_rings_twice sl_z_door_right sl_z_rows_one sl_z_law sl2_z_rows_one : Array (Option Value)}
    {vs2_z_rows_one : Array Value} {oe_z_rows_one : Value}
    {oc_z_wall kv_z_wall dc_z_wall pm_z_wall cd_z_wall ct_z_wall oc_is_count kv_is_count dc_is_count pm_is_count cd_is_count ct_is_count oc_are_counts kv_are_counts dc_are_counts pm_are_counts cd_are_counts ct_are_counts oc_is_album kv_is_album dc_is_album pm_is_album cd_is_album ct_is_album oc_check_albums kv_check_albums dc_check_albums pm_check_albums cd_check_albums ct_check_albums oc_is_gift kv_is_gift dc_is_gift pm_is_gift cd_is_gift ct_is_gift oc_check_gifts kv_check_gifts dc_check_gifts pm_check_gifts cd_check_gifts ct_check_gifts oc_left_of kv_left_of dc_left_of pm_left_of cd_left_of ct_left_of oc_fits kv_fits dc_fits pm_fits cd_fits ct_fits oc_is_even kv_is_even dc_is_even pm_is_even cd_is_even ct_is_even oc_is_ring kv_is_ring dc_is_ring pm_is_ring cd_is_ring ct_is_ring oc_Flow_steps kv_Flow_steps dc_Flow_steps pm_Flow_steps cd_Flow_steps ct_Flow_steps oc_Flow_far kv_Flow_far dc_Flow_far pm_Flow_far cd_Flow_far ct_Flow_far oc_Flow_bettered kv_Flow_bettered dc_Flow_bettered pm_Flow_bettered cd_Flow_bettered ct_Flow_bettered oc_Flow_init kv_Flow_init dc_Flow_init pm_Flow_init cd_Flow_init ct_Flow_init oc_Flow_given kv_Flow_given dc_Flow_given pm_Flow_given cd_Flow_given ct_Flow_given oc_worth kv_worth dc_worth pm_worth cd_worth ct_worth oc_gift_between kv_gift_between dc_gift_between pm_gift_between cd_gift_between ct_gift_between oc_led_from kv_led_from dc_led_from pm_led_from cd_led_from ct_led_from oc_ring_for kv_ring_for dc_ring_for pm_ring_for cd_ring_for ct_ring_for oc_one_ring kv_one_ring dc_one_ring pm_one_ring cd_one_ring ct_one_ring oc_parted kv_parted dc_parted pm_parted cd_parted ct_parted oc_brings kv_brings dc_brings pm_brings cd_brings ct_brings oc_Ring_init kv_Ring_init dc_Ring_init pm_Ring_init cd_Ring_init ct_Ring_init oc_Ring_shows kv_Ring_shows dc_Ring_shows pm_Ring_shows cd_Ring_shows ct_Ring_shows oc_Never_init kv_Never_init dc_Never_init pm_Never_init cd_Never_init ct_Never_init oc_Never_shows kv_Never_shows dc_Never_shows pm_Never_shows cd_Never_shows ct_Never_shows oc_Most_init kv_Most_init dc_Most_init pm_Most_init cd_Most_init ct_Most_init oc_Most_shows kv_Most_shows dc_Most_shows pm_Most_shows cd_Most_shows ct_Most_shows oc_ring kv_ring dc_ring pm_ring cd_ring ct_ring oc_most kv_most dc_most pm_most cd_most ct_most oc_rings kv_rings dc_rings pm_rings cd_rings ct_rings oc_Desk_init kv_Desk_init dc_Desk_init pm_Desk_init cd_Desk_init ct_Desk_init oc_Desk_kept kv_Desk_kept dc_Desk_kept pm_Desk_kept cd_Desk_kept ct_Desk_kept oc_Desk_free kv_Desk_free dc_Desk_free pm_Desk_free cd_Desk_free ct_Desk_free oc_Desk_agree kv_Desk_agree dc_Desk_agree pm_Desk_agree cd_Desk_agree ct_Desk_agree oc_Desk_look_at kv_Desk_look_at dc_Desk_look_at pm_Desk_look_at cd_Desk_look_at ct_Desk_look_at oc_Desk_put kv_Desk_put dc_Desk_put pm_Desk_put cd_Desk_put ct_Desk_put oc_Desk_send kv_Desk_send dc_Desk_send pm_Desk_send cd_Desk_send ct_Desk_send oc_Desk_come kv_Desk_come dc_Desk_come pm_Desk_come cd_Desk_come ct_Desk_come oc_Desk_lose kv_Desk_lose dc_Desk_lose pm_Desk_lose cd_Desk_lose ct_Desk_lose oc_Desk_drop kv_Desk_drop dc_Desk_drop pm_Desk_drop cd_Desk_drop ct_Desk_drop oc_Desk_stands kv_Desk_stands dc_Desk_stands pm_Desk_stands cd_Desk_stands ct_Desk_stands oc_Desk_owed kv_Desk_owed dc_Desk_owed pm_Desk_owed cd_Desk_owed ct_Desk_owed oc_z_cell_at kv_z_cell_at dc_z_cell_at pm_z_cell_at cd_z_cell_at ct_z_cell_at oc_z_copy kv_z_copy dc_z_copy pm_z_copy cd_z_copy ct_z_copy oc_z_into kv_z_into dc_z_into pm_z_into cd_z_into ct_z_into oc_z_spoil kv_z_spoil dc_z_spoil pm_z_spoil cd_z_spoil ct_z_spoil oc_z_ring_twice kv_z_ring_twice dc_z_ring_twice pm_z_ring_twice cd_z_ring_twice ct_z_ring_twice oc_z_most_twice kv_z_most_twice dc_z_most_twice pm_z_most_twice cd_z_most_twice ct_z_most_twice oc_z_rings_twice kv_z_rings_twice dc_z_rings_twice pm_z_rings_twice cd_z_rings_twice ct_z_rings_twice oc_z_door_right kv_z_door_right dc_z_door_right pm_z_door_right cd_z_door_right ct_z_door_right oc_z_rows_one kv_z_rows_one dc_z_rows_one pm_z_rows_one ct_z_rows_one oc_z_law kv_z_law dc_z_law pm_z_law cd_z_law ct_z_law : Value}
    (g1 : PySem.W.nsIn K mainGlobals "BadAlbums" = some (some (.ref C1)))
    (g2 : PySem.W.nsIn K mainGlobals "BadCollector" = some (some (.ref C2)))
    (g3 : PySem.W.nsIn K mainGlobals "BadKind" = some (some (.ref C3)))
    (g4 : PySem.W.nsIn K mainGlobals "BadGifts" = some (some (.ref C4)))
    (g5 : PySem.W.nsIn K mainGlobals "BadSwap" = some (some (.ref C5)))
    (g6 : PySem.W.nsIn K mainGlobals "BadPlace" = some (some (.ref C6)))
    (g7 : PySem.W.nsIn K mainGlobals "Unfit" = some (some (.ref C7)))
    (g8 : PySem.W.nsIn K mainGlobals "Uneven" = some (some (.ref C8)))
    (g9 : PySem.W.nsIn K mainGlobals "NoRing" = some (some (.ref C9)))
    (g10 : PySem.W.nsIn K mainGlobals "NotSo" = some (some (.ref C10)))
    (g11 : PySem.W.nsIn K mainGlobals "TooMany" = some (some (.ref C11)))
    (g16 : PySem.W.nsIn K mainGlobals "Flow" = some (some (.ref C16)))
    (g12 : PySem.W.nsIn K mainGlobals "Answer" = some (some (.ref C12)))
    (g13 : PySem.W.nsIn K mainGlobals "Ring" = some (some (.ref C13)))
    (g14 : PySem.W.nsIn K mainGlobals "Never" = some (some (.ref C14)))
    (g15 : PySem.W.nsIn K mainGlobals "Most" = some (some (.ref C15)))
    (g17 : PySem.W.nsIn K mainGlobals "Desk" = some (some (.ref C17)))
    (x1q : PySem.W.excIn K C1 [.type "ValueError", .type "Exception", .type "BaseException", .type "object"] "ValueError.__new__" = true)
    (x1k : PySem.W.keepIn K (.ref C1) = true)
    (x1b : PySem.W.subIn K (.ref C1) (.type "BaseException") = some true)
    (x1t : PySem.W.typeIn K (.ref C1) = some (.type "type"))
    (x4q : PySem.W.excIn K C4 [.type "ValueError", .type "Exception", .type "BaseException", .type "object"] "ValueError.__new__" = true)
    (x4k : PySem.W.keepIn K (.ref C4) = true)
    (x4b : PySem.W.subIn K (.ref C4) (.type "BaseException") = some true)
    (x4t : PySem.W.typeIn K (.ref C4) = some (.type "type"))
    (x2q : PySem.W.excIn K C2 [.type "ValueError", .type "Exception", .type "BaseException", .type "object"] "ValueError.__new__" = true)
    (x2k : PySem.W.keepIn K (.ref C2) = true)
    (x2b : PySem.W.subIn K (.ref C2) (.type "BaseException") = some true)
    (x2t : PySem.W.typeIn K (.ref C2) = some (.type "type"))
    (x3q : PySem.W.excIn K C3 [.type "ValueError", .type "Exception", .type "BaseException", .type "object"] "ValueError.__new__" = true)
    (x3k : PySem.W.keepIn K (.ref C3) = true)
    (x3b : PySem.W.subIn K (.ref C3) (.type "BaseException") = some true)
    (x3t : PySem.W.typeIn K (.ref C3) = some (.type "type"))
    (x7q : PySem.W.excIn K C7 [.type "ValueError", .type "Exception", .type "BaseException", .type "object"] "ValueError.__new__" = true)
    (x7k : PySem.W.keepIn K (.ref C7) = true)
    (x7b : PySem.W.subIn K (.ref C7) (.type "BaseException") = some true)
    (x7t : PySem.W.typeIn K (.ref C7) = some (.type "type"))
    (x8q : PySem.W.excIn K C8 [.type "ValueError", .type "Exception", .type "BaseException", .type "object"] "ValueError.__new__" = true)
    (x8k : PySem.W.keepIn K (.ref C8) = true)
    (x8b : PySem.W.subIn K (.ref C8) (.type "BaseException") = some true)
    (x8t : PySem.W.typeIn K (.ref C8) = some (.type "type"))
    (x9q : PySem.W.excIn K C9 [.type "ValueError", .type "Exception", .type "BaseException", .type "object"] "ValueError.__new__" = true)
    (x9k : PySem.W.keepIn K (.ref C9) = true)
    (x9b : PySem.W.subIn K (.ref C9) (.type "BaseException") = some true)
    (x9t : PySem.W.typeIn K (.ref C9) = some (.type "type"))
    (x11q : PySem.W.excIn K C11 [.type "ValueError", .type "Exception", .type "BaseException", .type "object"] "ValueError.__new__" = true)
    (x11k : PySem.W.keepIn K (.ref C11) = true)
    (x11b : PySem.W.subIn K (.ref C11) (.type "BaseException") = some true)
    (x11t : PySem.W.typeIn K (.ref C11) = some (.type "type"))
    (x5q : PySem.W.excIn K C5 [.type "ValueError", .type "Exception", .type "BaseException", .type "object"] "ValueError.__new__" = true)
    (x5k : PySem.W.keepIn K (.ref C5) = true)
    (x5b : PySem.W.subIn K (.ref C5) (.type "BaseException") = some true)
    (x5t : PySem.W.typeIn K (.ref C5) = some (.type "type"))
    (x6q : PySem.W.excIn K C6 [.type "ValueError", .type "Exception", .type "BaseException", .type "object"] "ValueError.__new__" = true)
    (x6k : PySem.W.keepIn K (.ref C6) = true)
    (x6b : PySem.W.subIn K (.ref C6) (.type "BaseException") = some true)
    (x6t : PySem.W.typeIn K (.ref C6) = some (.type "type"))
    (x10q : PySem.W.excIn K C10 [.type "ValueError", .type "Exception", .type "BaseException", .type "object"] "ValueError.__new__" = true)
    (x10k : PySem.W.keepIn K (.ref C10) = true)
    (x10b : PySem.W.subIn K (.ref C10) (.type "BaseException") = some true)
    (x10t : PySem.W.typeIn K (.ref C10) = some (.type "type"))
    (c16a : PySem.W.plainGet K C16 Str.empty = true)
    (c16b : PySem.W.hasDictIn K C16 = true)
    (c16c : PySem.W.plainOver K C16 = true)
    (c16d : PySem.W.findIn K (.ref C16) "__setattr__" = some (some (.builtin "object.__setattr__")))
    (c16e : PySem.W.findIn K (.ref C16) "__class__" = some (some (.builtin "object.__class__")))
    (c16f : PySem.W.mroIn K C16 (.type "object") = some true)
    (c12a : PySem.W.plainGet K C12 Str.empty = true)
    (c12b : PySem.W.hasDictIn K C12 = true)
    (c12c : PySem.W.plainOver K C12 = true)
    (c12d : PySem.W.findIn K (.ref C12) "__setattr__" = some (some (.builtin "object.__setattr__")))
    (c12e : PySem.W.findIn K (.ref C12) "__class__" = some (some (.builtin "object.__class__")))
    (c12f : PySem.W.mroIn K C12 (.type "object") = some true)
    (c13a : PySem.W.plainGet K C13 Str.empty = true)
    (c13b : PySem.W.hasDictIn K C13 = true)
    (c13c : PySem.W.plainOver K C13 = true)
    (c13d : PySem.W.findIn K (.ref C13) "__setattr__" = some (some (.builtin "object.__setattr__")))
    (c13e : PySem.W.findIn K (.ref C13) "__class__" = some (some (.builtin "object.__class__")))
    (c13f : PySem.W.mroIn K C13 (.type "object") = some true)
    (c14a : PySem.W.plainGet K C14 Str.empty = true)
    (c14b : PySem.W.hasDictIn K C14 = true)
    (c14c : PySem.W.plainOver K C14 = true)
    (c14d : PySem.W.findIn K (.ref C14) "__setattr__" = some (some (.builtin "object.__setattr__")))
    (c14e : PySem.W.findIn K (.ref C14) "__class__" = some (some (.builtin "object.__class__")))
    (c14f : PySem.W.mroIn K C14 (.type "object") = some true)
    (c15a : PySem.W.plainGet K C15 Str.empty = true)
    (c15b : PySem.W.hasDictIn K C15 = true)
    (c15c : PySem.W.plainOver K C15 = true)
    (c15d : PySem.W.findIn K (.ref C15) "__setattr__" = some (some (.builtin "object.__setattr__")))
    (c15e : PySem.W.findIn K (.ref C15) "__class__" = some (some (.builtin "object.__class__")))
    (c15f : PySem.W.mroIn K C15 (.type "object") = some true)
    (c17a : PySem.W.plainGet K C17 Str.empty = true)
    (c17b : PySem.W.hasDictIn K C17 = true)
    (c17c : PySem.W.plainOver K C17 = true)
    (c17d : PySem.W.findIn K (.ref C17) "__setattr__" = some (some (.builtin "object.__setattr__")))
    (c17e : PySem.W.findIn K (.ref C17) "__class__" = some (some (.builtin "object.__class__")))
    (c17f : PySem.W.mroIn K C17 (.type "object") = some true)
    (oc1 : PySem.W.specialIn K (.builtin "object.__class__") "__get__" = some (some (.builtin "getset_descriptor.__get__")))
    (oc2 : PySem.W.takesIn K (.builtin "object.__class__") = some true)
    (f_Flow_many : PySem.W.findIn K (.ref C16) "many" = some none)
    (f_Flow_knots : PySem.W.findIn K (.ref C16) "knots" = some none)
    (f_Flow_ways : PySem.W.findIn K (.ref C16) "ways" = some none)
    (f_Flow_much : PySem.W.findIn K (.ref C16) "much" = some none)
    (f_Flow_turn : PySem.W.findIn K (.ref C16) "turn" = some none)
    (f_Ring_gifts : PySem.W.findIn K (.ref C13) "gifts" = some none)
    (f_Most_gifts : PySem.W.findIn K (.ref C15) "gifts" = some none)
    (f_Never_collectors : PySem.W.findIn K (.ref C14) "collectors" = some none)
    (f_Most_prices : PySem.W.findIn K (.ref C15) "prices" = some none)
    (f_Most_kinds : PySem.W.findIn K (.ref C15) "kinds" = some none)
    (f_Desk_albums : PySem.W.findIn K (.ref C17) "albums" = some none)
    (f_Desk_swaps : PySem.W.findIn K (.ref C17) "swaps" = some none)
    (f_Desk_marks : PySem.W.findIn K (.ref C17) "marks" = some none)
    (y13a : PySem.W.isClsIn K C13 = true)
    (y13b : PySem.W.typeIn K (.ref C13) = some (.type "type"))
    (k_Flow_Ring : PySem.W.subIn K (.ref C16) (.ref C13) = some false)
    (w_Flow_Ring : (Value.ref C16 == Value.ref C13) = false)
    (k_Answer_Ring : PySem.W.subIn K (.ref C12) (.ref C13) = some false)
    (w_Answer_Ring : (Value.ref C12 == Value.ref C13) = false)
    (k_Never_Ring : PySem.W.subIn K (.ref C14) (.ref C13) = some false)
    (w_Never_Ring : (Value.ref C14 == Value.ref C13) = false)
    (k_Most_Ring : PySem.W.subIn K (.ref C15) (.ref C13) = some false)
    (w_Most_Ring : (Value.ref C15 == Value.ref C13) = false)
    (k_Desk_Ring : PySem.W.subIn K (.ref C17) (.ref C13) = some false)
    (w_Desk_Ring : (Value.ref C17 == Value.ref C13) = false)
    (n_isinstance : PySem.W.nsIn K mainGlobals "isinstance" = some none)
    (n_int : PySem.W.nsIn K mainGlobals "int" = some none)
    (n_bool : PySem.W.nsIn K mainGlobals "bool" = some none)
    (n_list : PySem.W.nsIn K mainGlobals "list" = some none)
    (n_len : PySem.W.nsIn K mainGlobals "len" = some none)
    (n_all : PySem.W.nsIn K mainGlobals "all" = some none)
    (n_tuple : PySem.W.nsIn K mainGlobals "tuple" = some none)
    (n_zip : PySem.W.nsIn K mainGlobals "zip" = some none)
    (n_min : PySem.W.nsIn K mainGlobals "min" = some none)
    (n_sorted : PySem.W.nsIn K mainGlobals "sorted" = some none)
    (n_set : PySem.W.nsIn K mainGlobals "set" = some none)
    (n_enumerate : PySem.W.nsIn K mainGlobals "enumerate" = some none)
    (n_range : PySem.W.nsIn K mainGlobals "range" = some none)
    (n_max : PySem.W.nsIn K mainGlobals "max" = some none)
    (n_sum : PySem.W.nsIn K mainGlobals "sum" = some none)
    (n_any : PySem.W.nsIn K mainGlobals "any" = some none)
    (n_abs : PySem.W.nsIn K mainGlobals "abs" = some none)
    (i_MOST_OF_ONE : PySem.W.nsIn K mainGlobals "MOST_OF_ONE" = some (some (.int 2 t_MOST_OF_ONE)))
    (i_MOST_COLLECTORS : PySem.W.nsIn K mainGlobals "MOST_COLLECTORS" = some (some (.int 4 t_MOST_COLLECTORS)))
    (i_MOST_KINDS : PySem.W.nsIn K mainGlobals "MOST_KINDS" = some (some (.int 4 t_MOST_KINDS)))
    (i_MOST_SWAPS : PySem.W.nsIn K mainGlobals "MOST_SWAPS" = some (some (.int 12 t_MOST_SWAPS)))
    (a_z_wall : PySem.W.nsIn K mainGlobals "_wall" = some (some (.ref q_z_wall)))
    (l_z_wall : K.lookup q_z_wall = some ⟨oc_z_wall, od_z_wall, .func (PySem.W.fnOf "_wall" "_wall" (defArgs st_z_wall) (defBody st_z_wall) (defScope st_z_wall) .none kv_z_wall dc_z_wall pm_z_wall an_z_wall cd_z_wall ct_z_wall), sl_z_wall⟩)
    (c_z_wall : PySem.W.codeIn K cd_z_wall "_wall" = true)
    (k_z_wall : PySem.W.keepIn K (.ref q_z_wall) = true)
    (a_is_count : PySem.W.nsIn K mainGlobals "is_count" = some (some (.ref q_is_count)))
    (l_is_count : K.lookup q_is_count = some ⟨oc_is_count, od_is_count, .func (PySem.W.fnOf "is_count" "is_count" (defArgs st_is_count) (defBody st_is_count) (defScope st_is_count) .none kv_is_count dc_is_count pm_is_count an_is_count cd_is_count ct_is_count), sl_is_count⟩)
    (c_is_count : PySem.W.codeIn K cd_is_count "is_count" = true)
    (k_is_count : PySem.W.keepIn K (.ref q_is_count) = true)
    (a_are_counts : PySem.W.nsIn K mainGlobals "are_counts" = some (some (.ref q_are_counts)))
    (l_are_counts : K.lookup q_are_counts = some ⟨oc_are_counts, od_are_counts, .func (PySem.W.fnOf "are_counts" "are_counts" (defArgs st_are_counts) (defBody st_are_counts) (defScope st_are_counts) .none kv_are_counts dc_are_counts pm_are_counts an_are_counts cd_are_counts ct_are_counts), sl_are_counts⟩)
    (c_are_counts : PySem.W.codeIn K cd_are_counts "are_counts" = true)
    (k_are_counts : PySem.W.keepIn K (.ref q_are_counts) = true)
    (a_is_album : PySem.W.nsIn K mainGlobals "is_album" = some (some (.ref q_is_album)))
    (l_is_album : K.lookup q_is_album = some ⟨oc_is_album, od_is_album, .func (PySem.W.fnOf "is_album" "is_album" (defArgs st_is_album) (defBody st_is_album) (defScope st_is_album) .none kv_is_album dc_is_album pm_is_album an_is_album cd_is_album ct_is_album), sl_is_album⟩)
    (c_is_album : PySem.W.codeIn K cd_is_album "is_album" = true)
    (k_is_album : PySem.W.keepIn K (.ref q_is_album) = true)
    (a_check_albums : PySem.W.nsIn K mainGlobals "check_albums" = some (some (.ref q_check_albums)))
    (l_check_albums : K.lookup q_check_albums = some ⟨oc_check_albums, od_check_albums, .func (PySem.W.fnOf "check_albums" "check_albums" (defArgs st_check_albums) (defBody st_check_albums) (defScope st_check_albums) .none kv_check_albums dc_check_albums pm_check_albums an_check_albums cd_check_albums ct_check_albums), sl_check_albums⟩)
    (c_check_albums : PySem.W.codeIn K cd_check_albums "check_albums" = true)
    (k_check_albums : PySem.W.keepIn K (.ref q_check_albums) = true)
    (a_is_gift : PySem.W.nsIn K mainGlobals "is_gift" = some (some (.ref q_is_gift)))
    (l_is_gift : K.lookup q_is_gift = some ⟨oc_is_gift, od_is_gift, .func (PySem.W.fnOf "is_gift" "is_gift" (defArgs st_is_gift) (defBody st_is_gift) (defScope st_is_gift) .none kv_is_gift dc_is_gift pm_is_gift an_is_gift cd_is_gift ct_is_gift), sl_is_gift⟩)
    (c_is_gift : PySem.W.codeIn K cd_is_gift "is_gift" = true)
    (k_is_gift : PySem.W.keepIn K (.ref q_is_gift) = true)
    (a_check_gifts : PySem.W.nsIn K mainGlobals "check_gifts" = some (some (.ref q_check_gifts)))
    (l_check_gifts : K.lookup q_check_gifts = some ⟨oc_check_gifts, od_check_gifts, .func (PySem.W.fnOf "check_gifts" "check_gifts" (defArgs st_check_gifts) (defBody st_check_gifts) (defScope st_check_gifts) .none kv_check_gifts dc_check_gifts pm_check_gifts an_check_gifts cd_check_gifts ct_check_gifts), sl_check_gifts⟩)
    (c_check_gifts : PySem.W.codeIn K cd_check_gifts "check_gifts" = true)
    (k_check_gifts : PySem.W.keepIn K (.ref q_check_gifts) = true)
    (a_left_of : PySem.W.nsIn K mainGlobals "left_of" = some (some (.ref q_left_of)))
    (l_left_of : K.lookup q_left_of = some ⟨oc_left_of, od_left_of, .func (PySem.W.fnOf "left_of" "left_of" (defArgs st_left_of) (defBody st_left_of) (defScope st_left_of) .none kv_left_of dc_left_of pm_left_of an_left_of cd_left_of ct_left_of), sl_left_of⟩)
    (c_left_of : PySem.W.codeIn K cd_left_of "left_of" = true)
    (k_left_of : PySem.W.keepIn K (.ref q_left_of) = true)
    (a_fits : PySem.W.nsIn K mainGlobals "fits" = some (some (.ref q_fits)))
    (l_fits : K.lookup q_fits = some ⟨oc_fits, od_fits, .func (PySem.W.fnOf "fits" "fits" (defArgs st_fits) (defBody st_fits) (defScope st_fits) .none kv_fits dc_fits pm_fits an_fits cd_fits ct_fits), sl_fits⟩)
    (c_fits : PySem.W.codeIn K cd_fits "fits" = true)
    (k_fits : PySem.W.keepIn K (.ref q_fits) = true)
    (a_is_even : PySem.W.nsIn K mainGlobals "is_even" = some (some (.ref q_is_even)))
    (l_is_even : K.lookup q_is_even = some ⟨oc_is_even, od_is_even, .func (PySem.W.fnOf "is_even" "is_even" (defArgs st_is_even) (defBody st_is_even) (defScope st_is_even) .none kv_is_even dc_is_even pm_is_even an_is_even cd_is_even ct_is_even), sl_is_even⟩)
    (c_is_even : PySem.W.codeIn K cd_is_even "is_even" = true)
    (k_is_even : PySem.W.keepIn K (.ref q_is_even) = true)
    (a_is_ring : PySem.W.nsIn K mainGlobals "is_ring" = some (some (.ref q_is_ring)))
    (l_is_ring : K.lookup q_is_ring = some ⟨oc_is_ring, od_is_ring, .func (PySem.W.fnOf "is_ring" "is_ring" (defArgs st_is_ring) (defBody st_is_ring) (defScope st_is_ring) .none kv_is_ring dc_is_ring pm_is_ring an_is_ring cd_is_ring ct_is_ring), sl_is_ring⟩)
    (c_is_ring : PySem.W.codeIn K cd_is_ring "is_ring" = true)
    (k_is_ring : PySem.W.keepIn K (.ref q_is_ring) = true)
    (a_Flow_steps : PySem.W.findIn K (.ref C16) "steps" = some (some (.ref q_Flow_steps)))
    (s_Flow_steps : PySem.W.isFn K (.ref q_Flow_steps) = true)
    (l_Flow_steps : K.lookup q_Flow_steps = some ⟨oc_Flow_steps, od_Flow_steps, .func (PySem.W.fnOf "steps" "Flow.steps" (defArgs st_Flow_steps) (defBody st_Flow_steps) (defScope st_Flow_steps) .none kv_Flow_steps dc_Flow_steps pm_Flow_steps an_Flow_steps cd_Flow_steps ct_Flow_steps), sl_Flow_steps⟩)
    (c_Flow_steps : PySem.W.codeIn K cd_Flow_steps "Flow.steps" = true)
    (k_Flow_steps : PySem.W.keepIn K (.ref q_Flow_steps) = true)
    (a_Flow_far : PySem.W.findIn K (.ref C16) "far" = some (some (.ref q_Flow_far)))
    (s_Flow_far : PySem.W.isFn K (.ref q_Flow_far) = true)
    (l_Flow_far : K.lookup q_Flow_far = some ⟨oc_Flow_far, od_Flow_far, .func (PySem.W.fnOf "far" "Flow.far" (defArgs st_Flow_far) (defBody st_Flow_far) (defScope st_Flow_far) .none kv_Flow_far dc_Flow_far pm_Flow_far an_Flow_far cd_Flow_far ct_Flow_far), sl_Flow_far⟩)
    (c_Flow_far : PySem.W.codeIn K cd_Flow_far "Flow.far" = true)
    (k_Flow_far : PySem.W.keepIn K (.ref q_Flow_far) = true)
    (a_Flow_bettered : PySem.W.findIn K (.ref C16) "bettered" = some (some (.ref q_Flow_bettered)))
    (s_Flow_bettered : PySem.W.isFn K (.ref q_Flow_bettered) = true)
    (l_Flow_bettered : K.lookup q_Flow_bettered = some ⟨oc_Flow_bettered, od_Flow_bettered, .func (PySem.W.fnOf "bettered" "Flow.bettered" (defArgs st_Flow_bettered) (defBody st_Flow_bettered) (defScope st_Flow_bettered) .none kv_Flow_bettered dc_Flow_bettered pm_Flow_bettered an_Flow_bettered cd_Flow_bettered ct_Flow_bettered), sl_Flow_bettered⟩)
    (c_Flow_bettered : PySem.W.codeIn K cd_Flow_bettered "Flow.bettered" = true)
    (k_Flow_bettered : PySem.W.keepIn K (.ref q_Flow_bettered) = true)
    (a_Flow_init : PySem.W.findIn K (.ref C16) "__init__" = some (some (.ref q_Flow_init)))
    (s_Flow_init : PySem.W.isFn K (.ref q_Flow_init) = true)
    (mk_Flow_init : PySem.W.makesIn K C16 = true)
    (kc_Flow_init : PySem.W.keepIn K (.ref C16) = true)
    (l_Flow_init : K.lookup q_Flow_init = some ⟨oc_Flow_init, od_Flow_init, .func (PySem.W.fnOf "__init__" "Flow.__init__" (defArgs st_Flow_init) (defBody st_Flow_init) (defScope st_Flow_init) .none kv_Flow_init dc_Flow_init pm_Flow_init an_Flow_init cd_Flow_init ct_Flow_init), sl_Flow_init⟩)
    (c_Flow_init : PySem.W.codeIn K cd_Flow_init "Flow.__init__" = true)
    (k_Flow_init : PySem.W.keepIn K (.ref q_Flow_init) = true)
    (a_Flow_given : PySem.W.findIn K (.ref C16) "given" = some (some (.ref q_Flow_given)))
    (s_Flow_given : PySem.W.isFn K (.ref q_Flow_given) = true)
    (l_Flow_given : K.lookup q_Flow_given = some ⟨oc_Flow_given, od_Flow_given, .func (PySem.W.fnOf "given" "Flow.given" (defArgs st_Flow_given) (defBody st_Flow_given) (defScope st_Flow_given) .none kv_Flow_given dc_Flow_given pm_Flow_given an_Flow_given cd_Flow_given ct_Flow_given), sl_Flow_given⟩)
    (c_Flow_given : PySem.W.codeIn K cd_Flow_given "Flow.given" = true)
    (k_Flow_given : PySem.W.keepIn K (.ref q_Flow_given) = true)
    (a_worth : PySem.W.nsIn K mainGlobals "worth" = some (some (.ref q_worth)))
    (l_worth : K.lookup q_worth = some ⟨oc_worth, od_worth, .func (PySem.W.fnOf "worth" "worth" (defArgs st_worth) (defBody st_worth) (defScope st_worth) .none kv_worth dc_worth pm_worth an_worth cd_worth ct_worth), sl_worth⟩)
    (c_worth : PySem.W.codeIn K cd_worth "worth" = true)
    (k_worth : PySem.W.keepIn K (.ref q_worth) = true)
    (a_gift_between : PySem.W.nsIn K mainGlobals "gift_between" = some (some (.ref q_gift_between)))
    (l_gift_between : K.lookup q_gift_between = some ⟨oc_gift_between, od_gift_between, .func (PySem.W.fnOf "gift_between" "gift_between" (defArgs st_gift_between) (defBody st_gift_between) (defScope st_gift_between) .none kv_gift_between dc_gift_between pm_gift_between an_gift_between cd_gift_between ct_gift_between), sl_gift_between⟩)
    (c_gift_between : PySem.W.codeIn K cd_gift_between "gift_between" = true)
    (k_gift_between : PySem.W.keepIn K (.ref q_gift_between) = true)
    (a_led_from : PySem.W.nsIn K mainGlobals "led_from" = some (some (.ref q_led_from)))
    (l_led_from : K.lookup q_led_from = some ⟨oc_led_from, od_led_from, .func (PySem.W.fnOf "led_from" "led_from" (defArgs st_led_from) (defBody st_led_from) (defScope st_led_from) .none kv_led_from dc_led_from pm_led_from an_led_from cd_led_from ct_led_from), sl_led_from⟩)
    (c_led_from : PySem.W.codeIn K cd_led_from "led_from" = true)
    (k_led_from : PySem.W.keepIn K (.ref q_led_from) = true)
    (a_ring_for : PySem.W.nsIn K mainGlobals "ring_for" = some (some (.ref q_ring_for)))
    (l_ring_for : K.lookup q_ring_for = some ⟨oc_ring_for, od_ring_for, .func (PySem.W.fnOf "ring_for" "ring_for" (defArgs st_ring_for) (defBody st_ring_for) (defScope st_ring_for) .none kv_ring_for dc_ring_for pm_ring_for an_ring_for cd_ring_for ct_ring_for), sl_ring_for⟩)
    (c_ring_for : PySem.W.codeIn K cd_ring_for "ring_for" = true)
    (k_ring_for : PySem.W.keepIn K (.ref q_ring_for) = true)
    (a_one_ring : PySem.W.nsIn K mainGlobals "one_ring" = some (some (.ref q_one_ring)))
    (l_one_ring : K.lookup q_one_ring = some ⟨oc_one_ring, od_one_ring, .func (PySem.W.fnOf "one_ring" "one_ring" (defArgs st_one_ring) (defBody st_one_ring) (defScope st_one_ring) .none kv_one_ring dc_one_ring pm_one_ring an_one_ring cd_one_ring ct_one_ring), sl_one_ring⟩)
    (c_one_ring : PySem.W.codeIn K cd_one_ring "one_ring" = true)
    (k_one_ring : PySem.W.keepIn K (.ref q_one_ring) = true)
    (a_parted : PySem.W.nsIn K mainGlobals "parted" = some (some (.ref q_parted)))
    (l_parted : K.lookup q_parted = some ⟨oc_parted, od_parted, .func (PySem.W.fnOf "parted" "parted" (defArgs st_parted) (defBody st_parted) (defScope st_parted) .none kv_parted dc_parted pm_parted an_parted cd_parted ct_parted), sl_parted⟩)
    (c_parted : PySem.W.codeIn K cd_parted "parted" = true)
    (k_parted : PySem.W.keepIn K (.ref q_parted) = true)
    (a_brings : PySem.W.nsIn K mainGlobals "brings" = some (some (.ref q_brings)))
    (l_brings : K.lookup q_brings = some ⟨oc_brings, od_brings, .func (PySem.W.fnOf "brings" "brings" (defArgs st_brings) (defBody st_brings) (defScope st_brings) .none kv_brings dc_brings pm_brings an_brings cd_brings ct_brings), sl_brings⟩)
    (c_brings : PySem.W.codeIn K cd_brings "brings" = true)
    (k_brings : PySem.W.keepIn K (.ref q_brings) = true)
    (a_Ring_init : PySem.W.findIn K (.ref C13) "__init__" = some (some (.ref q_Ring_init)))
    (s_Ring_init : PySem.W.isFn K (.ref q_Ring_init) = true)
    (mk_Ring_init : PySem.W.makesIn K C13 = true)
    (kc_Ring_init : PySem.W.keepIn K (.ref C13) = true)
    (l_Ring_init : K.lookup q_Ring_init = some ⟨oc_Ring_init, od_Ring_init, .func (PySem.W.fnOf "__init__" "Ring.__init__" (defArgs st_Ring_init) (defBody st_Ring_init) (defScope st_Ring_init) .none kv_Ring_init dc_Ring_init pm_Ring_init an_Ring_init cd_Ring_init ct_Ring_init), sl_Ring_init⟩)
    (c_Ring_init : PySem.W.codeIn K cd_Ring_init "Ring.__init__" = true)
    (k_Ring_init : PySem.W.keepIn K (.ref q_Ring_init) = true)
    (a_Ring_shows : PySem.W.findIn K (.ref C13) "shows" = some (some (.ref q_Ring_shows)))
    (s_Ring_shows : PySem.W.isFn K (.ref q_Ring_shows) = true)
    (l_Ring_shows : K.lookup q_Ring_shows = some ⟨oc_Ring_shows, od_Ring_shows, .func (PySem.W.fnOf "shows" "Ring.shows" (defArgs st_Ring_shows) (defBody st_Ring_shows) (defScope st_Ring_shows) .none kv_Ring_shows dc_Ring_shows pm_Ring_shows an_Ring_shows cd_Ring_shows ct_Ring_shows), sl_Ring_shows⟩)
    (c_Ring_shows : PySem.W.codeIn K cd_Ring_shows "Ring.shows" = true)
    (k_Ring_shows : PySem.W.keepIn K (.ref q_Ring_shows) = true)
    (a_Never_init : PySem.W.findIn K (.ref C14) "__init__" = some (some (.ref q_Never_init)))
    (s_Never_init : PySem.W.isFn K (.ref q_Never_init) = true)
    (mk_Never_init : PySem.W.makesIn K C14 = true)
    (kc_Never_init : PySem.W.keepIn K (.ref C14) = true)
    (l_Never_init : K.lookup q_Never_init = some ⟨oc_Never_init, od_Never_init, .func (PySem.W.fnOf "__init__" "Never.__init__" (defArgs st_Never_init) (defBody st_Never_init) (defScope st_Never_init) .none kv_Never_init dc_Never_init pm_Never_init an_Never_init cd_Never_init ct_Never_init), sl_Never_init⟩)
    (c_Never_init : PySem.W.codeIn K cd_Never_init "Never.__init__" = true)
    (k_Never_init : PySem.W.keepIn K (.ref q_Never_init) = true)
    (a_Never_shows : PySem.W.findIn K (.ref C14) "shows" = some (some (.ref q_Never_shows)))
    (s_Never_shows : PySem.W.isFn K (.ref q_Never_shows) = true)
    (l_Never_shows : K.lookup q_Never_shows = some ⟨oc_Never_shows, od_Never_shows, .func (PySem.W.fnOf "shows" "Never.shows" (defArgs st_Never_shows) (defBody st_Never_shows) (defScope st_Never_shows) .none kv_Never_shows dc_Never_shows pm_Never_shows an_Never_shows cd_Never_shows ct_Never_shows), sl_Never_shows⟩)
    (c_Never_shows : PySem.W.codeIn K cd_Never_shows "Never.shows" = true)
    (k_Never_shows : PySem.W.keepIn K (.ref q_Never_shows) = true)
    (a_Most_init : PySem.W.findIn K (.ref C15) "__init__" = some (some (.ref q_Most_init)))
    (s_Most_init : PySem.W.isFn K (.ref q_Most_init) = true)
    (mk_Most_init : PySem.W.makesIn K C15 = true)
    (kc_Most_init : PySem.W.keepIn K (.ref C15) = true)
    (l_Most_init : K.lookup q_Most_init = some ⟨oc_Most_init, od_Most_init, .func (PySem.W.fnOf "__init__" "Most.__init__" (defArgs st_Most_init) (defBody st_Most_init) (defScope st_Most_init) .none kv_Most_init dc_Most_init pm_Most_init an_Most_init cd_Most_init ct_Most_init), sl_Most_init⟩)
    (c_Most_init : PySem.W.codeIn K cd_Most_init "Most.__init__" = true)
    (k_Most_init : PySem.W.keepIn K (.ref q_Most_init) = true)
    (a_Most_shows : PySem.W.findIn K (.ref C15) "shows" = some (some (.ref q_Most_shows)))
    (s_Most_shows : PySem.W.isFn K (.ref q_Most_shows) = true)
    (l_Most_shows : K.lookup q_Most_shows = some ⟨oc_Most_shows, od_Most_shows, .func (PySem.W.fnOf "shows" "Most.shows" (defArgs st_Most_shows) (defBody st_Most_shows) (defScope st_Most_shows) .none kv_Most_shows dc_Most_shows pm_Most_shows an_Most_shows cd_Most_shows ct_Most_shows), sl_Most_shows⟩)
    (c_Most_shows : PySem.W.codeIn K cd_Most_shows "Most.shows" = true)
    (k_Most_shows : PySem.W.keepIn K (.ref q_Most_shows) = true)
    (a_ring : PySem.W.nsIn K mainGlobals "ring" = some (some (.ref q_ring)))
    (l_ring : K.lookup q_ring = some ⟨oc_ring, od_ring, .func (PySem.W.fnOf "ring" "ring" (defArgs st_ring) (defBody st_ring) (defScope st_ring) .none kv_ring dc_ring pm_ring an_ring cd_ring ct_ring), sl_ring⟩)
    (c_ring : PySem.W.codeIn K cd_ring "ring" = true)
    (k_ring : PySem.W.keepIn K (.ref q_ring) = true)
    (a_most : PySem.W.nsIn K mainGlobals "most" = some (some (.ref q_most)))
    (l_most : K.lookup q_most = some ⟨oc_most, od_most, .func (PySem.W.fnOf "most" "most" (defArgs st_most) (defBody st_most) (defScope st_most) .none kv_most dc_most pm_most an_most cd_most ct_most), sl_most⟩)
    (c_most : PySem.W.codeIn K cd_most "most" = true)
    (k_most : PySem.W.keepIn K (.ref q_most) = true)
    (a_rings : PySem.W.nsIn K mainGlobals "rings" = some (some (.ref q_rings)))
    (l_rings : K.lookup q_rings = some ⟨oc_rings, od_rings, .func (PySem.W.fnOf "rings" "rings" (defArgs st_rings) (defBody st_rings) (defScope st_rings) .none kv_rings dc_rings pm_rings an_rings cd_rings ct_rings), sl_rings⟩)
    (c_rings : PySem.W.codeIn K cd_rings "rings" = true)
    (k_rings : PySem.W.keepIn K (.ref q_rings) = true)
    (a_Desk_init : PySem.W.findIn K (.ref C17) "__init__" = some (some (.ref q_Desk_init)))
    (s_Desk_init : PySem.W.isFn K (.ref q_Desk_init) = true)
    (mk_Desk_init : PySem.W.makesIn K C17 = true)
    (kc_Desk_init : PySem.W.keepIn K (.ref C17) = true)
    (l_Desk_init : K.lookup q_Desk_init = some ⟨oc_Desk_init, od_Desk_init, .func (PySem.W.fnOf "__init__" "Desk.__init__" (defArgs st_Desk_init) (defBody st_Desk_init) (defScope st_Desk_init) .none kv_Desk_init dc_Desk_init pm_Desk_init an_Desk_init cd_Desk_init ct_Desk_init), sl_Desk_init⟩)
    (c_Desk_init : PySem.W.codeIn K cd_Desk_init "Desk.__init__" = true)
    (k_Desk_init : PySem.W.keepIn K (.ref q_Desk_init) = true)
    (a_Desk_kept : PySem.W.findIn K (.ref C17) "kept" = some (some (.ref q_Desk_kept)))
    (s_Desk_kept : PySem.W.isFn K (.ref q_Desk_kept) = true)
    (l_Desk_kept : K.lookup q_Desk_kept = some ⟨oc_Desk_kept, od_Desk_kept, .func (PySem.W.fnOf "kept" "Desk.kept" (defArgs st_Desk_kept) (defBody st_Desk_kept) (defScope st_Desk_kept) .none kv_Desk_kept dc_Desk_kept pm_Desk_kept an_Desk_kept cd_Desk_kept ct_Desk_kept), sl_Desk_kept⟩)
    (c_Desk_kept : PySem.W.codeIn K cd_Desk_kept "Desk.kept" = true)
    (k_Desk_kept : PySem.W.keepIn K (.ref q_Desk_kept) = true)
    (a_Desk_free : PySem.W.findIn K (.ref C17) "free" = some (some (.ref q_Desk_free)))
    (s_Desk_free : PySem.W.isFn K (.ref q_Desk_free) = true)
    (l_Desk_free : K.lookup q_Desk_free = some ⟨oc_Desk_free, od_Desk_free, .func (PySem.W.fnOf "free" "Desk.free" (defArgs st_Desk_free) (defBody st_Desk_free) (defScope st_Desk_free) .none kv_Desk_free dc_Desk_free pm_Desk_free an_Desk_free cd_Desk_free ct_Desk_free), sl_Desk_free⟩)
    (c_Desk_free : PySem.W.codeIn K cd_Desk_free "Desk.free" = true)
    (k_Desk_free : PySem.W.keepIn K (.ref q_Desk_free) = true)
    (a_Desk_agree : PySem.W.findIn K (.ref C17) "agree" = some (some (.ref q_Desk_agree)))
    (s_Desk_agree : PySem.W.isFn K (.ref q_Desk_agree) = true)
    (l_Desk_agree : K.lookup q_Desk_agree = some ⟨oc_Desk_agree, od_Desk_agree, .func (PySem.W.fnOf "agree" "Desk.agree" (defArgs st_Desk_agree) (defBody st_Desk_agree) (defScope st_Desk_agree) .none kv_Desk_agree dc_Desk_agree pm_Desk_agree an_Desk_agree cd_Desk_agree ct_Desk_agree), sl_Desk_agree⟩)
    (c_Desk_agree : PySem.W.codeIn K cd_Desk_agree "Desk.agree" = true)
    (k_Desk_agree : PySem.W.keepIn K (.ref q_Desk_agree) = true)
    (a_Desk_look_at : PySem.W.findIn K (.ref C17) "look_at" = some (some (.ref q_Desk_look_at)))
    (s_Desk_look_at : PySem.W.isFn K (.ref q_Desk_look_at) = true)
    (l_Desk_look_at : K.lookup q_Desk_look_at = some ⟨oc_Desk_look_at, od_Desk_look_at, .func (PySem.W.fnOf "look_at" "Desk.look_at" (defArgs st_Desk_look_at) (defBody st_Desk_look_at) (defScope st_Desk_look_at) .none kv_Desk_look_at dc_Desk_look_at pm_Desk_look_at an_Desk_look_at cd_Desk_look_at ct_Desk_look_at), sl_Desk_look_at⟩)
    (c_Desk_look_at : PySem.W.codeIn K cd_Desk_look_at "Desk.look_at" = true)
    (k_Desk_look_at : PySem.W.keepIn K (.ref q_Desk_look_at) = true)
    (a_Desk_put : PySem.W.findIn K (.ref C17) "put" = some (some (.ref q_Desk_put)))
    (s_Desk_put : PySem.W.isFn K (.ref q_Desk_put) = true)
    (l_Desk_put : K.lookup q_Desk_put = some ⟨oc_Desk_put, od_Desk_put, .func (PySem.W.fnOf "put" "Desk.put" (defArgs st_Desk_put) (defBody st_Desk_put) (defScope st_Desk_put) .none kv_Desk_put dc_Desk_put pm_Desk_put an_Desk_put cd_Desk_put ct_Desk_put), sl_Desk_put⟩)
    (c_Desk_put : PySem.W.codeIn K cd_Desk_put "Desk.put" = true)
    (k_Desk_put : PySem.W.keepIn K (.ref q_Desk_put) = true)
    (a_Desk_send : PySem.W.findIn K (.ref C17) "send" = some (some (.ref q_Desk_send)))
    (s_Desk_send : PySem.W.isFn K (.ref q_Desk_send) = true)
    (l_Desk_send : K.lookup q_Desk_send = some ⟨oc_Desk_send, od_Desk_send, .func (PySem.W.fnOf "send" "Desk.send" (defArgs st_Desk_send) (defBody st_Desk_send) (defScope st_Desk_send) .none kv_Desk_send dc_Desk_send pm_Desk_send an_Desk_send cd_Desk_send ct_Desk_send), sl_Desk_send⟩)
    (c_Desk_send : PySem.W.codeIn K cd_Desk_send "Desk.send" = true)
    (k_Desk_send : PySem.W.keepIn K (.ref q_Desk_send) = true)
    (a_Desk_come : PySem.W.findIn K (.ref C17) "come" = some (some (.ref q_Desk_come)))
    (s_Desk_come : PySem.W.isFn K (.ref q_Desk_come) = true)
    (l_Desk_come : K.lookup q_Desk_come = some ⟨oc_Desk_come, od_Desk_come, .func (PySem.W.fnOf "come" "Desk.come" (defArgs st_Desk_come) (defBody st_Desk_come) (defScope st_Desk_come) .none kv_Desk_come dc_Desk_come pm_Desk_come an_Desk_come cd_Desk_come ct_Desk_come), sl_Desk_come⟩)
    (c_Desk_come : PySem.W.codeIn K cd_Desk_come "Desk.come" = true)
    (k_Desk_come : PySem.W.keepIn K (.ref q_Desk_come) = true)
    (a_Desk_lose : PySem.W.findIn K (.ref C17) "lose" = some (some (.ref q_Desk_lose)))
    (s_Desk_lose : PySem.W.isFn K (.ref q_Desk_lose) = true)
    (l_Desk_lose : K.lookup q_Desk_lose = some ⟨oc_Desk_lose, od_Desk_lose, .func (PySem.W.fnOf "lose" "Desk.lose" (defArgs st_Desk_lose) (defBody st_Desk_lose) (defScope st_Desk_lose) .none kv_Desk_lose dc_Desk_lose pm_Desk_lose an_Desk_lose cd_Desk_lose ct_Desk_lose), sl_Desk_lose⟩)
    (c_Desk_lose : PySem.W.codeIn K cd_Desk_lose "Desk.lose" = true)
    (k_Desk_lose : PySem.W.keepIn K (.ref q_Desk_lose) = true)
    (a_Desk_drop : PySem.W.findIn K (.ref C17) "drop" = some (some (.ref q_Desk_drop)))
    (s_Desk_drop : PySem.W.isFn K (.ref q_Desk_drop) = true)
    (l_Desk_drop : K.lookup q_Desk_drop = some ⟨oc_Desk_drop, od_Desk_drop, .func (PySem.W.fnOf "drop" "Desk.drop" (defArgs st_Desk_drop) (defBody st_Desk_drop) (defScope st_Desk_drop) .none kv_Desk_drop dc_Desk_drop pm_Desk_drop an_Desk_drop cd_Desk_drop ct_Desk_drop), sl_Desk_drop⟩)
    (c_Desk_drop : PySem.W.codeIn K cd_Desk_drop "Desk.drop" = true)
    (k_Desk_drop : PySem.W.keepIn K (.ref q_Desk_drop) = true)
    (a_Desk_stands : PySem.W.findIn K (.ref C17) "stands" = some (some (.ref q_Desk_stands)))
    (s_Desk_stands : PySem.W.isFn K (.ref q_Desk_stands) = true)
    (l_Desk_stands : K.lookup q_Desk_stands = some ⟨oc_Desk_stands, od_Desk_stands, .func (PySem.W.fnOf "stands" "Desk.stands" (defArgs st_Desk_stands) (defBody st_Desk_stands) (defScope st_Desk_stands) .none kv_Desk_stands dc_Desk_stands pm_Desk_stands an_Desk_stands cd_Desk_stands ct_Desk_stands), sl_Desk_stands⟩)
    (c_Desk_stands : PySem.W.codeIn K cd_Desk_stands "Desk.stands" = true)
    (k_Desk_stands : PySem.W.keepIn K (.ref q_Desk_stands) = true)
    (a_Desk_owed : PySem.W.findIn K (.ref C17) "owed" = some (some (.ref q_Desk_owed)))
    (s_Desk_owed : PySem.W.isFn K (.ref q_Desk_owed) = true)
    (l_Desk_owed : K.lookup q_Desk_owed = some ⟨oc_Desk_owed, od_Desk_owed, .func (PySem.W.fnOf "owed" "Desk.owed" (defArgs st_Desk_owed) (defBody st_Desk_owed) (defScope st_Desk_owed) .none kv_Desk_owed dc_Desk_owed pm_Desk_owed an_Desk_owed cd_Desk_owed ct_Desk_owed), sl_Desk_owed⟩)
    (c_Desk_owed : PySem.W.codeIn K cd_Desk_owed "Desk.owed" = true)
    (k_Desk_owed : PySem.W.keepIn K (.ref q_Desk_owed) = true)
    (a_z_cell_at : PySem.W.nsIn K mainGlobals "_law_cell_at" = some (some (.ref q_z_cell_at)))
    (l_z_cell_at : K.lookup q_z_cell_at = some ⟨oc_z_cell_at, od_z_cell_at, .func (PySem.W.fnOf "_law_cell_at" "_law_cell_at" (defArgs st_z_cell_at) (defBody st_z_cell_at) (defScope st_z_cell_at) .none kv_z_cell_at dc_z_cell_at pm_z_cell_at an_z_cell_at cd_z_cell_at ct_z_cell_at), sl_z_cell_at⟩)
    (c_z_cell_at : PySem.W.codeIn K cd_z_cell_at "_law_cell_at" = true)
    (k_z_cell_at : PySem.W.keepIn K (.ref q_z_cell_at) = true)
    (a_z_copy : PySem.W.nsIn K mainGlobals "_law_copy" = some (some (.ref q_z_copy)))
    (l_z_copy : K.lookup q_z_copy = some ⟨oc_z_copy, od_z_copy, .func (PySem.W.fnOf "_law_copy" "_law_copy" (defArgs st_z_copy) (defBody st_z_copy) (defScope st_z_copy) .none kv_z_copy dc_z_copy pm_z_copy an_z_copy cd_z_copy ct_z_copy), sl_z_copy⟩)
    (c_z_copy : PySem.W.codeIn K cd_z_copy "_law_copy" = true)
    (k_z_copy : PySem.W.keepIn K (.ref q_z_copy) = true)
    (a_z_into : PySem.W.nsIn K mainGlobals "_law_into" = some (some (.ref q_z_into)))
    (l_z_into : K.lookup q_z_into = some ⟨oc_z_into, od_z_into, .func (PySem.W.fnOf "_law_into" "_law_into" (defArgs st_z_into) (defBody st_z_into) (defScope st_z_into) .none kv_z_into dc_z_into pm_z_into an_z_into cd_z_into ct_z_into), sl_z_into⟩)
    (c_z_into : PySem.W.codeIn K cd_z_into "_law_into" = true)
    (k_z_into : PySem.W.keepIn K (.ref q_z_into) = true)
    (a_z_spoil : PySem.W.nsIn K mainGlobals "_law_spoil" = some (some (.ref q_z_spoil)))
    (l_z_spoil : K.lookup q_z_spoil = some ⟨oc_z_spoil, od_z_spoil, .func (PySem.W.fnOf "_law_spoil" "_law_spoil" (defArgs st_z_spoil) (defBody st_z_spoil) (defScope st_z_spoil) .none kv_z_spoil dc_z_spoil pm_z_spoil an_z_spoil cd_z_spoil ct_z_spoil), sl_z_spoil⟩)
    (c_z_spoil : PySem.W.codeIn K cd_z_spoil "_law_spoil" = true)
    (k_z_spoil : PySem.W.keepIn K (.ref q_z_spoil) = true)
    (a_z_ring_twice : PySem.W.nsIn K mainGlobals "_law_ring_twice" = some (some (.ref q_z_ring_twice)))
    (l_z_ring_twice : K.lookup q_z_ring_twice = some ⟨oc_z_ring_twice, od_z_ring_twice, .func (PySem.W.fnOf "_law_ring_twice" "_law_ring_twice" (defArgs st_z_ring_twice) (defBody st_z_ring_twice) (defScope st_z_ring_twice) .none kv_z_ring_twice dc_z_ring_twice pm_z_ring_twice an_z_ring_twice cd_z_ring_twice ct_z_ring_twice), sl_z_ring_twice⟩)
    (c_z_ring_twice : PySem.W.codeIn K cd_z_ring_twice "_law_ring_twice" = true)
    (k_z_ring_twice : PySem.W.keepIn K (.ref q_z_ring_twice) = true)
    (a_z_most_twice : PySem.W.nsIn K mainGlobals "_law_most_twice" = some (some (.ref q_z_most_twice)))
    (l_z_most_twice : K.lookup q_z_most_twice = some ⟨oc_z_most_twice, od_z_most_twice, .func (PySem.W.fnOf "_law_most_twice" "_law_most_twice" (defArgs st_z_most_twice) (defBody st_z_most_twice) (defScope st_z_most_twice) .none kv_z_most_twice dc_z_most_twice pm_z_most_twice an_z_most_twice cd_z_most_twice ct_z_most_twice), sl_z_most_twice⟩)
    (c_z_most_twice : PySem.W.codeIn K cd_z_most_twice "_law_most_twice" = true)
    (k_z_most_twice : PySem.W.keepIn K (.ref q_z_most_twice) = true)
    (a_z_rings_twice : PySem.W.nsIn K mainGlobals "_law_rings_twice" = some (some (.ref q_z_rings_twice)))
    (l_z_rings_twice : K.lookup q_z_rings_twice = some ⟨oc_z_rings_twice, od_z_rings_twice, .func (PySem.W.fnOf "_law_rings_twice" "_law_rings_twice" (defArgs st_z_rings_twice) (defBody st_z_rings_twice) (defScope st_z_rings_twice) .none kv_z_rings_twice dc_z_rings_twice pm_z_rings_twice an_z_rings_twice cd_z_rings_twice ct_z_rings_twice), sl_z_rings_twice⟩)
    (c_z_rings_twice : PySem.W.codeIn K cd_z_rings_twice "_law_rings_twice" = true)
    (k_z_rings_twice : PySem.W.keepIn K (.ref q_z_rings_twice) = true)
    (a_z_door_right : PySem.W.nsIn K mainGlobals "_law_door_right" = some (some (.ref q_z_door_right)))
    (l_z_door_right : K.lookup q_z_door_right = some ⟨oc_z_door_right, od_z_door_right, .func (PySem.W.fnOf "_law_door_right" "_law_door_right" (defArgs st_z_door_right) (defBody st_z_door_right) (defScope st_z_door_right) .none kv_z_door_right dc_z_door_right pm_z_door_right an_z_door_right cd_z_door_right ct_z_door_right), sl_z_door_right⟩)
    (c_z_door_right : PySem.W.codeIn K cd_z_door_right "_law_door_right" = true)
    (k_z_door_right : PySem.W.keepIn K (.ref q_z_door_right) = true)
    (a_z_rows_one : PySem.W.nsIn K mainGlobals "_law_rows_one" = some (some (.ref q_z_rows_one)))
    (l_z_rows_one : K.lookup q_z_rows_one = some ⟨oc_z_rows_one, od_z_rows_one, .func (PySem.W.fnOf "_law_rows_one" "_law_rows_one" (defArgs st_z_rows_one) (defBody st_z_rows_one) (defScope st_z_rows_one) .none kv_z_rows_one dc_z_rows_one pm_z_rows_one an_z_rows_one (.ref cc_z_rows_one) ct_z_rows_one), sl_z_rows_one⟩)
    (c_z_rows_one : PySem.W.codeIn K (.ref cc_z_rows_one) "_law_rows_one" = true)
    (k_z_rows_one : PySem.W.keepIn K (.ref q_z_rows_one) = true)
    (a_z_law : PySem.W.nsIn K mainGlobals "law" = some (some (.ref q_z_law)))
    (l_z_law : K.lookup q_z_law = some ⟨oc_z_law, od_z_law, .func (PySem.W.fnOf "law" "law" (defArgs st_z_law) (defBody st_z_law) (defScope st_z_law) .none kv_z_law dc_z_law pm_z_law an_z_law cd_z_law ct_z_law), sl_z_law⟩)
    (c_z_law : PySem.W.codeIn K cd_z_law "law" = true)
    (k_z_law : PySem.W.keepIn K (.ref q_z_law) = true)
    (oc2_z_rows_one : K.lookup cc_z_rows_one = some ⟨oe_z_rows_one, od2_z_rows_one, .fields vs2_z_rows_one, sl2_z_rows_one⟩)
    (tq_z_rows_one : vs2_z_rows_one[11]? = some (.ref tp_z_rows_one))
    (tb_z_rows_one : PySem.W.tabIn K "_law_rows_one" = some (cc_z_rows_one, tp_z_rows_one))
    (nt_z_rows_one : K.lookup tp_z_rows_one = none)
    (r_z_rows_one : ∃ d, (recsOf q).find? (fun e => e.name == ("_law_rows_one" : Str)) = some d)
    (w_tabs : [tp_z_rows_one].Nodup)
    : LamX.LawAtS l w K (L2.CX l.prog w) 20 63 "_law_script" mg fa h := by
  have e := hfa.symm.trans (PySem.W.mg_of X G a_z_law)
  cases e
  let ct : Nat → Addr := fun n => if n < 100 then ([0, C1, C2, C3, C4, C5, C6, C7, C8, C9, C10, C11, C12, C13, C14, C15, C16, C17] : List Addr).getD n 0 else ([tp_z_rows_one] : List Addr).getD (n - 100) 0
  have T : Txt K mg ct := {
    n_isinstance := PySem.W.mg_none_of X G n_isinstance,
    n_int := PySem.W.mg_none_of X G n_int,
    n_bool := PySem.W.mg_none_of X G n_bool,
    n_list := PySem.W.mg_none_of X G n_list,
    n_len := PySem.W.mg_none_of X G n_len,
    n_all := PySem.W.mg_none_of X G n_all,
    n_tuple := PySem.W.mg_none_of X G n_tuple,
    n_zip := PySem.W.mg_none_of X G n_zip,
    n_min := PySem.W.mg_none_of X G n_min,
    n_sorted := PySem.W.mg_none_of X G n_sorted,
    n_set := PySem.W.mg_none_of X G n_set,
    n_enumerate := PySem.W.mg_none_of X G n_enumerate,
    n_range := PySem.W.mg_none_of X G n_range,
    n_max := PySem.W.mg_none_of X G n_max,
    n_sum := PySem.W.mg_none_of X G n_sum,
    n_any := PySem.W.mg_none_of X G n_any,
    n_abs := PySem.W.mg_none_of X G n_abs,
    i_MOST_OF_ONE := ⟨t_MOST_OF_ONE, PySem.W.mg_of X G i_MOST_OF_ONE⟩,
    i_MOST_COLLECTORS := ⟨t_MOST_COLLECTORS, PySem.W.mg_of X G i_MOST_COLLECTORS⟩,
    i_MOST_KINDS := ⟨t_MOST_KINDS, PySem.W.mg_of X G i_MOST_KINDS⟩,
    i_MOST_SWAPS := ⟨t_MOST_SWAPS, PySem.W.mg_of X G i_MOST_SWAPS⟩,
    e_BadAlbums := ⟨PySem.W.mg_of X G g1, x1q, x1k, x1b, x1t⟩,
    e_BadGifts := ⟨PySem.W.mg_of X G g4, x4q, x4k, x4b, x4t⟩,
    e_BadCollector := ⟨PySem.W.mg_of X G g2, x2q, x2k, x2b, x2t⟩,
    e_BadKind := ⟨PySem.W.mg_of X G g3, x3q, x3k, x3b, x3t⟩,
    e_Unfit := ⟨PySem.W.mg_of X G g7, x7q, x7k, x7b, x7t⟩,
    e_Uneven := ⟨PySem.W.mg_of X G g8, x8q, x8k, x8b, x8t⟩,
    e_NoRing := ⟨PySem.W.mg_of X G g9, x9q, x9k, x9b, x9t⟩,
    e_TooMany := ⟨PySem.W.mg_of X G g11, x11q, x11k, x11b, x11t⟩,
    e_BadSwap := ⟨PySem.W.mg_of X G g5, x5q, x5k, x5b, x5t⟩,
    e_BadPlace := ⟨PySem.W.mg_of X G g6, x6q, x6k, x6b, x6t⟩,
    e_NotSo := ⟨PySem.W.mg_of X G g10, x10q, x10k, x10b, x10t⟩,
    f_Flow_many := ⟨⟨c16a, c16b, c16c, c16d⟩, f_Flow_many⟩,
    f_Flow_knots := ⟨⟨c16a, c16b, c16c, c16d⟩, f_Flow_knots⟩,
    f_Flow_ways := ⟨⟨c16a, c16b, c16c, c16d⟩, f_Flow_ways⟩,
    f_Flow_much := ⟨⟨c16a, c16b, c16c, c16d⟩, f_Flow_much⟩,
    f_Flow_turn := ⟨⟨c16a, c16b, c16c, c16d⟩, f_Flow_turn⟩,
    f_Ring_gifts := ⟨⟨c13a, c13b, c13c, c13d⟩, f_Ring_gifts⟩,
    f_Most_gifts := ⟨⟨c15a, c15b, c15c, c15d⟩, f_Most_gifts⟩,
    f_Never_collectors := ⟨⟨c14a, c14b, c14c, c14d⟩, f_Never_collectors⟩,
    f_Most_prices := ⟨⟨c15a, c15b, c15c, c15d⟩, f_Most_prices⟩,
    f_Most_kinds := ⟨⟨c15a, c15b, c15c, c15d⟩, f_Most_kinds⟩,
    f_Desk_albums := ⟨⟨c17a, c17b, c17c, c17d⟩, f_Desk_albums⟩,
    f_Desk_swaps := ⟨⟨c17a, c17b, c17c, c17d⟩, f_Desk_swaps⟩,
    f_Desk_marks := ⟨⟨c17a, c17b, c17c, c17d⟩, f_Desk_marks⟩,
    c_Flow := ⟨⟨c16a, c16b, c16c, c16d⟩, c16e, oc1, oc2, c16f⟩,
    c_Answer := ⟨⟨c12a, c12b, c12c, c12d⟩, c12e, oc1, oc2, c12f⟩,
    c_Ring := ⟨⟨c13a, c13b, c13c, c13d⟩, c13e, oc1, oc2, c13f⟩,
    c_Never := ⟨⟨c14a, c14b, c14c, c14d⟩, c14e, oc1, oc2, c14f⟩,
    c_Most := ⟨⟨c15a, c15b, c15c, c15d⟩, c15e, oc1, oc2, c15f⟩,
    c_Desk := ⟨⟨c17a, c17b, c17c, c17d⟩, c17e, oc1, oc2, c17f⟩,
    k_Flow_Ring := kit_ne y13a y13b k_Flow_Ring w_Flow_Ring,
    k_Answer_Ring := kit_ne y13a y13b k_Answer_Ring w_Answer_Ring,
    k_Ring_Ring := kit_same,
    k_Never_Ring := kit_ne y13a y13b k_Never_Ring w_Never_Ring,
    k_Most_Ring := kit_ne y13a y13b k_Most_Ring w_Most_Ring,
    k_Desk_Ring := kit_ne y13a y13b k_Desk_Ring w_Desk_Ring,
    g_Ring := PySem.W.mg_of X G g13 }
  have F_z_wall := fun_mk (st := st_z_wall) l_z_wall c_z_wall k_z_wall
  have b_z_wall := F_z_wall.binds (ps := ["k"]) fun _ _ _ _ _ _ us hl => match us, hl with | [_], _ => rfl
  have F_is_count := fun_mk (st := st_is_count) l_is_count c_is_count k_is_count
  have b_is_count := F_is_count.binds (ps := ["thing", "least", "most"]) fun _ _ _ _ _ _ us hl => match us, hl with | [_, _, _], _ => rfl
  have F_are_counts := fun_mk (st := st_are_counts) l_are_counts c_are_counts k_are_counts
  have b_are_counts := F_are_counts.binds (ps := ["thing", "many"]) fun _ _ _ _ _ _ us hl => match us, hl with | [_, _], _ => rfl
  have F_is_album := fun_mk (st := st_is_album) l_is_album c_is_album k_is_album
  have b_is_album := F_is_album.binds (ps := ["thing", "many"]) fun _ _ _ _ _ _ us hl => match us, hl with | [_, _], _ => rfl
  have F_check_albums := fun_mk (st := st_check_albums) l_check_albums c_check_albums k_check_albums
  have b_check_albums := F_check_albums.binds (ps := ["albums"]) fun _ _ _ _ _ _ us hl => match us, hl with | [_], _ => rfl
  have F_is_gift := fun_mk (st := st_is_gift) l_is_gift c_is_gift k_is_gift
  have b_is_gift := F_is_gift.binds (ps := ["albums", "gift"]) fun _ _ _ _ _ _ us hl => match us, hl with | [_, _], _ => rfl
  have F_check_gifts := fun_mk (st := st_check_gifts) l_check_gifts c_check_gifts k_check_gifts
  have b_check_gifts := F_check_gifts.binds (ps := ["albums", "gifts"]) fun _ _ _ _ _ _ us hl => match us, hl with | [_, _], _ => rfl
  have F_left_of := fun_mk (st := st_left_of) l_left_of c_left_of k_left_of
  have b_left_of := F_left_of.binds (ps := ["albums", "gifts"]) fun _ _ _ _ _ _ us hl => match us, hl with | [_, _], _ => rfl
  have F_fits := fun_mk (st := st_fits) l_fits c_fits k_fits
  have b_fits := F_fits.binds (ps := ["albums", "gifts"]) fun _ _ _ _ _ _ us hl => match us, hl with | [_, _], _ => rfl
  have F_is_even := fun_mk (st := st_is_even) l_is_even c_is_even k_is_even
  have b_is_even := F_is_even.binds (ps := ["gifts"]) fun _ _ _ _ _ _ us hl => match us, hl with | [_], _ => rfl
  have F_is_ring := fun_mk (st := st_is_ring) l_is_ring c_is_ring k_is_ring
  have b_is_ring := F_is_ring.binds (ps := ["gifts"]) fun _ _ _ _ _ _ us hl => match us, hl with | [_], _ => rfl
  have F_Flow_steps := fun_mk (st := st_Flow_steps) l_Flow_steps c_Flow_steps k_Flow_steps
  have b_Flow_steps := F_Flow_steps.binds (ps := ["self"]) fun _ _ _ _ _ _ us hl => match us, hl with | [_], _ => rfl
  have F_Flow_far := fun_mk (st := st_Flow_far) l_Flow_far c_Flow_far k_Flow_far
  have b_Flow_far := F_Flow_far.binds (ps := ["self"]) fun _ _ _ _ _ _ us hl => match us, hl with | [_], _ => rfl
  have F_Flow_bettered := fun_mk (st := st_Flow_bettered) l_Flow_bettered c_Flow_bettered k_Flow_bettered
  have b_Flow_bettered := F_Flow_bettered.binds (ps := ["self"]) fun _ _ _ _ _ _ us hl => match us, hl with | [_], _ => rfl
  have F_Flow_init := fun_mk (st := st_Flow_init) l_Flow_init c_Flow_init k_Flow_init
  have b_Flow_init := F_Flow_init.binds (ps := ["self", "albums"]) fun _ _ _ _ _ _ us hl => match us, hl with | [_, _], _ => rfl
  have F_Flow_given := fun_mk (st := st_Flow_given) l_Flow_given c_Flow_given k_Flow_given
  have b_Flow_given := F_Flow_given.binds (ps := ["self"]) fun _ _ _ _ _ _ us hl => match us, hl with | [_], _ => rfl
  have F_worth := fun_mk (st := st_worth) l_worth c_worth k_worth
  have b_worth := F_worth.binds (ps := ["albums", "prices", "kinds"]) fun _ _ _ _ _ _ us hl => match us, hl with | [_, _, _], _ => rfl
  have F_gift_between := fun_mk (st := st_gift_between) l_gift_between c_gift_between k_gift_between
  have b_gift_between := F_gift_between.binds (ps := ["albums", "giver", "taker"]) fun _ _ _ _ _ _ us hl => match us, hl with | [_, _, _], _ => rfl
  have F_led_from := fun_mk (st := st_led_from) l_led_from c_led_from k_led_from
  have b_led_from := F_led_from.binds (ps := ["albums", "collector"]) fun _ _ _ _ _ _ us hl => match us, hl with | [_, _], _ => rfl
  have F_ring_for := fun_mk (st := st_ring_for) l_ring_for c_ring_for k_ring_for
  have b_ring_for := F_ring_for.binds (ps := ["albums", "collector", "kind"]) fun _ _ _ _ _ _ us hl => match us, hl with | [_, _, _], _ => rfl
  have F_one_ring := fun_mk (st := st_one_ring) l_one_ring c_one_ring k_one_ring
  have b_one_ring := F_one_ring.binds (ps := ["gifts"]) fun _ _ _ _ _ _ us hl => match us, hl with | [_], _ => rfl
  have F_parted := fun_mk (st := st_parted) l_parted c_parted k_parted
  have b_parted := F_parted.binds (ps := ["gifts"]) fun _ _ _ _ _ _ us hl => match us, hl with | [_], _ => rfl
  have F_brings := fun_mk (st := st_brings) l_brings c_brings k_brings
  have b_brings := F_brings.binds (ps := ["gifts", "collector", "kind"]) fun _ _ _ _ _ _ us hl => match us, hl with | [_, _, _], _ => rfl
  have F_Ring_init := fun_mk (st := st_Ring_init) l_Ring_init c_Ring_init k_Ring_init
  have b_Ring_init := F_Ring_init.binds (ps := ["self", "gifts"]) fun _ _ _ _ _ _ us hl => match us, hl with | [_, _], _ => rfl
  have F_Ring_shows := fun_mk (st := st_Ring_shows) l_Ring_shows c_Ring_shows k_Ring_shows
  have b_Ring_shows := F_Ring_shows.binds (ps := ["self", "albums", "collector", "kind"]) fun _ _ _ _ _ _ us hl => match us, hl with | [_, _, _, _], _ => rfl
  have F_Never_init := fun_mk (st := st_Never_init) l_Never_init c_Never_init k_Never_init
  have b_Never_init := F_Never_init.binds (ps := ["self", "collectors"]) fun _ _ _ _ _ _ us hl => match us, hl with | [_, _], _ => rfl
  have F_Never_shows := fun_mk (st := st_Never_shows) l_Never_shows c_Never_shows k_Never_shows
  have b_Never_shows := F_Never_shows.binds (ps := ["self", "albums", "collector", "kind"]) fun _ _ _ _ _ _ us hl => match us, hl with | [_, _, _, _], _ => rfl
  have F_Most_init := fun_mk (st := st_Most_init) l_Most_init c_Most_init k_Most_init
  have b_Most_init := F_Most_init.binds (ps := ["self", "gifts", "prices", "kinds"]) fun _ _ _ _ _ _ us hl => match us, hl with | [_, _, _, _], _ => rfl
  have F_Most_shows := fun_mk (st := st_Most_shows) l_Most_shows c_Most_shows k_Most_shows
  have b_Most_shows := F_Most_shows.binds (ps := ["self", "albums"]) fun _ _ _ _ _ _ us hl => match us, hl with | [_, _], _ => rfl
  have F_ring := fun_mk (st := st_ring) l_ring c_ring k_ring
  have b_ring := F_ring.binds (ps := ["albums", "collector", "kind"]) fun _ _ _ _ _ _ us hl => match us, hl with | [_, _, _], _ => rfl
  have F_most := fun_mk (st := st_most) l_most c_most k_most
  have b_most := F_most.binds (ps := ["albums"]) fun _ _ _ _ _ _ us hl => match us, hl with | [_], _ => rfl
  have F_rings := fun_mk (st := st_rings) l_rings c_rings k_rings
  have b_rings := F_rings.binds (ps := ["albums", "gifts"]) fun _ _ _ _ _ _ us hl => match us, hl with | [_, _], _ => rfl
  have F_Desk_init := fun_mk (st := st_Desk_init) l_Desk_init c_Desk_init k_Desk_init
  have b_Desk_init := F_Desk_init.binds (ps := ["self", "albums"]) fun _ _ _ _ _ _ us hl => match us, hl with | [_, _], _ => rfl
  have F_Desk_kept := fun_mk (st := st_Desk_kept) l_Desk_kept c_Desk_kept k_Desk_kept
  have b_Desk_kept := F_Desk_kept.binds (ps := ["self"]) fun _ _ _ _ _ _ us hl => match us, hl with | [_], _ => rfl
  have F_Desk_free := fun_mk (st := st_Desk_free) l_Desk_free c_Desk_free k_Desk_free
  have b_Desk_free := F_Desk_free.binds (ps := ["self"]) fun _ _ _ _ _ _ us hl => match us, hl with | [_], _ => rfl
  have F_Desk_agree := fun_mk (st := st_Desk_agree) l_Desk_agree c_Desk_agree k_Desk_agree
  have b_Desk_agree := F_Desk_agree.binds (ps := ["self", "gifts"]) fun _ _ _ _ _ _ us hl => match us, hl with | [_, _], _ => rfl
  have F_Desk_look_at := fun_mk (st := st_Desk_look_at) l_Desk_look_at c_Desk_look_at k_Desk_look_at
  have b_Desk_look_at := F_Desk_look_at.binds (ps := ["self", "swap"]) fun _ _ _ _ _ _ us hl => match us, hl with | [_, _], _ => rfl
  have F_Desk_put := fun_mk (st := st_Desk_put) l_Desk_put c_Desk_put k_Desk_put
  have b_Desk_put := F_Desk_put.binds (ps := ["self", "swap", "place", "ahead", "mark"]) fun _ _ _ _ _ _ us hl => match us, hl with | [_, _, _, _, _], _ => rfl
  have F_Desk_send := fun_mk (st := st_Desk_send) l_Desk_send c_Desk_send k_Desk_send
  have b_Desk_send := F_Desk_send.binds (ps := ["self", "swap", "place"]) fun _ _ _ _ _ _ us hl => match us, hl with | [_, _, _], _ => rfl
  have F_Desk_come := fun_mk (st := st_Desk_come) l_Desk_come c_Desk_come k_Desk_come
  have b_Desk_come := F_Desk_come.binds (ps := ["self", "swap", "place"]) fun _ _ _ _ _ _ us hl => match us, hl with | [_, _, _], _ => rfl
  have F_Desk_lose := fun_mk (st := st_Desk_lose) l_Desk_lose c_Desk_lose k_Desk_lose
  have b_Desk_lose := F_Desk_lose.binds (ps := ["self", "swap", "place"]) fun _ _ _ _ _ _ us hl => match us, hl with | [_, _, _], _ => rfl
  have F_Desk_drop := fun_mk (st := st_Desk_drop) l_Desk_drop c_Desk_drop k_Desk_drop
  have b_Desk_drop := F_Desk_drop.binds (ps := ["self", "swap"]) fun _ _ _ _ _ _ us hl => match us, hl with | [_, _], _ => rfl
  have F_Desk_stands := fun_mk (st := st_Desk_stands) l_Desk_stands c_Desk_stands k_Desk_stands
  have b_Desk_stands := F_Desk_stands.binds (ps := ["self", "swap"]) fun _ _ _ _ _ _ us hl => match us, hl with | [_, _], _ => rfl
  have F_Desk_owed := fun_mk (st := st_Desk_owed) l_Desk_owed c_Desk_owed k_Desk_owed
  have b_Desk_owed := F_Desk_owed.binds (ps := ["self"]) fun _ _ _ _ _ _ us hl => match us, hl with | [_], _ => rfl
  have F_z_cell_at := fun_mk (st := st_z_cell_at) l_z_cell_at c_z_cell_at k_z_cell_at
  have b_z_cell_at := F_z_cell_at.binds (ps := ["_law_script", "_law_k"]) fun _ _ _ _ _ _ us hl => match us, hl with | [_, _], _ => rfl
  have F_z_copy := fun_mk (st := st_z_copy) l_z_copy c_z_copy k_z_copy
  have b_z_copy := F_z_copy.binds (ps := ["_law_thing"]) fun _ _ _ _ _ _ us hl => match us, hl with | [_], _ => rfl
  have F_z_into := fun_mk (st := st_z_into) l_z_into c_z_into k_z_into
  have b_z_into := F_z_into.binds (ps := ["_law_handed", "_law_new"]) fun _ _ _ _ _ _ us hl => match us, hl with | [_, _], _ => rfl
  have F_z_spoil := fun_mk (st := st_z_spoil) l_z_spoil c_z_spoil k_z_spoil
  have b_z_spoil := F_z_spoil.binds (ps := ["_law_found"]) fun _ _ _ _ _ _ us hl => match us, hl with | [_], _ => rfl
  have F_z_ring_twice := fun_mk (st := st_z_ring_twice) l_z_ring_twice c_z_ring_twice k_z_ring_twice
  have b_z_ring_twice := F_z_ring_twice.binds (ps := ["_law_some"]) fun _ _ _ _ _ _ us hl => match us, hl with | [_], _ => rfl
  have F_z_most_twice := fun_mk (st := st_z_most_twice) l_z_most_twice c_z_most_twice k_z_most_twice
  have b_z_most_twice := F_z_most_twice.binds (ps := ["_law_some"]) fun _ _ _ _ _ _ us hl => match us, hl with | [_], _ => rfl
  have F_z_rings_twice := fun_mk (st := st_z_rings_twice) l_z_rings_twice c_z_rings_twice k_z_rings_twice
  have b_z_rings_twice := F_z_rings_twice.binds (ps := ["_law_some"]) fun _ _ _ _ _ _ us hl => match us, hl with | [_], _ => rfl
  have F_z_door_right := fun_mk (st := st_z_door_right) l_z_door_right c_z_door_right k_z_door_right
  have b_z_door_right := F_z_door_right.binds (ps := ["_law_ask", "_law_first", "_law_second"]) fun _ _ _ _ _ _ us hl => match us, hl with | [_, _, _], _ => rfl
  have F_z_rows_one := fun_mk (st := st_z_rows_one) l_z_rows_one c_z_rows_one k_z_rows_one
  have b_z_rows_one := F_z_rows_one.binds (ps := []) fun _ _ _ _ _ _ us hl => match us, hl with | [], _ => rfl
  have F_z_law := fun_mk (st := st_z_law) l_z_law c_z_law k_z_law
  have hcc_z_rows_one : (PySem.W.fnOf "_law_rows_one" "_law_rows_one" (defArgs st_z_rows_one) (defBody st_z_rows_one) (defScope st_z_rows_one) .none kv_z_rows_one dc_z_rows_one pm_z_rows_one an_z_rows_one (.ref cc_z_rows_one) ct_z_rows_one).code = .ref cc_z_rows_one := PySem.W.law_code X G tb_z_rows_one (PySem.W.mg_of X G a_z_rows_one) (X _ _ l_z_rows_one) rfl
  have TH_z_rows_one : PySem.W.CodeHd h cc_z_rows_one tp_z_rows_one ∧ h.get? tp_z_rows_one = some { cls := .none, data := .fields #[] } := let ⟨d, hd⟩ := r_z_rows_one; TT _ d _ _ hd tb_z_rows_one
  refine ⟨PySem.W.fnOf "law" "law" (defArgs st_z_law) (defBody st_z_law) (defScope st_z_law) .none kv_z_law dc_z_law pm_z_law an_z_law cd_z_law ct_z_law, [(cc_z_rows_one, tp_z_rows_one)], spLawT K [tp_z_rows_one], (List.forall_mem_cons.mpr ⟨TH_z_rows_one.2, (fun _ z => nomatch z)⟩), (List.forall_mem_cons.mpr ⟨nt_z_rows_one, (fun _ z => nomatch z)⟩), (List.forall_mem_cons.mpr ⟨TH_z_rows_one.1, (fun _ z => nomatch z)⟩), fun s v => .of_eq rfl, fun H a ns hl hb hT hS => ⟨a, ns, rfl, hS, hl, hb, (List.forall_mem_cons.mpr ⟨hT (cc_z_rows_one, tp_z_rows_one) (by simp), (fun _ z => nomatch z)⟩), fun _ => rfl⟩, fun base _ _ hTB => ?_⟩
  have TB_z_rows_one : LamX.TabB base mg cc_z_rows_one (ct (100 + 0)) := hTB (cc_z_rows_one, tp_z_rows_one) (by simp)
  have h_z_wall : FnAt l.prog w K mg base ct "_wall" 1 1 f_z_wall := ⟨_, _, _, ok_z_wall F_z_wall T , PySem.W.mg_of X G a_z_wall, k_z_wall, b_z_wall⟩
  have h_is_count : FnAt l.prog w K mg base ct "is_count" 1 3 f_is_count := ⟨_, _, _, ok_is_count F_is_count T , PySem.W.mg_of X G a_is_count, k_is_count, b_is_count⟩
  have h_are_counts : FnAt l.prog w K mg base ct "are_counts" 2 2 f_are_counts := ⟨_, _, _, ok_are_counts F_are_counts T h_is_count, PySem.W.mg_of X G a_are_counts, k_are_counts, b_are_counts⟩
  have h_is_album : FnAt l.prog w K mg base ct "is_album" 3 2 f_is_album := ⟨_, _, _, ok_is_album F_is_album T h_are_counts, PySem.W.mg_of X G a_is_album, k_is_album, b_is_album⟩
  have h_check_albums : FnAt l.prog w K mg base ct "check_albums" 4 1 f_check_albums := ⟨_, _, _, ok_check_albums F_check_albums T h_is_album, PySem.W.mg_of X G a_check_albums, k_check_albums, b_check_albums⟩
  have h_is_gift : FnAt l.prog w K mg base ct "is_gift" 1 2 f_is_gift := ⟨_, _, _, ok_is_gift F_is_gift T , PySem.W.mg_of X G a_is_gift, k_is_gift, b_is_gift⟩
  have h_check_gifts : FnAt l.prog w K mg base ct "check_gifts" 2 2 f_check_gifts := ⟨_, _, _, ok_check_gifts F_check_gifts T h_is_count h_is_gift, PySem.W.mg_of X G a_check_gifts, k_check_gifts, b_check_gifts⟩
  have h_left_of : FnAt l.prog w K mg base ct "left_of" 1 2 f_left_of := ⟨_, _, _, ok_left_of F_left_of T , PySem.W.mg_of X G a_left_of, k_left_of, b_left_of⟩
  have h_fits : FnAt l.prog w K mg base ct "fits" 2 2 f_fits := ⟨_, _, _, ok_fits F_fits T h_is_gift h_left_of, PySem.W.mg_of X G a_fits, k_fits, b_fits⟩
  have h_is_even : FnAt l.prog w K mg base ct "is_even" 1 1 f_is_even := ⟨_, _, _, ok_is_even F_is_even T , PySem.W.mg_of X G a_is_even, k_is_even, b_is_even⟩
  have h_is_ring : FnAt l.prog w K mg base ct "is_ring" 1 1 f_is_ring := ⟨_, _, _, ok_is_ring F_is_ring T , PySem.W.mg_of X G a_is_ring, k_is_ring, b_is_ring⟩
  have h_Flow_steps : MethAt l.prog w K mg base ct 16 "steps" 1 1 f_Flow_steps := ⟨_, _, _, ok_Flow_steps F_Flow_steps T , ⟨c16a, c16b, c16c, c16d⟩, ⟨a_Flow_steps, s_Flow_steps, k_Flow_steps⟩, b_Flow_steps⟩
  have h_Flow_far : MethAt l.prog w K mg base ct 16 "far" 2 1 f_Flow_far := ⟨_, _, _, ok_Flow_far F_Flow_far T h_Flow_steps, ⟨c16a, c16b, c16c, c16d⟩, ⟨a_Flow_far, s_Flow_far, k_Flow_far⟩, b_Flow_far⟩
  have h_Flow_bettered : MethAt l.prog w K mg base ct 16 "bettered" 3 1 f_Flow_bettered := ⟨_, _, _, ok_Flow_bettered F_Flow_bettered T h_Flow_far, ⟨c16a, c16b, c16c, c16d⟩, ⟨a_Flow_bettered, s_Flow_bettered, k_Flow_bettered⟩, b_Flow_bettered⟩
  have h_Flow_init : MakeAt l.prog w K mg base ct 16 "Flow" 4 2 f_Flow_init := ⟨_, _, _, ok_Flow_init F_Flow_init T h_Flow_bettered, ⟨mk_Flow_init, a_Flow_init, s_Flow_init, kc_Flow_init⟩, PySem.W.mg_of X G g16, b_Flow_init⟩
  have h_Flow_given : MethAt l.prog w K mg base ct 16 "given" 1 1 f_Flow_given := ⟨_, _, _, ok_Flow_given F_Flow_given T , ⟨c16a, c16b, c16c, c16d⟩, ⟨a_Flow_given, s_Flow_given, k_Flow_given⟩, b_Flow_given⟩
  have h_worth : FnAt l.prog w K mg base ct "worth" 1 3 f_worth := ⟨_, _, _, ok_worth F_worth T , PySem.W.mg_of X G a_worth, k_worth, b_worth⟩
  have h_gift_between : FnAt l.prog w K mg base ct "gift_between" 1 3 f_gift_between := ⟨_, _, _, ok_gift_between F_gift_between T , PySem.W.mg_of X G a_gift_between, k_gift_between, b_gift_between⟩
  have h_led_from : FnAt l.prog w K mg base ct "led_from" 2 2 f_led_from := ⟨_, _, _, ok_led_from F_led_from T h_gift_between, PySem.W.mg_of X G a_led_from, k_led_from, b_led_from⟩
  have h_ring_for : FnAt l.prog w K mg base ct "ring_for" 3 3 f_ring_for := ⟨_, _, _, ok_ring_for F_ring_for T h_led_from, PySem.W.mg_of X G a_ring_for, k_ring_for, b_ring_for⟩
  have h_one_ring : FnAt l.prog w K mg base ct "one_ring" 1 1 f_one_ring := ⟨_, _, _, ok_one_ring F_one_ring T , PySem.W.mg_of X G a_one_ring, k_one_ring, b_one_ring⟩
  have h_parted : FnAt l.prog w K mg base ct "parted" 2 1 f_parted := ⟨_, _, _, ok_parted F_parted T h_one_ring, PySem.W.mg_of X G a_parted, k_parted, b_parted⟩
  have h_brings : FnAt l.prog w K mg base ct "brings" 2 3 f_brings := ⟨_, _, _, ok_brings F_brings T h_is_ring, PySem.W.mg_of X G a_brings, k_brings, b_brings⟩
  have h_Ring_init : MakeAt l.prog w K mg base ct 13 "Ring" 1 2 f_Ring_init := ⟨_, _, _, ok_Ring_init F_Ring_init T , ⟨mk_Ring_init, a_Ring_init, s_Ring_init, kc_Ring_init⟩, PySem.W.mg_of X G g13, b_Ring_init⟩
  have h_Ring_shows : MethAt l.prog w K mg base ct 13 "shows" 3 4 f_Ring_shows := ⟨_, _, _, ok_Ring_shows F_Ring_shows T h_brings h_fits, ⟨c13a, c13b, c13c, c13d⟩, ⟨a_Ring_shows, s_Ring_shows, k_Ring_shows⟩, b_Ring_shows⟩
  have h_Never_init : MakeAt l.prog w K mg base ct 14 "Never" 1 2 f_Never_init := ⟨_, _, _, ok_Never_init F_Never_init T , ⟨mk_Never_init, a_Never_init, s_Never_init, kc_Never_init⟩, PySem.W.mg_of X G g14, b_Never_init⟩
  have h_Never_shows : MethAt l.prog w K mg base ct 14 "shows" 2 4 f_Never_shows := ⟨_, _, _, ok_Never_shows F_Never_shows T h_gift_between, ⟨c14a, c14b, c14c, c14d⟩, ⟨a_Never_shows, s_Never_shows, k_Never_shows⟩, b_Never_shows⟩
  have h_Most_init : MakeAt l.prog w K mg base ct 15 "Most" 1 4 f_Most_init := ⟨_, _, _, ok_Most_init F_Most_init T , ⟨mk_Most_init, a_Most_init, s_Most_init, kc_Most_init⟩, PySem.W.mg_of X G g15, b_Most_init⟩
  have h_Most_shows : MethAt l.prog w K mg base ct 15 "shows" 3 2 f_Most_shows := ⟨_, _, _, ok_Most_shows F_Most_shows T h_fits h_is_even h_worth, ⟨c15a, c15b, c15c, c15d⟩, ⟨a_Most_shows, s_Most_shows, k_Most_shows⟩, b_Most_shows⟩
  have h_ring : FnAt l.prog w K mg base ct "ring" 5 3 f_ring := ⟨_, _, _, ok_ring F_ring T h_Never_init h_Ring_init h_check_albums h_is_count h_ring_for, PySem.W.mg_of X G a_ring, k_ring, b_ring⟩
  have h_most : FnAt l.prog w K mg base ct "most" 6 1 f_most := ⟨_, _, _, ok_most F_most T h_Flow_far h_Flow_given h_Flow_init h_Most_init h_check_albums, PySem.W.mg_of X G a_most, k_most, b_most⟩
  have h_rings : FnAt l.prog w K mg base ct "rings" 5 2 f_rings := ⟨_, _, _, ok_rings F_rings T h_check_albums h_check_gifts h_fits h_is_even h_parted, PySem.W.mg_of X G a_rings, k_rings, b_rings⟩
  have h_Desk_init : MakeAt l.prog w K mg base ct 17 "Desk" 5 2 f_Desk_init := ⟨_, _, _, ok_Desk_init F_Desk_init T h_check_albums, ⟨mk_Desk_init, a_Desk_init, s_Desk_init, kc_Desk_init⟩, PySem.W.mg_of X G g17, b_Desk_init⟩
  have h_Desk_kept : MethAt l.prog w K mg base ct 17 "kept" 1 1 f_Desk_kept := ⟨_, _, _, ok_Desk_kept F_Desk_kept T , ⟨c17a, c17b, c17c, c17d⟩, ⟨a_Desk_kept, s_Desk_kept, k_Desk_kept⟩, b_Desk_kept⟩
  have h_Desk_free : MethAt l.prog w K mg base ct 17 "free" 2 1 f_Desk_free := ⟨_, _, _, ok_Desk_free F_Desk_free T h_Desk_kept h_left_of, ⟨c17a, c17b, c17c, c17d⟩, ⟨a_Desk_free, s_Desk_free, k_Desk_free⟩, b_Desk_free⟩
  have h_Desk_agree : MethAt l.prog w K mg base ct 17 "agree" 3 2 f_Desk_agree := ⟨_, _, _, ok_Desk_agree F_Desk_agree T h_Desk_free h_check_gifts h_fits h_is_ring, ⟨c17a, c17b, c17c, c17d⟩, ⟨a_Desk_agree, s_Desk_agree, k_Desk_agree⟩, b_Desk_agree⟩
  have h_Desk_look_at : MethAt l.prog w K mg base ct 17 "look_at" 2 2 f_Desk_look_at := ⟨_, _, _, ok_Desk_look_at F_Desk_look_at T h_is_count, ⟨c17a, c17b, c17c, c17d⟩, ⟨a_Desk_look_at, s_Desk_look_at, k_Desk_look_at⟩, b_Desk_look_at⟩
  have h_Desk_put : MethAt l.prog w K mg base ct 17 "put" 3 5 f_Desk_put := ⟨_, _, _, ok_Desk_put F_Desk_put T h_Desk_look_at h_is_count, ⟨c17a, c17b, c17c, c17d⟩, ⟨a_Desk_put, s_Desk_put, k_Desk_put⟩, b_Desk_put⟩
  have h_Desk_send : MethAt l.prog w K mg base ct 17 "send" 4 3 f_Desk_send := ⟨_, _, _, ok_Desk_send F_Desk_send T h_Desk_put, ⟨c17a, c17b, c17c, c17d⟩, ⟨a_Desk_send, s_Desk_send, k_Desk_send⟩, b_Desk_send⟩
  have h_Desk_come : MethAt l.prog w K mg base ct 17 "come" 2 3 f_Desk_come := ⟨_, _, _, ok_Desk_come F_Desk_come T h_z_wall, ⟨c17a, c17b, c17c, c17d⟩, ⟨a_Desk_come, s_Desk_come, k_Desk_come⟩, b_Desk_come⟩
  have h_Desk_lose : MethAt l.prog w K mg base ct 17 "lose" 2 3 f_Desk_lose := ⟨_, _, _, ok_Desk_lose F_Desk_lose T h_z_wall, ⟨c17a, c17b, c17c, c17d⟩, ⟨a_Desk_lose, s_Desk_lose, k_Desk_lose⟩, b_Desk_lose⟩
  have h_Desk_drop : MethAt l.prog w K mg base ct 17 "drop" 2 2 f_Desk_drop := ⟨_, _, _, ok_Desk_drop F_Desk_drop T h_z_wall, ⟨c17a, c17b, c17c, c17d⟩, ⟨a_Desk_drop, s_Desk_drop, k_Desk_drop⟩, b_Desk_drop⟩
  have h_Desk_stands : MethAt l.prog w K mg base ct 17 "stands" 3 2 f_Desk_stands := ⟨_, _, _, ok_Desk_stands F_Desk_stands T h_Desk_look_at, ⟨c17a, c17b, c17c, c17d⟩, ⟨a_Desk_stands, s_Desk_stands, k_Desk_stands⟩, b_Desk_stands⟩
  have h_Desk_owed : MethAt l.prog w K mg base ct 17 "owed" 2 1 f_Desk_owed := ⟨_, _, _, ok_Desk_owed F_Desk_owed T h_z_wall, ⟨c17a, c17b, c17c, c17d⟩, ⟨a_Desk_owed, s_Desk_owed, k_Desk_owed⟩, b_Desk_owed⟩
  have h_z_cell_at : FnAt l.prog w K mg base ct "_law_cell_at" 1 2 f_z_cell_at := ⟨_, _, _, ok_z_cell_at F_z_cell_at T , PySem.W.mg_of X G a_z_cell_at, k_z_cell_at, b_z_cell_at⟩
  have h_z_copy : FnAt l.prog w K mg base ct "_law_copy" 9 1 (f_z_copy 8) := ⟨_, _, _, ok_z_copy F_z_copy T (PySem.W.mg_of X G a_z_copy) b_z_copy  8, PySem.W.mg_of X G a_z_copy, k_z_copy, b_z_copy⟩
  have h_z_into : FnAt l.prog w K mg base ct "_law_into" 18 2 (f_z_into 8) := ⟨_, _, _, ok_z_into F_z_into T (PySem.W.mg_of X G a_z_into) b_z_into h_z_copy 8, PySem.W.mg_of X G a_z_into, k_z_into, b_z_into⟩
  have h_z_spoil : FnAt l.prog w K mg base ct "_law_spoil" 9 1 (f_z_spoil 8) := ⟨_, _, _, ok_z_spoil F_z_spoil T (PySem.W.mg_of X G a_z_spoil) b_z_spoil  8, PySem.W.mg_of X G a_z_spoil, k_z_spoil, b_z_spoil⟩
  have h_lam_0 : LamAt l.prog w K mg base ct 0 6 1 f_lam_0 := ok_lam_0 T h_ring
  have h_lam_1 : LamAt l.prog w K mg base ct 1 7 1 f_lam_1 := ok_lam_1 T h_most
  have h_z_ring_twice : FnAt l.prog w K mg base ct "_law_ring_twice" 10 1 f_z_ring_twice := ⟨_, _, _, ok_z_ring_twice F_z_ring_twice T h_Never_shows h_Ring_shows h_ring h_z_copy, PySem.W.mg_of X G a_z_ring_twice, k_z_ring_twice, b_z_ring_twice⟩
  have h_lam_2 : LamAt l.prog w K mg base ct 2 11 1 f_lam_2 := ok_lam_2 T h_z_ring_twice
  have h_z_most_twice : FnAt l.prog w K mg base ct "_law_most_twice" 10 1 f_z_most_twice := ⟨_, _, _, ok_z_most_twice F_z_most_twice T h_Most_shows h_most h_z_copy, PySem.W.mg_of X G a_z_most_twice, k_z_most_twice, b_z_most_twice⟩
  have h_lam_3 : LamAt l.prog w K mg base ct 3 11 1 f_lam_3 := ok_lam_3 T h_z_most_twice
  have h_lam_4 : LamAt l.prog w K mg base ct 4 6 1 f_lam_4 := ok_lam_4 T h_rings
  have h_z_rings_twice : FnAt l.prog w K mg base ct "_law_rings_twice" 10 1 f_z_rings_twice := ⟨_, _, _, ok_z_rings_twice F_z_rings_twice T h_rings h_z_copy, PySem.W.mg_of X G a_z_rings_twice, k_z_rings_twice, b_z_rings_twice⟩
  have h_lam_5 : LamAt l.prog w K mg base ct 5 11 1 f_lam_5 := ok_lam_5 T h_z_rings_twice
  have h_lam_6 : LamAt l.prog w K mg base ct 6 4 1 f_lam_6 := ok_lam_6 T h_Never_shows h_Ring_init h_Ring_shows
  have h_lam_7 : LamAt l.prog w K mg base ct 7 4 1 f_lam_7 := ok_lam_7 T h_Never_init h_Never_shows h_Ring_shows
  have h_lam_8 : LamAt l.prog w K mg base ct 8 7 1 f_lam_8 := ok_lam_8 T h_Most_shows h_most
  have h_lam_9 : LamAt l.prog w K mg base ct 9 7 1 f_lam_9 := ok_lam_9 T h_Desk_agree h_Desk_init
  have h_lam_10 : LamAt l.prog w K mg base ct 10 6 1 f_lam_10 := ok_lam_10 T h_rings
  have h_lams : Lams l.prog w K mg base ct 11 1 lamApps := (lams_cons (h_lam_0.up (by decide)) (lams_cons (h_lam_1.up (by decide)) (lams_cons (h_lam_2.up (by decide)) (lams_cons (h_lam_3.up (by decide)) (lams_cons (h_lam_4.up (by decide)) (lams_cons (h_lam_5.up (by decide)) (lams_cons (h_lam_6.up (by decide)) (lams_cons (h_lam_7.up (by decide)) (lams_cons (h_lam_8.up (by decide)) (lams_cons (h_lam_9.up (by decide)) (lams_cons (h_lam_10.up (by decide)) lams_nil)))))))))))
  have h_z_door_right : FnAt l.prog w K mg base ct "_law_door_right" 19 3 f_z_door_right := ⟨_, _, _, ok_z_door_right F_z_door_right T h_lams h_z_copy h_z_into h_z_spoil, PySem.W.mg_of X G a_z_door_right, k_z_door_right, b_z_door_right⟩
  have h_z_rows_one : FnAt l.prog w K mg base ct "_law_rows_one" 1 0 f_z_rows_one := ⟨_, _, _, ok_z_rows_one F_z_rows_one T hcc_z_rows_one TB_z_rows_one , PySem.W.mg_of X G a_z_rows_one, k_z_rows_one, b_z_rows_one⟩
  exact ok_law_all F_z_law T (tps := [tp_z_rows_one]) rfl (fun i hi => by match i, hi with | 0, _ => rfl | i + 1, hi => exact absurd hi (by simp)) w_tabs h_z_cell_at h_z_door_right h_z_rows_one
theorem walk {l : PySem.W.OpenLaw} {q : Program} {loose : List Str} {XP : (Str → Option Value) → Heap → Prop} {YP : World → Heap → Prop} {d : DefRec} {K : Params → PySem.W.Frag} (hn : l.most = some 63) (hdf : d.params.defaults = [])
    (hY : ∀ (w : World) (h : Heap), YP w h → (K w.params).In h)
    (F : ∀ (w : World) (mg : Str → Option Value) (fa : Addr) (h : Heap), (K w.params).In h → h.Ns mainGlobals mg → mg d.name = some (.ref fa) → TabsTop q (K w.params) h → LamX.LawAtS l w (K w.params) (L2.CX l.prog w) 20 63 "_law_script" mg fa h) :
    PySem.W.WalkO q loose XP YP l.row.toRowW d [] (fun f vs => PySem.call f vs) :=
  walk_tabs (n := 63) (k := 20) (x := "_law_script") (CX := fun w => L2.CX l.prog w) hn (by decide) hdf ⟨rfl, by decide, by decide⟩ hY F fun w H s e s' z => cx_none z
end L2.VE.T
open PySem PySem.W PyProof.Rows in
set_option maxRecDepth 100000 in
set_option maxHeartbeats 0 in
theorem PySem.Challenge.cw_swapalbum_k12_whole_handed_holds : PySem.Challenge.rw_swapalbum_k12_whole_handed.Holds := by
  w_on; o_law; k_head; (case hw => w_witness2)
  k_fill
  refine L2.VE.T.walk (l := PySem.Challenge.rw_swapalbum_k12_whole_handed) rfl rfl (fun w h Y => PySem.W.km_in_of Y) ?F
  case F =>
    intro w mg fa h KX G hmg TT
    refine' L2.VE.T.all_mk KX G hmg TT ?h_g1 ?h_g2 ?h_g3 ?h_g4 ?h_g5 ?h_g6 ?h_g7 ?h_g8 ?h_g9 ?h_g10 ?h_g11 ?h_g16 ?h_g12 ?h_g13 ?h_g14 ?h_g15 ?h_g17 ?h_x1q ?h_x1k ?h_x1b ?h_x1t ?h_x4q ?h_x4k ?h_x4b ?h_x4t ?h_x2q ?h_x2k ?h_x2b ?h_x2t ?h_x3q ?h_x3k ?h_x3b ?h_x3t ?h_x7q ?h_x7k ?h_x7b ?h_x7t ?h_x8q ?h_x8k ?h_x8b ?h_x8t ?h_x9q ?h_x9k ?h_x9b ?h_x9t ?h_x11q ?h_x11k ?h_x11b ?h_x11t ?h_x5q ?h_x5k ?h_x5b ?h_x5t ?h_x6q ?h_x6k ?h_x6b ?h_x6t ?h_x10q ?h_x10k ?h_x10b ?h_x10t ?h_c16a ?h_c16b ?h_c16c ?h_c16d ?h_c16e ?h_c16f ?h_c12a ?h_c12b ?h_c12c ?h_c12d ?h_c12e ?h_c12f ?h_c13a ?h_c13b ?h_c13c ?h_c13d ?h_c13e ?h_c13f ?h_c14a ?h_c14b ?h_c14c ?h_c14d ?h_c14e ?h_c14f ?h_c15a ?h_c15b ?h_c15c ?h_c15d ?h_c15e ?h_c15f ?h_c17a ?h_c17b ?h_c17c ?h_c17d ?h_c17e ?h_c17f ?h_oc1 ?h_oc2 ?h_f_Flow_many ?h_f_Flow_knots ?h_f_Flow_ways ?h_f_Flow_much ?h_f_Flow_turn ?h_f_Ring_gifts ?h_f_Most_gifts ?h_f_Never_collectors ?h_f_Most_prices ?h_f_Most_kinds ?h_f_Desk_albums ?h_f_Desk_swaps ?h_f_Desk_marks ?h_y13a ?h_y13b ?h_k_Flow_Ring ?h_w_Flow_Ring ?h_k_Answer_Ring ?h_w_Answer_Ring ?h_k_Never_Ring ?h_w_Never_Ring ?h_k_Most_Ring ?h_w_Most_Ring ?h_k_Desk_Ring ?h_w_Desk_Ring ?h_n_isinstance ?h_n_int ?h_n_bool ?h_n_list ?h_n_len ?h_n_all ?h_n_tuple ?h_n_zip ?h_n_min ?h_n_sorted ?h_n_set ?h_n_enumerate ?h_n_range ?h_n_max ?h_n_sum ?h_n_any ?h_n_abs ?h_i_MOST_OF_ONE ?h_i_MOST_COLLECTORS ?h_i_MOST_KINDS ?h_i_MOST_SWAPS ?h_a_z_wall ?h_l_z_wall ?h_c_z_wall ?h_k_z_wall ?h_a_is_count ?h_l_is_count ?h_c_is_count ?h_k_is_count ?h_a_are_counts ?h_l_are_counts ?h_c_are_counts ?h_k_are_counts ?h_a_is_album ?h_l_is_album ?h_c_is_album ?h_k_is_album ?h_a_check_albums ?h_l_check_albums ?h_c_check_albums ?h_k_check_albums ?h_a_is_gift ?h_l_is_gift ?h_c_is_gift ?h_k_is_gift ?h_a_check_gifts ?h_l_check_gifts ?h_c_check_gifts ?h_k_check_gifts ?h_a_left_of ?h_l_left_of ?h_c_left_of ?h_k_left_of ?h_a_fits ?h_l_fits ?h_c_fits ?h_k_fits ?h_a_is_even ?h_l_is_even ?h_c_is_even ?h_k_is_even ?h_a_is_ring ?h_l_is_ring ?h_c_is_ring ?h_k_is_ring ?h_a_Flow_steps ?h_s_Flow_steps ?h_l_Flow_steps ?h_c_Flow_steps ?h_k_Flow_steps ?h_a_Flow_far ?h_s_Flow_far ?h_l_Flow_far ?h_c_Flow_far ?h_k_Flow_far ?h_a_Flow_bettered ?h_s_Flow_bettered ?h_l_Flow_bettered ?h_c_Flow_bettered ?h_k_Flow_bettered ?h_a_Flow_init ?h_s_Flow_init ?h_mk_Flow_init ?h_kc_Flow_init ?h_l_Flow_init ?h_c_Flow_init ?h_k_Flow_init ?h_a_Flow_given ?h_s_Flow_given ?h_l_Flow_given ?h_c_Flow_given ?h_k_Flow_given ?h_a_worth ?h_l_worth ?h_c_worth ?h_k_worth ?h_a_gift_between ?h_l_gift_between ?h_c_gift_between ?h_k_gift_between ?h_a_led_from ?h_l_led_from ?h_c_led_from ?h_k_led_from ?h_a_ring_for ?h_l_ring_for ?h_c_ring_for ?h_k_ring_for ?h_a_one_ring ?h_l_one_ring ?h_c_one_ring ?h_k_one_ring ?h_a_parted ?h_l_parted ?h_c_parted ?h_k_parted ?h_a_brings ?h_l_brings ?h_c_brings ?h_k_brings ?h_a_Ring_init ?h_s_Ring_init ?h_mk_Ring_init ?h_kc_Ring_init ?h_l_Ring_init ?h_c_Ring_init ?h_k_Ring_init ?h_a_Ring_shows ?h_s_Ring_shows ?h_l_Ring_shows ?h_c_Ring_shows ?h_k_Ring_shows ?h_a_Never_init ?h_s_Never_init ?h_mk_Never_init ?h_kc_Never_init ?h_l_Never_init ?h_c_Never_init ?h_k_Never_init ?h_a_Never_shows ?h_s_Never_shows ?h_l_Never_shows ?h_c_Never_shows ?h_k_Never_shows ?h_a_Most_init ?h_s_Most_init ?h_mk_Most_init ?h_kc_Most_init ?h_l_Most_init ?h_c_Most_init ?h_k_Most_init ?h_a_Most_shows ?h_s_Most_shows ?h_l_Most_shows ?h_c_Most_shows ?h_k_Most_shows ?h_a_ring ?h_l_ring ?h_c_ring ?h_k_ring ?h_a_most ?h_l_most ?h_c_most ?h_k_most ?h_a_rings ?h_l_rings ?h_c_rings ?h_k_rings ?h_a_Desk_init ?h_s_Desk_init ?h_mk_Desk_init ?h_kc_Desk_init ?h_l_Desk_init ?h_c_Desk_init ?h_k_Desk_init ?h_a_Desk_kept ?h_s_Desk_kept ?h_l_Desk_kept ?h_c_Desk_kept ?h_k_Desk_kept ?h_a_Desk_free ?h_s_Desk_free ?h_l_Desk_free ?h_c_Desk_free ?h_k_Desk_free ?h_a_Desk_agree ?h_s_Desk_agree ?h_l_Desk_agree ?h_c_Desk_agree ?h_k_Desk_agree ?h_a_Desk_look_at ?h_s_Desk_look_at ?h_l_Desk_look_at ?h_c_Desk_look_at ?h_k_Desk_look_at ?h_a_Desk_put ?h_s_Desk_put ?h_l_Desk_put ?h_c_Desk_put ?h_k_Desk_put ?h_a_Desk_send ?h_s_Desk_send ?h_l_Desk_send ?h_c_Desk_send ?h_k_Desk_send ?h_a_Desk_come ?h_s_Desk_come ?h_l_Desk_come ?h_c_Desk_come ?h_k_Desk_come ?h_a_Desk_lose ?h_s_Desk_lose ?h_l_Desk_lose ?h_c_Desk_lose ?h_k_Desk_lose ?h_a_Desk_drop ?h_s_Desk_drop ?h_l_Desk_drop ?h_c_Desk_drop ?h_k_Desk_drop ?h_a_Desk_stands ?h_s_Desk_stands ?h_l_Desk_stands ?h_c_Desk_stands ?h_k_Desk_stands ?h_a_Desk_owed ?h_s_Desk_owed ?h_l_Desk_owed ?h_c_Desk_owed ?h_k_Desk_owed ?h_a_z_cell_at ?h_l_z_cell_at ?h_c_z_cell_at ?h_k_z_cell_at ?h_a_z_copy ?h_l_z_copy ?h_c_z_copy ?h_k_z_copy ?h_a_z_into ?h_l_z_into ?h_c_z_into ?h_k_z_into ?h_a_z_spoil ?h_l_z_spoil ?h_c_z_spoil ?h_k_z_spoil ?h_a_z_ring_twice ?h_l_z_ring_twice ?h_c_z_ring_twice ?h_k_z_ring_twice ?h_a_z_most_twice ?h_l_z_most_twice ?h_c_z_most_twice ?h_k_z_most_twice ?h_a_z_rings_twice ?h_l_z_rings_twice ?h_c_z_rings_twice ?h_k_z_rings_twice ?h_a_z_door_right ?h_l_z_door_right ?h_c_z_door_right ?h_k_z_door_right ?h_a_z_rows_one ?h_l_z_rows_one ?h_c_z_rows_one ?h_k_z_rows_one ?h_a_z_law ?h_l_z_law ?h_c_z_law ?h_k_z_law ?h_oc2_z_rows_one ?h_tq_z_rows_one ?h_tb_z_rows_one ?h_nt_z_rows_one ?h_r_z_rows_one ?h_w_tabs
    (case h_g1 => k_is)
    (case h_g2 => k_is)
    (case h_g3 => k_is)
    (case h_g4 => k_is)
    (case h_g5 => k_is)
    (case h_g6 => k_is)
    (case h_g7 => k_is)
    (case h_g8 => k_is)
    (case h_g9 => k_is)
    (case h_g10 => k_is)
    (case h_g11 => k_is)
    (case h_g16 => k_is)
    (case h_g12 => k_is)
    (case h_g13 => k_is)
    (case h_g14 => k_is)
    (case h_g15 => k_is)
    (case h_g17 => k_is)
    (case h_x1q => k_exc)
    (case h_x1k => k_is)
    (case h_x1b => k_is)
    (case h_x1t => k_is)
    (case h_x4q => k_exc)
    (case h_x4k => k_is)
    (case h_x4b => k_is)
    (case h_x4t => k_is)
    (case h_x2q => k_exc)
    (case h_x2k => k_is)
    (case h_x2b => k_is)
    (case h_x2t => k_is)
    (case h_x3q => k_exc)
    (case h_x3k => k_is)
    (case h_x3b => k_is)
    (case h_x3t => k_is)
    (case h_x7q => k_exc)
    (case h_x7k => k_is)
    (case h_x7b => k_is)
    (case h_x7t => k_is)
    (case h_x8q => k_exc)
    (case h_x8k => k_is)
    (case h_x8b => k_is)
    (case h_x8t => k_is)
    (case h_x9q => k_exc)
    (case h_x9k => k_is)
    (case h_x9b => k_is)
    (case h_x9t => k_is)
    (case h_x11q => k_exc)
    (case h_x11k => k_is)
    (case h_x11b => k_is)
    (case h_x11t => k_is)
    (case h_x5q => k_exc)
    (case h_x5k => k_is)
    (case h_x5b => k_is)
    (case h_x5t => k_is)
    (case h_x6q => k_exc)
    (case h_x6k => k_is)
    (case h_x6b => k_is)
    (case h_x6t => k_is)
    (case h_x10q => k_exc)
    (case h_x10k => k_is)
    (case h_x10b => k_is)
    (case h_x10t => k_is)
    (case h_c16a => k_is)
    (case h_c16b => k_is)
    (case h_c16c => k_is)
    (case h_c16d => k_is)
    (case h_c16e => k_is)
    (case h_c16f => k_is)
    (case h_c12a => k_is)
    (case h_c12b => k_is)
    (case h_c12c => k_is)
    (case h_c12d => k_is)
    (case h_c12e => k_is)
    (case h_c12f => k_is)
    (case h_c13a => k_is)
    (case h_c13b => k_is)
    (case h_c13c => k_is)
    (case h_c13d => k_is)
    (case h_c13e => k_is)
    (case h_c13f => k_is)
    (case h_c14a => k_is)
    (case h_c14b => k_is)
    (case h_c14c => k_is)
    (case h_c14d => k_is)
    (case h_c14e => k_is)
    (case h_c14f => k_is)
    (case h_c15a => k_is)
    (case h_c15b => k_is)
    (case h_c15c => k_is)
    (case h_c15d => k_is)
    (case h_c15e => k_is)
    (case h_c15f => k_is)
    (case h_c17a => k_is)
    (case h_c17b => k_is)
    (case h_c17c => k_is)
    (case h_c17d => k_is)
    (case h_c17e => k_is)
    (case h_c17f => k_is)
    (case h_oc1 => k_is)
    (case h_oc2 => k_is)
    (case h_f_Flow_many => k_is)
    (case h_f_Flow_knots => k_is)
    (case h_f_Flow_ways => k_is)
    (case h_f_Flow_much => k_is)
    (case h_f_Flow_turn => k_is)
    (case h_f_Ring_gifts => k_is)
    (case h_f_Most_gifts => k_is)
    (case h_f_Never_collectors => k_is)
    (case h_f_Most_prices => k_is)
    (case h_f_Most_kinds => k_is)
    (case h_f_Desk_albums => k_is)
    (case h_f_Desk_swaps => k_is)
    (case h_f_Desk_marks => k_is)
    (case h_y13a => k_is)
    (case h_y13b => k_is)
    (case h_k_Flow_Ring => k_is)
    (case h_w_Flow_Ring => first | rfl | decide)
    (case h_k_Answer_Ring => k_is)
    (case h_w_Answer_Ring => first | rfl | decide)
    (case h_k_Never_Ring => k_is)
    (case h_w_Never_Ring => first | rfl | decide)
    (case h_k_Most_Ring => k_is)
    (case h_w_Most_Ring => first | rfl | decide)
    (case h_k_Desk_Ring => k_is)
    (case h_w_Desk_Ring => first | rfl | decide)
    (case h_n_isinstance => k_is)
    (case h_n_int => k_is)
    (case h_n_bool => k_is)
    (case h_n_list => k_is)
    (case h_n_len => k_is)
    (case h_n_all => k_is)
    (case h_n_tuple => k_is)
    (case h_n_zip => k_is)
    (case h_n_min => k_is)
    (case h_n_sorted => k_is)
    (case h_n_set => k_is)
    (case h_n_enumerate => k_is)
    (case h_n_range => k_is)
    (case h_n_max => k_is)
    (case h_n_sum => k_is)
    (case h_n_any => k_is)
    (case h_n_abs => k_is)
    (case h_i_MOST_OF_ONE => k_is)
    (case h_i_MOST_COLLECTORS => k_is)
    (case h_i_MOST_KINDS => k_is)
    (case h_i_MOST_SWAPS => k_is)
    (case h_a_z_wall => k_is)
    (case h_l_z_wall => k_is)
    (case h_c_z_wall => k_is)
    (case h_k_z_wall => k_is)
    (case h_a_is_count => k_is)
    (case h_l_is_count => k_is)
    (case h_c_is_count => k_is)
    (case h_k_is_count => k_is)
    (case h_a_are_counts => k_is)
    (case h_l_are_counts => k_is)
    (case h_c_are_counts => k_is)
    (case h_k_are_counts => k_is)
    (case h_a_is_album => k_is)
    (case h_l_is_album => k_is)
    (case h_c_is_album => k_is)
    (case h_k_is_album => k_is)
    (case h_a_check_albums => k_is)
    (case h_l_check_albums => k_is)
    (case h_c_check_albums => k_is)
    (case h_k_check_albums => k_is)
    (case h_a_is_gift => k_is)
    (case h_l_is_gift => k_is)
    (case h_c_is_gift => k_is)
    (case h_k_is_gift => k_is)
    (case h_a_check_gifts => k_is)
    (case h_l_check_gifts => k_is)
    (case h_c_check_gifts => k_is)
    (case h_k_check_gifts => k_is)
    (case h_a_left_of => k_is)
    (case h_l_left_of => k_is)
    (case h_c_left_of => k_is)
    (case h_k_left_of => k_is)
    (case h_a_fits => k_is)
    (case h_l_fits => k_is)
    (case h_c_fits => k_is)
    (case h_k_fits => k_is)
    (case h_a_is_even => k_is)
    (case h_l_is_even => k_is)
    (case h_c_is_even => k_is)
    (case h_k_is_even => k_is)
    (case h_a_is_ring => k_is)
    (case h_l_is_ring => k_is)
    (case h_c_is_ring => k_is)
    (case h_k_is_ring => k_is)
    (case h_a_Flow_steps => k_is)
    (case h_s_Flow_steps => k_is)
    (case h_l_Flow_steps => k_is)
    (case h_c_Flow_steps => k_is)
    (case h_k_Flow_steps => k_is)
    (case h_a_Flow_far => k_is)
    (case h_s_Flow_far => k_is)
    (case h_l_Flow_far => k_is)
    (case h_c_Flow_far => k_is)
    (case h_k_Flow_far => k_is)
    (case h_a_Flow_bettered => k_is)
    (case h_s_Flow_bettered => k_is)
    (case h_l_Flow_bettered => k_is)
    (case h_c_Flow_bettered => k_is)
    (case h_k_Flow_bettered => k_is)
    (case h_a_Flow_init => k_is)
    (case h_s_Flow_init => k_is)
    (case h_mk_Flow_init => k_is)
    (case h_kc_Flow_init => k_is)
    (case h_l_Flow_init => k_is)
    (case h_c_Flow_init => k_is)
    (case h_k_Flow_init => k_is)
    (case h_a_Flow_given => k_is)
    (case h_s_Flow_given => k_is)
    (case h_l_Flow_given => k_is)
    (case h_c_Flow_given => k_is)
    (case h_k_Flow_given => k_is)
    (case h_a_worth => k_is)
    (case h_l_worth => k_is)
    (case h_c_worth => k_is)
    (case h_k_worth => k_is)
    (case h_a_gift_between => k_is)
    (case h_l_gift_between => k_is)
    (case h_c_gift_between => k_is)
    (case h_k_gift_between => k_is)
    (case h_a_led_from => k_is)
    (case h_l_led_from => k_is)
    (case h_c_led_from => k_is)
    (case h_k_led_from => k_is)
    (case h_a_ring_for => k_is)
    (case h_l_ring_for => k_is)
    (case h_c_ring_for => k_is)
    (case h_k_ring_for => k_is)
    (case h_a_one_ring => k_is)
    (case h_l_one_ring => k_is)
    (case h_c_one_ring => k_is)
    (case h_k_one_ring => k_is)
    (case h_a_parted => k_is)
    (case h_l_parted => k_is)
    (case h_c_parted => k_is)
    (case h_k_parted => k_is)
    (case h_a_brings => k_is)
    (case h_l_brings => k_is)
    (case h_c_brings => k_is)
    (case h_k_brings => k_is)
    (case h_a_Ring_init => k_is)
    (case h_s_Ring_init => k_is)
    (case h_mk_Ring_init => k_is)
    (case h_kc_Ring_init => k_is)
    (case h_l_Ring_init => k_is)
    (case h_c_Ring_init => k_is)
    (case h_k_Ring_init => k_is)
    (case h_a_Ring_shows => k_is)
    (case h_s_Ring_shows => k_is)
    (case h_l_Ring_shows => k_is)
    (case h_c_Ring_shows => k_is)
    (case h_k_Ring_shows => k_is)
    (case h_a_Never_init => k_is)
    (case h_s_Never_init => k_is)
    (case h_mk_Never_init => k_is)
    (case h_kc_Never_init => k_is)
    (case h_l_Never_init => k_is)
    (case h_c_Never_init => k_is)
    (case h_k_Never_init => k_is)
    (case h_a_Never_shows => k_is)
    (case h_s_Never_shows => k_is)
    (case h_l_Never_shows => k_is)
    (case h_c_Never_shows => k_is)
    (case h_k_Never_shows => k_is)
    (case h_a_Most_init => k_is)
    (case h_s_Most_init => k_is)
    (case h_mk_Most_init => k_is)
    (case h_kc_Most_init => k_is)
    (case h_l_Most_init => k_is)
    (case h_c_Most_init => k_is)
    (case h_k_Most_init => k_is)
    (case h_a_Most_shows => k_is)
    (case h_s_Most_shows => k_is)
    (case h_l_Most_shows => k_is)
    (case h_c_Most_shows => k_is)
    (case h_k_Most_shows => k_is)
    (case h_a_ring => k_is)
    (case h_l_ring => k_is)
    (case h_c_ring => k_is)
    (case h_k_ring => k_is)
    (case h_a_most => k_is)
    (case h_l_most => k_is)
    (case h_c_most => k_is)
    (case h_k_most => k_is)
    (case h_a_rings => k_is)
    (case h_l_rings => k_is)
    (case h_c_rings => k_is)
    (case h_k_rings => k_is)
    (case h_a_Desk_init => k_is)
    (case h_s_Desk_init => k_is)
    (case h_mk_Desk_init => k_is)
    (case h_kc_Desk_init => k_is)
    (case h_l_Desk_init => k_is)
    (case h_c_Desk_init => k_is)
    (case h_k_Desk_init => k_is)
    (case h_a_Desk_kept => k_is)
    (case h_s_Desk_kept => k_is)
    (case h_l_Desk_kept => k_is)
    (case h_c_Desk_kept => k_is)
    (case h_k_Desk_kept => k_is)
    (case h_a_Desk_free => k_is)
    (case h_s_Desk_free => k_is)
    (case h_l_Desk_free => k_is)
    (case h_c_Desk_free => k_is)
    (case h_k_Desk_free => k_is)
    (case h_a_Desk_agree => k_is)
    (case h_s_Desk_agree => k_is)
    (case h_l_Desk_agree => k_is)
    (case h_c_Desk_agree => k_is)
    (case h_k_Desk_agree => k_is)
    (case h_a_Desk_look_at => k_is)
    (case h_s_Desk_look_at => k_is)
    (case h_l_Desk_look_at => k_is)
    (case h_c_Desk_look_at => k_is)
    (case h_k_Desk_look_at => k_is)
    (case h_a_Desk_put => k_is)
    (case h_s_Desk_put => k_is)
    (case h_l_Desk_put => k_is)
    (case h_c_Desk_put => k_is)
    (case h_k_Desk_put => k_is)
    (case h_a_Desk_send => k_is)
    (case h_s_Desk_send => k_is)
    (case h_l_Desk_send => k_is)
    (case h_c_Desk_send => k_is)
    (case h_k_Desk_send => k_is)
    (case h_a_Desk_come => k_is)
    (case h_s_Desk_come => k_is)
    (case h_l_Desk_come => k_is)
    (case h_c_Desk_come => k_is)
    (case h_k_Desk_come => k_is)
    (case h_a_Desk_lose => k_is)
    (case h_s_Desk_lose => k_is)
    (case h_l_Desk_lose => k_is)
    (case h_c_Desk_lose => k_is)
    (case h_k_Desk_lose => k_is)
    (case h_a_Desk_drop => k_is)
    (case h_s_Desk_drop => k_is)
    (case h_l_Desk_drop => k_is)
    (case h_c_Desk_drop => k_is)
    (case h_k_Desk_drop => k_is)
    (case h_a_Desk_stands => k_is)
    (case h_s_Desk_stands => k_is)
    (case h_l_Desk_stands => k_is)
    (case h_c_Desk_stands => k_is)
    (case h_k_Desk_stands => k_is)
    (case h_a_Desk_owed => k_is)
    (case h_s_Desk_owed => k_is)
    (case h_l_Desk_owed => k_is)
    (case h_c_Desk_owed => k_is)
    (case h_k_Desk_owed => k_is)
    (case h_a_z_cell_at => k_is)
    (case h_l_z_cell_at => k_is)
    (case h_c_z_cell_at => k_is)
    (case h_k_z_cell_at => k_is)
    (case h_a_z_copy => k_is)
    (case h_l_z_copy => k_is)
    (case h_c_z_copy => k_is)
    (case h_k_z_copy => k_is)
    (case h_a_z_into => k_is)
    (case h_l_z_into => k_is)
    (case h_c_z_into => k_is)
    (case h_k_z_into => k_is)
    (case h_a_z_spoil => k_is)
    (case h_l_z_spoil => k_is)
    (case h_c_z_spoil => k_is)
    (case h_k_z_spoil => k_is)
    (case h_a_z_ring_twice => k_is)
    (case h_l_z_ring_twice => k_is)
    (case h_c_z_ring_twice => k_is)
    (case h_k_z_ring_twice => k_is)
    (case h_a_z_most_twice => k_is)
    (case h_l_z_most_twice => k_is)
    (case h_c_z_most_twice => k_is)
    (case h_k_z_most_twice => k_is)
    (case h_a_z_rings_twice => k_is)
    (case h_l_z_rings_twice => k_is)
    (case h_c_z_rings_twice => k_is)
    (case h_k_z_rings_twice => k_is)
    (case h_a_z_door_right => k_is)
    (case h_l_z_door_right => k_is)
    (case h_c_z_door_right => k_is)
    (case h_k_z_door_right => k_is)
    (case h_a_z_rows_one => k_is)
    (case h_l_z_rows_one => k_is)
    (case h_c_z_rows_one => k_is)
    (case h_k_z_rows_one => k_is)
    (case h_a_z_law => k_is)
    (case h_l_z_law => k_is)
    (case h_c_z_law => k_is)
    (case h_k_z_law => k_is)
    (case h_oc2_z_rows_one => k_is)
    (case h_tq_z_rows_one => rfl)
    (case h_tb_z_rows_one => kernel_rfl)
    (case h_nt_z_rows_one => kernel_rfl)
    (case h_r_z_rows_one => exact ⟨_, rfl⟩)
    (case h_w_tabs => first | rfl | decide)
